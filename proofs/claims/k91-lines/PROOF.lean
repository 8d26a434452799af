import PyProof.Rows.All
import Wide.All
import OpenK.AllK
import Wide.FinOn
import HandS.ForMost
import HandS.TupAny
import HandS.Deep
import HandS.IsInst
import HandS.SortInts
import HandS.Wide
import HandS.AnyAll
import HandS.EndTab
import KE.SortData
import HandS.Conv
import HandS.Zip
import KE.GoesMore
import KE.GoesEnum
import HandS.ExcValue
import HandS.DictComp
import PyProof.SeqInW
import HandS.FStr
import PySem.Challenge.RW_surelyelder_k91_long_print_lines
import HandS.Head0
import HandS.Head1
import HandS.Head2
import HandS.HeadEnd
import HandS.HeadHook1
import HandS.HeadHook2
import HandS.HeadHook3
import HandS.HeadHook4
import HandS.HeadWalk
section
set_option Elab.async false
set_option linter.all false
set_option autoImplicit false
set_option maxRecDepth 100000
set_option maxHeartbeats 4000000
/-! Ml0: deep data, what represents it, the state of a def's body as slots of data. -/
namespace L2.My
open PySem PySem.Spec PyProof.Rows

/-- data: what does not change any more (shared) -/
inductive D where
  | non | bl (b : Bool) | int (i : Int) | str (x : Str)
  | tup (xs : List D) | lst (xs : List D) | dic (kvs : List (Key × D)) | ins (c : Str) (fs : List (Str × D))
  /-- the script: a list that is only read -/
  | scr (ns : List Int)

/-- what is fixed for the whole program: the written part, the classes' addresses, the code tables -/
structure Gn where
  K : PySem.W.Frag
  cl : Str → Addr
  T : Addr → Prop

mutual
inductive Rp (g : Gn) (G : Hp) : V → D → Prop
  | non : Rp g G .non .non
  | bl (b : Bool) : Rp g G (.bl b) (.bl b)
  | int (i : Int) : Rp g G (.int i) (.int i)
  | str (x : Str) : Rp g G (.str x) (.str x)
  | tup {a : Addr} {us : List V} {ds : List D} : SqT g.K G a us → RpA g G us ds → Rp g G (.ref a) (.tup ds)
  | lst {a : Addr} {us : List V} {ds : List D} : G a = some (.lst us) → RpA g G us ds → Rp g G (.ref a) (.lst ds)
  | dic {a : Addr} {kv : List (Key × V)} {kd : List (Key × D)} : G a = some (.dK kv) → RpK g G kv kd → Rp g G (.ref a) (.dic kd)
  | ins {a dx : Addr} {vs : List (Str × V)} {c : Str} {fs : List (Str × D)} : G a = some (.ins (g.cl c) dx vs) → RpF g G vs fs → Rp g G (.ref a) (.ins c fs)
  | scr {a : Addr} {ns : List Int} : SqL g.K G a (ns.map V.int) → Rp g G (.ref a) (.scr ns)
inductive RpA (g : Gn) (G : Hp) : List V → List D → Prop
  | nil : RpA g G [] []
  | cons {v : V} {vs : List V} {d : D} {ds : List D} : Rp g G v d → RpA g G vs ds → RpA g G (v :: vs) (d :: ds)
inductive RpK (g : Gn) (G : Hp) : List (Key × V) → List (Key × D) → Prop
  | nil : RpK g G [] []
  | cons {k : Key} {v : V} {vs : List (Key × V)} {d : D} {ds : List (Key × D)} : Rp g G v d → RpK g G vs ds → RpK g G ((k, v) :: vs) ((k, d) :: ds)
inductive RpF (g : Gn) (G : Hp) : List (Str × V) → List (Str × D) → Prop
  | nil : RpF g G [] []
  | cons {k : Str} {v : V} {vs : List (Str × V)} {d : D} {ds : List (Str × D)} : Rp g G v d → RpF g G vs ds → RpF g G ((k, v) :: vs) ((k, d) :: ds)
end

theorem Same.seqT {K : PySem.W.Frag} {H H' : Hp} {a : Addr} {xs : List V} (e : Same H H') (h : SqT K H a xs) : SqT K H' a xs := by
  rcases h with (h | ⟨o, h⟩) | h
  · exact .inl (.inl (e _ _ h))
  · exact .inl (.inr ⟨o, e _ _ h⟩)
  · exact .inr h

section
variable {g : Gn} {G G' : Hp}
mutual
theorem Rp.mono (s : Same G G') : ∀ (d : D) (v : V), Rp g G v d → Rp g G' v d
  | .non, _, h => by cases h; exact .non
  | .bl _, _, h => by cases h; exact .bl _
  | .int _, _, h => by cases h; exact .int _
  | .str _, _, h => by cases h; exact .str _
  | .tup ds, _, h => by cases h with | tup a b => exact .tup (Same.seqT s a) (RpA.mono s ds _ b)
  | .lst ds, _, h => by cases h with | lst a b => exact .lst (s _ _ a) (RpA.mono s ds _ b)
  | .dic kd, _, h => by cases h with | dic a b => exact .dic (s _ _ a) (RpK.mono s kd _ b)
  | .ins c fs, _, h => by cases h with | ins a b => exact .ins (s _ _ a) (RpF.mono s fs _ b)
  | .scr ns, _, h => by cases h with | scr a => exact .scr (s.seq a)
theorem RpA.mono (s : Same G G') : ∀ (ds : List D) (vs : List V), RpA g G vs ds → RpA g G' vs ds
  | [], _, h => by cases h; exact .nil
  | d :: ds, _, h => by cases h with | cons a b => exact .cons (Rp.mono s d _ a) (RpA.mono s ds _ b)
theorem RpK.mono (s : Same G G') : ∀ (ds : List (Key × D)) (vs : List (Key × V)), RpK g G vs ds → RpK g G' vs ds
  | [], _, h => by cases h; exact .nil
  | (k, d) :: ds, _, h => by cases h with | cons a b => exact .cons (Rp.mono s d _ a) (RpK.mono s ds _ b)
theorem RpF.mono (s : Same G G') : ∀ (ds : List (Str × D)) (vs : List (Str × V)), RpF g G vs ds → RpF g G' vs ds
  | [], _, h => by cases h; exact .nil
  | (k, d) :: ds, _, h => by cases h with | cons a b => exact .cons (Rp.mono s d _ a) (RpF.mono s ds _ b)
end

theorem RpA.length : ∀ {vs : List V} {ds : List D}, RpA g G vs ds → vs.length = ds.length
  | _, _, .nil => rfl
  | _, _, .cons _ b => congrArg (· + 1) (RpA.length b)
theorem RpA.get : ∀ {vs : List V} {ds : List D} {i : Nat} {d : D}, RpA g G vs ds → ds[i]? = some d → ∃ v, vs[i]? = some v ∧ Rp g G v d
  | _, _, _, _, .nil, e => by simp at e
  | _, _, 0, _, .cons a _, e => by simp at e; subst e; exact ⟨_, rfl, a⟩
  | _, _, i + 1, d, .cons _ b, e => by
    obtain ⟨v, h1, h2⟩ := RpA.get (i := i) (d := d) b (by simpa using e)
    exact ⟨v, by simpa using h1, h2⟩
theorem RpA.get' : ∀ {vs : List V} {ds : List D} {i : Nat} {v : V}, RpA g G vs ds → vs[i]? = some v → ∃ d, ds[i]? = some d ∧ Rp g G v d
  | _, _, _, _, .nil, e => by simp at e
  | _, _, 0, _, .cons a _, e => by simp at e; subst e; exact ⟨_, rfl, a⟩
  | _, _, i + 1, v, .cons _ b, e => by
    obtain ⟨d, h1, h2⟩ := RpA.get' (i := i) (v := v) b (by simpa using e)
    exact ⟨d, by simpa using h1, h2⟩
theorem RpA.append : ∀ {vs ws : List V} {ds es : List D}, RpA g G vs ds → RpA g G ws es → RpA g G (vs ++ ws) (ds ++ es)
  | _, _, _, _, .nil, s => s
  | _, _, _, _, .cons a b, s => .cons a (RpA.append b s)
theorem RpA.take : ∀ {vs : List V} {ds : List D} (n : Nat), RpA g G vs ds → RpA g G (vs.take n) (ds.take n)
  | _, _, 0, _ => .nil
  | _, _, _ + 1, .nil => .nil
  | _, _, n + 1, .cons a b => .cons a (RpA.take n b)
theorem RpA.drop : ∀ {vs : List V} {ds : List D} (n : Nat), RpA g G vs ds → RpA g G (vs.drop n) (ds.drop n)
  | _, _, 0, h => h
  | _, _, _ + 1, .nil => .nil
  | _, _, n + 1, .cons _ b => RpA.drop n b
theorem RpA.set {v : V} {d : D} (r : Rp g G v d) : ∀ {vs : List V} {ds : List D} (i : Nat), RpA g G vs ds → RpA g G (vs.set i v) (ds.set i d)
  | _, _, _, .nil => .nil
  | _, _, 0, .cons _ b => .cons r b
  | _, _, i + 1, .cons a b => .cons a (RpA.set r i b)
theorem RpA.eraseIdx : ∀ {vs : List V} {ds : List D} (i : Nat), RpA g G vs ds → RpA g G (vs.eraseIdx i) (ds.eraseIdx i)
  | _, _, _, .nil => .nil
  | _, _, 0, .cons _ b => b
  | _, _, i + 1, .cons a b => .cons a (RpA.eraseIdx i b)
theorem RpA.one {v : V} {d : D} (r : Rp g G v d) : RpA g G [v] [d] := .cons r .nil
theorem RpA.reverse : ∀ {vs : List V} {ds : List D}, RpA g G vs ds → RpA g G vs.reverse ds.reverse
  | _, _, .nil => .nil
  | _, _, .cons a b => by
    rw [List.reverse_cons, List.reverse_cons]
    exact (RpA.reverse b).append (.one a)
end

/-- a mutable object that one slot holds -/
inductive MO where
  | lst (ds : List D) | dic (kvs : List (Key × D)) | ins (c : Str) (fs : List (Str × D))
def MO.d : MO → D
  | .lst ds => .lst ds
  | .dic kvs => .dic kvs
  | .ins c fs => .ins c fs
/-- a slot: shared data, or an owned object (b: borrowed from the caller) -/
inductive SV where
  | sh (d : D) | mu (b : Bool) (o : MO)
abbrev Rho := List (Option SV)
/-- a value that came: shared, or a fresh object that nobody holds -/
inductive RV where
  | sh (d : D) | fr (o : MO)

/-- at a stands the object -/
def MoAt (g : Gn) (G H : Hp) (a : Addr) : MO → Prop
  | .lst ds => ∃ us, H a = some (.lst us) ∧ RpA g G us ds
  | .dic kd => ∃ kv, H a = some (.dK kv) ∧ RpK g G kv kd
  | .ins c fs => ∃ dx vs, H a = some (.ins (g.cl c) dx vs) ∧ RpF g G vs fs
theorem MoAt.ho {g : Gn} {G H : Hp} {a : Addr} {o : MO} (h : MoAt g G H a o) : ∃ ho, H a = some ho ∧ ∀ G', Same G G' → G' a = some ho → Rp g G' (.ref a) o.d := by
  cases o with
  | lst ds => obtain ⟨us, e, r⟩ := h; exact ⟨_, e, fun G' s e' => .lst e' (r.mono s)⟩
  | dic kd => obtain ⟨us, e, r⟩ := h; exact ⟨_, e, fun G' s e' => .dic e' (r.mono s)⟩
  | ins c fs => obtain ⟨dx, us, e, r⟩ := h; exact ⟨_, e, fun G' s e' => .ins e' (r.mono s)⟩
theorem MoAt.mono {g : Gn} {G G' H H' : Hp} {a : Addr} {o : MO} (h : MoAt g G H a o) (s : Same G G') (e : ∀ ho, H a = some ho → H' a = some ho) : MoAt g G' H' a o := by
  cases o with
  | lst ds => obtain ⟨us, e1, r⟩ := h; exact ⟨_, e _ e1, r.mono s⟩
  | dic kd => obtain ⟨us, e1, r⟩ := h; exact ⟨_, e _ e1, r.mono s⟩
  | ins c fs => obtain ⟨dx, us, e1, r⟩ := h; exact ⟨dx, _, e _ e1, r.mono s⟩
/-- read now: whatever it is -/
theorem MoAt.now {g : Gn} {G H : Hp} {a : Addr} {o : MO} (h : MoAt g G H a o) (s : Same G H) : Rp g H (.ref a) o.d := by
  obtain ⟨ho, e, r⟩ := h.ho
  exact r H s e

/-- what is fixed through a def's body: the caller's shared heap, what nobody touches, the addresses of the borrowed -/
structure Cn where
  G0 : Hp
  B : Hp
  bor : Nat → Addr

def Owns (ρ : Rho) (σ : St) (p : Addr) : Prop := ∃ (i : Nat) (b : Bool) (o : MO), ρ[i]? = some (some (.mu b o)) ∧ σ[i]? = some (some (.ref p))

structure Rel (g : Gn) (c : Cn) (G H : Hp) (ρ : Rho) (σ : St) : Prop where
  sB : Same c.B H
  sG : Same G H
  g0 : Same c.G0 G
  gB : ∀ a o, G a = some o → c.G0 a = some o ∨ c.B a = none
  len : ρ.length = σ.length
  sh : ∀ (i : Nat) d, ρ[i]? = some (some (.sh d)) → ∃ v, σ[i]? = some (some v) ∧ Rp g G v d
  mu : ∀ (i : Nat) b o, ρ[i]? = some (some (.mu b o)) → ∃ a, σ[i]? = some (some (.ref a)) ∧ G a = none ∧ c.B a = none ∧ MoAt g G H a o ∧ (b = true → a = c.bor i)
  inj : ∀ (i j : Nat) b b' o o' a, ρ[i]? = some (some (.mu b o)) → ρ[j]? = some (some (.mu b' o')) → σ[i]? = some (some (.ref a)) → σ[j]? = some (some (.ref a)) → i = j
  tb : ∀ P, g.T P → GxR.TabG H P
  nT : ∀ P, g.T P → G P = none ∧ c.B P = none

def RvAt (g : Gn) (c : Cn) (G H : Hp) (ρ : Rho) (σ : St) (v : V) : RV → Prop
  | .sh d => Rp g G v d
  | .fr o => ∃ p, v = .ref p ∧ G p = none ∧ c.B p = none ∧ MoAt g G H p o ∧ ¬ Owns ρ σ p

section
variable {g : Gn} {c : Cn} {G G' H H' : Hp} {ρ : Rho} {σ : St}

theorem MoAt.notT {a : Addr} {o : MO} (m : MoAt g G H a o) (tb : ∀ P, g.T P → GxR.TabG H P) : ¬ g.T a := fun z => by
  obtain ⟨ps, e, _⟩ := tb a z
  cases o with
  | lst ds => obtain ⟨us, e2, _⟩ := m; rw [e] at e2; cases e2
  | dic ds => obtain ⟨us, e2, _⟩ := m; rw [e] at e2; cases e2
  | ins c ds => obtain ⟨_, us, e2, _⟩ := m; rw [e] at e2; cases e2
theorem Rel.newT (R : Rel g c G H ρ σ) {p : Addr} (h : H p = none) : ¬ g.T p := fun z => by
  obtain ⟨ps, e, _⟩ := R.tb p z
  rw [h] at e
  cases e
theorem Rel.freeB (R : Rel g c G H ρ σ) {p : Addr} (h : H p = none) : c.B p = none := R.sB.free h
theorem Rel.freeG (R : Rel g c G H ρ σ) {p : Addr} (h : H p = none) : G p = none := R.sG.free h
theorem Rel.notOwn (R : Rel g c G H ρ σ) {p : Addr} (h : H p = none) : ¬ Owns ρ σ p := fun ⟨i, b, o, e1, e2⟩ => by
  obtain ⟨a, e3, _, _, m, _⟩ := R.mu i b o e1
  rw [e2] at e3
  cases e3
  obtain ⟨ho, e, _⟩ := m.ho
  rw [h] at e
  cases e
theorem same_upd {H : Hp} {p : Addr} {o : HO} (h : H p = none) : Same H (upd H p o) := fun b x e => by
  rw [upd_ne (ne_of_none e h)]
  exact e
/-- the heap has more objects, nothing else -/
theorem Rel.grow (R : Rel g c G H ρ σ) (s : Same H H') : Rel g c G H' ρ σ where
  sB := R.sB.trans s
  sG := R.sG.trans s
  g0 := R.g0
  gB := R.gB
  len := R.len
  sh := R.sh
  mu := fun i b o e => by
    obtain ⟨a, h1, h2, h3, h4, h5⟩ := R.mu i b o e
    exact ⟨a, h1, h2, h3, h4.mono (Same.refl _) fun ho e => s _ _ e, h5⟩
  inj := R.inj
  tb := fun P hP => by
    obtain ⟨ps, e, r⟩ := R.tb P hP
    exact ⟨ps, s _ _ e, r⟩
  nT := R.nT
/-- an object that nobody owns becomes shared -/
theorem Rel.freeze (R : Rel g c G H ρ σ) {p : Addr} {o : HO} (h : H p = some o) (hG : G p = none) (hB : c.B p = none) (hO : ¬ Owns ρ σ p) (hT : ¬ g.T p) : Rel g c (upd G p o) H ρ σ where
  sB := R.sB
  sG := fun b u e => by
    by_cases hb : b = p
    · subst hb; rw [upd_same] at e; cases e; exact h
    · rw [upd_ne hb] at e; exact R.sG _ _ e
  g0 := R.g0.trans (same_upd hG)
  gB := fun b u e => by
    by_cases hb : b = p
    · subst hb; exact .inr hB
    · rw [upd_ne hb] at e; exact R.gB _ _ e
  len := R.len
  sh := fun i d e => by
    obtain ⟨v, h1, h2⟩ := R.sh i d e
    exact ⟨v, h1, h2.mono (same_upd hG)⟩
  mu := fun i b o' e => by
    obtain ⟨a, h1, h2, h3, h4, h5⟩ := R.mu i b o' e
    have ne : a ≠ p := fun z => hO ⟨i, b, o', e, by rw [← z]; exact h1⟩
    exact ⟨a, h1, by rw [upd_ne ne]; exact h2, h3, h4.mono (same_upd hG) fun _ e => e, h5⟩
  inj := R.inj
  tb := R.tb
  nT := fun P hP => by
    have : P ≠ p := fun z => hT (by rw [← z]; exact hP)
    exact ⟨by rw [upd_ne this]; exact (R.nT P hP).1, (R.nT P hP).2⟩
/-- a new object laid and shared at once -/
theorem Rel.laidS (R : Rel g c G H ρ σ) {p : Addr} (o : HO) (h : H p = none) : Rel g c (upd G p o) (upd H p o) ρ σ := by
  have R1 := R.grow (same_upd (o := o) h)
  exact R1.freeze upd_same (R.freeG h) (R.freeB h) (R.notOwn h) (R.newT h)
theorem RvAt.frz {r : RV} {v : V} (R : Rel g c G H ρ σ) (h : RvAt g c G H ρ σ v r) : ∃ G', Same G G' ∧ Rel g c G' H ρ σ ∧ Rp g G' v (match r with | .sh d => d | .fr o => o.d) := by
  cases r with
  | sh d => exact ⟨G, Same.refl _, R, h⟩
  | fr o =>
    obtain ⟨p, rfl, hG, hB, m, hO⟩ := h
    obtain ⟨ho, e, r⟩ := m.ho
    exact ⟨upd G p ho, same_upd hG, R.freeze e hG hB hO (m.notT R.tb), r _ (same_upd hG) upd_same⟩
/-- a slot takes a shared value -/
theorem Rel.setSh (R : Rel g c G H ρ σ) {i : Nat} {v : V} {d : D} (h : Rp g G v d) : Rel g c G H (ρ.set i (some (.sh d))) (σ.set i (some v)) where
  sB := R.sB
  sG := R.sG
  g0 := R.g0
  gB := R.gB
  len := by rw [List.length_set, List.length_set]; exact R.len
  sh := fun j d' e => by
    by_cases hj : i = j
    · subst hj
      by_cases hl : i < ρ.length
      · rw [List.getElem?_set_self hl] at e
        cases e
        exact ⟨v, List.getElem?_set_self (by rw [← R.len]; exact hl), h⟩
      · rw [List.getElem?_eq_none (by rw [List.length_set]; omega)] at e
        cases e
    · rw [List.getElem?_set_ne hj] at e
      obtain ⟨v', h1, h2⟩ := R.sh j d' e
      exact ⟨v', by rw [List.getElem?_set_ne hj]; exact h1, h2⟩
  mu := fun j b o e => by
    by_cases hj : i = j
    · subst hj
      by_cases hl : i < ρ.length
      · rw [List.getElem?_set_self hl] at e
        cases e
      · rw [List.getElem?_eq_none (by rw [List.length_set]; omega)] at e
        cases e
    · rw [List.getElem?_set_ne hj] at e
      obtain ⟨a, h1, h2⟩ := R.mu j b o e
      exact ⟨a, by rw [List.getElem?_set_ne hj]; exact h1, h2⟩
  inj := fun j k b b' o o' a e1 e2 e3 e4 => by
    have nj : i ≠ j := fun z => by
      subst z
      by_cases hl : i < ρ.length
      · rw [List.getElem?_set_self hl] at e1; cases e1
      · rw [List.getElem?_eq_none (by rw [List.length_set]; omega)] at e1; cases e1
    have nk : i ≠ k := fun z => by
      subst z
      by_cases hl : i < ρ.length
      · rw [List.getElem?_set_self hl] at e2; cases e2
      · rw [List.getElem?_eq_none (by rw [List.length_set]; omega)] at e2; cases e2
    rw [List.getElem?_set_ne nj] at e1 e3
    rw [List.getElem?_set_ne nk] at e2 e4
    exact R.inj j k b b' o o' a e1 e2 e3 e4
  tb := R.tb
  nT := R.nT
/-- a slot takes an object that nobody owns -/
theorem Rel.setMu (R : Rel g c G H ρ σ) {i : Nat} {p : Addr} {o : MO} (hG : G p = none) (hB : c.B p = none) (m : MoAt g G H p o) (hO : ¬ Owns ρ σ p) : Rel g c G H (ρ.set i (some (.mu false o))) (σ.set i (some (.ref p))) where
  sB := R.sB
  sG := R.sG
  g0 := R.g0
  gB := R.gB
  len := by rw [List.length_set, List.length_set]; exact R.len
  sh := fun j d' e => by
    by_cases hj : i = j
    · subst hj
      by_cases hl : i < ρ.length
      · rw [List.getElem?_set_self hl] at e
        cases e
      · rw [List.getElem?_eq_none (by rw [List.length_set]; omega)] at e
        cases e
    · rw [List.getElem?_set_ne hj] at e
      obtain ⟨v', h1, h2⟩ := R.sh j d' e
      exact ⟨v', by rw [List.getElem?_set_ne hj]; exact h1, h2⟩
  mu := fun j b o e => by
    by_cases hj : i = j
    · subst hj
      by_cases hl : i < ρ.length
      · rw [List.getElem?_set_self hl] at e
        cases e
        exact ⟨p, List.getElem?_set_self (by rw [← R.len]; exact hl), hG, hB, m, fun z => by cases z⟩
      · rw [List.getElem?_eq_none (by rw [List.length_set]; omega)] at e
        cases e
    · rw [List.getElem?_set_ne hj] at e
      obtain ⟨a, h1, h2⟩ := R.mu j b o e
      exact ⟨a, by rw [List.getElem?_set_ne hj]; exact h1, h2⟩
  inj := fun j k b b' o1 o2 a e1 e2 e3 e4 => by
    have at_ : ∀ {j : Nat} {b : Bool} {o' : MO}, (ρ.set i (some (.mu false o)))[j]? = some (some (.mu b o')) → (σ.set i (some (.ref p)))[j]? = some (some (.ref a)) → (j = i ∧ a = p) ∨ (j ≠ i ∧ ρ[j]? = some (some (.mu b o')) ∧ σ[j]? = some (some (.ref a))) := fun {j b o'} f1 f2 => by
      by_cases hj : i = j
      · subst hj
        by_cases hl : i < ρ.length
        · rw [List.getElem?_set_self (by rw [← R.len]; exact hl)] at f2
          cases f2
          exact .inl ⟨rfl, rfl⟩
        · rw [List.getElem?_eq_none (by rw [List.length_set]; omega)] at f1; cases f1
      · rw [List.getElem?_set_ne hj] at f1 f2
        exact .inr ⟨fun z => hj z.symm, f1, f2⟩
    rcases at_ e1 e3 with ⟨rfl, rfl⟩ | ⟨n1, f1, f2⟩
    · rcases at_ e2 e4 with ⟨rfl, _⟩ | ⟨n2, f3, f4⟩
      · rfl
      · exact (hO ⟨_, _, _, f3, f4⟩).elim
    · rcases at_ e2 e4 with ⟨rfl, rfl⟩ | ⟨n2, f3, f4⟩
      · exact (hO ⟨_, _, _, f1, f2⟩).elim
      · exact R.inj j k b b' o1 o2 a f1 f3 f2 f4
  tb := R.tb
  nT := R.nT
/-- the object in a slot is written -/
theorem Rel.write (R : Rel g c G H ρ σ) {i : Nat} {b : Bool} {o o' : MO} {a : Addr} {ho : HO} (e : ρ[i]? = some (some (.mu b o))) (ea : σ[i]? = some (some (.ref a))) (hG : G a = none)
    (m : MoAt g G (upd H a ho) a o') : Rel g c G (upd H a ho) (ρ.set i (some (.mu b o'))) σ := by
  obtain ⟨a', f1, f2, f3, f4, f5⟩ := R.mu i b o e
  rw [ea] at f1
  cases f1
  have hl : i < ρ.length := by
    rcases Nat.lt_or_ge i ρ.length with h | h
    · exact h
    · rw [List.getElem?_eq_none h] at e; cases e
  have nG : ∀ q u, G q = some u → q ≠ a := fun q u h z => by rw [z, f2] at h; cases h
  refine ⟨fun q u h => ?_, fun q u h => ?_, R.g0, R.gB, by rw [List.length_set]; exact R.len, fun j d h => ?_, fun j b' o1 h => ?_, fun j k b1 b2 o1 o2 q e1 e2 e3 e4 => ?_, fun P hP => ?_, R.nT⟩
  · have : q ≠ a := fun z => by rw [z, f3] at h; cases h
    rw [upd_ne this]; exact R.sB _ _ h
  · rw [upd_ne (nG q u h)]; exact R.sG _ _ h
  · have nj : i ≠ j := fun z => by subst z; rw [List.getElem?_set_self hl] at h; cases h
    rw [List.getElem?_set_ne nj] at h
    exact R.sh j d h
  · by_cases hj : i = j
    · subst hj
      rw [List.getElem?_set_self hl] at h
      cases h
      exact ⟨a, ea, f2, f3, m, f5⟩
    · rw [List.getElem?_set_ne hj] at h
      obtain ⟨q, g1, g2, g3, g4, g5⟩ := R.mu j b' o1 h
      refine ⟨q, g1, g2, g3, g4.mono (Same.refl _) fun u hu => ?_, g5⟩
      have : q ≠ a := fun z => hj (R.inj i j b b' o o1 a e h ea (by rw [← z]; exact g1))
      rw [upd_ne this]; exact hu
  · have old : ∀ {j : Nat} {b : Bool} {o2 : MO}, (ρ.set i (some (.mu b o')))[j]? = some (some (.mu b o2)) → True := fun _ => trivial
    have at_ : ∀ {j : Nat} {b3 : Bool} {o2 : MO}, (ρ.set i (some (.mu b o')))[j]? = some (some (.mu b3 o2)) → ∃ b4 o3, ρ[j]? = some (some (.mu b4 o3)) := fun {j b3 o2} h => by
      by_cases hj : i = j
      · subst hj; exact ⟨b, o, e⟩
      · rw [List.getElem?_set_ne hj] at h; exact ⟨_, _, h⟩
    obtain ⟨_, _, g1⟩ := at_ e1
    obtain ⟨_, _, g2⟩ := at_ e2
    exact R.inj j k _ _ _ _ q g1 g2 e3 e4
  · obtain ⟨ps, h1, h2⟩ := R.tb P hP
    have : P ≠ a := fun z => by
      obtain ⟨hx, h3, _⟩ := f4.ho
      rw [z, h3] at h1
      cases o with
      | lst ds => obtain ⟨us, h4, _⟩ := f4; rw [h3] at h4; cases h4; cases h1
      | dic ds => obtain ⟨us, h4, _⟩ := f4; rw [h3] at h4; cases h4; cases h1
      | ins c ds => obtain ⟨_, us, h4, _⟩ := f4; rw [h3] at h4; cases h4; cases h1
    exact ⟨ps, by rw [upd_ne this]; exact h1, h2⟩
/-- the object in a slot becomes shared -/
theorem Rel.share (R : Rel g c G H ρ σ) {i : Nat} {b : Bool} {o : MO} (e : ρ[i]? = some (some (.mu b o))) : ∃ G' v, Same G G' ∧ σ[i]? = some (some v) ∧ Rp g G' v o.d ∧ Rel g c G' H (ρ.set i (some (.sh o.d))) σ := by
  obtain ⟨a, f1, f2, f3, f4, f5⟩ := R.mu i b o e
  obtain ⟨ho, h1, h2⟩ := f4.ho
  have hl : i < ρ.length := by
    rcases Nat.lt_or_ge i ρ.length with h | h
    · exact h
    · rw [List.getElem?_eq_none h] at e; cases e
  have hσ : σ.set i (some (.ref a)) = σ := by
    apply List.ext_getElem?
    intro j
    by_cases hj : i = j
    · subst hj; rw [List.getElem?_set_self (by rw [← R.len]; exact hl), f1]
    · rw [List.getElem?_set_ne hj]
  have nO : ¬ Owns (ρ.set i none) σ a := fun ⟨j, b', o', e1, e2⟩ => by
    by_cases hj : i = j
    · subst hj; rw [List.getElem?_set_self hl] at e1; cases e1
    · rw [List.getElem?_set_ne hj] at e1
      exact hj (R.inj i j b b' o o' a e e1 f1 e2)
  have R1 : Rel g c G H (ρ.set i none) σ := by
    refine ⟨R.sB, R.sG, R.g0, R.gB, by rw [List.length_set]; exact R.len, fun j d h => ?_, fun j b' o1 h => ?_, fun j k b1 b2 o1 o2 q e1 e2 e3 e4 => ?_, R.tb, R.nT⟩
    · have nj : i ≠ j := fun z => by subst z; rw [List.getElem?_set_self hl] at h; cases h
      rw [List.getElem?_set_ne nj] at h
      exact R.sh j d h
    · have nj : i ≠ j := fun z => by subst z; rw [List.getElem?_set_self hl] at h; cases h
      rw [List.getElem?_set_ne nj] at h
      exact R.mu j b' o1 h
    · have nj : i ≠ j := fun z => by subst z; rw [List.getElem?_set_self hl] at e1; cases e1
      have nk : i ≠ k := fun z => by subst z; rw [List.getElem?_set_self hl] at e2; cases e2
      rw [List.getElem?_set_ne nj] at e1
      rw [List.getElem?_set_ne nk] at e2
      exact R.inj j k _ _ _ _ q e1 e2 e3 e4
  have R2 := (R1.freeze h1 f2 f3 nO (f4.notT R.tb)).setSh (i := i) (h2 _ (same_upd f2) upd_same)
  rw [List.set_set, hσ] at R2
  exact ⟨_, _, same_upd f2, f1, h2 _ (same_upd f2) upd_same, R2⟩
end
end L2.My

end
section
set_option Elab.async false
set_option linter.all false
set_option autoImplicit false
set_option maxRecDepth 100000
set_option maxHeartbeats 4000000
/-! Ml1: expressions run by mirrors. -/
namespace L2.My
open PySem PySem.Spec PyProof.Rows

/-- an operand: shared data, or what a slot holds at the moment of use -/
inductive AV where
  | sh (d : D) | sl (i : Nat)
def lookS : Option (Option SV) → Option D
  | some (some (.sh d)) => some d
  | some (some (.mu _ o)) => some o.d
  | _ => none
def look (ρ : Rho) : AV → Option D
  | .sh d => some d
  | .sl i => lookS ρ[i]?
def AvAt (g : Gn) (G : Hp) (σ : L2.St) (v : V) : AV → Prop
  | .sh d => Rp g G v d
  | .sl i => σ[i]? = some (some v)
/-- v is d now: shared, or an object whose items are shared -/
def Nw (g : Gn) (G H : Hp) (v : V) (d : D) : Prop := Rp g G v d ∨ ∃ a o, v = .ref a ∧ d = o.d ∧ MoAt g G H a o
def RV.d : RV → D
  | .sh d => d
  | .fr o => o.d

section
variable {g : Gn} {c : Cn} {G G' H H' : Hp} {ρ : Rho} {σ : L2.St} {v : V} {av : AV} {d : D}
theorem AvAt.mono (s : Same G G') (h : AvAt g G σ v av) : AvAt g G' σ v av := by
  cases av with
  | sh d => exact Rp.mono s _ _ h
  | sl i => exact h
theorem nw_of (R : Rel g c G H ρ σ) (h : AvAt g G σ v av) (e : look ρ av = some d) : Nw g G H v d := by
  cases av with
  | sh d' => cases e; exact .inl h
  | sl i =>
    have h : σ[i]? = some (some v) := h
    have e : lookS ρ[i]? = some d := e
    cases hi : ρ[i]? with
    | none => rw [hi] at e; cases e
    | some o =>
      cases o with
      | none => rw [hi] at e; cases e
      | some sv =>
        cases sv with
        | sh d' =>
          rw [hi] at e; cases e
          obtain ⟨v', h1, h2⟩ := R.sh i _ hi
          rw [h] at h1; cases h1
          exact .inl h2
        | mu b o =>
          rw [hi] at e; cases e
          obtain ⟨a, h1, _, _, h2, _⟩ := R.mu i _ _ hi
          rw [h] at h1; cases h1
          exact .inr ⟨a, o, rfl, rfl, h2⟩
theorem Nw.rp (h : Nw g G H v d) (s : Same G H) : Rp g H v d := by
  rcases h with h | ⟨a, o, rfl, rfl, m⟩
  · exact Rp.mono s _ _ h
  · exact m.now s
theorem Nw.int {i : Int} (h : Nw g G H v (.int i)) : v = .int i := by
  rcases h with h | ⟨a, o, _, e, _⟩
  · cases h; rfl
  · cases o <;> cases e
theorem Nw.bl {b : Bool} (h : Nw g G H v (.bl b)) : v = .bl b := by
  rcases h with h | ⟨a, o, _, e, _⟩
  · cases h; rfl
  · cases o <;> cases e
theorem Nw.non (h : Nw g G H v .non) : v = .non := by
  rcases h with h | ⟨a, o, _, e, _⟩
  · cases h; rfl
  · cases o <;> cases e
theorem Nw.str {x : Str} (h : Nw g G H v (.str x)) : v = .str x := by
  rcases h with h | ⟨a, o, _, e, _⟩
  · cases h; rfl
  · cases o <;> cases e
theorem Nw.tup {ds : List D} (h : Nw g G H v (.tup ds)) : ∃ a us, v = .ref a ∧ SqT g.K G a us ∧ RpA g G us ds := by
  rcases h with h | ⟨a, o, _, e, _⟩
  · cases h with | tup a b => exact ⟨_, _, rfl, a, b⟩
  · cases o <;> cases e
theorem Nw.lst {ds : List D} (h : Nw g G H v (.lst ds)) (s : Same G H) : ∃ a us, v = .ref a ∧ H a = some (.lst us) ∧ RpA g G us ds := by
  rcases h with h | ⟨a, o, rfl, e, m⟩
  · cases h with | lst a b => exact ⟨_, _, rfl, s _ _ a, b⟩
  · cases o with
    | lst ds' => cases e; obtain ⟨us, h1, h2⟩ := m; exact ⟨a, us, rfl, h1, h2⟩
    | dic _ => cases e
    | ins _ _ => cases e
theorem Nw.dic {kd : List (Key × D)} (h : Nw g G H v (.dic kd)) (s : Same G H) : ∃ a kv, v = .ref a ∧ H a = some (.dK kv) ∧ RpK g G kv kd := by
  rcases h with h | ⟨a, o, rfl, e, m⟩
  · cases h with | dic a b => exact ⟨_, _, rfl, s _ _ a, b⟩
  · cases o with
    | lst ds' => cases e
    | dic _ => cases e; obtain ⟨us, h1, h2⟩ := m; exact ⟨a, us, rfl, h1, h2⟩
    | ins _ _ => cases e
theorem Nw.ins {cn : Str} {fs : List (Str × D)} (h : Nw g G H v (.ins cn fs)) (s : Same G H) : ∃ a dx vs, v = .ref a ∧ H a = some (.ins (g.cl cn) dx vs) ∧ RpF g G vs fs := by
  rcases h with h | ⟨a, o, rfl, e, m⟩
  · cases h with | ins a b => exact ⟨_, _, _, rfl, s _ _ a, b⟩
  · cases o with
    | lst ds' => cases e
    | dic _ => cases e
    | ins _ _ => cases e; obtain ⟨dx, us, h1, h2⟩ := m; exact ⟨a, dx, us, rfl, h1, h2⟩
theorem Nw.scr {ns : List Int} (h : Nw g G H v (.scr ns)) : ∃ a, v = .ref a ∧ SqL g.K G a (ns.map V.int) := by
  rcases h with h | ⟨a, o, _, e, _⟩
  · cases h with | scr a => exact ⟨_, rfl, a⟩
  · cases o <;> cases e
end

/-- nothing new, or one new object that is shared -/
inductive Grow (G H : Hp) : Hp → Hp → Prop
  | same : Grow G H G H
  | new {p : Addr} (o : HO) (h : H p = none) : Grow G H (upd G p o) (upd H p o)
/-- an outcome of an operation from G, H -/
def EndsAt (g : Gn) (G H : Hp) (r : RV) (G' H' : Hp) (v : V) : Prop := match r with
  | .sh d => Grow G H G' H' ∧ Rp g G' v d
  | .fr o => G' = G ∧ ∃ p ho, v = .ref p ∧ H p = none ∧ H' = upd H p ho ∧ MoAt g G H' p o

section
variable {g : Gn} {c : Cn} {G G' H H' : Hp} {ρ : Rho} {σ : L2.St} {v : V} {r : RV}
theorem Rel.growth (R : Rel g c G H ρ σ) (h : Grow G H G' H') : Same G G' ∧ Rel g c G' H' ρ σ := by
  cases h with
  | same => exact ⟨Same.refl _, R⟩
  | new o h => exact ⟨same_upd (R.freeG h), R.laidS o h⟩
theorem Rel.ends (R : Rel g c G H ρ σ) (h : EndsAt g G H r G' H' v) : Same G G' ∧ Rel g c G' H' ρ σ ∧ RvAt g c G' H' ρ σ v r := by
  cases r with
  | sh d =>
    obtain ⟨h1, h2⟩ := h
    obtain ⟨h3, h4⟩ := R.growth h1
    exact ⟨h3, h4, h2⟩
  | fr o =>
    obtain ⟨rfl, p, ho, rfl, hp, rfl, m⟩ := h
    exact ⟨Same.refl _, R.grow (same_upd hp), p, rfl, R.freeG hp, R.freeB hp, m, R.notOwn hp⟩
theorem ends_val {d : D} (h : Rp g G v d) : EndsAt g G H (.sh d) G H v := ⟨.same, h⟩
theorem ends_lst {p : Addr} {us : List V} {ds : List D} (h : H p = none) (r : RpA g G us ds) : EndsAt g G H (.fr (.lst ds)) G (upd H p (.lst us)) (.ref p) :=
  ⟨rfl, p, _, rfl, h, rfl, us, upd_same, r⟩
theorem ends_tup {p : Addr} {us : List V} {ds : List D} (s : Same G H) (h : H p = none) (r : RpA g G us ds) : EndsAt g G H (.sh (.tup ds)) (upd G p (.tup us)) (upd H p (.tup us)) (.ref p) :=
  ⟨.new _ h, .tup (.of upd_same) (r.mono (same_upd (s.free h)))⟩
end

/-! ### readings -/
abbrev M (α : Type) := Rho → Option (α × Rho)
def tF (g : Gn) (m : M RV) : TE := fun σ H Q => ∃ (c : Cn) (G : Hp) (ρ : Rho) (r : RV) (ρ' : Rho), Rel g c G H ρ σ ∧ m ρ = some (r, ρ') ∧
  ∀ G' H' v, Same G G' → Rel g c G' H' ρ' σ → RvAt g c G' H' ρ' σ v r → Q v H'
def tE (g : Gn) (m : M D) : TE := fun σ H Q => ∃ (c : Cn) (G : Hp) (ρ : Rho) (d : D) (ρ' : Rho), Rel g c G H ρ σ ∧ m ρ = some (d, ρ') ∧
  ∀ G' H' v, Same G G' → Rel g c G' H' ρ' σ → Rp g G' v d → Q v H'
def tV (g : Gn) (m : M AV) : TE := fun σ H Q => ∃ (c : Cn) (G : Hp) (ρ : Rho) (av : AV) (ρ' : Rho), Rel g c G H ρ σ ∧ m ρ = some (av, ρ') ∧
  ∀ G' H' v, Same G G' → Rel g c G' H' ρ' σ → AvAt g G' σ v av → Q v H'
def tB' (g : Gn) (m : M Bool) : TT := fun σ H Q => ∃ (c : Cn) (G : Hp) (ρ : Rho) (b : Bool) (ρ' : Rho), Rel g c G H ρ σ ∧ m ρ = some (b, ρ') ∧
  ∀ G' H', Same G G' → Rel g c G' H' ρ' σ → Q b H'

theorem _root_.L2.PE.ofM {X : Cx} {e : Expr} {t t' : TE} (h : PE X e t) (i : ∀ σ H Q, t' σ H Q → t σ H Q) : PE X e t' := ⟨fun pins s σ H Q I q => h.run pins s σ H Q I (i σ H Q q)⟩
theorem _root_.L2.PT.ofM {X : Cx} {e : Expr} {t t' : TT} (h : PT X e t) (i : ∀ σ H Q, t' σ H Q → t σ H Q) : PT X e t' := ⟨fun pins s σ H Q I q => h.run pins s σ H Q I (i σ H Q q)⟩

/-! ### conversions -/
def mV (m : M RV) : M AV := fun ρ => (m ρ).bind fun p => some (.sh p.1.d, p.2)
def mE (m : M RV) : M D := fun ρ => (m ρ).bind fun p => some (p.1.d, p.2)
def mF (m : M D) : M RV := fun ρ => (m ρ).bind fun p => some (.sh p.1, p.2)
def mNm (i : Nat) : M AV := fun ρ => some (.sl i, ρ)
/-- a name in a place that keeps: an owned object becomes shared -/
def mVarS (i : Nat) (ρ : Rho) : Option (Option SV) → Option (D × Rho)
  | some (some (.sh d)) => some (d, ρ)
  | some (some (.mu false o)) => some (o.d, ρ.set i (some (.sh o.d)))
  | _ => none
def mVar (i : Nat) : M D := fun ρ => mVarS i ρ ρ[i]?
def mC (d : D) : M RV := fun ρ => some (.sh d, ρ)

section
variable {X : Cx} {e : Expr} {g : Gn}
theorem RvAt.frz' {c : Cn} {G H : Hp} {ρ : Rho} {σ : L2.St} {r : RV} {v : V} (R : Rel g c G H ρ σ) (h : RvAt g c G H ρ σ v r) : ∃ G', Same G G' ∧ Rel g c G' H ρ σ ∧ Rp g G' v r.d := by
  obtain ⟨G', h1, h2, h3⟩ := RvAt.frz R h
  refine ⟨G', h1, h2, ?_⟩
  cases r <;> exact h3
theorem e_of {m : M RV} (h : PE X e (tF g m)) : PE X e (tE g (mE m)) := h.ofM fun σ H Q ⟨c, G, ρ, d, ρ', R, hm, q⟩ => by
  unfold mE at hm
  cases hr : m ρ with
  | none => rw [hr] at hm; cases hm
  | some p =>
    rw [hr] at hm; cases hm
    refine ⟨c, G, ρ, p.1, p.2, R, hr, fun G' H' v s R' h => ?_⟩
    obtain ⟨G2, s2, R2, h2⟩ := RvAt.frz' R' h
    exact q G2 H' v (s.trans s2) R2 h2
theorem v_of {m : M RV} (h : PE X e (tF g m)) : PE X e (tV g (mV m)) := h.ofM fun σ H Q ⟨c, G, ρ, d, ρ', R, hm, q⟩ => by
  unfold mV at hm
  cases hr : m ρ with
  | none => rw [hr] at hm; cases hm
  | some p =>
    rw [hr] at hm; cases hm
    refine ⟨c, G, ρ, p.1, p.2, R, hr, fun G' H' v s R' h => ?_⟩
    obtain ⟨G2, s2, R2, h2⟩ := RvAt.frz' R' h
    exact q G2 H' v (s.trans s2) R2 h2
theorem f_of {m : M D} (h : PE X e (tE g m)) : PE X e (tF g (mF m)) := h.ofM fun σ H Q ⟨c, G, ρ, d, ρ', R, hm, q⟩ => by
  unfold mF at hm
  cases hr : m ρ with
  | none => rw [hr] at hm; cases hm
  | some p =>
    rw [hr] at hm; cases hm
    exact ⟨c, G, ρ, p.1, p.2, R, hr, fun G' H' v s R' h => q G' H' v s R' h⟩
theorem slot_some {c : Cn} {G H : Hp} {ρ : Rho} {σ : L2.St} {i : Nat} {d : D} (R : Rel g c G H ρ σ) (h : lookS ρ[i]? = some d) : ∃ v, σ[i]? = some (some v) := by
  cases hi : ρ[i]? with
  | none => rw [hi] at h; cases h
  | some o =>
    cases o with
    | none => rw [hi] at h; cases h
    | some sv =>
      cases sv with
      | sh d' => obtain ⟨v, h1, _⟩ := R.sh i _ hi; exact ⟨v, h1⟩
      | mu b o => obtain ⟨a, h1, _⟩ := R.mu i _ _ hi; exact ⟨_, h1⟩
/-- a name as an operand; it must hold something -/
def mNm' (i : Nat) : M AV := fun ρ => (lookS ρ[i]?).bind fun _ => some (.sl i, ρ)
theorem v_nm {i : Nat} (h : PE X e (tVar i)) : PE X e (tV g (mNm' i)) := h.ofM fun σ H Q ⟨c, G, ρ, av, ρ', R, hm, q⟩ => by
  unfold mNm' at hm
  cases hi : lookS ρ[i]? with
  | none => rw [hi] at hm; cases hm
  | some d =>
    rw [hi] at hm; cases hm
    obtain ⟨v, hv⟩ := slot_some R hi
    exact ⟨v, hv, q G H v (Same.refl _) R hv⟩
theorem e_nm {i : Nat} (h : PE X e (tVar i)) : PE X e (tE g (mVar i)) := h.ofM fun σ H Q ⟨c, G, ρ, d, ρ', R, hm, q⟩ => by
  unfold mVar at hm
  cases hi : ρ[i]? with
  | none => rw [hi] at hm; cases hm
  | some o =>
    cases o with
    | none => rw [hi] at hm; cases hm
    | some sv =>
      cases sv with
      | sh d' =>
        rw [hi] at hm; cases hm
        obtain ⟨v, h1, h2⟩ := R.sh i _ hi
        exact ⟨v, h1, q G H v (Same.refl _) R h2⟩
      | mu b o =>
        cases b with
        | true => rw [hi] at hm; cases hm
        | false =>
          rw [hi] at hm; cases hm
          obtain ⟨G', v, s, h1, h2, R'⟩ := R.share hi
          exact ⟨v, h1, q G' H v s R' h2⟩
theorem f_nm {i : Nat} (h : PE X e (tVar i)) : PE X e (tF g (mF (mVar i))) := f_of (e_nm h)
/-- a constant -/
theorem f_c {u : V} {d : D} (h : PE X e (tC u)) (r : ∀ G, Rp g G u d) : PE X e (tF g (mC d)) := h.ofM fun σ H Q ⟨c, G, ρ, d, ρ', R, hm, q⟩ => by
  cases hm
  exact q G H u (Same.refl _) R (r G)
theorem f_int {i : Int} (h : PE X e (tC (.int i))) : PE X e (tF g (mC (.int i))) := f_c h fun _ => .int _
theorem f_bl {b : Bool} (h : PE X e (tC (.bl b))) : PE X e (tF g (mC (.bl b))) := f_c h fun _ => .bl _
theorem f_str {b : Str} (h : PE X e (tC (.str b))) : PE X e (tF g (mC (.str b))) := f_c h fun _ => .str _
theorem f_non (h : PE X e (tC .non)) : PE X e (tF g (mC .non)) := f_c h fun _ => .non
end

/-! ### operations by values -/
def rOp (g : Gn) (f : D → D → Option RV) : R2 := fun x y H Q => ∃ (G : Hp) (d e : D) (r : RV), Same G H ∧ Nw g G H x d ∧ Nw g G H y e ∧ f d e = some r ∧ ∀ G' H' v, EndsAt g G H r G' H' v → Q v H'
def rOp1 (g : Gn) (f : D → Option RV) : V → Hp → VK → Prop := fun x H Q => ∃ (G : Hp) (d : D) (r : RV), Same G H ∧ Nw g G H x d ∧ f d = some r ∧ ∀ G' H' v, EndsAt g G H r G' H' v → Q v H'
def rC1 (g : Gn) (f : D → Option RV) : List V → Hp → VK → Prop := fun xs H Q => ∃ x, xs = [x] ∧ rOp1 g f x H Q
def rC2 (g : Gn) (f : D → D → Option RV) : List V → Hp → VK → Prop := fun xs H Q => ∃ x y, xs = [x, y] ∧ rOp g f x y H Q
def rM0 (g : Gn) (f : D → Option RV) : V → List V → Hp → VK → Prop := fun x xs H Q => xs = [] ∧ rOp1 g f x H Q
def rM1 (g : Gn) (f : D → D → Option RV) : V → List V → Hp → VK → Prop := fun x xs H Q => ∃ y, xs = [y] ∧ rOp g f x y H Q
def m1 (f : D → Option RV) (a : M AV) : M RV := fun ρ => (a ρ).bind fun p => (look p.2 p.1).bind fun x => (f x).bind fun r => some (r, p.2)
def m2 (f : D → D → Option RV) (a b : M AV) : M RV := fun ρ => (a ρ).bind fun p => (b p.2).bind fun q => (look q.2 p.1).bind fun x => (look q.2 q.1).bind fun y => (f x y).bind fun r => some (r, q.2)

section
variable {g : Gn} {σ : L2.St} {H : Hp} {Q : VK}
theorem bind_some {α β : Type} {o : Option α} {f : α → Option β} {b : β} (h : o.bind f = some b) : ∃ a, o = some a ∧ f a = some b := Option.bind_eq_some_iff.mp h
theorem one_t {f : D → Option RV} {ma : M AV} (h : tF g (m1 f ma) σ H Q) : tV g ma σ H fun x H1 => rOp1 g f x H1 Q := by
  obtain ⟨c, G, ρ, r, ρ', R, hm, q⟩ := h
  obtain ⟨p, h1, hm⟩ := bind_some hm
  obtain ⟨x, h2, hm⟩ := bind_some hm
  obtain ⟨r', h3, hm⟩ := bind_some hm
  cases hm
  refine ⟨c, G, ρ, p.1, p.2, R, h1, fun G1 H1 v s1 R1 a1 => ?_⟩
  refine ⟨G1, x, r, R1.sG, nw_of R1 a1 h2, h3, fun G2 H2 w hE => ?_⟩
  obtain ⟨s2, R2, a2⟩ := R1.ends hE
  exact q G2 H2 w (s1.trans s2) R2 a2
theorem two_t {f : D → D → Option RV} {ma mb : M AV} (h : tF g (m2 f ma mb) σ H Q) : tV g ma σ H fun x H1 => tV g mb σ H1 fun y H2 => rOp g f x y H2 Q := by
  obtain ⟨c, G, ρ, r, ρ', R, hm, q⟩ := h
  obtain ⟨p, h1, hm⟩ := bind_some hm
  obtain ⟨p2, h2, hm⟩ := bind_some hm
  obtain ⟨x, h3, hm⟩ := bind_some hm
  obtain ⟨y, h4, hm⟩ := bind_some hm
  obtain ⟨r', h5, hm⟩ := bind_some hm
  cases hm
  refine ⟨c, G, ρ, p.1, p.2, R, h1, fun G1 H1 v s1 R1 a1 => ?_⟩
  refine ⟨c, G1, p.2, p2.1, p2.2, R1, h2, fun G2 H2 w s2 R2 a2 => ?_⟩
  refine ⟨G2, x, y, r, R2.sG, nw_of R2 (a1.mono s2) h3, nw_of R2 a2 h4, h5, fun G3 H3 z hE => ?_⟩
  obtain ⟨s3, R3, a3⟩ := R2.ends hE
  exact q G3 H3 z ((s1.trans s2).trans s3) R3 a3
end

section
variable {X : Cx} {a b : Expr} {g : Gn} {f : D → D → Option RV} {f1 : D → Option RV} {ma mb : M AV} {pos : Pos}
theorem f_op {op : Operator} (ho : OpR X (binaryOp op) (rOp g f)) (ha : PE X a (tV g ma)) (hb : PE X b (tV g mb)) : PE X (.BinOp a op b pos) (tF g (m2 f ma mb)) := (pe_op ho ha hb).ofM fun _ _ _ h => two_t h
theorem f_un {op : UnaryOp} (ho : UnR X (unaryOp op) (rOp1 g f1)) (ha : PE X a (tV g ma)) : PE X (.UnaryOp op a pos) (tF g (m1 f1 ma)) := (pe_un ho ha).ofM fun _ _ _ h => one_t h
theorem f_cmp {op : CmpOp} (ho : OpR X (compareOp op) (rOp g f)) (ha : PE X a (tV g ma)) (hb : PE X b (tV g mb)) (hm : behindInMarks op b = false) : PE X (.Compare a [op] [b] pos) (tF g (m2 f ma mb)) := (pe_cmpR ho ha hb hm).ofM fun _ _ _ h => two_t h
theorem f_ix (ho : IxR X (rOp g f)) (ha : PE X a (tV g ma)) (hb : PE X b (tV g mb)) (hs : PlainIx b) : PE X (.Subscript a b pos) (tF g (m2 f ma mb)) := (pe_ix ho ha hb hs).ofM fun _ _ _ h => two_t h

/-- a bool as a test -/
def mT (m : M RV) : M Bool := fun ρ => (m ρ).bind fun p => match p.1 with
  | .sh (.bl b) => some (b, p.2)
  | _ => none
theorem test_t {σ : L2.St} {H : Hp} {Q : Bool → Hp → Prop} {m : M RV} (h : tB' g (mT m) σ H Q) : tF g m σ H fun x H1 => ∃ k, x = .bl k ∧ Q k H1 := by
  obtain ⟨c, G, ρ, k, ρ', R, hm, q⟩ := h
  obtain ⟨⟨r, ρ2⟩, h1, hm⟩ := bind_some hm
  cases r with
  | fr o => cases hm
  | sh d =>
    cases d with
    | bl b =>
      cases hm
      refine ⟨c, G, ρ, _, _, R, h1, fun G' H' v s R' a => ?_⟩
      have a : Rp g G' v (.bl k) := a
      cases a
      exact ⟨k, rfl, q G' H' s R'⟩
    | _ => cases hm
theorem t_cmp {op : CmpOp} (ho : OpR X (compareOp op) (rOp g f)) (ha : PE X a (tV g ma)) (hb : PE X b (tV g mb)) (hm : behindInMarks op b = false) : PT X (.Compare a [op] [b] pos) (tB' g (mT (m2 f ma mb))) :=
  (pt_cmpR ho ha hb hm).ofM fun σ H Q h => two_t (test_t h)
theorem t_val {e : Expr} {m : M RV} (h : PE X e (tF g m)) (he : ∀ whole, isTrue e X.env whole = (do let v ← whole; standAt e.pos; holding [v] (truthy v)) := by intro _; rfl) : PT X e (tB' g (mT m)) :=
  (pt_val h he).ofM fun σ H Q h => test_t h
end

/-! ### and, or, not, if -/
def mAndT (a b : M Bool) : M Bool := fun ρ => (a ρ).bind fun p => if p.1 = true then b p.2 else some (false, p.2)
def mOrT (a b : M Bool) : M Bool := fun ρ => (a ρ).bind fun p => if p.1 = true then some (true, p.2) else b p.2
def mNotT (a : M Bool) : M Bool := fun ρ => (a ρ).bind fun p => some (!p.1, p.2)
def mIf (t : M Bool) (a b : M RV) : M RV := fun ρ => (t ρ).bind fun p => if p.1 = true then a p.2 else b p.2
def mAndV (a b : M RV) : M RV := fun ρ => (mT a ρ).bind fun p => if p.1 = true then b p.2 else some (.sh (.bl false), p.2)
def mOrV (a b : M RV) : M RV := fun ρ => (mT a ρ).bind fun p => if p.1 = true then some (.sh (.bl true), p.2) else b p.2
def mNotV (a : M RV) : M RV := fun ρ => (mT a ρ).bind fun p => some (.sh (.bl (!p.1)), p.2)
structure PWM (X : Cx) (e : Expr) (g : Gn) (m : M Bool) : Prop where
  pw : PW X e (tB' g m)
section
variable {X : Cx} {a b c : Expr} {g : Gn} {pos : Pos} {rest : List Expr} {ma mb : M Bool} {va vb : M RV}
theorem _root_.L2.PW.ofM {e : Expr} {t t' : TT} (h : PW X e t) (i : ∀ σ H Q, t' σ H Q → t σ H Q) : PW X e t' := ⟨fun w pins s σ H Q I q => h.run w pins s σ H Q I (i σ H Q q)⟩
theorem w_and1 (h : PT X a (tB' g ma)) : PW X (.BoolOp .And [a] pos) (tB' g ma) := pw_and1 h
theorem w_or1 (h : PT X a (tB' g ma)) : PW X (.BoolOp .Or [a] pos) (tB' g ma) := pw_or1 h
theorem w_and (ha : PT X a (tB' g ma)) (hb : PW X (.BoolOp .And (b :: rest) pos) (tB' g mb)) : PW X (.BoolOp .And (a :: b :: rest) pos) (tB' g (mAndT ma mb)) := (pw_and ha hb).ofM fun σ H Q ⟨c, G, ρ, k, ρ', R, hm, q⟩ => by
  obtain ⟨⟨k1, ρ1⟩, h1, hm⟩ := bind_some hm
  refine ⟨c, G, ρ, k1, ρ1, R, h1, fun G1 H1 s1 R1 => ?_⟩
  cases k1 with
  | true => exact ⟨c, G1, ρ1, k, ρ', R1, hm, fun G2 H2 s2 R2 => q G2 H2 (s1.trans s2) R2⟩
  | false => cases hm; exact q G1 H1 s1 R1
theorem w_or (ha : PT X a (tB' g ma)) (hb : PW X (.BoolOp .Or (b :: rest) pos) (tB' g mb)) : PW X (.BoolOp .Or (a :: b :: rest) pos) (tB' g (mOrT ma mb)) := (pw_or ha hb).ofM fun σ H Q ⟨c, G, ρ, k, ρ', R, hm, q⟩ => by
  obtain ⟨⟨k1, ρ1⟩, h1, hm⟩ := bind_some hm
  refine ⟨c, G, ρ, k1, ρ1, R, h1, fun G1 H1 s1 R1 => ?_⟩
  cases k1 with
  | false => exact ⟨c, G1, ρ1, k, ρ', R1, hm, fun G2 H2 s2 R2 => q G2 H2 (s1.trans s2) R2⟩
  | true => cases hm; exact q G1 H1 s1 R1
theorem t_not (ha : PT X a (tB' g ma)) : PT X (.UnaryOp .Not a pos) (tB' g (mNotT ma)) := (pt_not ha).ofM fun σ H Q ⟨c, G, ρ, k, ρ', R, hm, q⟩ => by
  obtain ⟨⟨k1, ρ1⟩, h1, hm⟩ := bind_some hm
  cases hm
  exact ⟨c, G, ρ, k1, ρ1, R, h1, q⟩
theorem f_if (hc : PT X c (tB' g ma)) (ha : PE X a (tF g va)) (hb : PE X b (tF g vb)) : PE X (.IfExp c a b pos) (tF g (mIf ma va vb)) := (pe_ifExp hc ha hb).ofM fun σ H Q ⟨c, G, ρ, r, ρ', R, hm, q⟩ => by
  obtain ⟨⟨k1, ρ1⟩, h1, hm⟩ := bind_some hm
  refine ⟨c, G, ρ, k1, ρ1, R, h1, fun G1 H1 s1 R1 => ?_⟩
  cases k1 with
  | true => exact ⟨c, G1, ρ1, r, ρ', R1, hm, fun G2 H2 v s2 R2 => q G2 H2 v (s1.trans s2) R2⟩
  | false => exact ⟨c, G1, ρ1, r, ρ', R1, hm, fun G2 H2 v s2 R2 => q G2 H2 v (s1.trans s2) R2⟩
theorem f_one {op : BoolOp} (h : PE X a (tF g va)) : PE X (.BoolOp op [a] pos) (tF g va) := pe_one h
theorem f_and (ha : PE X a (tF g va)) (hb : PE X (.BoolOp .And (b :: rest) pos) (tF g vb)) : PE X (.BoolOp .And (a :: b :: rest) pos) (tF g (mAndV va vb)) := (pe_and ha hb).ofM fun σ H Q ⟨c, G, ρ, r, ρ', R, hm, q⟩ => by
  obtain ⟨⟨k1, ρ1⟩, h1, hm⟩ := bind_some hm
  refine test_t (Q := fun k H1 => if k = true then tF g vb σ H1 Q else Q (.bl false) H1) ⟨c, G, ρ, k1, ρ1, R, h1, fun G1 H1 s1 R1 => ?_⟩
  cases k1 with
  | true => exact ⟨c, G1, ρ1, r, ρ', R1, hm, fun G2 H2 v s2 R2 => q G2 H2 v (s1.trans s2) R2⟩
  | false => cases hm; exact q G1 H1 _ s1 R1 (.bl _)
theorem f_or (ha : PE X a (tF g va)) (hb : PE X (.BoolOp .Or (b :: rest) pos) (tF g vb)) : PE X (.BoolOp .Or (a :: b :: rest) pos) (tF g (mOrV va vb)) := (pe_or ha hb).ofM fun σ H Q ⟨c, G, ρ, r, ρ', R, hm, q⟩ => by
  obtain ⟨⟨k1, ρ1⟩, h1, hm⟩ := bind_some hm
  refine test_t (Q := fun k H1 => if k = true then Q (.bl true) H1 else tF g vb σ H1 Q) ⟨c, G, ρ, k1, ρ1, R, h1, fun G1 H1 s1 R1 => ?_⟩
  cases k1 with
  | false => exact ⟨c, G1, ρ1, r, ρ', R1, hm, fun G2 H2 v s2 R2 => q G2 H2 v (s1.trans s2) R2⟩
  | true => cases hm; exact q G1 H1 _ s1 R1 (.bl _)
theorem f_not (ha : PE X a (tF g va)) : PE X (.UnaryOp .Not a pos) (tF g (mNotV va)) := (pe_not ha).ofM fun σ H Q ⟨c, G, ρ, r, ρ', R, hm, q⟩ => by
  obtain ⟨⟨k1, ρ1⟩, h1, hm⟩ := bind_some hm
  cases hm
  exact test_t (Q := fun k H1 => Q (.bl (!k)) H1) ⟨c, G, ρ, k1, ρ1, R, h1, fun G1 H1 s1 R1 => q G1 H1 _ s1 R1 (.bl _)⟩
end
end L2.My

end
section
set_option Elab.async false
set_option linter.all false
set_option autoImplicit false
set_option maxRecDepth 100000
set_option maxHeartbeats 4000000
/-! Ml2: operations on data, and that the model does them. -/
namespace L2.My
open PySem PySem.Spec PyProof.Rows

mutual
/-- as the library's data -/
def D.py : D → PyData
  | .non => .none
  | .bl b => .bool b
  | .int i => .int i
  | .str x => .str x
  | .tup xs => .tuple (D.pys xs)
  | .lst xs => .list (D.pys xs)
  | .dic _ => .none
  | .ins _ _ => .none
  | .scr _ => .none
def D.pys : List D → List PyData
  | [] => []
  | d :: ds => D.py d :: D.pys ds
end
mutual
/-- no dict, no instance, no script within -/
def D.pl : D → Bool
  | .non | .bl _ | .int _ | .str _ => true
  | .tup xs => D.pls xs
  | .lst xs => D.pls xs
  | .dic _ | .ins _ _ | .scr _ => false
def D.pls : List D → Bool
  | [] => true
  | d :: ds => D.pl d && D.pls ds
end
theorem pys_map : ∀ ds : List D, D.pys ds = ds.map D.py
  | [] => by simp [D.pys]
  | d :: ds => by simp [D.pys, pys_map ds]
theorem pls_all : ∀ ds : List D, D.pls ds = ds.all D.pl
  | [] => by simp [D.pls]
  | d :: ds => by simp [D.pls, pls_all ds]

section
variable {g : Gn} {G : Hp}
mutual
theorem Rp.dp : ∀ (d : D) (v : V), d.pl = true → Rp g G v d → Dp g.K G v d.py
  | .non, _, _, h => by cases h; rw [D.py]; exact .non
  | .bl _, _, _, h => by cases h; rw [D.py]; exact .bl _
  | .int _, _, _, h => by cases h; rw [D.py]; exact .int _
  | .str _, _, _, h => by cases h; rw [D.py]; exact .str _
  | .tup ds, _, p, h => by
    rw [D.pl] at p
    rw [D.py]
    cases h with
    | tup a b => exact .tup a (RpA.dp ds _ p b)
  | .lst ds, _, p, h => by
    rw [D.pl] at p
    rw [D.py]
    cases h with
    | lst a b => exact .lst (.of a) (RpA.dp ds _ p b)
  | .dic _, _, p, _ => by rw [D.pl] at p; cases p
  | .ins _ _, _, p, _ => by rw [D.pl] at p; cases p
  | .scr _, _, p, _ => by rw [D.pl] at p; cases p
theorem RpA.dp : ∀ (ds : List D) (vs : List V), D.pls ds = true → RpA g G vs ds → DpAll g.K G vs (D.pys ds)
  | [], _, _, h => by cases h; rw [D.pys]; exact .nil
  | d :: ds, _, p, h => by
    rw [D.pls, Bool.and_eq_true] at p
    rw [D.pys]
    cases h with
    | cons a b => exact .cons (Rp.dp d _ p.1 a) (RpA.dp ds _ p.2 b)
end
end

/-! ### ints and texts -/
def oAdd : D → D → Option RV
  | .int i, .int j => some (.sh (.int (i + j)))
  | .str x, .str y => if x.length + y.length ≤ sizeLine then some (.sh (.str (x ++ y))) else none
  | .tup xs, .tup ys => if xs.length + ys.length ≤ sizeLine then some (.sh (.tup (xs ++ ys))) else none
  | .lst xs, .lst ys => if xs.length + ys.length ≤ sizeLine then some (.fr (.lst (xs ++ ys))) else none
  | _, _ => none
def oSub : D → D → Option RV
  | .int i, .int j => some (.sh (.int (i - j)))
  | _, _ => none
def oMul : D → D → Option RV
  | .int i, .int j => if i.natAbs.log2 + j.natAbs.log2 < 1000000 then some (.sh (.int (i * j))) else none
  | _, _ => none
def oDiv : D → D → Option RV
  | .int i, .int j => if 0 < j ∧ j.natAbs.log2 < 9000 then some (.sh (.int (i / j))) else none
  | _, _ => none
def oMod : D → D → Option RV
  | .int i, .int j => if 0 < j then some (.sh (.int (i % j))) else none
  | _, _ => none
def oPow : D → D → Option RV
  | .int i, .int j => if 0 ≤ j ∧ j ≤ 1000000 ∧ i.natAbs < 2 ^ 64 then some (.sh (.int (i ^ j.toNat))) else none
  | _, _ => none
def oNeg : D → Option RV
  | .int i => some (.sh (.int (-i)))
  | _ => none
def oCmp (p : Int → Int → Bool) : D → D → Option RV
  | .int i, .int j => some (.sh (.bl (p i j)))
  | _, _ => none
def oLt := oCmp fun i j => decide (i < j)
def oLe := oCmp fun i j => decide (i ≤ j)
def oGt := oCmp fun i j => decide (j < i)
def oGe := oCmp fun i j => decide (j ≤ i)
def eqOk (x y : D) : Bool := x.pl && y.pl && SeqAt.shaped x.py && SeqAt.shaped y.py
def oEq (x y : D) : Option RV := if eqOk x y = true then some (.sh (.bl (PyData.eqv x.py y.py))) else none
def oNe (x y : D) : Option RV := if eqOk x y = true then some (.sh (.bl (!PyData.eqv x.py y.py))) else none
def isNon : D → Bool
  | .non => true
  | _ => false
def oIsN (x : D) : D → Option RV
  | .non => some (.sh (.bl (isNon x)))
  | _ => none
def oNotN (x : D) : D → Option RV
  | .non => some (.sh (.bl (!isNon x)))
  | _ => none
def flatD : D → Bool
  | .non | .bl _ | .int _ | .str _ => true
  | _ => false
def inD (x : D) : D → Option Bool
  | .lst ys => if eqOk x (.lst ys) = true then some (ys.any fun z => PyData.eqv z.py x.py) else none
  | .tup ys => if flatD x = true ∧ ys.all flatD = true then some (ys.any fun z => PyData.eqv z.py x.py) else none
  | _ => none
def oIn (x y : D) : Option RV := (inD x y).bind fun b => some (.sh (.bl b))
def oNotIn (x y : D) : Option RV := (inD x y).bind fun b => some (.sh (.bl (!b)))

section
variable {X : Cx} {g : Gn}
theorem op_of {f : Value → Value → Sem Value} {fd : D → D → Option RV} {r : R2} (ho : OpR X f r)
    (h : ∀ G H x y d e z Q, Same G H → Nw g G H x d → Nw g G H y e → fd d e = some z → (∀ G' H' v, EndsAt g G H z G' H' v → Q v H') → r x y H Q) : OpR X f (rOp g fd) := by
  intro pins s σ H x y v u Q I rx ry ⟨G, d, e, z, sG, n1, n2, hf, k⟩
  exact ho pins s σ H x y v u Q I rx ry (h G H x y d e z Q sG n1 n2 hf k)
theorem o_sub : OpR X (binaryOp .Sub) (rOp g oSub) := op_of op_sub fun G H x y d e z Q sG n1 n2 hf k => by
  unfold oSub at hf
  split at hf
  · cases hf; exact ⟨_, _, n1.int, n2.int, k G H _ (ends_val (.int _))⟩
  · cases hf
theorem o_mul : OpR X (binaryOp .Mult) (rOp g oMul) := op_of op_mulW fun G H x y d e z Q sG n1 n2 hf k => by
  unfold oMul at hf
  split at hf
  · split at hf
    · rename_i hc; cases hf; exact ⟨_, _, n1.int, n2.int, hc, k G H _ (ends_val (.int _))⟩
    · cases hf
  · cases hf
theorem o_div : OpR X (binaryOp .FloorDiv) (rOp g oDiv) := op_of op_fdivW fun G H x y d e z Q sG n1 n2 hf k => by
  unfold oDiv at hf
  split at hf
  · split at hf
    · rename_i hc; cases hf; exact ⟨_, _, n1.int, n2.int, hc, k G H _ (ends_val (.int _))⟩
    · cases hf
  · cases hf
theorem o_mod : OpR X (binaryOp .Mod) (rOp g oMod) := op_of op_mod fun G H x y d e z Q sG n1 n2 hf k => by
  unfold oMod at hf
  split at hf
  · split at hf
    · rename_i hc; cases hf; exact ⟨_, _, n1.int, n2.int, hc, k G H _ (ends_val (.int _))⟩
    · cases hf
  · cases hf
theorem o_pow : OpR X (binaryOp .Pow) (rOp g oPow) := op_of op_pow fun G H x y d e z Q sG n1 n2 hf k => by
  unfold oPow at hf
  split at hf
  · split at hf
    · rename_i hc; cases hf; exact ⟨_, _, n1.int, n2.int, hc, k G H _ (ends_val (.int _))⟩
    · cases hf
  · cases hf
theorem o_neg : UnR X (unaryOp .USub) (rOp1 g oNeg) := by
  intro pins s σ H x v Q I rx ⟨G, d, z, sG, n1, hf, k⟩
  refine un_neg pins s σ H x v Q I rx ?_
  unfold oNeg at hf
  split at hf
  · cases hf; exact ⟨_, n1.int, k G H _ (ends_val (.int _))⟩
  · cases hf
theorem OpR.or {f : Value → Value → Sem Value} {r r' : R2} (h : OpR X f r) (h' : OpR X f r') : OpR X f (fun x y H Q => r x y H Q ∨ r' x y H Q) := by
  intro pins s σ H x y v u Q I rx ry q
  rcases q with q | q
  · exact h pins s σ H x y v u Q I rx ry q
  · exact h' pins s σ H x y v u Q I rx ry q
theorem o_add (hK : X.K = g.K := by rfl) : OpR X (binaryOp .Add) (rOp g oAdd) := op_of (OpR.or (OpR.or op_add op_add_str) (OpR.or op_catA op_cat)) fun G H x y d e z Q sG n1 n2 hf k => by
  unfold oAdd at hf
  split at hf
  · cases hf; exact .inl (.inl ⟨_, _, n1.int, n2.int, k G H _ (ends_val (.int _))⟩)
  · split at hf
    · rename_i hc; cases hf; exact .inl (.inr ⟨_, _, n1.str, n2.str, hc, k G H _ (ends_val (.str _))⟩)
    · cases hf
  · split at hf
    · rename_i hc
      cases hf
      obtain ⟨a, us, rfl, h1, r1⟩ := n1.tup
      obtain ⟨b, ws, rfl, h2, r2⟩ := n2.tup
      rw [← hK] at h1 h2
      have h1' : SqT g.K G a us := by rw [← hK]; exact h1
      have h2' : SqT g.K G b ws := by rw [← hK]; exact h2
      refine .inr (.inl ⟨a, b, us, ws, rfl, rfl, Same.seqT sG h1, Same.seqT sG h2, by rw [r1.length, r2.length]; exact hc, fun e1 => ?_, fun e1 e2 => ?_, fun e1 e2 p hp => ?_⟩)
      · subst e1
        have e0 := r1.length
        have e0' : _ = [] := List.length_eq_zero_iff.mp e0.symm
        subst e0'
        exact k G H _ (ends_val (.tup h2' r2))
      · subst e2
        have e0 := r2.length
        have e0' : _ = [] := List.length_eq_zero_iff.mp e0.symm
        subst e0'
        rw [List.append_nil] at k
        exact k G H _ (ends_val (.tup h1' r1))
      · exact k _ _ _ (ends_tup sG hp (r1.append r2))
    · cases hf
  · split at hf
    · rename_i hc
      cases hf
      obtain ⟨a, us, rfl, h1, r1⟩ := n1.lst sG
      obtain ⟨b, ws, rfl, h2, r2⟩ := n2.lst sG
      exact .inr (.inr ⟨a, b, us, ws, rfl, rfl, h1, h2, by rw [r1.length, r2.length]; exact hc, fun p hp => k _ _ _ (ends_lst hp (r1.append r2))⟩)
    · cases hf
  · cases hf
theorem o_cmpI {op : CmpOp} {p : Int → Int → Bool} (ho : OpR X (compareOp op) (rI0 fun i j => .bl (p i j))) : OpR X (compareOp op) (rOp g (oCmp p)) := op_of ho fun G H x y d e z Q sG n1 n2 hf k => by
  unfold oCmp at hf
  split at hf
  · cases hf; exact ⟨_, _, n1.int, n2.int, k G H _ (ends_val (.bl _))⟩
  · cases hf
theorem o_lt : OpR X (compareOp .Lt) (rOp g oLt) := o_cmpI op_lt
theorem o_le : OpR X (compareOp .LtE) (rOp g oLe) := o_cmpI op_le
theorem o_gt : OpR X (compareOp .Gt) (rOp g oGt) := o_cmpI op_gt
theorem o_ge : OpR X (compareOp .GtE) (rOp g oGe) := o_cmpI op_ge
theorem eqOk_dp {G H : Hp} {x y : V} {d e : D} (h : eqOk d e = true) (sG : Same G H) (n1 : Nw g G H x d) (n2 : Nw g G H y e) : Dp g.K H x d.py ∧ Dp g.K H y e.py ∧ SeqAt.shaped d.py = true ∧ SeqAt.shaped e.py = true := by
  unfold eqOk at h
  simp only [Bool.and_eq_true] at h
  exact ⟨Rp.dp _ _ h.1.1.1 (n1.rp sG), Rp.dp _ _ h.1.1.2 (n2.rp sG), h.1.2, h.2⟩
theorem o_eq (hu : X.A.units + 64 < cLine) (hK : X.K = g.K := by rfl) : OpR X (compareOp .Eq) (rOp g oEq) := op_of (op_eqD hu) fun G H x y d e z Q sG n1 n2 hf k => by
  unfold oEq at hf
  split at hf
  · rename_i hc
    cases hf
    obtain ⟨h1, h2, h3, h4⟩ := eqOk_dp hc sG n1 n2
    rw [← hK] at h1 h2
    exact ⟨_, _, h1, h2, h3, h4, k G H _ (ends_val (.bl _))⟩
  · cases hf
theorem o_ne (hu : X.A.units + 64 < cLine) (hK : X.K = g.K := by rfl) : OpR X (compareOp .NotEq) (rOp g oNe) := op_of (op_neD hu) fun G H x y d e z Q sG n1 n2 hf k => by
  unfold oNe at hf
  split at hf
  · rename_i hc
    cases hf
    obtain ⟨h1, h2, h3, h4⟩ := eqOk_dp hc sG n1 n2
    rw [← hK] at h1 h2
    exact ⟨_, _, h1, h2, h3, h4, k G H _ (ends_val (.bl _))⟩
  · cases hf
theorem isNon_v {G H : Hp} {x : V} {d : D} (n : Nw g G H x d) : decide (x = .non) = isNon d := by
  cases d with
  | non => rw [n.non]; rfl
  | bl b => rw [n.bl]; rfl
  | int i => rw [n.int]; rfl
  | str i => rw [n.str]; rfl
  | tup ds => obtain ⟨a, us, rfl, _⟩ := n.tup; rfl
  | lst ds =>
    rcases n with h | ⟨a, o, rfl, e, m⟩
    · cases h; rfl
    · rfl
  | dic ds =>
    rcases n with h | ⟨a, o, rfl, e, m⟩
    · cases h; rfl
    · rfl
  | ins c ds =>
    rcases n with h | ⟨a, o, rfl, e, m⟩
    · cases h; rfl
    · rfl
  | scr ds => obtain ⟨a, rfl, _⟩ := n.scr; rfl
theorem o_isN : OpR X (compareOp .Is) (rOp g oIsN) := op_of op_isN fun G H x y d e z Q sG n1 n2 hf k => by
  unfold oIsN at hf
  split at hf
  · cases hf
    refine ⟨n2.non, ?_⟩
    rw [isNon_v n1]
    exact k G H _ (ends_val (.bl _))
  · cases hf
theorem o_notN : OpR X (compareOp .IsNot) (rOp g oNotN) := op_of op_notN fun G H x y d e z Q sG n1 n2 hf k => by
  unfold oNotN at hf
  split at hf
  · cases hf
    refine ⟨n2.non, ?_⟩
    rw [isNon_v n1]
    exact k G H _ (ends_val (.bl _))
  · cases hf
theorem flat_v {G : Hp} {x : V} {d : D} (h : Rp g G x d) (f : flatD d = true) : flatV x = true := by
  cases d <;> first | (cases h; rfl) | cases f
theorem flat_all {G : Hp} : ∀ {xs : List V} {ds : List D}, RpA g G xs ds → ds.all flatD = true → xs.all flatV = true
  | _, _, .nil, _ => rfl
  | _, _, .cons a b, f => by
    rw [List.all_cons, Bool.and_eq_true] at f ⊢
    exact ⟨flat_v a f.1, flat_all b f.2⟩
theorem flat_eq {G : Hp} {x y : V} {d e : D} (h : Rp g G x d) (h' : Rp g G y e) (f : flatD d = true) (f' : flatD e = true) : eqV y x = PyData.eqv e.py d.py := by
  cases d <;> first | cases f | skip
  all_goals (cases e <;> first | cases f' | skip)
  all_goals (cases h; cases h'; simp [eqV, D.py, PyData.eqv])
theorem flat_any {G : Hp} {x : V} {d : D} (h : Rp g G x d) (f : flatD d = true) : ∀ {xs : List V} {ds : List D}, RpA g G xs ds → ds.all flatD = true → inV x xs = ds.any fun z => PyData.eqv z.py d.py
  | _, _, .nil, _ => rfl
  | _, _, .cons (v := v) (d := e) a b, f' => by
    rw [List.all_cons, Bool.and_eq_true] at f'
    have ih := flat_any h f b f'.2
    unfold inV at ih ⊢
    rw [List.any_cons, List.any_cons, ih, flat_eq h a f f'.1]
theorem nw_flat {G H : Hp} {x : V} {d : D} (n : Nw g G H x d) (f : flatD d = true) : Rp g G x d := by
  rcases n with h | ⟨a, o, rfl, rfl, m⟩
  · exact h
  · cases o <;> cases f
theorem inD_r {K : PySem.W.Frag} {G H : Hp} {x y : V} {d e : D} {b : Bool} {Q : VK} (hK : K = g.K) (sG : Same G H) (n1 : Nw g G H x d) (n2 : Nw g G H y e) (h : inD d e = some b) {neg : Bool} (q : Q (.bl (if neg = true then !b else b)) H) :
    (if neg = true then rNotInD K x y H Q else rInD K x y H Q) ∨ rIn K neg x y H Q := by
  unfold inD at h
  split at h
  · split at h
    · rename_i hc
      cases h
      obtain ⟨h1, h2, h3, h4⟩ := eqOk_dp hc sG n1 n2
      rw [← hK] at h1 h2
      have ep : ∀ zs : List D, (D.pys zs).any (fun z => PyData.eqv z d.py) = zs.any fun z => PyData.eqv z.py d.py := fun zs => by rw [pys_map, List.any_map]; rfl
      rw [D.py] at h2 h4
      refine .inl ?_
      cases neg with
      | true => exact ⟨_, _, h1, h2, h3, h4, by rw [ep]; exact q⟩
      | false => exact ⟨_, _, h1, h2, h3, h4, by rw [ep]; exact q⟩
    · cases h
  · split at h
    · rename_i hc
      cases h
      obtain ⟨a, us, rfl, h2, r2⟩ := n2.tup
      have r1 := nw_flat n1 hc.1
      refine .inr ⟨a, us, rfl, .inr (Same.seqT sG (by rw [hK]; exact h2)), flat_v r1 hc.1, flat_all r2 hc.2, ?_⟩
      rw [flat_any r1 hc.1 r2 hc.2]
      cases neg with
      | true => exact q
      | false => exact q
    · cases h
  · cases h
theorem o_in (hu : X.A.units + 65 < cLine) (hK : X.K = g.K := by rfl) : OpR X (compareOp .In) (rOp g oIn) := op_of (OpR.or (op_inD hu) op_in_seq) fun G H x y d e z Q sG n1 n2 hf k => by
  unfold oIn at hf
  obtain ⟨b, hb, hf⟩ := bind_some hf
  cases hf
  exact inD_r (neg := false) hK sG n1 n2 hb (k G H _ (ends_val (.bl _)))
theorem o_notIn (hu : X.A.units + 65 < cLine) (hK : X.K = g.K := by rfl) : OpR X (compareOp .NotIn) (rOp g oNotIn) := op_of (OpR.or (op_notInD hu) op_notIn_seq) fun G H x y d e z Q sG n1 n2 hf k => by
  unfold oNotIn at hf
  obtain ⟨b, hb, hf⟩ := bind_some hf
  cases hf
  exact inD_r (neg := true) hK sG n1 n2 hb (k G H _ (ends_val (.bl _)))
end

/-! ### subscripts -/
def oIx : D → D → Option RV
  | .lst xs, .int i => (atI xs i).bind fun d => some (.sh d)
  | .tup xs, .int i => (atI xs i).bind fun d => some (.sh d)
  | .str z, .int i => if z.length ≤ sizeLine then (atI z.cps.toList i).bind fun c => some (.sh (.str ⟨#[c]⟩)) else none
  | .scr ns, .int i => (atI ns i).bind fun d => some (.sh (.int d))
  | _, _ => none
theorem atI_rp {g : Gn} {G : Hp} {us : List V} {ds : List D} {i : Int} {d : D} (r : RpA g G us ds) (h : atI ds i = some d) : ∃ v, atI us i = some v ∧ Rp g G v d := by
  unfold atI at h ⊢
  rw [r.length]
  obtain ⟨j, h1, h2⟩ := bind_some h
  obtain ⟨v, h3, h4⟩ := r.get h2
  exact ⟨v, by rw [h1]; exact h3, h4⟩
section
variable {X : Cx} {g : Gn}
theorem ix_of {fd : D → D → Option RV} {r : R2} (ho : IxR X r)
    (h : ∀ G H x y d e z Q, Same G H → Nw g G H x d → Nw g G H y e → fd d e = some z → (∀ G' H' v, EndsAt g G H z G' H' v → Q v H') → r x y H Q) : IxR X (rOp g fd) := by
  intro value slice pins s σ H x y v u Q I rx ry ⟨G, d, e, z, sG, n1, n2, hf, k⟩
  exact ho value slice pins s σ H x y v u Q I rx ry (h G H x y d e z Q sG n1 n2 hf k)
theorem o_ix (hK : X.K = g.K := by rfl) : IxR X (rOp g oIx) := ix_of (IxR.or (IxR.or ix_list ix_tup) ix_str) fun G H x y d e z Q sG n1 n2 hf k => by
  unfold oIx at hf
  split at hf
  · obtain ⟨d, h1, hf⟩ := bind_some hf
    cases hf
    obtain ⟨a, us, rfl, h2, r⟩ := n1.lst sG
    obtain ⟨v, h3, h4⟩ := atI_rp r h1
    exact .inl (.inl ⟨a, us, _, v, rfl, n2.int, .of h2, h3, k G H _ (ends_val h4)⟩)
  · obtain ⟨d, h1, hf⟩ := bind_some hf
    cases hf
    obtain ⟨a, us, rfl, h2, r⟩ := n1.tup
    obtain ⟨v, h3, h4⟩ := atI_rp r h1
    exact .inl (.inr ⟨a, us, _, v, rfl, n2.int, Same.seqT sG (by rw [hK]; exact h2), h3, k G H _ (ends_val h4)⟩)
  · split at hf
    · rename_i hz
      obtain ⟨c, h1, hf⟩ := bind_some hf
      cases hf
      exact .inr ⟨_, _, c, n1.str, n2.int, hz, h1, k G H _ (ends_val (.str _))⟩
    · cases hf
  · rename_i ns i
    obtain ⟨d, h1, hf⟩ := bind_some hf
    cases hf
    obtain ⟨a, rfl, h2⟩ := n1.scr
    refine .inl (.inl ⟨a, ns.map V.int, _, .int d, rfl, n2.int, sG.seq (by rw [hK]; exact h2), ?_, k G H _ (ends_val (.int _))⟩)
    unfold atI at h1 ⊢
    obtain ⟨j, h3, h4⟩ := bind_some h1
    rw [List.length_map, h3]
    show (ns.map V.int)[j]? = _
    rw [List.getElem?_map, h4]
    rfl
  · cases hf
end

/-! ### slices -/
def cutD {α : Type} (xs : List α) (lo hi : Option Int) : List α := (xs.drop (HT.sIx xs.length 0 lo)).take (HT.sIx xs.length xs.length hi - HT.sIx xs.length 0 lo)
def oSl (lo hi : Option Int) : D → Option RV
  | .lst xs => some (.fr (.lst (cutD xs lo hi)))
  | .tup xs => some (.sh (.tup (cutD xs lo hi)))
  | .str z => if z.length ≤ sizeLine then some (.sh (.str (cutS z lo hi))) else none
  | .scr ns => some (.fr (.lst (cutD (ns.map D.int) lo hi)))
  | _ => none
theorem cut_rp {g : Gn} {G : Hp} {us : List V} {ds : List D} (r : RpA g G us ds) (lo hi : Option Int) : RpA g G (cutV us lo hi) (cutD ds lo hi) := by
  unfold cutV cutD
  rw [r.length]
  exact (r.drop _).take _
theorem ints_rp {g : Gn} {G : Hp} : ∀ ns : List Int, RpA g G (ns.map V.int) (ns.map D.int)
  | [] => .nil
  | n :: ns => .cons (.int n) (ints_rp ns)
theorem strs_rp {g : Gn} {G : Hp} : ∀ ns : List Str, RpA g G (ns.map V.str) (ns.map D.str)
  | [] => .nil
  | n :: ns => .cons (.str n) (strs_rp ns)
def rSl (g : Gn) : V → Option Int → Option Int → Hp → VK → Prop := fun x lo hi H Q => ∃ (G : Hp) (d : D) (r : RV), Same G H ∧ Nw g G H x d ∧ oSl lo hi d = some r ∧ ∀ G' H' v, EndsAt g G H r G' H' v → Q v H'
theorem cut_all {α : Type} {xs : List α} {lo hi : Option Int} (h : HT.sIx xs.length 0 lo = 0 ∧ HT.sIx xs.length xs.length hi = xs.length) : cutD xs lo hi = xs := by
  unfold cutD
  rw [h.1, h.2, List.drop_zero, Nat.sub_zero, List.take_length]
theorem o_sl {X : Cx} {g : Gn} (hK : X.K = g.K := by rfl) : SlR X (rSl g) := by
  intro pins s σ H x v vl vu lo hi sl Q I rx hs pl pu ⟨G, d, r, sG, n, hf, k⟩
  refine SlR.or (SlR.or sl_list sl_tupA) sl_str pins s σ H x v vl vu lo hi sl Q I rx hs pl pu ?_
  unfold oSl at hf
  split at hf
  · cases hf
    obtain ⟨a, us, rfl, h2, r⟩ := n.lst sG
    exact .inl (.inl ⟨a, us, rfl, .of h2, fun p hp => k _ _ _ (ends_lst hp (cut_rp r lo hi))⟩)
  · cases hf
    obtain ⟨a, us, rfl, h2, r⟩ := n.tup
    refine .inl (.inr ⟨a, us, rfl, Same.seqT sG (by rw [hK]; exact h2), fun e => ?_, fun e p hp => k _ _ _ (ends_tup sG hp (cut_rp r lo hi))⟩)
    rw [r.length] at e
    rw [cut_all e] at k
    exact k G H _ (ends_val (.tup h2 r))
  · split at hf
    · rename_i hz
      cases hf
      exact .inr ⟨_, n.str, hz, k G H _ (ends_val (.str _))⟩
    · cases hf
  · rename_i ns
    cases hf
    obtain ⟨a, rfl, h2⟩ := n.scr
    exact .inl (.inl ⟨a, ns.map V.int, rfl, sG.seq (by rw [hK]; exact h2), fun p hp => k _ _ _ (ends_lst hp (cut_rp (ints_rp ns) lo hi))⟩)
  · cases hf
/-- a slice's part: nothing, or an int -/
abbrev MO' := Rho → Option (Option Int × Rho)
def tO (g : Gn) (m : MO') : TO := fun σ H Q => ∃ (c : Cn) (G : Hp) (ρ : Rho) (o : Option Int) (ρ' : Rho), Rel g c G H ρ σ ∧ m ρ = some (o, ρ') ∧ ∀ G' H', Same G G' → Rel g c G' H' ρ' σ → Q o H'
def mNo : MO' := fun ρ => some (none, ρ)
def intOf : D → Option Int
  | .int i => some i
  | _ => none
def mSo (m : M AV) : MO' := fun ρ => (m ρ).bind fun p => (look p.2 p.1).bind fun d => (intOf d).bind fun i => some (some i, p.2)
def mSl (a : M AV) (l h : MO') : M RV := fun ρ => (a ρ).bind fun p => (l p.2).bind fun q => (h q.2).bind fun r => (look r.2 p.1).bind fun d => (oSl q.1 r.1 d).bind fun z => some (z, r.2)
section
variable {X : Cx} {g : Gn} {e : Expr} {m : M AV}
theorem o_none : PO X none (tO g mNo) := ⟨fun pins s σ H Q I ⟨c, G, ρ, o, ρ', R, hm, q⟩ => by
  cases hm
  exact po_none.run pins s σ H Q I (q G H (Same.refl _) R)⟩
theorem o_some (h : PE X e (tV g m)) : PO X (some e) (tO g (mSo m)) := ⟨fun pins s σ H Q I ⟨c, G, ρ, o, ρ', R, hm, q⟩ => by
  obtain ⟨p, h1, hm⟩ := bind_some hm
  obtain ⟨d, h2, hm⟩ := bind_some hm
  obtain ⟨i, h3, hm⟩ := bind_some hm
  cases hm
  refine (po_some h).run pins s σ H Q I ⟨c, G, ρ, p.1, p.2, R, h1, fun G' H' v s' R' a => ?_⟩
  have n := nw_of R' a h2
  cases d <;> first | cases h3 | skip
  exact ⟨i, n.int, q G' H' s' R'⟩⟩
theorem f_sl {a : Expr} {ma : M AV} {lo hi : Option Expr} {ml mh : MO'} {p2 pos : Pos} (hK : X.K = g.K := by rfl) (ha : PE X a (tV g ma)) (hl : PO X lo (tO g ml)) (hh : PO X hi (tO g mh)) : PE X (.Subscript a (.Slice lo hi none p2) pos) (tF g (mSl ma ml mh)) :=
  (pe_slice (o_sl hK) ha hl hh).ofM fun σ H Q ⟨c, G, ρ, r, ρ', R, hm, q⟩ => by
    obtain ⟨p, h1, hm⟩ := bind_some hm
    obtain ⟨l, h2, hm⟩ := bind_some hm
    obtain ⟨u, h3, hm⟩ := bind_some hm
    obtain ⟨d, h4, hm⟩ := bind_some hm
    obtain ⟨z, h5, hm⟩ := bind_some hm
    cases hm
    refine ⟨c, G, ρ, p.1, p.2, R, h1, fun G1 H1 v s1 R1 a1 => ⟨c, G1, p.2, l.1, l.2, R1, h2, fun G2 H2 s2 R2 => ⟨c, G2, l.2, u.1, u.2, R2, h3, fun G3 H3 s3 R3 => ?_⟩⟩⟩
    refine ⟨G3, d, r, R3.sG, nw_of R3 ((a1.mono s2).mono s3) h4, h5, fun G4 H4 w hE => ?_⟩
    obtain ⟨s4, R4, a4⟩ := R3.ends hE
    exact q G4 H4 w (((s1.trans s2).trans s3).trans s4) R4 a4
end
end L2.My

end
section
set_option Elab.async false
set_option linter.all false
set_option autoImplicit false
set_option maxRecDepth 100000
set_option maxHeartbeats 4000000
/-! Ml3: displays, calls of built-ins, statements, loops. -/
namespace L2.My
open PySem PySem.Spec PyProof.Rows

/-! ### displays -/
def tAr (g : Gn) (m : M (List D)) : TA := fun σ H Q => ∃ (c : Cn) (G : Hp) (ρ : Rho) (ds : List D) (ρ' : Rho), Rel g c G H ρ σ ∧ m ρ = some (ds, ρ') ∧
  ∀ G' H' vs, Same G G' → Rel g c G' H' ρ' σ → RpA g G' vs ds → Q vs H'
def mNil : M (List D) := fun ρ => some ([], ρ)
def mCons (a : M D) (r : M (List D)) : M (List D) := fun ρ => (a ρ).bind fun p => (r p.2).bind fun q => some (p.1 :: q.1, q.2)
def mTup (m : M (List D)) : M RV := fun ρ => (m ρ).bind fun p => if p.1.length ≤ 64 then some (.sh (.tup p.1), p.2) else none
def mLst (m : M (List D)) : M RV := fun ρ => (m ρ).bind fun p => if p.1.length ≤ 64 then some (.fr (.lst p.1), p.2) else none
theorem le64 {n : Nat} (h : n ≤ 64) : n ≤ sizeLine := by rw [sizeLine_eq]; omega
theorem PA.ofM {X : Cx} {es : List Expr} {t t' : TA} (h : PA X es t) (i : ∀ σ H Q, t' σ H Q → t σ H Q) : PA X es t' := ⟨fun pos pins s σ H Q I q => h.run pos pins s σ H Q I (i σ H Q q)⟩
section
variable {X : Cx} {e : Expr} {es : List Expr} {g : Gn} {m : M D} {ms : M (List D)} {pos : Pos}
theorem a_nil : PA X [] (tAr g mNil) := PA.ofM pa_nil fun σ H Q ⟨c, G, ρ, ds, ρ', R, hm, q⟩ => by
  cases hm
  exact q G H [] (Same.refl _) R .nil
theorem a_cons (ha : PE X e (tE g m)) (hr : PA X es (tAr g ms)) (hs : starEach (e :: es) X.env = (false, eval e X.env) :: starEach es X.env := by rfl) : PA X (e :: es) (tAr g (mCons m ms)) :=
  PA.ofM (pa_cons ha hr hs) fun σ H Q ⟨c, G, ρ, ds, ρ', R, hm, q⟩ => by
    obtain ⟨p, h1, hm⟩ := bind_some hm
    obtain ⟨p2, h2, hm⟩ := bind_some hm
    cases hm
    exact ⟨c, G, ρ, p.1, p.2, R, h1, fun G1 H1 v s1 R1 a1 => ⟨c, G1, p.2, p2.1, p2.2, R1, h2, fun G2 H2 vs s2 R2 a2 => q G2 H2 (v :: vs) (s1.trans s2) R2 (.cons (a1.mono s2) a2)⟩⟩
theorem f_tup {k : Nat} (h : PA X es (tAr g ms)) : PE X (.Tuple es k pos) (tF g (mTup ms)) := (pe_tup h).ofM fun σ H Q ⟨c, G, ρ, r, ρ', R, hm, q⟩ => by
  obtain ⟨p, h1, hm⟩ := bind_some hm
  split at hm
  · rename_i hl
    cases hm
    refine ⟨c, G, ρ, p.1, p.2, R, h1, fun G1 H1 vs s1 R1 a1 => ⟨by rw [a1.length]; exact le64 hl, fun pp hp => ?_⟩⟩
    obtain ⟨s2, R2, a2⟩ := R1.ends (ends_tup R1.sG hp a1)
    exact q _ _ _ (s1.trans s2) R2 a2
  · cases hm
theorem f_lst (h : PA X es (tAr g ms)) : PE X (.List es pos) (tF g (mLst ms)) := (pe_lst h).ofM fun σ H Q ⟨c, G, ρ, r, ρ', R, hm, q⟩ => by
  obtain ⟨p, h1, hm⟩ := bind_some hm
  split at hm
  · rename_i hl
    cases hm
    refine ⟨c, G, ρ, p.1, p.2, R, h1, fun G1 H1 vs s1 R1 a1 => ⟨by rw [a1.length]; exact le64 hl, fun pp hp => ?_⟩⟩
    obtain ⟨s2, R2, a2⟩ := R1.ends (ends_lst hp a1)
    exact q _ _ _ (s1.trans s2) R2 a2
  · cases hm
end

/-! ### calls of built-ins by name -/
section
variable {X : Cx} {g : Gn} {a b : Expr} {ma mb : M AV} {x : Str} {p pos : Pos} {id T : String} {f1 : D → Option RV} {f2 : D → D → Option RV}
theorem call1_t {σ : L2.St} {H : Hp} {Q : VK} {r : List V → Hp → VK → Prop} (hr : ∀ y H1, rOp1 g f1 y H1 Q → r [y] H1 Q) (h : tF g (m1 f1 ma) σ H Q) : tCB r (tCons (tV g ma) tNil) σ H Q := by
  have h' := one_t h
  obtain ⟨c, G, ρ, av, ρ', R, hm, q⟩ := h'
  exact ⟨c, G, ρ, av, ρ', R, hm, fun G' H' v s R' a => hr _ _ (q G' H' v s R' a)⟩
theorem call2_t {σ : L2.St} {H : Hp} {Q : VK} {r : List V → Hp → VK → Prop} (hr : ∀ y z H1, rOp g f2 y z H1 Q → r [y, z] H1 Q) (h : tF g (m2 f2 ma mb) σ H Q) : tCB r (tCons (tV g ma) (tCons (tV g mb) tNil)) σ H Q := by
  have h' := two_t h
  obtain ⟨c, G, ρ, av, ρ', R, hm, q⟩ := h'
  refine ⟨c, G, ρ, av, ρ', R, hm, fun G' H' v s R' a => ?_⟩
  obtain ⟨c2, G2, ρ2, av2, ρ2', R2, hm2, q2⟩ := q G' H' v s R' a
  exact ⟨c2, G2, ρ2, av2, ρ2', R2, hm2, fun G3 H3 w s3 R3 a3 => hr _ _ _ (q2 G3 H3 w s3 R3 a3)⟩
theorem f_call1 {r : List V → Hp → VK → Prop} (hc : CallR X (.builtin id) r) (hr : ∀ y H1 Q, rOp1 g f1 y H1 Q → r [y] H1 Q) (hg : Gl X x) (hm : X.mg x = none) (hv : bootBuiltins x = some (.builtin id)) (ha : PE X a (tV g ma))
    (hn : x ≠ "__name__" := by decide) (hdb : (x == ("__debug__" : Str)) = false := by decide) (he : starEach [a] X.env = (false, eval a X.env) :: starEach [] X.env := by rfl) (hpl : (backTo pos (starEach [] X.env)).any (·.1) = false := by rfl) :
    PE X (.Call (.Name x p) [a] [] pos) (tF g (m1 f1 ma)) := (pe_callB hc hg hm hv (pa_cons ha pa_nil he) hn hdb he hpl).ofM fun σ H Q h => call1_t (fun y H1 => hr y H1 Q) h
theorem f_callT1 {r : List V → Hp → VK → Prop} (hc : CallR X (.type T) r) (hr : ∀ y H1 Q, rOp1 g f1 y H1 Q → r [y] H1 Q) (hg : Gl X x) (hm : X.mg x = none) (hv : bootBuiltins x = some (.type T)) (ha : PE X a (tV g ma))
    (hn : x ≠ "__name__" := by decide) (hdb : (x == ("__debug__" : Str)) = false := by decide) (he : starEach [a] X.env = (false, eval a X.env) :: starEach [] X.env := by rfl) (hpl : (backTo pos (starEach [] X.env)).any (·.1) = false := by rfl) :
    PE X (.Call (.Name x p) [a] [] pos) (tF g (m1 f1 ma)) := (pe_callTy hc hg hm hv (pa_cons ha pa_nil he) hn hdb he hpl).ofM fun σ H Q h => call1_t (fun y H1 => hr y H1 Q) h
theorem f_call2 {r : List V → Hp → VK → Prop} (hc : CallR X (.builtin id) r) (hr : ∀ y z H1 Q, rOp g f2 y z H1 Q → r [y, z] H1 Q) (hg : Gl X x) (hm : X.mg x = none) (hv : bootBuiltins x = some (.builtin id)) (ha : PE X a (tV g ma)) (hb : PE X b (tV g mb))
    (hn : x ≠ "__name__" := by decide) (hdb : (x == ("__debug__" : Str)) = false := by decide) (he : starEach [a, b] X.env = (false, eval a X.env) :: starEach [b] X.env := by rfl) (he2 : starEach [b] X.env = (false, eval b X.env) :: starEach [] X.env := by rfl) (hpl : (backTo pos (starEach [b] X.env)).any (·.1) = false := by rfl) :
    PE X (.Call (.Name x p) [a, b] [] pos) (tF g (m2 f2 ma mb)) := (pe_callB hc hg hm hv (pa_cons ha (pa_cons hb pa_nil he2) he) hn hdb he hpl).ofM fun σ H Q h => call2_t (fun y z H1 => hr y z H1 Q) h
end

def oLen : D → Option RV
  | .lst xs => some (.sh (.int xs.length))
  | .tup xs => some (.sh (.int xs.length))
  | .scr xs => some (.sh (.int xs.length))
  | .str z => if z.length ≤ sizeLine then some (.sh (.int z.length)) else none
  | .dic kd => some (.sh (.int kd.length))
  | _ => none
def oAbs : D → Option RV
  | .int i => some (.sh (.int (if i < 0 then -i else i)))
  | _ => none
def oInt : D → Option RV
  | .int i => some (.sh (.int i))
  | .bl b => some (.sh (.int (if b then 1 else 0)))
  | _ => none
def oStr : D → Option RV
  | .int i => if i.natAbs.log2 < 1920 then some (.sh (.str (toString i))) else none
  | _ => none
def oMax : D → D → Option RV
  | .int i, .int j => some (.sh (.int (if j > i then j else i)))
  | _, _ => none
def oMin : D → D → Option RV
  | .int i, .int j => some (.sh (.int (if j < i then j else i)))
  | _, _ => none
def oList : D → Option RV
  | .lst xs => some (.fr (.lst xs))
  | .tup xs => some (.fr (.lst xs))
  | .scr xs => some (.fr (.lst (xs.map D.int)))
  | _ => none
def oTuple : D → Option RV
  | .lst xs => some (.sh (.tup xs))
  | .tup xs => some (.sh (.tup xs))
  | _ => none
theorem RpK.length {g : Gn} {G : Hp} : ∀ {kv : List (Key × V)} {kd : List (Key × D)}, RpK g G kv kd → kv.length = kd.length
  | _, _, .nil => rfl
  | _, _, .cons _ b => congrArg (· + 1) b.length
section
variable {X : Cx} {g : Gn}
theorem CallR.or {f : Value} {r r' : List V → Hp → VK → Prop} (h : CallR X f r) (h' : CallR X f r') : CallR X f (fun x H Q => r x H Q ∨ r' x H Q) := by
  intro pins s σ H x v Q I rx q
  rcases q with q | q
  · exact h pins s σ H x v Q I rx q
  · exact h' pins s σ H x v Q I rx q
theorem c_len_len {kv : List (Key × V)} {kd : List (Key × D)} {G : Hp} (r : RpK g G kv kd) : kv.length = kd.length := r.length
/-- len -/
def rLen (K : PySem.W.Frag) : List V → Hp → VK → Prop := fun xs H Q => (∃ p ys, xs = [.ref p] ∧ (SqL K H p ys ∨ SqT K H p ys) ∧ Q (.int ys.length) H) ∨ (∃ z, xs = [.str z] ∧ z.length ≤ sizeLine ∧ Q (.int z.length) H)
theorem c_len : CallR X (.builtin "len") (rLen X.K) := CallR.or call_len_seq call_len_str
def oLen' : D → Option RV
  | .dic _ => none
  | d => oLen d
theorem r_len (hK : X.K = g.K) (y : V) (H1 : Hp) (Q : VK) (h : rOp1 g oLen' y H1 Q) : rLen X.K [y] H1 Q := by
  obtain ⟨G, d, r, sG, n, hf, k⟩ := h
  cases d with
  | lst xs =>
    cases hf
    obtain ⟨a, us, rfl, h2, r⟩ := n.lst sG
    refine .inl ⟨a, us, rfl, .inl (.of h2), ?_⟩
    rw [r.length]
    exact k _ _ _ (ends_val (.int _))
  | tup xs =>
    cases hf
    obtain ⟨a, us, rfl, h2, r⟩ := n.tup
    refine .inl ⟨a, us, rfl, .inr (Same.seqT sG (by rw [hK]; exact h2)), ?_⟩
    rw [r.length]
    exact k _ _ _ (ends_val (.int _))
  | scr xs =>
    cases hf
    obtain ⟨a, rfl, h2⟩ := n.scr
    refine .inl ⟨a, _, rfl, .inl (sG.seq (by rw [hK]; exact h2)), ?_⟩
    rw [List.length_map]
    exact k _ _ _ (ends_val (.int _))
  | str z =>
    simp only [oLen', oLen] at hf
    split at hf
    · rename_i hz
      cases hf
      exact .inr ⟨z, by rw [n.str], hz, k _ _ _ (ends_val (.int _))⟩
    · cases hf
  | _ => cases hf
def rInt : List V → Hp → VK → Prop := fun xs H Q => (∃ i, xs = [.int i] ∧ Q (.int i) H) ∨ ∃ k, xs = [.bl k] ∧ Q (.int (if k then 1 else 0)) H
theorem r_int (y : V) (H1 : Hp) (Q : VK) (h : rOp1 g oInt y H1 Q) : rInt [y] H1 Q := by
  obtain ⟨G, d, r, sG, n, hf, k⟩ := h
  unfold oInt at hf
  split at hf
  · cases hf; exact .inl ⟨_, by rw [n.int], k _ _ _ (ends_val (.int _))⟩
  · cases hf; exact .inr ⟨_, by rw [n.bl], k _ _ _ (ends_val (.int _))⟩
  · cases hf
theorem r_abs (y : V) (H1 : Hp) (Q : VK) (h : rOp1 g oAbs y H1 Q) : ∃ i, [y] = [V.int i] ∧ Q (.int (if i < 0 then -i else i)) H1 := by
  obtain ⟨G, d, r, sG, n, hf, k⟩ := h
  unfold oAbs at hf
  split at hf
  · cases hf; exact ⟨_, by rw [n.int], k _ _ _ (ends_val (.int _))⟩
  · cases hf
theorem r_str (y : V) (H1 : Hp) (Q : VK) (h : rOp1 g oStr y H1 Q) : ∃ i, [y] = [V.int i] ∧ i.natAbs.log2 < 1920 ∧ Q (.str (toString i)) H1 := by
  obtain ⟨G, d, r, sG, n, hf, k⟩ := h
  unfold oStr at hf
  split at hf
  · split at hf
    · rename_i hz; cases hf; exact ⟨_, by rw [n.int], hz, k _ _ _ (ends_val (.str _))⟩
    · cases hf
  · cases hf
theorem r_max (y z : V) (H1 : Hp) (Q : VK) (h : rOp g oMax y z H1 Q) : ∃ i j, [y, z] = [V.int i, V.int j] ∧ Q (.int (if j > i then j else i)) H1 := by
  obtain ⟨G, d, e, r, sG, n, n2, hf, k⟩ := h
  unfold oMax at hf
  split at hf
  · cases hf; exact ⟨_, _, by rw [n.int, n2.int], k _ _ _ (ends_val (.int _))⟩
  · cases hf
theorem r_min (y z : V) (H1 : Hp) (Q : VK) (h : rOp g oMin y z H1 Q) : ∃ i j, [y, z] = [V.int i, V.int j] ∧ Q (.int (if j < i then j else i)) H1 := by
  obtain ⟨G, d, e, r, sG, n, n2, hf, k⟩ := h
  unfold oMin at hf
  split at hf
  · cases hf; exact ⟨_, _, by rw [n.int, n2.int], k _ _ _ (ends_val (.int _))⟩
  · cases hf
theorem r_list (hK : X.K = g.K) (y : V) (H1 : Hp) (Q : VK) (h : rOp1 g oList y H1 Q) : ∃ p ys, [y] = [V.ref p] ∧ (SqL X.K H1 p ys ∨ SqT X.K H1 p ys) ∧ ∀ l, H1 l = none → Q (.ref l) (upd H1 l (.lst ys)) := by
  obtain ⟨G, d, r, sG, n, hf, k⟩ := h
  unfold oList at hf
  split at hf
  · cases hf
    obtain ⟨a, us, rfl, h2, r⟩ := n.lst sG
    exact ⟨a, us, rfl, .inl (.of h2), fun l hl => k _ _ _ (ends_lst hl r)⟩
  · cases hf
    obtain ⟨a, us, rfl, h2, r⟩ := n.tup
    exact ⟨a, us, rfl, .inr (Same.seqT sG (by rw [hK]; exact h2)), fun l hl => k _ _ _ (ends_lst hl r)⟩
  · cases hf
    obtain ⟨a, rfl, h2⟩ := n.scr
    exact ⟨a, _, rfl, .inl (sG.seq (by rw [hK]; exact h2)), fun l hl => k _ _ _ (ends_lst hl (ints_rp _))⟩
  · cases hf
theorem r_tuple (hK : X.K = g.K) (y : V) (H1 : Hp) (Q : VK) (h : rOp1 g oTuple y H1 Q) : ∃ p ys, [y] = [V.ref p] ∧ ((SqL X.K H1 p ys ∧ ∀ l, H1 l = none → Q (.ref l) (upd H1 l (.tup ys))) ∨ (SqT X.K H1 p ys ∧ Q (.ref p) H1)) := by
  obtain ⟨G, d, r, sG, n, hf, k⟩ := h
  unfold oTuple at hf
  split at hf
  · cases hf
    obtain ⟨a, us, rfl, h2, r⟩ := n.lst sG
    exact ⟨a, us, rfl, .inl ⟨.of h2, fun l hl => k _ _ _ (ends_tup sG hl r)⟩⟩
  · cases hf
    obtain ⟨a, us, rfl, h2, r⟩ := n.tup
    exact ⟨a, us, rfl, .inr ⟨Same.seqT sG (by rw [hK]; exact h2), k _ _ _ (ends_val (.tup h2 r))⟩⟩
  · cases hf

/-! the built-ins by name -/
variable {a b : Expr} {ma mb : M AV} {p pos : Pos}
theorem f_len (hm : X.mg "len" = none) (ha : PE X a (tV g ma)) (hg : Gl X "len" := by rfl) (hK : X.K = g.K := by rfl) (he : starEach [a] X.env = (false, eval a X.env) :: starEach [] X.env := by rfl) (hpl : (backTo pos (starEach [] X.env)).any (·.1) = false := by rfl) :
    PE X (.Call (.Name "len" p) [a] [] pos) (tF g (m1 oLen' ma)) := f_call1 c_len (r_len hK) hg hm boot_len ha (he := he) (hpl := hpl)
theorem f_toInt (hm : X.mg "int" = none) (ha : PE X a (tV g ma)) (hg : Gl X "int" := by rfl) (he : starEach [a] X.env = (false, eval a X.env) :: starEach [] X.env := by rfl) (hpl : (backTo pos (starEach [] X.env)).any (·.1) = false := by rfl) :
    PE X (.Call (.Name "int" p) [a] [] pos) (tF g (m1 oInt ma)) := f_callT1 call_int1 r_int hg hm PyProof.Rows.boot_int ha (he := he) (hpl := hpl)
theorem f_toStr (hm : X.mg "str" = none) (ha : PE X a (tV g ma)) (hg : Gl X "str" := by rfl) (he : starEach [a] X.env = (false, eval a X.env) :: starEach [] X.env := by rfl) (hpl : (backTo pos (starEach [] X.env)).any (·.1) = false := by rfl) :
    PE X (.Call (.Name "str" p) [a] [] pos) (tF g (m1 oStr ma)) := f_callT1 call_str_int r_str hg hm PyProof.Rows.boot_str ha (he := he) (hpl := hpl)
theorem f_abs (hm : X.mg "abs" = none) (ha : PE X a (tV g ma)) (hg : Gl X "abs" := by rfl) (he : starEach [a] X.env = (false, eval a X.env) :: starEach [] X.env := by rfl) (hpl : (backTo pos (starEach [] X.env)).any (·.1) = false := by rfl) :
    PE X (.Call (.Name "abs" p) [a] [] pos) (tF g (m1 oAbs ma)) := f_call1 call_abs r_abs hg hm PyProof.Rows.boot_abs ha (he := he) (hpl := hpl)
theorem f_list (hm : X.mg "list" = none) (ha : PE X a (tV g ma)) (hg : Gl X "list" := by rfl) (hK : X.K = g.K := by rfl) (he : starEach [a] X.env = (false, eval a X.env) :: starEach [] X.env := by rfl) (hpl : (backTo pos (starEach [] X.env)).any (·.1) = false := by rfl) :
    PE X (.Call (.Name "list" p) [a] [] pos) (tF g (m1 oList ma)) := f_callT1 call_list_of (r_list hK) hg hm PyProof.Rows.boot_list ha (he := he) (hpl := hpl)
theorem f_tuple (hm : X.mg "tuple" = none) (ha : PE X a (tV g ma)) (hg : Gl X "tuple" := by rfl) (hK : X.K = g.K := by rfl) (he : starEach [a] X.env = (false, eval a X.env) :: starEach [] X.env := by rfl) (hpl : (backTo pos (starEach [] X.env)).any (·.1) = false := by rfl) :
    PE X (.Call (.Name "tuple" p) [a] [] pos) (tF g (m1 oTuple ma)) := f_callT1 call_tuple_of (r_tuple hK) hg hm PyProof.Rows.boot_tuple ha (he := he) (hpl := hpl)
theorem f_max2 (hc : X.calm = true) (hm : X.mg "max" = none) (ha : PE X a (tV g ma)) (hb : PE X b (tV g mb)) (hg : Gl X "max" := by rfl) (he : starEach [a, b] X.env = (false, eval a X.env) :: starEach [b] X.env := by rfl) (he2 : starEach [b] X.env = (false, eval b X.env) :: starEach [] X.env := by rfl) (hpl : (backTo pos (starEach [b] X.env)).any (·.1) = false := by rfl) :
    PE X (.Call (.Name "max" p) [a, b] [] pos) (tF g (m2 oMax ma mb)) := f_call2 (call_max2 hc) r_max hg hm (by decide +kernel) ha hb (he := he) (he2 := he2) (hpl := hpl)
theorem f_min2 (hc : X.calm = true) (hm : X.mg "min" = none) (ha : PE X a (tV g ma)) (hb : PE X b (tV g mb)) (hg : Gl X "min" := by rfl) (he : starEach [a, b] X.env = (false, eval a X.env) :: starEach [b] X.env := by rfl) (he2 : starEach [b] X.env = (false, eval b X.env) :: starEach [] X.env := by rfl) (hpl : (backTo pos (starEach [b] X.env)).any (·.1) = false := by rfl) :
    PE X (.Call (.Name "min" p) [a, b] [] pos) (tF g (m2 oMin ma mb)) := f_call2 (call_min2 hc) r_min hg hm (by decide +kernel) ha hb (he := he) (he2 := he2) (hpl := hpl)
end

/-! ### isinstance -/
def tyN : D → Option String
  | .non => some "NoneType" | .bl _ => some "bool" | .int _ => some "int" | .str _ => some "str" | .tup _ => some "tuple" | .lst _ => some "list" | .dic _ => some "dict"
  | _ => none
def isiB (t n : String) : Bool := t == n || (n == "int" && t == "bool")
def oIsi (n : String) (d : D) : Option RV := (tyN d).bind fun t => some (.sh (.bl (isiB t n)))
theorem nw_ty {g : Gn} {G H : Hp} {x : V} {d : D} {t : String} {K : PySem.W.Frag} (hK : K = g.K) (sG : Same G H) (n : Nw g G H x d) (h : tyN d = some t) : TyX K H x (.type t) := by
  subst hK
  cases d with
  | non => cases h; rw [n.non]; exact .base .non
  | bl b => cases h; rw [n.bl]; exact .base (.bl _)
  | int b => cases h; rw [n.int]; exact .base (.int _)
  | str b => cases h; rw [n.str]; exact .base (.str _)
  | tup ds =>
    cases h
    obtain ⟨a, us, rfl, h2, r⟩ := n.tup
    rcases Same.seqT sG h2 with (e | ⟨o, e⟩) | ⟨o, its, k, e, c, _⟩
    · exact .base (.tup e)
    · exact .fTuple e
    · exact .kTuple e c
  | lst ds => cases h; obtain ⟨a, us, rfl, h2, r⟩ := n.lst sG; exact .base (.lst h2)
  | dic ds => cases h; obtain ⟨a, us, rfl, h2, r⟩ := n.dic sG; exact .base (.dK h2)
  | _ => cases h
theorem kit_tab : ∀ t ∈ ["NoneType", "bool", "int", "str", "tuple", "list", "dict"], ∀ n ∈ ["bool", "int", "str", "tuple", "list"], kitB t n = some (isiB t n) := by decide +kernel
theorem tyN_mem {d : D} {t : String} (h : tyN d = some t) : t ∈ ["NoneType", "bool", "int", "str", "tuple", "list", "dict"] := by
  cases d <;> first | (cases h; decide) | cases h
def mIsi (n : String) (a : M AV) : M RV := m1 (oIsi n) a
theorem f_isi {X : Cx} {g : Gn} {a b : Expr} {ma : M AV} {p pos : Pos} {n : String} (hn : n ∈ ["bool", "int", "str", "tuple", "list"]) (hm : X.mg "isinstance" = none) (ha : PE X a (tV g ma)) (hb : PE X b (tC (.ty n))) (hg : Gl X "isinstance" := by rfl) (hK : X.K = g.K := by rfl)
    (he : starEach [a, b] X.env = (false, eval a X.env) :: starEach [b] X.env := by rfl) (he2 : starEach [b] X.env = (false, eval b X.env) :: starEach [] X.env := by rfl) (hpl : (backTo pos (starEach [b] X.env)).any (·.1) = false := by rfl) :
    PE X (.Call (.Name "isinstance" p) [a, b] [] pos) (tF g (mIsi n ma)) := (pe_callB call_isi hg hm PyProof.Rows.boot_isinstance (pa_cons ha (pa_cons hb pa_nil he2) he) (by decide) (by decide) he hpl).ofM fun σ H Q h => by
  obtain ⟨c, G, ρ, av, ρ', R, hm, q⟩ := one_t h
  refine ⟨c, G, ρ, av, ρ', R, hm, fun G' H' v s R' a => ?_⟩
  obtain ⟨G2, d, r, sG, n1, hf, k⟩ := q G' H' v s R' a
  obtain ⟨t, ht, hf⟩ := bind_some hf
  cases hf
  exact ⟨v, .ty n, .type t, .type n, isiB t n, rfl, .ty n, nw_ty hK sG n1 ht, kit_ty (kit_tab t (tyN_mem ht) n hn), k _ _ _ (ends_val (.bl _))⟩

/-! ### statements -/
inductive Out where
  | nx (ρ : Rho) | bk (ρ : Rho) | ct (ρ : Rho) | rt (r : RV) (ρ : Rho)
abbrev MS := Rho → Option Out
def EndsOk (g : Gn) (c : Cn) (G : Hp) (D : Ends) : Out → Prop
  | .nx ρ' => ∀ G' H' σ', Same G G' → Rel g c G' H' ρ' σ' → D.nx σ' H'
  | .bk ρ' => ∀ G' H' σ', Same G G' → Rel g c G' H' ρ' σ' → D.bk σ' H'
  | .ct ρ' => ∀ G' H' σ', Same G G' → Rel g c G' H' ρ' σ' → D.ct σ' H'
  | .rt r ρ' => ∀ G' H' σ' v, Same G G' → Rel g c G' H' ρ' σ' → RvAt g c G' H' ρ' σ' v r → D.rt v H'
theorem EndsOk.mono {g : Gn} {c : Cn} {G G1 : Hp} {D : Ends} {o : Out} (h : EndsOk g c G D o) (s : Same G G1) : EndsOk g c G1 D o := by
  cases o with
  | nx ρ => exact fun G' H' σ' s' R => h G' H' σ' (s.trans s') R
  | bk ρ => exact fun G' H' σ' s' R => h G' H' σ' (s.trans s') R
  | ct ρ => exact fun G' H' σ' s' R => h G' H' σ' (s.trans s') R
  | rt r ρ => exact fun G' H' σ' v s' R => h G' H' σ' v (s.trans s') R
def tS (g : Gn) (m : MS) : TS := fun D σ H => ∃ (c : Cn) (G : Hp) (ρ : Rho) (o : Out), Rel g c G H ρ σ ∧ m ρ = some o ∧ EndsOk g c G D o
theorem _root_.L2.PS.ofM {X : Cx} {e : Stmt} {t t' : TS} (h : PS X e t) (i : ∀ D σ H, t' D σ H → t D σ H) : PS X e t' := ⟨fun pins s σ H D I q => h.run pins s σ H D I (i D σ H q)⟩
theorem _root_.L2.PSs.ofM {X : Cx} {e : List Stmt} {t t' : TS} (h : PSs X e t) (i : ∀ D σ H, t' D σ H → t D σ H) : PSs X e t' := ⟨fun pins s σ H D I q => h.run pins s σ H D I (i D σ H q)⟩
def sNil : MS := fun ρ => some (.nx ρ)
def sThen (o : Out) (m : MS) : Option Out := match o with
  | .nx ρ => m ρ
  | o => some o
def sSeq (a b : MS) : MS := fun ρ => (a ρ).bind fun o => sThen o b
def slotOf : RV → SV
  | .sh d => .sh d
  | .fr o => .mu false o
def sSet (i : Nat) (m : M RV) : MS := fun ρ => (m ρ).bind fun p => some (.nx (p.2.set i (some (slotOf p.1))))
def sExpr (m : M RV) : MS := fun ρ => (m ρ).bind fun p => some (.nx p.2)
def sRet (m : M RV) : MS := fun ρ => (m ρ).bind fun p => some (.rt p.1 p.2)
def sIf (t : M Bool) (a b : MS) : MS := fun ρ => (t ρ).bind fun p => if p.1 = true then a p.2 else b p.2
def sBreak : MS := fun ρ => some (.bk ρ)
def sCont : MS := fun ρ => some (.ct ρ)
section
variable {X : Cx} {g : Gn} {st : Stmt} {rest a b : List Stmt} {e : Expr} {pos : Pos} {m : M RV} {ma mb : MS} {mt : M Bool}
theorem ss_nil : PSs X [] (tS g sNil) := pss_nil.ofM fun D σ H ⟨c, G, ρ, o, R, hm, q⟩ => by
  cases hm
  exact q G H σ (Same.refl _) R
theorem ss_cons (h1 : PS X st (tS g ma)) (h2 : PSs X rest (tS g mb)) : PSs X (st :: rest) (tS g (sSeq ma mb)) := (pss_cons h1 h2).ofM fun D σ H ⟨c, G, ρ, o, R, hm, q⟩ => by
  obtain ⟨o1, h1, hm⟩ := bind_some hm
  refine ⟨c, G, ρ, o1, R, h1, ?_⟩
  cases o1 with
  | nx ρ1 => exact fun G' H' σ' s R' => ⟨c, G', ρ1, o, R', hm, q.mono s⟩
  | bk ρ1 => cases hm; exact q
  | ct ρ1 => cases hm; exact q
  | rt r ρ1 => cases hm; exact q
theorem ss_one (h1 : PS X st (tS g ma)) : PSs X [st] (tS g ma) := pss_one h1
theorem s_set {i : Nat} {x : Str} {pos' : Pos} (hN : X.N.Nodup) (hi : X.N[i]? = some x) (hx : Loc X.env.scope x) (he : PE X e (tF g m)) (hs : swapsWith e (some (.Name x pos')) pos.line X.env = pure false := by rfl)
    (hf : X.fn x = true ∨ X.env.scope.names.lookup x = some .local := by first | exact .inl rfl | exact .inr rfl | assumption) : PS X (.Assign [.Name x pos'] e pos) (tS g (sSet i m)) := (ps_set hN hi hx he hs hf).ofM fun D σ H ⟨c, G, ρ, o, R, hm, q⟩ => by
  obtain ⟨⟨r, ρ1⟩, h1, hm⟩ := bind_some hm
  cases hm
  refine ⟨c, G, ρ, r, ρ1, R, h1, fun G' H' v s R' a => ?_⟩
  cases r with
  | sh d => exact q G' H' _ s (R'.setSh a)
  | fr o =>
    obtain ⟨p, rfl, hG, hB, mo, hO⟩ := a
    exact q G' H' _ s (R'.setMu hG hB mo hO)
theorem s_expr (he : PE X e (tF g m)) (hs : swapsWith e none pos.line X.env = pure false := by rfl) : PS X (.Expr e pos) (tS g (sExpr m)) := (ps_expr he hs).ofM fun D σ H ⟨c, G, ρ, o, R, hm, q⟩ => by
  obtain ⟨⟨r, ρ1⟩, h1, hm⟩ := bind_some hm
  cases hm
  exact ⟨c, G, ρ, r, ρ1, R, h1, fun G' H' v s R' a => q G' H' σ s R'⟩
theorem s_ret (he : PE X e (tF g m)) : PS X (.Return (some e) pos) (tS g (sRet m)) := (ps_ret he).ofM fun D σ H ⟨c, G, ρ, o, R, hm, q⟩ => by
  obtain ⟨⟨r, ρ1⟩, h1, hm⟩ := bind_some hm
  cases hm
  exact ⟨c, G, ρ, r, ρ1, R, h1, fun G' H' v s R' a => q G' H' σ v s R' a⟩
theorem s_if {c : Expr} (hc : PT X c (tB' g mt)) (ha : PSs X a (tS g ma)) (hb : PSs X b (tS g mb)) : PS X (.If c a b pos) (tS g (sIf mt ma mb)) := (ps_if hc ha hb).ofM fun D σ H ⟨c, G, ρ, o, R, hm, q⟩ => by
  obtain ⟨⟨k, ρ1⟩, h1, hm⟩ := bind_some hm
  refine ⟨c, G, ρ, k, ρ1, R, h1, fun G' H' s R' => ?_⟩
  cases k with
  | true => exact ⟨c, G', ρ1, o, R', hm, q.mono s⟩
  | false => exact ⟨c, G', ρ1, o, R', hm, q.mono s⟩
theorem s_pass : PS X (.Pass pos) (tS g sNil) := ps_pass.ofM fun D σ H ⟨c, G, ρ, o, R, hm, q⟩ => by
  cases hm
  exact q G H σ (Same.refl _) R
theorem s_break : PS X (.Break pos) (tS g sBreak) := ps_break.ofM fun D σ H ⟨c, G, ρ, o, R, hm, q⟩ => by
  cases hm
  exact q G H σ (Same.refl _) R
theorem s_cont : PS X (.Continue pos) (tS g sCont) := ps_continue.ofM fun D σ H ⟨c, G, ρ, o, R, hm, q⟩ => by
  cases hm
  exact q G H σ (Same.refl _) R
end

/-! ### targets -/
theorem wipe_at {σ : L2.St} {j : Nat} : ∀ {vs : List Nat}, j ∈ vs → j < σ.length → (L2.wipe σ vs)[j]? = some none
  | v :: vs, h, hl => by
    unfold L2.wipe
    by_cases hj : v = j
    · subst hj
      rw [List.getElem?_set_self (by rw [L2.wipe_length]; exact hl)]
    · rw [List.getElem?_set_ne hj]
      exact wipe_at ((List.mem_cons.mp h).resolve_left fun e => hj e.symm) hl
theorem wipe_ne {σ : L2.St} {j : Nat} : ∀ {vs : List Nat}, j ∉ vs → (L2.wipe σ vs)[j]? = σ[j]?
  | [], _ => rfl
  | v :: vs, h => by
    unfold L2.wipe
    rw [List.mem_cons, not_or] at h
    rw [List.getElem?_set_ne (fun e => h.1 e.symm), wipe_ne h.2]
theorem wipe_eq {σ σ' : L2.St} {vs : List Nat} (hl : σ.length = σ'.length) (h : ∀ j, j ∉ vs → σ[j]? = σ'[j]?) : L2.wipe σ vs = L2.wipe σ' vs := by
  apply List.ext_getElem?
  intro j
  by_cases hj : j ∈ vs
  · by_cases hlt : j < σ.length
    · rw [wipe_at hj hlt, wipe_at hj (by omega)]
    · rw [List.getElem?_eq_none (by rw [L2.wipe_length]; omega), List.getElem?_eq_none (by rw [L2.wipe_length]; omega)]
  · rw [wipe_ne hj, wipe_ne hj, h j hj]
theorem wipe_idem (σ : L2.St) (vs : List Nat) : L2.wipe (L2.wipe σ vs) vs = L2.wipe σ vs := wipe_eq (L2.wipe_length _ _) fun j hj => wipe_ne hj
theorem wipe_set {σ : L2.St} {vs : List Nat} {i : Nat} {x : Option V} (h : i ∈ vs) : L2.wipe (σ.set i x) vs = L2.wipe σ vs := wipe_eq (List.length_set ..) fun j hj => List.getElem?_set_ne fun e => hj (by rw [← e]; exact h)
/-- vs: the slots that the target may write -/
def tG (g : Gn) (vs : List Nat) (ma : D → Rho → Option Rho) : TG := fun v σ H Q => ∃ (c : Cn) (G : Hp) (ρ : Rho) (d : D) (ρ' : Rho), Rel g c G H ρ σ ∧ Rp g G v d ∧ ma d ρ = some ρ' ∧
  ∀ G' H' σ', Same G G' → Rel g c G' H' ρ' σ' → L2.wipe σ' vs = L2.wipe σ vs → Q σ' H'
def tGs (g : Gn) (vs : List Nat) (ma : List D → Rho → Option Rho) : TGs := fun us σ H Q => ∃ (c : Cn) (G : Hp) (ρ : Rho) (ds : List D) (ρ' : Rho), Rel g c G H ρ σ ∧ RpA g G us ds ∧ ma ds ρ = some ρ' ∧
  ∀ G' H' σ', Same G G' → Rel g c G' H' ρ' σ' → L2.wipe σ' vs = L2.wipe σ vs → Q σ' H'
theorem PG.ofM {X : Cx} {e : Expr} {t t' : TG} (h : PG X e t) (i : ∀ v σ H Q, t' v σ H Q → t v σ H Q) : PG X e t' := ⟨fun pins s σ H v u Q I r q => h.run pins s σ H v u Q I r (i v σ H Q q)⟩
theorem PGs.ofM {X : Cx} {e : List Expr} {t t' : TGs} (h : PGs X e t) (i : ∀ v σ H Q, t' v σ H Q → t v σ H Q) : PGs X e t' := ⟨fun pins s σ H v u Q I r q => h.run pins s σ H v u Q I r (i v σ H Q q)⟩
def gNm (i : Nat) : D → Rho → Option Rho := fun d ρ => some (ρ.set i (some (.sh d)))
def gsNil : List D → Rho → Option Rho
  | [], ρ => some ρ
  | _ :: _, _ => none
def gsCons (a : D → Rho → Option Rho) (r : List D → Rho → Option Rho) : List D → Rho → Option Rho
  | [], _ => none
  | d :: ds, ρ => (a d ρ).bind fun ρ1 => r ds ρ1
def gTp (n : Nat) (r : List D → Rho → Option Rho) : D → Rho → Option Rho := fun d ρ => match d with
  | .tup ds => if ds.length = n then r ds ρ else none
  | _ => none
section
variable {X : Cx} {g : Gn} {pos : Pos} {vs : List Nat}
theorem g_nm {i : Nat} {x : Str} (hv : i ∈ vs) (hN : X.N.Nodup) (hi : X.N[i]? = some x) (hx : Loc X.env.scope x) (hf : X.fn x = true ∨ X.env.scope.names.lookup x = some .local := by first | exact .inl rfl | exact .inr rfl | assumption) : PG X (.Name x pos) (tG g vs (gNm i)) :=
  PG.ofM (pg_name hN hi hx hf) fun v σ H Q ⟨c, G, ρ, d, ρ', R, hr, hm, q⟩ => by
    cases hm
    exact q G H _ (Same.refl _) (R.setSh hr) (wipe_set hv)
theorem gs_nil : PGs X [] (tGs g vs gsNil) := PGs.ofM pgs_nil fun us σ H Q ⟨c, G, ρ, ds, ρ', R, hr, hm, q⟩ => by
  cases ds with
  | nil => cases hr; cases hm; exact ⟨rfl, q G H σ (Same.refl _) R rfl⟩
  | cons d ds => cases hm
theorem gs_cons {e : Expr} {es : List Expr} {ma : D → Rho → Option Rho} {mr : List D → Rho → Option Rho} (h1 : PG X e (tG g vs ma)) (h2 : PGs X es (tGs g vs mr))
    (hs : (assignEach (e :: es) X.env).map (·.2) = assign e X.env :: (assignEach es X.env).map (·.2) := by rfl) : PGs X (e :: es) (tGs g vs (gsCons ma mr)) := PGs.ofM (pgs_cons h1 h2 hs) fun us σ H Q ⟨c, G, ρ, ds, ρ', R, hr, hm, q⟩ => by
  cases ds with
  | nil => cases hm
  | cons d ds =>
    cases hr with
    | cons r1 r2 =>
      obtain ⟨ρ1, h1, hm⟩ := bind_some hm
      exact ⟨_, _, rfl, c, G, ρ, d, ρ1, R, r1, h1, fun G' H' σ' s R' w => ⟨c, G', ρ1, ds, ρ', R', r2.mono s, hm, fun G2 H2 σ2 s2 R2 w2 => q G2 H2 σ2 (s.trans s2) R2 (w2.trans w)⟩⟩
theorem g_tup {es : List Expr} {k : Nat} {n : Nat} {mr : List D → Rho → Option Rho} (hc : X.calm = true) (h : PGs X es (tGs g vs mr)) (hK : X.K = g.K := by rfl)
    (hn : (assignEach es X.env).length = n := by rfl) (hst : (assignEach es X.env).findIdx? (·.1) = none := by rfl) : PG X (.Tuple es k pos) (tG g vs (gTp n mr)) := PG.ofM (pg_tup hc h hn hst) fun v σ H Q ⟨c, G, ρ, d, ρ', R, hr, hm, q⟩ => by
  cases d with
  | tup ds =>
    simp only [gTp] at hm
    split at hm
    · rename_i hl
      cases hr with
      | tup a b => exact ⟨_, _, rfl, Same.seqT R.sG (by rw [hK]; exact a), by rw [b.length]; exact hl, c, G, ρ, ds, ρ', R, b, hm, q⟩
    · cases hm
  | _ => cases hm
/-- target = value -/
def sAsg (m : M D) (ga : D → Rho → Option Rho) : MS := fun ρ => (m ρ).bind fun p => (ga p.1 p.2).bind fun ρ' => some (.nx ρ')
theorem s_asg {tg e : Expr} {m : M D} {ga : D → Rho → Option Rho} (he : PE X e (tE g m)) (hg : PG X tg (tG g vs ga)) (hs : swapsWithSole [tg] e pos.line X.env = pure false := by rfl) (hw : swappedStores [tg] e X.env = pure none := by rfl)
    (h1 : (assignEach [tg] X.env).map (·.2) = [assign tg X.env] := by rfl) : PS X (.Assign [tg] e pos) (tS g (sAsg m ga)) := (ps_asg he hg hs hw h1).ofM fun D σ H ⟨c, G, ρ, o, R, hm, q⟩ => by
  obtain ⟨p, h1, hm⟩ := bind_some hm
  obtain ⟨ρ1, h2, hm⟩ := bind_some hm
  cases hm
  exact ⟨c, G, ρ, p.1, p.2, R, h1, fun G' H' v s R' a => ⟨c, G', p.2, p.1, ρ1, R', a, h2, fun G2 H2 σ2 s2 R2 _ => q G2 H2 σ2 (s.trans s2) R2⟩⟩
end
end L2.My

end
section
set_option Elab.async false
set_option linter.all false
set_option autoImplicit false
set_option maxRecDepth 100000
set_option maxHeartbeats 4000000
/-! Ml4: what is walked, loops, comprehensions. -/
namespace L2.My
open PySem PySem.Spec PyProof.Rows

/-- new shared objects, any number of them -/
inductive Grows (G H : Hp) : Hp → Hp → Prop
  | same : Grows G H G H
  | snoc {G1 H1 G2 H2 : Hp} : Grows G H G1 H1 → Grow G1 H1 G2 H2 → Grows G H G2 H2
theorem Rel.growths {g : Gn} {c : Cn} {G G' H H' : Hp} {ρ : Rho} {σ : L2.St} (R : Rel g c G H ρ σ) (h : Grows G H G' H') : Same G G' ∧ Rel g c G' H' ρ σ := by
  induction h with
  | same => exact ⟨Same.refl _, R⟩
  | snoc _ h2 ih =>
    obtain ⟨s1, R1⟩ := ih
    obtain ⟨s2, R2⟩ := R1.growth h2
    exact ⟨s1.trans s2, R2⟩
theorem Grows.one {G H G' H' : Hp} (h : Grow G H G' H') : Grows G H G' H' := .snoc .same h
/-- at each turn the iterator yields the next of ds -/
structure ItOk (g : Gn) (G0 : Hp) (J : It) (ds : List D) : Prop where
  go : ∀ i G H, Same G0 G → Same G H → i < ds.length → J.go i H
  stop : ∀ i G H, Same G0 G → Same G H → i = ds.length → J.stop i H
  yld : ∀ i G H x H' d, Same G0 G → Same G H → J.yld i H x H' → ds[i]? = some d → ∃ G', Grows G H G' H' ∧ Rp g G' x d
def tI (g : Gn) (m : M (List D)) : TI := fun σ H R => ∃ (c : Cn) (G : Hp) (ρ : Rho) (ds : List D) (ρ' : Rho), Rel g c G H ρ σ ∧ m ρ = some (ds, ρ') ∧
  ∀ G' H' J, Same G G' → Rel g c G' H' ρ' σ → ItOk g G' J ds → R J H'
theorem PI.ofM {X : Cx} {tg e : Expr} {t t' : TI} (h : PI X tg e t) (i : ∀ σ H R, t' σ H R → t σ H R) : PI X tg e t' := ⟨fun pins s σ H R I q => h.run pins s σ H R I (i σ H R q)⟩

section
variable {X : Cx} {tg : Expr}
def iSq (K : PySem.W.Frag) (tl : TE) : TI := fun σ H R => tl σ H fun x H1 => (∃ a, x = .ref a ∧ (∃ xs, SqL K H1 a xs) ∧ R (Itl K a) H1) ∨ (∃ a, x = .ref a ∧ (∃ xs, SqT K H1 a xs) ∧ R (Itt K a) H1) ∨ (∃ z, x = .str z ∧ R (Its z) H1)
theorem pi_sq {l : Expr} {tl : TE} (hl : PE X l tl) : PI X tg l (iSq X.K tl) := by
  refine ⟨fun pins s σ H R I h => ?_⟩
  refine thn (hl.run pins s σ H _ I h) fun v s1 ⟨x, H1, I1, r1, q1⟩ => ?_
  rcases q1 with ⟨a, e, ⟨xs, hq⟩, q⟩ | ⟨a, e, ⟨xs, hq⟩, q⟩ | ⟨z, e, q⟩
  · subst e
    cases r1
    obtain ⟨its, rv, p, hz⟩ := I1.list hq
    refine wpAny_pyIter_list p.isList ?_
    refine ⟨s1.heap.objs.size, [s1.heap.objs.size], _, _, H1, rfl, I1.kept (t' := s1.toks) fun b o e => Heap.get?_push_of_some _ e, turn_list a _, ⟨_, Heap.get?_push_size _ rfl, rfl, rfl⟩, fun b hb => ?_, q⟩
    have e : b = s1.heap.objs.size := by simpa using hb
    subst e
    exact I1.fpOk (Nat.le_refl _) (I1.hok.fresh (Nat.le_refl _))
  · subst e
    cases r1
    obtain ⟨its, rv, p, hz⟩ := I1.tuple hq
    refine wpAny_pyIter_tuple (show s1.heap.IsTuple a its.toArray from p) ?_
    refine ⟨s1.heap.objs.size, [s1.heap.objs.size], _, _, H1, rfl, I1.kept (t' := s1.toks) fun b o e => Heap.get?_push_of_some _ e, turn_tuple a _, ⟨_, Heap.get?_push_size _ rfl, rfl, rfl⟩, fun b hb => ?_, q⟩
    have e : b = s1.heap.objs.size := by simpa using hb
    subst e
    exact I1.fpOk (Nat.le_refl _) (I1.hok.fresh (Nat.le_refl _))
  · subst e
    obtain ⟨t, rfl⟩ := r1
    cases ha : z.cps.all (· < 128)
    · exact wpAny_pyIter_wide ha (pi_one (tk := s1.toks) I1 _ (turn_str _ z t "str_iterator" (.inr rfl)) ⟨_, Heap.get?_push_size _ rfl, rfl, rfl⟩ q)
    · exact wpAny_pyIter_ascii ha (pi_one (tk := s1.toks) I1 _ (turn_str _ z t "str_ascii_iterator" (.inl rfl)) ⟨_, Heap.get?_push_size _ rfl, rfl, rfl⟩ q)
end
def itemsD : D → Option (List D)
  | .lst xs => some xs
  | .tup xs => some xs
  | .scr ns => some (ns.map D.int)
  | .str z => some (z.cps.toList.map fun c => .str ⟨#[c]⟩)
  | _ => none
def mItems (m : M D) : M (List D) := fun ρ => (m ρ).bind fun p => (itemsD p.1).bind fun ds => some (ds, p.2)
theorem itok_l {g : Gn} {G0 : Hp} {a : Addr} {us : List V} {ds : List D} {K : PySem.W.Frag} (h : SqL K G0 a us) (r : RpA g G0 us ds) (one : ∀ {H : Hp} {xs ys : List V}, True) : ItOk g G0 (Itl K a) ds where
  go := fun i G H s1 s2 hi => ⟨us, us[i]'(by rw [r.length]; exact hi), (s1.trans s2).seq h, by simp [r.length, hi]⟩
  stop := fun i G H s1 s2 hi => ⟨us, (s1.trans s2).seq h, by rw [r.length]; exact Nat.le_of_eq hi.symm⟩
  yld := fun i G H x H' d s1 s2 y e => by
    obtain ⟨rfl, y⟩ := y
    obtain ⟨v, hv, rv⟩ := r.get e
    have e2 := y us ((s1.trans s2).seq h)
    rw [hv] at e2
    cases e2
    exact ⟨G, .same, rv.mono s1⟩
theorem itok_t {g : Gn} {G0 : Hp} {a : Addr} {us : List V} {ds : List D} {K : PySem.W.Frag} (h : SqT K G0 a us) (r : RpA g G0 us ds) : ItOk g G0 (Itt K a) ds where
  go := fun i G H s1 s2 hi => ⟨us, us[i]'(by rw [r.length]; exact hi), Same.seqT (s1.trans s2) h, by simp [r.length, hi]⟩
  stop := fun i G H s1 s2 hi => ⟨us, Same.seqT (s1.trans s2) h, by rw [r.length]; exact Nat.le_of_eq hi.symm⟩
  yld := fun i G H x H' d s1 s2 y e => by
    obtain ⟨rfl, y⟩ := y
    obtain ⟨v, hv, rv⟩ := r.get e
    have e2 := y us (Same.seqT (s1.trans s2) h)
    rw [hv] at e2
    cases e2
    exact ⟨G, .same, rv.mono s1⟩
theorem itok_s {g : Gn} {G0 : Hp} {z : Str} : ItOk g G0 (Its z) (z.cps.toList.map fun c => .str ⟨#[c]⟩) where
  go := fun i G H s1 s2 hi => by
    rw [List.length_map, Array.length_toList] at hi
    exact hi
  stop := fun i G H s1 s2 hi => by
    rw [List.length_map, Array.length_toList] at hi
    exact Nat.le_of_eq hi.symm
  yld := fun i G H x H' d s1 s2 y e => by
    obtain ⟨rfl, c, hc, rfl⟩ := y
    rw [List.getElem?_map, Array.getElem?_toList, hc] at e
    cases e
    exact ⟨G, .same, .str _⟩
/-- lo, lo + 1, .. -/
def rngD (lo : Int) (n : Nat) : List D := (List.range n).map fun (k : Nat) => .int (lo + (k : Int))
theorem itok_r {g : Gn} {G0 : Hp} {lo : Int} {n : Nat} : ItOk g G0 (Itr lo n) (rngD lo n) where
  go := fun i G H s1 s2 hi => by
    unfold rngD at hi
    rw [List.length_map, List.length_range] at hi
    exact hi
  stop := fun i G H s1 s2 hi => by
    unfold rngD at hi
    rw [List.length_map, List.length_range] at hi
    exact Nat.le_of_eq hi.symm
  yld := fun i G H x H' d s1 s2 y e => by
    obtain ⟨rfl, rfl⟩ := y
    unfold rngD at e
    rw [List.getElem?_map] at e
    cases hi : (List.range n)[i]? with
    | none => rw [hi] at e; cases e
    | some k =>
      rw [hi] at e
      cases e
      obtain ⟨hl, ek⟩ := List.getElem?_eq_some_iff.mp hi
      rw [List.getElem_range] at ek
      subst ek
      exact ⟨G, .same, .int _⟩
section
variable {X : Cx} {g : Gn} {tg e : Expr} {m : M D}
theorem i_sq (he : PE X e (tE g m)) (hK : X.K = g.K := by rfl) : PI X tg e (tI g (mItems m)) := PI.ofM (pi_sq he) fun σ H R ⟨c, G, ρ, ds, ρ', RR, hm, q⟩ => by
  obtain ⟨⟨d, ρ1⟩, h1, hm⟩ := bind_some hm
  obtain ⟨ds', h2, hm⟩ := bind_some hm
  cases hm
  refine ⟨c, G, ρ, d, ρ1, RR, h1, fun G' H' v s R' a => ?_⟩
  have h2 : itemsD d = some ds := h2
  unfold itemsD at h2
  split at h2
  · cases h2
    cases a with
    | lst h r =>
      refine .inl ⟨_, rfl, ⟨_, .of (R'.sG _ _ h)⟩, q G' H' _ s R' (itok_l (.of h) r trivial)⟩
  · cases h2
    cases a with
    | tup h r =>
      rw [← hK] at h
      refine .inr (.inl ⟨_, rfl, ⟨_, Same.seqT R'.sG h⟩, q G' H' _ s R' (itok_t h r)⟩)
  · cases h2
    cases a with
    | scr h =>
      rw [← hK] at h
      refine .inl ⟨_, rfl, ⟨_, R'.sG.seq h⟩, q G' H' _ s R' (itok_l h (ints_rp _) trivial)⟩
  · cases h2
    cases a
    exact .inr (.inr ⟨_, rfl, q G' H' _ s R' itok_s⟩)
  · cases h2
def mRng1 (a : M AV) : M (List D) := fun ρ => (a ρ).bind fun p => (look p.2 p.1).bind fun d => (intOf d).bind fun j => if -(2 ^ 62) ≤ j ∧ j < 2 ^ 62 then some (rngD 0 j.toNat, p.2) else none
def mRng2 (a b : M AV) : M (List D) := fun ρ => (a ρ).bind fun p => (b p.2).bind fun q => (look q.2 p.1).bind fun d => (look q.2 q.1).bind fun e => (intOf d).bind fun i => (intOf e).bind fun j =>
  if -(2 ^ 62) ≤ i ∧ i < 2 ^ 62 ∧ -(2 ^ 62) ≤ j ∧ j < 2 ^ 62 then some (rngD i (j - i).toNat, q.2) else none
theorem intOf_some {d : D} {i : Int} (h : intOf d = some i) : d = .int i := by
  cases d <;> first | (cases h; rfl) | cases h
variable {a b : Expr} {ma mb : M AV} {p pos : Pos}
theorem i_rng1 (hm : X.mg "range" = none) (ha : PE X a (tV g ma)) (hg : Gl X "range" := by rfl) (hs : starEach [a] X.env = [(false, eval a X.env)] := by rfl) : PI X tg (.Call (.Name "range" p) [a] [] pos) (tI g (mRng1 ma)) :=
  PI.ofM (pi_range1 hg hm (pa_cons ha pa_nil hs) hs) fun σ H R ⟨c, G, ρ, ds, ρ', RR, hm, q⟩ => by
    obtain ⟨p, h1, hm⟩ := bind_some hm
    obtain ⟨d, h2, hm⟩ := bind_some hm
    obtain ⟨j, h3, hm⟩ := bind_some hm
    split at hm
    · rename_i hj
      cases hm
      refine ⟨c, G, ρ, p.1, p.2, RR, h1, fun G' H' v s R' av => ?_⟩
      have n := nw_of R' av h2
      rw [intOf_some h3] at n
      exact ⟨j, by rw [n.int], hj.1, hj.2, q G' H' _ s R' itok_r⟩
    · cases hm
theorem i_rng2 (hm : X.mg "range" = none) (ha : PE X a (tV g ma)) (hb : PE X b (tV g mb)) (hg : Gl X "range" := by rfl) (hs : starEach [a, b] X.env = [(false, eval a X.env), (false, eval b X.env)] := by rfl) (hs2 : starEach [b] X.env = [(false, eval b X.env)] := by rfl) :
    PI X tg (.Call (.Name "range" p) [a, b] [] pos) (tI g (mRng2 ma mb)) :=
  PI.ofM (pi_range2 hg hm (pa_cons ha (pa_cons hb pa_nil hs2) (hs.trans (by rw [hs2]))) hs hs2) fun σ H R ⟨c, G, ρ, ds, ρ', RR, hm, q⟩ => by
    obtain ⟨p, h1, hm⟩ := bind_some hm
    obtain ⟨p2, h2, hm⟩ := bind_some hm
    obtain ⟨d, h3, hm⟩ := bind_some hm
    obtain ⟨e, h4, hm⟩ := bind_some hm
    obtain ⟨i, h5, hm⟩ := bind_some hm
    obtain ⟨j, h6, hm⟩ := bind_some hm
    split at hm
    · rename_i hj
      cases hm
      refine ⟨c, G, ρ, p.1, p.2, RR, h1, fun G' H' v s R' av => ⟨c, G', p.2, p2.1, p2.2, R', h2, fun G2 H2 w s2 R2 aw => ?_⟩⟩
      have n := nw_of R2 (av.mono s2) h3
      have n2 := nw_of R2 aw h4
      rw [intOf_some h5] at n
      rw [intOf_some h6] at n2
      exact ⟨i, j, by rw [n.int, n2.int], hj, q G2 H2 _ (s.trans s2) R2 itok_r⟩
    · cases hm
end

/-! ### for -/
def sForL (ga : D → Rho → Option Rho) (mb : MS) : List D → MS
  | [], ρ => some (.nx ρ)
  | d :: ds, ρ => (ga d ρ).bind fun ρ1 => (mb ρ1).bind fun o => match o with
    | .nx ρ2 => sForL ga mb ds ρ2
    | .ct ρ2 => sForL ga mb ds ρ2
    | .bk ρ2 => some (.nx ρ2)
    | .rt r ρ2 => some (.rt r ρ2)
def sFor (mi : M (List D)) (ga : D → Rho → Option Rho) (mb : MS) : MS := fun ρ => (mi ρ).bind fun p => sForL ga mb p.1 p.2
theorem s_for {X : Cx} {g : Gn} {tg iter : Expr} {body : List Stmt} {pos : Pos} {mi : M (List D)} {ga : D → Rho → Option Rho} {mb : MS} (hp : PassesOwn (model X.prog X.w) X.A X.env X.xe) (hc : X.calm = true)
    (hi : PI X tg iter (tI g mi)) {vs : List Nat} (hg : PG X tg (tG g vs ga)) (hb : PSs X body (tS g mb)) (hs : ∀ x, foldedSetIterable iter X.env x = pure x := by intro _; rfl) : PS X (.For tg iter body [] pos) (tS g (sFor mi ga mb)) :=
  (ps_for hp hc hi hg hb hs).ofM fun D σ H ⟨c, G, ρ, o, R, hm, q⟩ => by
    obtain ⟨⟨ds, ρ1⟩, h1, hm⟩ := bind_some hm
    refine ⟨c, G, ρ, ds, ρ1, R, h1, fun G1 H1 J s1 R1 ok => ?_⟩
    refine ⟨fun i m σ H => m = ds.length - i ∧ i ≤ ds.length ∧ ∃ G2 ρ2, Same G1 G2 ∧ Rel g c G2 H ρ2 σ ∧ sForL ga mb (ds.drop i) ρ2 = some o, ⟨ds.length, rfl, Nat.zero_le _, G1, ρ1, Same.refl _, R1, hm⟩, ?_⟩
    rintro i m σ H ⟨rfl, hi, G2, ρ2, s2, R2, hf⟩
    by_cases hlt : i < ds.length
    · refine .inr ⟨ok.go i G2 H s2 R2.sG hlt, fun σ' H' => ∃ m', m' < ds.length - i ∧ m' = ds.length - (i + 1) ∧ i + 1 ≤ ds.length ∧ ∃ G2 ρ2, Same G1 G2 ∧ Rel g c G2 H' ρ2 σ' ∧ sForL ga mb (ds.drop (i + 1)) ρ2 = some o, fun σ' H' ⟨m', h1, h2, h3⟩ => ⟨m', h1, h2, h3⟩, fun x H' y => ?_⟩
      have ed : ds[i]? = some ds[i] := List.getElem?_eq_getElem hlt
      obtain ⟨G3, gr, rx⟩ := ok.yld i G2 H x H' _ s2 R2.sG y ed
      obtain ⟨s3, R3⟩ := R2.growths gr
      rw [List.drop_eq_getElem_cons hlt] at hf
      obtain ⟨ρ3, h3, hf⟩ := bind_some hf
      obtain ⟨o1, h4, hf⟩ := bind_some hf
      refine ⟨c, G3, ρ2, ds[i], ρ3, R3, rx, h3, fun G4 H4 σ4 s4 R4 _ => ⟨c, G4, ρ3, o1, R4, h4, ?_⟩⟩
      have sAll : Same G1 G4 := (s2.trans s3).trans s4
      cases o1 with
      | nx ρ4 => exact fun G5 H5 σ5 s5 R5 => ⟨ds.length - (i + 1), by omega, rfl, hlt, G5, ρ4, sAll.trans s5, R5, hf⟩
      | ct ρ4 => exact fun G5 H5 σ5 s5 R5 => ⟨ds.length - (i + 1), by omega, rfl, hlt, G5, ρ4, sAll.trans s5, R5, hf⟩
      | bk ρ4 => cases hf; exact fun G5 H5 σ5 s5 R5 => q G5 H5 σ5 ((s1.trans sAll).trans s5) R5
      | rt r ρ4 => cases hf; exact fun G5 H5 σ5 v s5 R5 a5 => q G5 H5 σ5 v ((s1.trans sAll).trans s5) R5 a5
    · have e : ds.drop i = [] := List.drop_of_length_le (by omega)
      rw [e] at hf
      cases hf
      exact .inl ⟨ok.stop i G2 H s2 R2.sG (by omega), q G2 H σ (s1.trans s2) R2⟩

/-! ### list comprehensions -/
def wipeR (ρ : Rho) : List Nat → Rho
  | [] => ρ
  | v :: vs => (wipeR ρ vs).set v none
/-- the slots at vs as they were -/
def backR (ρ ρ' : Rho) : List Nat → Rho
  | [] => ρ'
  | v :: vs => (backR ρ ρ' vs).set v (ρ[v]?.join)
/-- no slot of vs holds an object -/
def cleanS : Option (Option SV) → Bool
  | some (some (.mu _ _)) => false
  | none => false
  | _ => true
def clean (ρ : Rho) (vs : List Nat) : Bool := vs.all fun v => cleanS ρ[v]?
section
variable {g : Gn} {c : Cn} {G H : Hp} {ρ ρ' : Rho} {σ σ' : L2.St}
theorem Rel.drop1 (R : Rel g c G H ρ σ) (i : Nat) : Rel g c G H (ρ.set i none) (σ.set i none) := by
  have at_ : ∀ {j : Nat} {sv : SV}, (ρ.set i none)[j]? = some (some sv) → i ≠ j ∧ ρ[j]? = some (some sv) := fun {j sv} h => by
    by_cases hj : i = j
    · subst hj
      by_cases hl : i < ρ.length
      · rw [List.getElem?_set_self hl] at h; cases h
      · rw [List.getElem?_eq_none (by rw [List.length_set]; omega)] at h; cases h
    · rw [List.getElem?_set_ne hj] at h
      exact ⟨hj, h⟩
  refine ⟨R.sB, R.sG, R.g0, R.gB, by rw [List.length_set, List.length_set]; exact R.len, fun j d h => ?_, fun j b o h => ?_, fun j k b1 b2 o1 o2 q e1 e2 e3 e4 => ?_, R.tb, R.nT⟩
  · obtain ⟨nj, h⟩ := at_ h
    obtain ⟨v, h1, h2⟩ := R.sh j d h
    exact ⟨v, by rw [List.getElem?_set_ne nj]; exact h1, h2⟩
  · obtain ⟨nj, h⟩ := at_ h
    obtain ⟨v, h1, h2⟩ := R.mu j b o h
    exact ⟨v, by rw [List.getElem?_set_ne nj]; exact h1, h2⟩
  · obtain ⟨nj, e1⟩ := at_ e1
    obtain ⟨nk, e2⟩ := at_ e2
    rw [List.getElem?_set_ne nj] at e3
    rw [List.getElem?_set_ne nk] at e4
    exact R.inj j k _ _ _ _ q e1 e2 e3 e4
theorem Rel.wipe (R : Rel g c G H ρ σ) : ∀ vs : List Nat, Rel g c G H (wipeR ρ vs) (L2.wipe σ vs)
  | [] => R
  | v :: vs => (Rel.wipe R vs).drop1 v
theorem wipeR_length (ρ : Rho) : ∀ vs : List Nat, (wipeR ρ vs).length = ρ.length
  | [] => rfl
  | v :: vs => by unfold wipeR; rw [List.length_set, wipeR_length ρ vs]
theorem backR_length (ρ ρ' : Rho) : ∀ vs : List Nat, (backR ρ ρ' vs).length = ρ'.length
  | [] => rfl
  | v :: vs => by unfold backR; rw [List.length_set, backR_length ρ ρ' vs]
theorem backR_at {ρ ρ' : Rho} {j : Nat} {sv : SV} : ∀ {vs : List Nat}, (backR ρ ρ' vs)[j]? = some (some sv) → (j ∈ vs ∧ ρ[j]? = some (some sv)) ∨ (j ∉ vs ∧ ρ'[j]? = some (some sv))
  | [], h => .inr ⟨by simp, h⟩
  | v :: vs, h => by
    unfold backR at h
    by_cases hj : v = j
    · subst hj
      by_cases hl : v < (backR ρ ρ' vs).length
      · rw [List.getElem?_set_self hl] at h
        have h' : ρ[v]?.join = some sv := Option.some.inj h
        cases hv : ρ[v]? with
        | none => rw [hv] at h'; cases h'
        | some o => rw [hv] at h'; exact .inl ⟨by simp, by rw [show o = some sv from h']⟩
      · rw [List.getElem?_eq_none (by rw [List.length_set]; omega)] at h; cases h
    · rw [List.getElem?_set_ne hj] at h
      rcases backR_at h with ⟨h1, h2⟩ | ⟨h1, h2⟩
      · exact .inl ⟨by simp [h1], h2⟩
      · exact .inr ⟨by simp only [List.mem_cons, not_or]; exact ⟨fun e => hj e.symm, h1⟩, h2⟩
theorem clean_at {ρ : Rho} {vs : List Nat} (h : clean ρ vs = true) {j : Nat} (hj : j ∈ vs) {b : Bool} {o : MO} : ρ[j]? ≠ some (some (.mu b o)) := fun e => by
  have := List.all_eq_true.mp h j hj
  rw [e] at this
  cases this
/-- behind a block: the slots of its names as they were -/
theorem Rel.back {G0 H0 : Hp} {vs : List Nat} (R0 : Rel g c G0 H0 ρ σ) (R : Rel g c G H ρ' (L2.wipe σ vs)) (s : Same G0 G) (hc : clean ρ vs = true) : Rel g c G H (backR ρ ρ' vs) σ := by
  refine ⟨R.sB, R.sG, R.g0, R.gB, by rw [backR_length, R.len, L2.wipe_length], fun j d h => ?_, fun j b o h => ?_, fun j k b1 b2 o1 o2 q e1 e2 e3 e4 => ?_, R.tb, R.nT⟩
  · rcases backR_at h with ⟨h1, h2⟩ | ⟨h1, h2⟩
    · obtain ⟨v, e, r⟩ := R0.sh j d h2
      exact ⟨v, e, r.mono s⟩
    · obtain ⟨v, e, r⟩ := R.sh j d h2
      rw [wipe_ne h1] at e
      exact ⟨v, e, r⟩
  · rcases backR_at h with ⟨h1, h2⟩ | ⟨h1, h2⟩
    · exact (clean_at hc h1 h2).elim
    · obtain ⟨v, e, r⟩ := R.mu j b o h2
      rw [wipe_ne h1] at e
      exact ⟨v, e, r⟩
  · rcases backR_at e1 with ⟨h1, h2⟩ | ⟨h1, h2⟩
    · exact (clean_at hc h1 h2).elim
    · rcases backR_at e2 with ⟨h3, h4⟩ | ⟨h3, h4⟩
      · exact (clean_at hc h3 h4).elim
      · exact R.inj j k _ _ _ _ q h2 h4 (by rw [wipe_ne h1]; exact e3) (by rw [wipe_ne h3]; exact e4)
/-- the same with one more object that nobody touches -/
theorem Rel.hold (R : Rel g c G H ρ σ) {p : Addr} {o : HO} (h : H p = some o) (hG : G p = none) (hO : ¬ Owns ρ σ p) (hT : ∀ ps, o ≠ .tbl ps) : Rel g { c with B := upd c.B p o } G H ρ σ := by
  refine ⟨fun b u e => ?_, R.sG, R.g0, fun a u e => ?_, R.len, R.sh, fun j b o' e => ?_, R.inj, R.tb, fun P hP => ⟨(R.nT P hP).1, ?_⟩⟩
  rotate_left 3
  · have : P ≠ p := fun z => by
      obtain ⟨ps, e, _⟩ := R.tb P hP
      rw [z, h] at e
      exact hT ps (Option.some.inj e)
    show upd c.B p o P = none
    rw [upd_ne this]
    exact (R.nT P hP).2
  · by_cases hb : b = p
    · subst hb
      have e : upd c.B b o b = some u := e
      rw [upd_same] at e; cases e; exact h
    · have e : upd c.B p o b = some u := e
      rw [upd_ne hb] at e; exact R.sB _ _ e
  · have na : a ≠ p := fun z => by rw [z, hG] at e; cases e
    rcases R.gB a u e with z | z
    · exact .inl z
    · exact .inr (by show upd c.B p o a = none; rw [upd_ne na]; exact z)
  · obtain ⟨a, h1, h2, h3, h4, h5⟩ := R.mu j b o' e
    have na : a ≠ p := fun z => hO ⟨j, b, o', e, by rw [← z]; exact h1⟩
    exact ⟨a, h1, h2, by show upd c.B p o a = none; rw [upd_ne na]; exact h3, h4, h5⟩
/-- that object let go -/
theorem Rel.unhold {p : Addr} {o : HO} (R : Rel g { c with B := upd c.B p o } G H ρ σ) (hB : c.B p = none) : H p = some o ∧ G p = none ∨ False ∨ True := .inr (.inr trivial)
theorem Rel.letgo {p : Addr} {o : HO} (R : Rel g { c with B := upd c.B p o } G H ρ σ) (hB : c.B p = none) : Rel g c G H ρ σ := by
  have le : ∀ a, upd c.B p o a = none → c.B a = none := fun a e => by
    by_cases ha : a = p
    · rw [ha]; exact hB
    · rw [upd_ne ha] at e; exact e
  refine ⟨fun b u e => R.sB b u ?_, R.sG, R.g0, fun a u e => ?_, R.len, R.sh, fun j b o' e => ?_, R.inj, R.tb, fun P hP => ⟨(R.nT P hP).1, le P (R.nT P hP).2⟩⟩
  · have : b ≠ p := fun z => by rw [z, hB] at e; cases e
    show upd c.B p o b = some u
    rw [upd_ne this]; exact e
  · rcases R.gB a u e with z | z
    · exact .inl z
    · exact .inr (le a z)
  · obtain ⟨a, h1, h2, h3, h4, h5⟩ := R.mu j b o' e
    exact ⟨a, h1, h2, le a h3, h4, h5⟩
theorem Rel.held {p : Addr} {o : HO} (R : Rel g { c with B := upd c.B p o } G H ρ σ) : H p = some o := R.sB p o upd_same
theorem Rel.heldO {p : Addr} {o : HO} (R : Rel g { c with B := upd c.B p o } G H ρ σ) : ¬ Owns ρ σ p := fun ⟨j, b, o', e, e2⟩ => by
  obtain ⟨a, h1, h2, h3, h4, h5⟩ := R.mu j b o' e
  rw [e2] at h1
  cases h1
  have h3 : upd c.B p o p = none := h3
  rw [upd_same] at h3
  cases h3
/-- an object that nobody holds is written -/
theorem Rel.poke (R : Rel g c G H ρ σ) {p : Addr} {o : HO} (hB : c.B p = none) (hG : G p = none) (hO : ¬ Owns ρ σ p) (hT : ∀ ps, H p ≠ some (.tbl ps)) : Rel g c G (upd H p o) ρ σ := by
  refine ⟨fun b u e => ?_, fun b u e => ?_, R.g0, R.gB, R.len, R.sh, fun j b o' e => ?_, R.inj, fun P hP => ?_, R.nT⟩
  · have : b ≠ p := fun z => by rw [z, hB] at e; cases e
    rw [upd_ne this]; exact R.sB _ _ e
  · have : b ≠ p := fun z => by rw [z, hG] at e; cases e
    rw [upd_ne this]; exact R.sG _ _ e
  · obtain ⟨a, h1, h2, h3, h4, h5⟩ := R.mu j b o' e
    refine ⟨a, h1, h2, h3, h4.mono (Same.refl _) fun u hu => ?_, h5⟩
    have na : a ≠ p := fun z => hO ⟨j, b, o', e, by rw [← z]; exact h1⟩
    rw [upd_ne na]; exact hu
  · obtain ⟨ps, h1, h2⟩ := R.tb P hP
    have : P ≠ p := fun z => by rw [z] at h1; exact hT ps h1
    exact ⟨ps, by rw [upd_ne this]; exact h1, h2⟩
end

def lcL (vs : List Nat) (ga : D → Rho → Option Rho) (mt : M Bool) (me : M D) : List D → List D → Rho → Option (List D × Rho)
  | [], acc, ρ => some (acc, ρ)
  | d :: ds, acc, ρ => (ga d ρ).bind fun ρ1 => (mt ρ1).bind fun p => if p.1 = true then (me p.2).bind fun q => if acc.length < sizeLine then lcL vs ga mt me ds (acc ++ [q.1]) (wipeR q.2 vs) else none
    else lcL vs ga mt me ds acc (wipeR p.2 vs)
def fLc (vs : List Nat) (mi : M (List D)) (ga : D → Rho → Option Rho) (mt : M Bool) (me : M D) : M RV := fun ρ => (mi ρ).bind fun p => if clean p.2 vs = true then
  (lcL vs ga mt me p.1 [] (wipeR p.2 vs)).bind fun q => some (.fr (.lst q.1), backR p.2 q.2 vs) else none
def mYes : M Bool := fun ρ => some (true, ρ)
theorem tY {g : Gn} {σ : L2.St} {H : Hp} {Q : Bool → Hp → Prop} (h : tB' g mYes σ H Q) : tYes σ H Q := by
  obtain ⟨c, G, ρ, b, ρ', R, hm, q⟩ := h
  cases hm
  exact q G H (Same.refl _) R
theorem ts_nil {X : Cx} {g : Gn} : PTs X [] (tB' g mYes) := ⟨fun pins s σ H Q I q => pts_nil.run pins s σ H Q I (tY q)⟩
theorem ts_one {X : Cx} {g : Gn} {c : Expr} {m : M Bool} (h : PT X c (tB' g m)) : PTs X [c] (tB' g m) := pts_one h

/-- nothing of the block puts a held object among the shared -/
theorem Rel.stay {g : Gn} {c : Cn} {G' H' : Hp} {ρ' : Rho} {σ' : L2.St} {Dd : Addr} {o : HO} (R' : Rel g { c with B := upd c.B Dd o } G' H' ρ' σ') (h0 : c.G0 Dd = none) : G' Dd = none := by
  cases e : G' Dd with
  | none => rfl
  | some u =>
    rcases R'.gB Dd u e with z | z
    · have z2 : c.G0 Dd = some u := z
      rw [h0] at z2; cases z2
    · have z : upd c.B Dd o Dd = none := z
      rw [upd_same] at z; cases z
/-- the reading of a list comprehension from its mirror -/
theorem lc_t {g : Gn} {σ : L2.St} {H : Hp} {Q : VK} {vs : List Nat} {mi : M (List D)} {ga : D → Rho → Option Rho} {mt : M Bool} {me : M D}
    (h : tF g (fLc vs mi ga mt me) σ H Q) : tLc (tI g mi) (tG g vs ga) (tB' g mt) (tE g me) vs σ H Q := by
  obtain ⟨c, G, ρ, r, ρ', R, hm, q⟩ := h
  obtain ⟨⟨ds, ρ1⟩, h1, hm⟩ := bind_some hm
  split at hm
  · rename_i hcl
    have hcl : clean ρ1 vs = true := hcl
    obtain ⟨⟨out, ρe⟩, h2, hm⟩ := bind_some hm
    cases hm
    refine ⟨c, G, ρ, ds, ρ1, R, h1, fun G1 H1 J s1 R1 ok Dd hD => ?_⟩
    have bD := R1.freeB hD
    have gD := R1.freeG hD
    have g0D : c.G0 Dd = none := R1.g0.free gD
    refine ⟨fun i m H => m = ds.length - i ∧ i ≤ ds.length ∧ ∃ G2 ρ2 us acc, Same G1 G2 ∧ Rel g { c with B := upd c.B Dd (.lst us) } G2 H ρ2 (L2.wipe σ vs) ∧ RpA g G2 us acc ∧ lcL vs ga mt me (ds.drop i) acc ρ2 = some (out, ρe), ⟨ds.length, rfl, Nat.zero_le _, G1, wipeR ρ1 vs, [], [], Same.refl _, ?_, .nil, h2⟩, ?_⟩
    · have R2 : Rel g c G1 (upd H1 Dd (.lst [])) (wipeR ρ1 vs) (L2.wipe σ vs) := (R1.grow (same_upd hD)).wipe vs
      have nO : ¬ Owns (wipeR ρ1 vs) (L2.wipe σ vs) Dd := (R1.wipe vs).notOwn hD
      exact R2.hold upd_same gD nO fun ps z => by cases z
    · rintro i m H ⟨rfl, hi, G2, ρ2, us, acc, s2, R2, ra, hf⟩
      by_cases hlt : i < ds.length
      · refine .inr ⟨ok.go i G2 H s2 R2.sG hlt, fun H' => ∃ G2 ρ2 us acc, Same G1 G2 ∧ Rel g { c with B := upd c.B Dd (.lst us) } G2 H' ρ2 (L2.wipe σ vs) ∧ RpA g G2 us acc ∧ lcL vs ga mt me (ds.drop (i + 1)) acc ρ2 = some (out, ρe),
          fun H' h3 => ⟨ds.length - (i + 1), by omega, rfl, hlt, h3⟩, fun x H' y => ?_⟩
        have ed : ds[i]? = some ds[i] := List.getElem?_eq_getElem hlt
        obtain ⟨G3, gr, rx⟩ := ok.yld i G2 H x H' _ s2 R2.sG y ed
        obtain ⟨s3, R3⟩ := R2.growths gr
        rw [List.drop_eq_getElem_cons hlt] at hf
        obtain ⟨ρ3, h3, hf⟩ := bind_some hf
        obtain ⟨⟨k, ρ4⟩, h4, hf⟩ := bind_some hf
        refine ⟨_, G3, ρ2, ds[i], ρ3, R3, rx, h3, fun G4 H4 σ4 s4 R4 w4 => ?_⟩
        rw [wipe_idem] at w4
        refine ⟨w4, _, G4, ρ3, k, ρ4, R4, h4, fun G5 H5 s5 R5 => ?_⟩
        have s15 : Same G1 G5 := ((s2.trans s3).trans s4).trans s5
        cases k with
        | false =>
          rw [if_neg Bool.false_ne_true] at hf
          have R6 := R5.wipe vs
          rw [w4] at R6
          refine iteF ?_
          exact ⟨G5, wipeR ρ4 vs, us, acc, s15, R6, ra.mono ((s3.trans s4).trans s5), hf⟩
        | true =>
          rw [if_pos rfl] at hf
          obtain ⟨⟨d, ρ5⟩, h5, hf⟩ := bind_some hf
          split at hf
          · rename_i hz
            refine iteT ?_
            refine ⟨_, G5, ρ4, d, ρ5, R5, h5, fun G6 H6 v s6 R6 rv => ?_⟩
            have ra6 := ra.mono (((s3.trans s4).trans s5).trans s6)
            refine ⟨us, R6.held, by rw [ra.length]; exact hz, G6, wipeR ρ5 vs, us ++ [v], acc ++ [d], s15.trans s6, ?_, ra6.append (.one rv), hf⟩
            have gD6 := R6.stay g0D
            have R7 := (R6.letgo bD).poke (o := .lst (us ++ [v])) bD gD6 R6.heldO fun ps z => by rw [R6.held] at z; cases z
            have R8 := R7.hold upd_same gD6 R6.heldO fun ps z => by cases z
            have R9 := R8.wipe vs
            rw [w4] at R9
            exact R9
          · cases hf
      · have e : ds.drop i = [] := List.drop_of_length_le (by omega)
        rw [e] at hf
        cases hf
        refine .inl ⟨ok.stop i G2 H s2 R2.sG (by omega), ?_⟩
        have R3 := R2.letgo bD
        have R4 := R1.back R3 s2 hcl
        refine q G2 H _ (s1.trans s2) R4 ⟨Dd, rfl, R2.stay g0D, bD, ⟨us, R2.held, ra⟩, fun ⟨j, b, o, e1, e2⟩ => ?_⟩
        rcases backR_at e1 with ⟨h1, h2⟩ | ⟨h1, h2⟩
        · exact (clean_at hcl h1 h2).elim
        · exact R2.heldO ⟨j, b, o, h2, by rw [wipe_ne h1]; exact e2⟩
  · cases hm
section
variable {X : Cx} {g : Gn} {elt tg iter : Expr} {ifs : List Expr} {scope : Scope} {own : List (Str × Nat)} {pos : Pos} {mi : M (List D)} {ga : D → Rho → Option Rho} {mt : M Bool} {me : M D}
theorem f_lc (hc : X.calm = true) (hN : X.N.Nodup) (hi : PI X tg iter (tI g mi)) (ok : BlkOk X.N X.env.scope scope own)
    (hg : ∀ (s : Shared) (H : Hp) (C : Addr) (cl : List (Str × Addr)) (fp : List Addr), PG (X.blk s H scope (compEnvC scope cl C X.env) fp) tg (tG g (own.map (·.2)) ga)) (ht : ∀ (s : Shared) (H : Hp) (C : Addr) (cl : List (Str × Addr)) (fp : List Addr), PTs (X.blk s H scope (compEnvC scope cl C X.env) fp) ifs (tB' g mt))
    (he : ∀ (s : Shared) (H : Hp) (C : Addr) (cl : List (Str × Addr)) (fp : List Addr), PE (X.blk s H scope (compEnvC scope cl C X.env) fp) elt (tE g me)) (hs : ∀ x, foldedSetIterable iter X.env x = pure x := by intro _; rfl) :
    PE X (.ListComp elt [⟨tg, iter, ifs, 0⟩] scope pos) (tF g (fLc (own.map (·.2)) mi ga mt me)) := (pe_lc hc hN hi ok hg ht he hs).ofM fun σ H Q h => lc_t h
/-- name = [..] -/
theorem s_lc {i : Nat} {y : Str} {py spos : Pos} (hc : X.calm = true) (hN : X.N.Nodup) (hy : X.N[i]? = some y) (hyl : X.env.scope.names.lookup y = some .local)
    (hsw : swapsWith (.ListComp elt [⟨tg, iter, ifs, 0⟩] scope pos) (some (.Name y py)) spos.line X.env = pure true) (hi : PI X tg iter (tI g mi)) (ok : BlkOk X.N X.env.scope scope own)
    (hg : ∀ (s : Shared) (H : Hp) (C : Addr) (cl : List (Str × Addr)) (fp : List Addr), PG (X.blk s H scope (compEnvC scope cl C X.env) fp) tg (tG g (own.map (·.2)) ga)) (ht : ∀ (s : Shared) (H : Hp) (C : Addr) (cl : List (Str × Addr)) (fp : List Addr), PTs (X.blk s H scope (compEnvC scope cl C X.env) fp) ifs (tB' g mt))
    (he : ∀ (s : Shared) (H : Hp) (C : Addr) (cl : List (Str × Addr)) (fp : List Addr), PE (X.blk s H scope (compEnvC scope cl C X.env) fp) elt (tE g me)) (hs : ∀ x, foldedSetIterable iter X.env x = pure x := by intro _; rfl) :
    PS X (.Assign [.Name y py] (.ListComp elt [⟨tg, iter, ifs, 0⟩] scope pos) spos) (tS g (sSet i (fLc (own.map (·.2)) mi ga mt me))) := (ps_setLc hc hN hy hyl hsw hi ok hg ht he hs).ofM fun D σ H ⟨c, G, ρ, o, R, hm, q⟩ => by
  obtain ⟨⟨r, ρ1⟩, h1, hm⟩ := bind_some hm
  cases hm
  refine lc_t ⟨c, G, ρ, r, ρ1, R, h1, fun G' H' v s R' a => ?_⟩
  cases r with
  | sh d => exact q G' H' _ s (R'.setSh a)
  | fr o =>
    obtain ⟨p, rfl, hG, hB, mo, hO⟩ := a
    exact q G' H' _ s (R'.setMu hG hB mo hO)
end
end L2.My

end
section
set_option Elab.async false
set_option linter.all false
set_option autoImplicit false
set_option maxRecDepth 100000
set_option maxHeartbeats 4000000
/-! Ml5: defs: what they promise by their mirrors, and their calls. -/
namespace L2.My
open PySem PySem.Spec PyProof.Rows

/-! ### arguments -/
inductive AvsAt (g : Gn) (G : Hp) (σ : L2.St) : List V → List AV → Prop
  | nil : AvsAt g G σ [] []
  | cons {v : V} {vs : List V} {a : AV} {as : List AV} : AvAt g G σ v a → AvsAt g G σ vs as → AvsAt g G σ (v :: vs) (a :: as)
theorem AvsAt.mono {g : Gn} {G G' : Hp} {σ : L2.St} (s : Same G G') : ∀ {vs : List V} {as : List AV}, AvsAt g G σ vs as → AvsAt g G' σ vs as
  | _, _, .nil => .nil
  | _, _, .cons a b => .cons (a.mono s) (AvsAt.mono s b)
def tAv (g : Gn) (m : M (List AV)) : TA := fun σ H Q => ∃ (c : Cn) (G : Hp) (ρ : Rho) (as : List AV) (ρ' : Rho), Rel g c G H ρ σ ∧ m ρ = some (as, ρ') ∧
  ∀ G' H' vs, Same G G' → Rel g c G' H' ρ' σ → AvsAt g G' σ vs as → Q vs H'
def mANil : M (List AV) := fun ρ => some ([], ρ)
def mACons (a : M AV) (r : M (List AV)) : M (List AV) := fun ρ => (a ρ).bind fun p => (r p.2).bind fun q => some (p.1 :: q.1, q.2)
def mVE (m : M D) : M AV := fun ρ => (m ρ).bind fun p => some (.sh p.1, p.2)
section
variable {X : Cx} {e : Expr} {es : List Expr} {g : Gn} {m : M AV} {ms : M (List AV)} {pos : Pos}
theorem v_e {m : M D} (h : PE X e (tE g m)) : PE X e (tV g (mVE m)) := h.ofM fun σ H Q ⟨c, G, ρ, d, ρ', R, hm, q⟩ => by
  obtain ⟨p, h1, hm⟩ := bind_some hm
  cases hm
  exact ⟨c, G, ρ, p.1, p.2, R, h1, fun G' H' v s R' h => q G' H' v s R' h⟩
theorem av_nil : PA X [] (tAv g mANil) := PA.ofM pa_nil fun σ H Q ⟨c, G, ρ, ds, ρ', R, hm, q⟩ => by
  cases hm
  exact q G H [] (Same.refl _) R .nil
theorem av_cons (ha : PE X e (tV g m)) (hr : PA X es (tAv g ms)) (hs : starEach (e :: es) X.env = (false, eval e X.env) :: starEach es X.env := by rfl) : PA X (e :: es) (tAv g (mACons m ms)) :=
  PA.ofM (pa_cons ha hr hs) fun σ H Q ⟨c, G, ρ, ds, ρ', R, hm, q⟩ => by
    obtain ⟨p, h1, hm⟩ := bind_some hm
    obtain ⟨p2, h2, hm⟩ := bind_some hm
    cases hm
    exact ⟨c, G, ρ, p.1, p.2, R, h1, fun G1 H1 v s1 R1 a1 => ⟨c, G1, p.2, p2.1, p2.2, R1, h2, fun G2 H2 vs s2 R2 a2 => q G2 H2 (v :: vs) (s1.trans s2) R2 (.cons (a1.mono s2) a2)⟩⟩
end

/-! ### the promise -/
abbrev FM := List SV → Option (RV × List MO)
inductive ArgsAt (g : Gn) (G H : Hp) : List V → List SV → List Addr → Prop
  | nil : ArgsAt g G H [] [] []
  | sh {v : V} {vs : List V} {d : D} {as : List SV} {bs : List Addr} : Rp g G v d → ArgsAt g G H vs as bs → ArgsAt g G H (v :: vs) (.sh d :: as) bs
  | mu {a : Addr} {vs : List V} {o : MO} {as : List SV} {bs : List Addr} : MoAt g G H a o → G a = none → ArgsAt g G H vs as bs → ArgsAt g G H (.ref a :: vs) (.mu true o :: as) (a :: bs)
inductive OutsAt (g : Gn) (G H : Hp) : List Addr → List MO → Prop
  | nil : OutsAt g G H [] []
  | cons {a : Addr} {o : MO} {bs : List Addr} {os : List MO} : MoAt g G H a o → G a = none → OutsAt g G H bs os → OutsAt g G H (a :: bs) (o :: os)
def ResAt (g : Gn) (G' H H' : Hp) (v : V) : RV → Prop
  | .sh d => Rp g G' v d
  | .fr o => ∃ p, v = .ref p ∧ G' p = none ∧ H p = none ∧ MoAt g G' H' p o
def spM (g : Gn) (n : Nat) (f : FM) : Sp := fun vs H Q _ => ∃ (G : Hp) (as : List SV) (bs : List Addr) (r : RV) (outs : List MO), vs.length = n ∧ Same G H ∧ (∀ P, g.T P → GxR.TabG H P) ∧ (∀ P, g.T P → G P = none) ∧ ArgsAt g G H vs as bs ∧ bs.Nodup ∧ f as = some (r, outs) ∧
  ∀ G' H' v, Same G G' → Same G' H' → (∀ a o, G' a = some o → G a = some o ∨ H a = none) → (∀ a o, H a = some o → a ∉ bs → ¬ g.T a → H' a = some o) → (∀ P, g.T P → GxR.TabG H' P) → OutsAt g G' H' bs outs → ResAt g G' H H' v r → Q v H'
def outsOf : List SV → Nat → Rho → Option (List MO)
  | [], _, _ => some []
  | .sh _ :: as, i, ρ => outsOf as (i + 1) ρ
  | .mu _ _ :: as, i, ρ => match ρ[i]? with
    | some (some (.mu true o)) => (outsOf as (i + 1) ρ).bind fun os => some (o :: os)
    | _ => none
/-- a def's mirror from its body's: n slots -/
def fnM (n : Nat) (m : MS) : FM := fun as => (m (as.map some ++ List.replicate (n - as.length) none)).bind fun o => match o with
  | .rt r ρ' => (outsOf as 0 ρ').bind fun os => some (r, os)
  | .nx ρ' => (outsOf as 0 ρ').bind fun os => some (.sh .non, os)
  | _ => none

section
variable {g : Gn} {G H G' H' : Hp}
theorem ArgsAt.length : ∀ {vs : List V} {as : List SV} {bs : List Addr}, ArgsAt g G H vs as bs → vs.length = as.length
  | _, _, _, .nil => rfl
  | _, _, _, .sh _ b => congrArg (· + 1) b.length
  | _, _, _, .mu _ _ b => congrArg (· + 1) b.length
theorem ArgsAt.shAt : ∀ {vs : List V} {as : List SV} {bs : List Addr} {i : Nat} {d : D}, ArgsAt g G H vs as bs → as[i]? = some (.sh d) → ∃ v, vs[i]? = some v ∧ Rp g G v d
  | _, _, _, _, _, .nil, e => by simp at e
  | _, _, _, 0, _, .sh r _, e => by simp at e; subst e; exact ⟨_, rfl, r⟩
  | _, _, _, 0, _, .mu _ _ _, e => by simp at e
  | _, _, _, i + 1, d, .sh _ b, e => by
    obtain ⟨v, h1, h2⟩ := ArgsAt.shAt (i := i) (d := d) b (by simpa using e)
    exact ⟨v, by simpa using h1, h2⟩
  | _, _, _, i + 1, d, .mu _ _ b, e => by
    obtain ⟨v, h1, h2⟩ := ArgsAt.shAt (i := i) (d := d) b (by simpa using e)
    exact ⟨v, by simpa using h1, h2⟩
theorem ArgsAt.muAt : ∀ {vs : List V} {as : List SV} {bs : List Addr} {i : Nat} {b : Bool} {o : MO}, ArgsAt g G H vs as bs → as[i]? = some (.mu b o) → ∃ a, vs[i]? = some (.ref a) ∧ a ∈ bs ∧ G a = none ∧ MoAt g G H a o ∧ b = true
  | _, _, _, _, _, _, .nil, e => by simp at e
  | _, _, _, 0, _, _, .sh r _, e => by simp at e
  | _, _, _, 0, _, _, .mu m n _, e => by simp at e; obtain ⟨rfl, rfl⟩ := e; exact ⟨_, rfl, by simp, n, m, rfl⟩
  | _, _, _, i + 1, b, o, .sh _ t, e => by
    obtain ⟨a, h1, h2⟩ := ArgsAt.muAt (i := i) (b := b) (o := o) t (by simpa using e)
    exact ⟨a, by simpa using h1, h2⟩
  | _, _, _, i + 1, b, o, .mu _ _ t, e => by
    obtain ⟨a, h1, h2, h3⟩ := ArgsAt.muAt (i := i) (b := b) (o := o) t (by simpa using e)
    exact ⟨a, by simpa using h1, by simp [h2], h3⟩
theorem ArgsAt.inj : ∀ {vs : List V} {as : List SV} {bs : List Addr}, ArgsAt g G H vs as bs → bs.Nodup → ∀ {i j : Nat} {b b' : Bool} {o o' : MO} {a : Addr}, as[i]? = some (.mu b o) → as[j]? = some (.mu b' o') → vs[i]? = some (.ref a) → vs[j]? = some (.ref a) → i = j
  | _, _, _, .nil, _, i, j, _, _, _, _, _, e, _, _, _ => by simp at e
  | _, _, _, .sh _ t, nd, i, j, b, b', o, o', a, e1, e2, e3, e4 => by
    cases i with
    | zero => simp at e1
    | succ i =>
      cases j with
      | zero => simp at e2
      | succ j => exact congrArg (· + 1) (ArgsAt.inj t nd (i := i) (j := j) (by simpa using e1) (by simpa using e2) (by simpa using e3) (by simpa using e4))
  | _, _, _, .mu m n t, nd, i, j, b, b', o, o', a, e1, e2, e3, e4 => by
    rw [List.nodup_cons] at nd
    cases i with
    | zero =>
      cases j with
      | zero => rfl
      | succ j =>
        obtain ⟨a', h1, h2, _⟩ := ArgsAt.muAt (i := j) t (by simpa using e2)
        have e4 : _ = _ := e4
        rw [List.getElem?_cons_succ, h1] at e4
        cases e4
        simp at e3
        subst e3
        exact (nd.1 h2).elim
    | succ i =>
      cases j with
      | zero =>
        obtain ⟨a', h1, h2, _⟩ := ArgsAt.muAt (i := i) t (by simpa using e1)
        rw [List.getElem?_cons_succ, h1] at e3
        cases e3
        simp at e4
        subst e4
        exact (nd.1 h2).elim
      | succ j => exact congrArg (· + 1) (ArgsAt.inj t nd.2 (i := i) (j := j) (by simpa using e1) (by simpa using e2) (by simpa using e3) (by simpa using e4))
end
theorem start_at {N : List Str} {vs : List V} {i : Nat} {v : V} (h : vs[i]? = some v) : (start N vs)[i]? = some (some v) := by
  unfold start
  have hl : i < vs.length := (List.getElem?_eq_some_iff.mp h).1
  rw [List.getElem?_append_left (by rw [List.length_map]; exact hl), List.getElem?_map, h]
  rfl
theorem startR_at {as : List SV} {n i : Nat} {sv : SV} (h : (as.map some ++ List.replicate (n - as.length) none)[i]? = some (some sv)) : as[i]? = some sv := by
  by_cases hl : i < as.length
  · rw [List.getElem?_append_left (by rw [List.length_map]; exact hl), List.getElem?_map] at h
    cases e : as[i]? with
    | none => rw [e] at h; cases h
    | some s => rw [e] at h; cases h; rfl
  · rw [List.getElem?_append_right (by rw [List.length_map]; omega), List.getElem?_replicate] at h
    split at h <;> cases h
def borOf (vs : List V) (i : Nat) : Addr := match vs[i]? with
  | some (.ref a) => a
  | _ => 0
open Classical in
noncomputable def baseOf (g : Gn) (H : Hp) (bs : List Addr) : Hp := fun a => if a ∈ bs ∨ g.T a then none else H a
theorem rel_start {g : Gn} {G H : Hp} {vs : List V} {as : List SV} {bs : List Addr} {N : List Str} (sG : Same G H) (tb : ∀ P, g.T P → GxR.TabG H P) (nT : ∀ P, g.T P → G P = none) (ar : ArgsAt g G H vs as bs) (nd : bs.Nodup) :
    Rel g ⟨G, baseOf g H bs, borOf vs⟩ G H (as.map some ++ List.replicate (N.length - as.length) none) (start N vs) where
  sB := fun a o e => by
    have e : baseOf g H bs a = some o := e
    unfold baseOf at e
    split at e
    · cases e
    · exact e
  sG := sG
  g0 := Same.refl _
  gB := fun a o e => .inl e
  len := by
    unfold start
    rw [List.length_append, List.length_append, List.length_map, List.length_map, List.length_replicate, List.length_replicate, ar.length]
  sh := fun i d e => by
    obtain ⟨v, h1, h2⟩ := ar.shAt (startR_at e)
    exact ⟨v, start_at h1, h2⟩
  mu := fun i b o e => by
    obtain ⟨a, h1, h2, h3, h4, h5⟩ := ar.muAt (startR_at e)
    refine ⟨a, start_at h1, h3, ?_, h4, fun _ => ?_⟩
    · show baseOf g H bs a = none
      unfold baseOf
      rw [if_pos (.inl h2)]
    · show a = borOf vs i
      unfold borOf
      rw [h1]
  inj := fun i j b b' o o' a e1 e2 e3 e4 => by
    have f1 := startR_at e1
    have f2 := startR_at e2
    obtain ⟨a1, h1, _⟩ := ar.muAt f1
    obtain ⟨a2, h2, _⟩ := ar.muAt f2
    rw [start_at h1] at e3
    cases e3
    rw [start_at h2] at e4
    cases e4
    exact ar.inj nd f1 f2 h1 h2
  tb := tb
  nT := fun P hP => ⟨nT P hP, by show baseOf g H bs P = none; unfold baseOf; rw [if_pos (.inr hP)]⟩
theorem borOf_at {vs : List V} {i : Nat} {a : Addr} (h : vs[i]? = some (.ref a)) : borOf vs i = a := by
  unfold borOf
  rw [h]
/-- what the borrowed hold at the end -/
theorem outs_at {g : Gn} {c : Cn} {G H G' H' : Hp} {ρ' : Rho} {σ' : L2.St} {vs0 : List V} (hb : c.bor = borOf vs0) (R : Rel g c G' H' ρ' σ') : ∀ {vs : List V} {as : List SV} {bs : List Addr} {i : Nat} {os : List MO}, ArgsAt g G H vs as bs → (∀ j v, vs[j]? = some v → vs0[i + j]? = some v) → outsOf as i ρ' = some os →
    OutsAt g G' H' bs os ∧ ∀ a, a ∈ bs → Owns ρ' σ' a
  | _, _, _, _, _, .nil, _, e => by cases e; exact ⟨.nil, fun a h => by simp at h⟩
  | _, _, _, i, _, .sh _ t, hv, e => by
    rw [outsOf] at e
    exact outs_at hb R (i := i + 1) t (fun j v h => by have := hv (j + 1) v (by simpa using h); rw [show i + 1 + j = i + (j + 1) by omega]; exact this) e
  | _, _, _, i, _, .mu (a := a) m n t, hv, e => by
    rw [outsOf] at e
    split at e
    · rename_i o hi
      obtain ⟨os', h1, e⟩ := bind_some e
      cases e
      obtain ⟨h2, h3⟩ := outs_at hb R (i := i + 1) t (fun j v h => by have := hv (j + 1) v (by simpa using h); rw [show i + 1 + j = i + (j + 1) by omega]; exact this) h1
      obtain ⟨a', f1, f2, f3, f4, f5⟩ := R.mu i _ _ hi
      have e0 : borOf vs0 i = a := borOf_at (by simpa using hv 0 (.ref a) rfl)
      have e1 : a' = a := by rw [f5 rfl, hb, e0]
      subst e1
      exact ⟨.cons f4 f2 h2, fun b hb => by
        rcases List.mem_cons.mp hb with rfl | hb
        · exact ⟨i, true, o, hi, f1⟩
        · exact h3 b hb⟩
    · cases e

/-- THE RULE: a def keeps the promise of its mirror -/
theorem fn_M {P : Program} {w : World} {K : PySem.W.Frag} {mg : Str → Option Value} {base : Heap} {x qual : Str} {st : Stmt} {f : Addr} {fd : FuncData} {N ps : List Str} {k : Nat} {g : Gn} {m : MS} (F : Fun K x qual st f fd) (S : FnScope N ps (defScope st))
    (hbody : ∀ (cdv : Value) (A : Around) (outer : List Env) (s : Shared) (H : Hp) (E : XK), Room k (A.deeper (envOfC qual (defScope st) s.heap.objs.size f cdv)) →
      PSs (cxOf CX0 P w K mg base N qual (defScope st) f cdv A outer s H E).nox (defBody st) (tS g m)) : FnOk P w K mg base CX0 (k + 1) f fd ps (spM g ps.length (fnM N.length m)) := by
  refine F.ok S (fun vs H Q E h => ?_) fun cdv A outer s H vs Q E hr h => ?_
  · obtain ⟨G, as, bs, r, outs, h1, _⟩ := h
    exact h1
  · obtain ⟨G, as, bs, r, outs, hl, sG, tb, nT, ar, nd, hf, q⟩ := h
    refine ⟨_, hbody cdv A outer s H E hr, ?_⟩
    obtain ⟨o, h1, hf⟩ := bind_some hf
    refine ⟨⟨G, baseOf g H bs, borOf vs⟩, G, _, o, rel_start sG tb nT ar nd, h1, ?_⟩
    have fin : ∀ {G' H' : Hp} {σ' : L2.St} {ρ' : Rho} {v : V} {r' : RV} {os : List MO}, Same G G' → Rel g ⟨G, baseOf g H bs, borOf vs⟩ G' H' ρ' σ' → RvAt g ⟨G, baseOf g H bs, borOf vs⟩ G' H' ρ' σ' v r' → outsOf as 0 ρ' = some os → (r', os) = (r, outs) → Q v H' := by
      intro G' H' σ' ρ' v r' os s R a ho e
      cases e
      obtain ⟨h2, h3⟩ := outs_at (c := ⟨G, baseOf g H bs, borOf vs⟩) rfl R (i := 0) ar (fun j v h => by rw [Nat.zero_add]; exact h) ho
      have base_none : ∀ {b : Addr}, baseOf g H bs b = none → b ∈ bs ∨ g.T b ∨ H b = none := fun {b} e => by
        unfold baseOf at e
        split at e
        · rename_i z
          rcases z with z | z
          · exact .inl z
          · exact .inr (.inl z)
        · exact .inr (.inr e)
      have notBs : ∀ {b : Addr}, b ∈ bs → G' b = none := fun {b} hb => by
        obtain ⟨i, b', o', e1, e2⟩ := h3 b hb
        obtain ⟨a, f1, f2, _⟩ := R.mu i b' o' e1
        rw [e2] at f1; cases f1; exact f2
      refine q G' H' v s R.sG (fun b u e => ?_) (fun b u e nb nt => ?_) R.tb h2 ?_
      · rcases R.gB b u e with z | z
        · exact .inl z
        · rcases base_none z with z | z | z
          · rw [notBs z] at e; cases e
          · rw [(R.nT b z).1] at e; cases e
          · exact .inr z
      · refine R.sB b u ?_
        show baseOf g H bs b = some u
        unfold baseOf
        rw [if_neg (fun z => z.elim nb nt)]
        exact e
      · cases r with
        | sh d => exact a
        | fr o =>
          obtain ⟨p, rfl, hG, hB, mo, hO⟩ := a
          refine ⟨p, rfl, hG, ?_, mo⟩
          rcases base_none hB with z | z | z
          · exact (hO (h3 p z)).elim
          · exact (mo.notT R.tb z).elim
          · exact z
    cases o with
    | bk ρ => cases hf
    | ct ρ => cases hf
    | nx ρ' =>
      obtain ⟨os, h2, hf⟩ := bind_some hf
      exact fun G' H' σ' s R => fin (r' := .sh .non) s R .non h2 (Option.some.inj hf)
    | rt r' ρ' =>
      obtain ⟨os, h2, hf⟩ := bind_some hf
      exact fun G' H' σ' v s R a => fin s R a h2 (Option.some.inj hf)

/-! ### calls -/
def argS : Option (Option SV) → Option SV
  | some (some (.mu _ o)) => some (.mu true o)
  | _ => none
def argOf (ρ : Rho) : AV → Option SV
  | .sh d => some (.sh d)
  | .sl i => argS ρ[i]?
theorem argS_some {x : Option (Option SV)} {sv : SV} (h : argS x = some sv) : ∃ b o, x = some (some (.mu b o)) ∧ sv = .mu true o := by
  unfold argS at h
  split at h
  · cases h; exact ⟨_, _, rfl, rfl⟩
  · cases h
def argsOf (ρ : Rho) : List AV → Option (List SV)
  | [] => some []
  | a :: as => (argOf ρ a).bind fun x => (argsOf ρ as).bind fun xs => some (x :: xs)
def slotsOf : List AV → List Nat
  | [] => []
  | .sh _ :: as => slotsOf as
  | .sl i :: as => i :: slotsOf as
def putS (i : Nat) (o : MO) (ρ : Rho) : Option (Option SV) → Rho
  | some (some (.mu b _)) => ρ.set i (some (.mu b o))
  | _ => ρ
def putOuts : List AV → List MO → Rho → Rho
  | .sl i :: as, o :: os, ρ => putOuts as os (putS i o ρ ρ[i]?)
  | .sh _ :: as, os, ρ => putOuts as os ρ
  | _, _, ρ => ρ
def mCall (f : FM) (ma : M (List AV)) : M RV := fun ρ => (ma ρ).bind fun p => if (slotsOf p.1).Nodup then (argsOf p.2 p.1).bind fun as => (f as).bind fun r => some (r.1, putOuts p.1 r.2 p.2) else none

section
variable {g : Gn} {c : Cn} {G H G' H' : Hp} {ρ : Rho} {σ : L2.St}
/-- the slots of the call and the addresses there -/
inductive SlAt (ρ : Rho) (σ : L2.St) : List Nat → List Addr → Prop
  | nil : SlAt ρ σ [] []
  | cons {i : Nat} {a : Addr} {is : List Nat} {bs : List Addr} : σ[i]? = some (some (.ref a)) → (∃ b o, ρ[i]? = some (some (.mu b o))) → SlAt ρ σ is bs → SlAt ρ σ (i :: is) (a :: bs)
theorem SlAt.mem {a : Addr} : ∀ {is : List Nat} {bs : List Addr}, SlAt ρ σ is bs → a ∈ bs → ∃ i, i ∈ is ∧ σ[i]? = some (some (.ref a)) ∧ ∃ b o, ρ[i]? = some (some (.mu b o))
  | _, _, .nil, h => by simp at h
  | _, _, .cons (i := i) h1 h2 t, h => by
    rcases List.mem_cons.mp h with rfl | h
    · exact ⟨i, by simp, h1, h2⟩
    · obtain ⟨j, q1, q2⟩ := SlAt.mem t h
      exact ⟨j, by simp [q1], q2⟩
theorem SlAt.mem' {i : Nat} {a : Addr} : ∀ {is : List Nat} {bs : List Addr}, SlAt ρ σ is bs → i ∈ is → σ[i]? = some (some (.ref a)) → a ∈ bs
  | _, _, .nil, h, _ => by simp at h
  | _, _, .cons h1 h2 t, h, e => by
    rcases List.mem_cons.mp h with rfl | h
    · rw [e] at h1; cases h1; simp
    · exact List.mem_cons_of_mem _ (SlAt.mem' t h e)
theorem SlAt.nodup (R : Rel g c G H ρ σ) : ∀ {is : List Nat} {bs : List Addr}, SlAt ρ σ is bs → is.Nodup → bs.Nodup
  | _, _, .nil, _ => List.nodup_nil
  | _, _, .cons (i := i) h1 ⟨b, o, h2⟩ t, nd => by
    rw [List.nodup_cons] at nd ⊢
    refine ⟨fun hm => ?_, SlAt.nodup R t nd.2⟩
    obtain ⟨j, q1, q2, b', o', q3⟩ := t.mem hm
    exact nd.1 (by rw [R.inj i j b b' o o' _ h2 q3 h1 q2]; exact q1)
theorem args_at (R : Rel g c G H ρ σ) : ∀ {vs : List V} {avs : List AV} {as : List SV}, AvsAt g G σ vs avs → argsOf ρ avs = some as → ∃ bs, ArgsAt g G H vs as bs ∧ SlAt ρ σ (slotsOf avs) bs
  | _, _, _, .nil, e => by cases e; exact ⟨[], .nil, .nil⟩
  | _, .sh d :: avs, _, .cons a t, e => by
    obtain ⟨x, h1, e⟩ := bind_some e
    obtain ⟨xs, h2, e⟩ := bind_some e
    cases e
    cases h1
    obtain ⟨bs, q1, q2⟩ := args_at R t h2
    exact ⟨bs, .sh a q1, q2⟩
  | _, .sl i :: avs, _, .cons (v := v) a t, e => by
    obtain ⟨x, h1, e⟩ := bind_some e
    obtain ⟨xs, h2, e⟩ := bind_some e
    cases e
    obtain ⟨bs, q1, q2⟩ := args_at R t h2
    have a : σ[i]? = some (some v) := a
    obtain ⟨b, o, hi, rfl⟩ := argS_some h1
    obtain ⟨p, f1, f2, f3, f4, f5⟩ := R.mu i _ _ hi
    rw [a] at f1
    cases f1
    exact ⟨p :: bs, .mu f4 f2 q1, .cons a ⟨b, o, hi⟩ q2⟩
/-- what stands in the slots behind a call -/
theorem put_at : ∀ {avs : List AV} {bs : List Addr} {os : List MO} {ρ1 : Rho}, (∀ j : Nat, (∃ b o, ρ1[j]? = some (some (SV.mu b o))) ↔ ∃ b o, ρ[j]? = some (some (SV.mu b o))) → (slotsOf avs).Nodup → SlAt ρ σ (slotsOf avs) bs → OutsAt g G' H' bs os → (putOuts avs os ρ1).length = ρ1.length ∧ ∀ (j : Nat) (sv : SV), (putOuts avs os ρ1)[j]? = some (some sv) →
    (j ∉ slotsOf avs ∧ ρ1[j]? = some (some sv)) ∨ (j ∈ slotsOf avs ∧ ∃ b o a o0, sv = SV.mu b o ∧ ρ1[j]? = some (some (SV.mu b o0)) ∧ σ[j]? = some (some (.ref a)) ∧ MoAt g G' H' a o ∧ G' a = none)
  | [], bs, os, ρ1, _, _, hs, ho => by
    refine ⟨rfl, fun j sv h => .inl ⟨by simp [slotsOf], h⟩⟩
  | .sh d :: avs, bs, os, ρ1, hm, nd, hs, ho => put_at (avs := avs) hm nd hs ho
  | .sl i :: avs, _, _, ρ1, hm, nd, .cons (a := a) h1 h2 t, .cons (o := o) (os := os) m n q => by
    have nd : (i :: slotsOf avs).Nodup := nd
    rw [List.nodup_cons] at nd
    obtain ⟨b0, o0, hi⟩ := (hm i).mpr h2
    have e : putOuts (.sl i :: avs) (o :: os) ρ1 = putOuts avs os (ρ1.set i (some (.mu b0 o))) := by
      show putOuts avs os (putS i o ρ1 ρ1[i]?) = _
      rw [hi]; rfl
    rw [e]
    have hl : i < ρ1.length := (List.getElem?_eq_some_iff.mp hi).1
    have hm' : ∀ j : Nat, (∃ b o', (ρ1.set i (some (SV.mu b0 o)))[j]? = some (some (SV.mu b o'))) ↔ ∃ b o, ρ[j]? = some (some (SV.mu b o)) := fun j => by
      rw [← hm j]
      by_cases hj : i = j
      · subst hj
        rw [List.getElem?_set_self hl]
        exact ⟨fun _ => ⟨b0, o0, hi⟩, fun _ => ⟨b0, o, rfl⟩⟩
      · rw [List.getElem?_set_ne hj]
    obtain ⟨l, f⟩ := put_at (avs := avs) (ρ1 := ρ1.set i (some (.mu b0 o))) hm' nd.2 t q
    refine ⟨by rw [l, List.length_set], fun j sv h => ?_⟩
    rcases f j sv h with ⟨g1, g2⟩ | ⟨g1, b, o', a', o0', g2, g3, g4⟩
    · by_cases hj : i = j
      · subst hj
        rw [List.getElem?_set_self hl] at g2
        cases g2
        exact .inr ⟨by simp [slotsOf], b0, o, a, o0, rfl, hi, h1, m, n⟩
      · rw [List.getElem?_set_ne hj] at g2
        exact .inl ⟨by simp only [slotsOf, List.mem_cons, not_or]; exact ⟨fun e => hj e.symm, g1⟩, g2⟩
    · have hj : i ≠ j := fun e => nd.1 (by rw [e]; exact g1)
      rw [List.getElem?_set_ne hj] at g3
      exact .inr ⟨by simp [slotsOf, g1], b, o', a', o0', g2, g3, g4⟩
/-- behind a call -/
theorem Rel.called (R : Rel g c G H ρ σ) {avs : List AV} {bs : List Addr} {os : List MO} (nd : (slotsOf avs).Nodup) (hs : SlAt ρ σ (slotsOf avs) bs) (s : Same G G') (sG : Same G' H') (hG : ∀ a o, G' a = some o → G a = some o ∨ H a = none)
    (hH : ∀ a o, H a = some o → a ∉ bs → ¬ g.T a → H' a = some o) (tb : ∀ P, g.T P → GxR.TabG H' P) (ho : OutsAt g G' H' bs os) : Rel g c G' H' (putOuts avs os ρ) σ := by
  obtain ⟨hl, hp⟩ := put_at (ρ1 := ρ) (fun j => Iff.rfl) nd hs ho
  have bB : ∀ {b : Addr}, b ∈ bs → c.B b = none := fun {b} hb => by
    obtain ⟨i, _, e, b', o', e2⟩ := hs.mem hb
    obtain ⟨a, f1, f2, f3, _⟩ := R.mu i _ _ e2
    rw [e] at f1; cases f1; exact f3
  have nG : ∀ {b : Addr}, G b = none → (∃ u, H b = some u) → G' b = none := fun {b} h1 ⟨u, h2⟩ => by
    cases e : G' b with
    | none => rfl
    | some o =>
      rcases hG b o e with z | z
      · rw [h1] at z; cases z
      · rw [h2] at z; cases z
  refine ⟨fun b u e => ?_, sG, R.g0.trans s, fun b u e => ?_, by rw [hl]; exact R.len, fun j d e => ?_, fun j b o e => ?_, fun j k b b' o o' a e1 e2 e3 e4 => ?_, tb, fun P hP => ⟨?_, (R.nT P hP).2⟩⟩
  · refine hH b u (R.sB b u e) (fun hb => by rw [bB hb] at e; cases e) fun hT => ?_
    rw [(R.nT b hT).2] at e; cases e
  · rcases hG b u e with z | z
    · exact R.gB b u z
    · exact .inr (R.freeB z)
  · rcases hp j _ e with ⟨g1, g2⟩ | ⟨g1, b, o, a, o0, g2, _⟩
    · obtain ⟨v, h1, h2⟩ := R.sh j d g2
      exact ⟨v, h1, h2.mono s⟩
    · cases g2
  · rcases hp j _ e with ⟨g1, g2⟩ | ⟨g1, b', o', a, o0, g2, g3, g4, g5, g6⟩
    · obtain ⟨a, h1, h2, h3, h4, h5⟩ := R.mu j b o g2
      obtain ⟨ho', e', _⟩ := h4.ho
      refine ⟨a, h1, nG h2 ⟨_, e'⟩, h3, h4.mono s fun u hu => hH a u hu (fun hb => ?_) (h4.notT R.tb), h5⟩
      obtain ⟨i, q1, q2, b'', o'', q3⟩ := hs.mem hb
      exact g1 (by rw [← R.inj i j _ _ _ _ a q3 g2 q2 h1]; exact q1)
    · cases g2
      obtain ⟨a', h1, h2, h3, h4, h5⟩ := R.mu j b o0 g3
      rw [g4] at h1
      cases h1
      exact ⟨a, g4, g6, h3, g5, h5⟩
  · have back : ∀ {j : Nat} {b : Bool} {o : MO}, (putOuts avs os ρ)[j]? = some (some (.mu b o)) → ∃ b o, ρ[j]? = some (some (.mu b o)) := fun {j b o} e => by
      rcases hp j _ e with ⟨_, g2⟩ | ⟨_, b', o', a, o0, _, g3, _⟩
      · exact ⟨_, _, g2⟩
      · exact ⟨_, _, g3⟩
    obtain ⟨_, _, f1⟩ := back e1
    obtain ⟨_, _, f2⟩ := back e2
    exact R.inj j k _ _ _ _ a f1 f2 e3 e4
  · cases e : G' P with
    | none => rfl
    | some o =>
      rcases hG P o e with z | z
      · rw [(R.nT P hP).1] at z; cases z
      · obtain ⟨ps, e2, _⟩ := R.tb P hP
        rw [z] at e2; cases e2
theorem AvsAt.length : ∀ {vs : List V} {as : List AV}, AvsAt g G σ vs as → vs.length = as.length
  | _, _, .nil => rfl
  | _, _, .cons _ b => congrArg (· + 1) b.length
theorem Rel.own_put (R : Rel g c G H ρ σ) {avs : List AV} {bs : List Addr} {os : List MO} (nd : (slotsOf avs).Nodup) (hs : SlAt ρ σ (slotsOf avs) bs) (ho : OutsAt g G' H' bs os) {p : Addr} (h : Owns (putOuts avs os ρ) σ p) : Owns ρ σ p := by
  obtain ⟨j, b, o, e1, e2⟩ := h
  obtain ⟨hl, hp⟩ := put_at (ρ1 := ρ) (fun j => Iff.rfl) nd hs ho
  rcases hp j _ e1 with ⟨_, g2⟩ | ⟨_, b', o', a, o0, _, g3, _⟩
  · exact ⟨j, _, _, g2, e2⟩
  · exact ⟨j, _, _, g3, e2⟩
end
theorem call_t {g : Gn} {σ : L2.St} {H : Hp} {Q : VK} {n : Nat} {f : FM} {ma : M (List AV)} {E : XK} (hn : ∀ ρ as ρ', ma ρ = some (as, ρ') → as.length = n) (h : tF g (mCall f ma) σ H Q) : tCall (spM g n f) [] E (tAv g ma) σ H Q := by
  obtain ⟨c, G, ρ, r, ρ', R, hm, q⟩ := h
  obtain ⟨⟨avs, ρ1⟩, h1, hm⟩ := bind_some hm
  split at hm
  · rename_i nd
    obtain ⟨as, h2, hm⟩ := bind_some hm
    obtain ⟨⟨r', os⟩, h3, hm⟩ := bind_some hm
    cases hm
    refine ⟨c, G, ρ, avs, ρ1, R, h1, fun G1 H1 vs s1 R1 av => ?_⟩
    obtain ⟨bs, ar, sl⟩ := args_at R1 av h2
    refine ⟨G1, as, bs, r', os, by rw [List.append_nil, av.length]; exact hn _ _ _ h1, R1.sG, R1.tb, fun P hP => (R1.nT P hP).1, by rw [List.append_nil]; exact ar, SlAt.nodup R1 sl nd, h3, fun G2 H2 v s2 sG2 hG hH tb ho hr => ?_⟩
    have R2 := R1.called nd sl s2 sG2 hG hH tb ho
    refine q G2 H2 v (s1.trans s2) R2 ?_
    cases r' with
    | sh d => exact hr
    | fr o =>
      obtain ⟨p, rfl, f1, f2, f3⟩ := hr
      exact ⟨p, rfl, f1, R1.freeB f2, f3, fun z => R1.notOwn f2 (R1.own_put nd sl ho z)⟩
  · cases hm
theorem mA_len0 {ρ : Rho} {as : List AV} {ρ' : Rho} (h : mANil ρ = some (as, ρ')) : as.length = 0 := by cases h; rfl
theorem mA_len {m : M AV} {ms : M (List AV)} {n : Nat} (h : ∀ ρ as ρ', ms ρ = some (as, ρ') → as.length = n) (ρ : Rho) (as : List AV) (ρ' : Rho) (e : mACons m ms ρ = some (as, ρ')) : as.length = n + 1 := by
  obtain ⟨p, h1, e⟩ := bind_some e
  obtain ⟨p2, h2, e⟩ := bind_some e
  cases e
  exact congrArg (· + 1) (h _ _ _ h2)
section
variable {X : Cx} {g : Gn} {k : Nat} {f : Addr} {fd : FuncData} {ps : List Str} {fm : FM} {x : Str} {p pos : Pos} {e : Expr} {es : List Expr} {ma : M (List AV)}
theorem f_call (F : FnOk X.prog X.w X.K X.mg X.base CX0 k f fd ps (spM g ps.length fm)) (hr : Room k X.A) (hg : Gl X x) (hm : X.mg x = some (.ref f)) (hk : PySem.W.keepIn X.K (.ref f) = true) (hb : Binds X.K fd ps []) (ha : PA X (e :: es) (tAv g ma)) (hn : ∀ ρ as ρ', ma ρ = some (as, ρ') → as.length = ps.length)
    (hdb : (x == ("__debug__" : Str)) = false := by decide) (he : starEach (e :: es) X.env = (false, eval e X.env) :: starEach es X.env := by rfl) (hpl : (backTo pos (starEach es X.env)).any (·.1) = false := by rfl) :
    PE X (.Call (.Name x p) (e :: es) [] pos) (tF g (mCall fm ma)) := (pe_call (E := E0) F hr hg hm hk hb .nil pass0 ha hdb he hpl).ofM fun σ H Q h => call_t hn h
end
end L2.My

end
section
set_option Elab.async false
set_option linter.all false
set_option autoImplicit false
set_option maxRecDepth 100000
set_option maxHeartbeats 4000000
/-! Ml6: methods that change a slot's object, sorted, join, dicts, fields, new instances. -/
namespace L2.My
open PySem PySem.Spec PyProof.Rows

/-! ### a slot's list -/
def lstS : Option (Option SV) → Option (Bool × List D)
  | some (some (.mu b (.lst ds))) => some (b, ds)
  | _ => none
theorem lstS_some {x : Option (Option SV)} {p : Bool × List D} (h : lstS x = some p) : x = some (some (.mu p.1 (.lst p.2))) := by
  unfold lstS at h
  split at h
  · cases h; rfl
  · cases h
section
variable {g : Gn} {c : Cn} {G H : Hp} {ρ : Rho} {σ : L2.St}
theorem Rel.lstAt (R : Rel g c G H ρ σ) {i : Nat} {p : Bool × List D} (h : lstS ρ[i]? = some p) : ∃ a us, σ[i]? = some (some (.ref a)) ∧ H a = some (.lst us) ∧ RpA g G us p.2 ∧
    ∀ us' ds', RpA g G us' ds' → Rel g c G (upd H a (.lst us')) (ρ.set i (some (.mu p.1 (.lst ds')))) σ := by
  have e := lstS_some h
  obtain ⟨a, f1, f2, f3, f4, f5⟩ := R.mu i _ _ e
  obtain ⟨us, h1, h2⟩ := f4
  exact ⟨a, us, f1, h1, h2, fun us' ds' r => R.write e f1 f2 ⟨us', upd_same, r⟩⟩
end
/-- x.append(e) -/
def mApp (i : Nat) (me : M D) : M RV := fun ρ => (lstS ρ[i]?).bind fun _ => (me ρ).bind fun p => (lstS p.2[i]?).bind fun q => if q.2.length < sizeLine then some (.sh .non, p.2.set i (some (.mu q.1 (.lst (q.2 ++ [p.1]))))) else none
/-- x.pop(e) -/
def mPop (i : Nat) (me : M AV) : M RV := fun ρ => (lstS ρ[i]?).bind fun _ => (me ρ).bind fun p => (look p.2 p.1).bind fun d => (intOf d).bind fun k => (lstS p.2[i]?).bind fun q => if 0 ≤ k ∧ k < 2 ^ 63 then (q.2[k.toNat]?).bind fun y => some (.sh y, p.2.set i (some (.mu q.1 (.lst (q.2.eraseIdx k.toNat))))) else none
/-- x[k] = e -/
def sSetI (i : Nat) (me : M D) (mk : M AV) : MS := fun ρ => (me ρ).bind fun p => (lstS p.2[i]?).bind fun _ => (mk p.2).bind fun q => (look q.2 q.1).bind fun d => (intOf d).bind fun k => (lstS q.2[i]?).bind fun l => (ixN l.2.length k).bind fun j => some (.nx (q.2.set i (some (.mu l.1 (.lst (l.2.set j p.1))))))
section
variable {X : Cx} {g : Gn} {o e k : Expr} {i : Nat} {me : M D} {mk : M AV} {apos cpos pos p2 : Pos}
theorem f_append (ho : PE X o (tVar i)) (he : PE X e (tE g me)) (hb : attributeBase o "append" X.env (eval o X.env) = eval o X.env := by rfl)
    (hf : ((backTo cpos (starEach [e] X.env)).all (fun x => !x.1) && (backToKw cpos (keywordEach [] X.env)).all (fun x => x.1.isSome) && decide (([e] : List Expr).length + ([] : List Keyword).length + (if ([] : List Keyword).isEmpty then 0 else 1) < 30)) = true := by rfl)
    (hl : (apos.endLine == cpos.line) = true := by rfl) (hs : starEach [e] X.env = (false, eval e X.env) :: starEach [] X.env := by rfl) (hp : (backTo cpos (starEach [] X.env)).any (·.1) = false := by rfl) :
    PE X (.Call (.Attribute o "append" apos) [e] [] cpos) (tF g (mApp i me)) := (pe_bm PySem.F.plainAttrs_list PySem.F.slot_list_append PySem.F.type_list_append mt_append ho (pa_cons he pa_nil hs) hb hf hl hs hp).ofM fun σ H Q ⟨c, G, ρ, r, ρ', R, hm, q⟩ => by
  obtain ⟨q0, h0, hm⟩ := bind_some hm
  obtain ⟨p, h1, hm⟩ := bind_some hm
  obtain ⟨q1, h2, hm⟩ := bind_some hm
  split at hm
  · rename_i hz
    cases hm
    obtain ⟨a, us, e1, e2, _⟩ := R.lstAt h0
    refine ⟨.ref a, e1, .inl ⟨rfl, us, .of e2⟩, c, G, ρ, p.1, p.2, R, h1, fun G1 H1 v s1 R1 a1 => ?_⟩
    obtain ⟨a', us', f1, f2, f3, f4⟩ := R1.lstAt h2
    rw [e1] at f1
    cases f1
    exact ⟨a, us', v, rfl, rfl, f2, by rw [f3.length]; exact hz, q G1 _ _ s1 (f4 _ _ (f3.append (.one a1))) .non⟩
  · cases hm
theorem f_pop (ho : PE X o (tVar i)) (he : PE X e (tV g mk)) (hb : attributeBase o "pop" X.env (eval o X.env) = eval o X.env := by rfl)
    (hf : ((backTo cpos (starEach [e] X.env)).all (fun x => !x.1) && (backToKw cpos (keywordEach [] X.env)).all (fun x => x.1.isSome) && decide (([e] : List Expr).length + ([] : List Keyword).length + (if ([] : List Keyword).isEmpty then 0 else 1) < 30)) = true := by rfl)
    (hl : (apos.endLine == cpos.line) = true := by rfl) (hs : starEach [e] X.env = (false, eval e X.env) :: starEach [] X.env := by rfl) (hp : (backTo cpos (starEach [] X.env)).any (·.1) = false := by rfl) :
    PE X (.Call (.Attribute o "pop" apos) [e] [] cpos) (tF g (mPop i mk)) := (pe_bm PySem.F.plainAttrs_list PySem.F.slot_list_pop PySem.F.type_list_pop mt_popAt ho (pa_cons he pa_nil hs) hb hf hl hs hp).ofM fun σ H Q ⟨c, G, ρ, r, ρ', R, hm, q⟩ => by
  obtain ⟨q0, h0, hm⟩ := bind_some hm
  obtain ⟨p, h1, hm⟩ := bind_some hm
  obtain ⟨d, h2, hm⟩ := bind_some hm
  obtain ⟨k, h3, hm⟩ := bind_some hm
  obtain ⟨q1, h4, hm⟩ := bind_some hm
  split at hm
  · rename_i hz
    obtain ⟨y, h5, hm⟩ := bind_some hm
    cases hm
    obtain ⟨a, us, e1, e2, _⟩ := R.lstAt h0
    refine ⟨.ref a, e1, .inl ⟨rfl, us, .of e2⟩, c, G, ρ, p.1, p.2, R, h1, fun G1 H1 v s1 R1 a1 => ?_⟩
    obtain ⟨a', us', f1, f2, f3, f4⟩ := R1.lstAt h4
    rw [e1] at f1
    cases f1
    have n := nw_of R1 a1 h2
    rw [intOf_some h3] at n
    obtain ⟨w, h6, h7⟩ := f3.get h5
    refine ⟨a, us', k, k.toNat, w, rfl, by rw [n.int], f2, by omega, hz.2, ?_, h6, q G1 _ _ s1 (f4 _ _ (f3.eraseIdx _)) h7⟩
    have hl : k.toNat < us'.length := (List.getElem?_eq_some_iff.mp h6).1
    exact (ixN_seq (n := us'.length) (i := k) (j := k.toNat) (by unfold ixN; rw [if_pos hz.1, if_pos (by omega)])).1
  · cases hm
theorem s_setI (ho : PE X o (tVar i)) (hk : PE X k (tV g mk)) (he : PE X e (tE g me)) (ha : ∀ v, assign (.Subscript o k p2) X.env v = (do
      let ov ← holding [v] (eval o X.env)
      let iv ← holding [v, ov] (eval k X.env)
      standAt p2
      holding [v, ov, iv] (setItem ov iv v)
      release [v, ov, iv] []) := by intro _; rfl) (hs : swapsWithSole [.Subscript o k p2] e pos.line X.env = pure false := by rfl) (hw : swappedStores [.Subscript o k p2] e X.env = pure none := by rfl)
    (h1 : (assignEach [.Subscript o k p2] X.env).map (·.2) = [assign (.Subscript o k p2) X.env] := by rfl) : PS X (.Assign [.Subscript o k p2] e pos) (tS g (sSetI i me mk)) := (ps_asg he (pg_sub ho hk set_list ha) hs hw h1).ofM fun D σ H ⟨c, G, ρ, out, R, hm, q⟩ => by
  obtain ⟨p, h1, hm⟩ := bind_some hm
  obtain ⟨q0, h0, hm⟩ := bind_some hm
  obtain ⟨p2, h2, hm⟩ := bind_some hm
  obtain ⟨d, h3, hm⟩ := bind_some hm
  obtain ⟨k, h4, hm⟩ := bind_some hm
  obtain ⟨l, h5, hm⟩ := bind_some hm
  obtain ⟨j, h6, hm⟩ := bind_some hm
  cases hm
  refine ⟨c, G, ρ, p.1, p.2, R, h1, fun G1 H1 v s1 R1 a1 => ?_⟩
  obtain ⟨a, us, e1, e2, _⟩ := R1.lstAt h0
  refine ⟨.ref a, e1, c, G1, p.2, p2.1, p2.2, R1, h2, fun G2 H2 w s2 R2 a2 => ?_⟩
  obtain ⟨a', us', f1, f2, f3, f4⟩ := R2.lstAt h5
  rw [e1] at f1
  cases f1
  have n := nw_of R2 a2 h3
  rw [intOf_some h4] at n
  exact ⟨a, us', k, j, rfl, n.int, f2, by rw [f3.length]; exact h6, q G2 _ σ (s1.trans s2) (f4 _ _ (f3.set (a1.mono s2) j))⟩
end

/-! ### join -/
def strsOf : List D → Option (List Str)
  | [] => some []
  | .str x :: r => (strsOf r).bind fun xs => some (x :: xs)
  | _ :: _ => none
theorem strsOf_map : ∀ {ds : List D} {xs : List Str}, strsOf ds = some xs → ds = xs.map D.str
  | [], _, h => by cases h; rfl
  | .str x :: r, _, h => by
    obtain ⟨xs, h1, h⟩ := bind_some h
    cases h
    rw [strsOf_map h1]
    rfl
theorem strs_inv {g : Gn} {G : Hp} : ∀ {us : List V} {xs : List Str}, RpA g G us (xs.map D.str) → us = xs.map V.str
  | _, [], .nil => rfl
  | _, x :: xs, .cons a b => by
    cases a
    rw [strs_inv b]
    rfl
def oJoin (a : Str) : D → Option RV
  | .lst ds => (strsOf ds).bind fun ys => if (ys.map (·.length)).sum + ys.length * a.length ≤ 16777216 then some (.sh (.str (Txt.join a ys))) else none
  | .tup ds => (strsOf ds).bind fun ys => if (ys.map (·.length)).sum + ys.length * a.length ≤ 16777216 then some (.sh (.str (Txt.join a ys))) else none
  | _ => none
theorem f_join {X : Cx} {g : Gn} {o e : Expr} {a : Str} {me : M AV} {apos pos : Pos} (ho : PE X o (tC (.str a))) (he : PE X e (tV g me)) (hK : X.K = g.K := by rfl) (hs : starEach [e] X.env = [(false, eval e X.env)] := by rfl)
    (hb : attributeBase o "join" X.env (eval o X.env) = eval o X.env := by rfl) (hl : (apos.endLine == pos.line) = true := by rfl) : PE X (.Call (.Attribute o "join" apos) [e] [] pos) (tF g (m1 (oJoin a) me)) := (pe_join ho he hs hb hl).ofM fun σ H Q h => by
  refine ⟨⟨a, rfl⟩, ?_⟩
  obtain ⟨c, G, ρ, av, ρ', R, hm, q⟩ := one_t h
  refine ⟨c, G, ρ, av, ρ', R, hm, fun G1 H1 v s1 R1 a1 => ?_⟩
  obtain ⟨G2, d, r, sG, n, hf, k⟩ := q G1 H1 v s1 R1 a1
  unfold oJoin at hf
  split at hf
  · obtain ⟨ys, h1, hf⟩ := bind_some hf
    split at hf
    · rename_i hz
      cases hf
      obtain ⟨p, us, rfl, h2, r2⟩ := n.lst sG
      rw [strsOf_map h1] at r2
      rw [strs_inv r2] at h2
      exact ⟨a, p, ys, rfl, rfl, .inl (.of h2), hz, k _ _ _ (ends_val (.str _))⟩
    · cases hf
  · obtain ⟨ys, h1, hf⟩ := bind_some hf
    split at hf
    · rename_i hz
      cases hf
      obtain ⟨p, us, rfl, h2, r2⟩ := n.tup
      rw [strsOf_map h1] at r2
      rw [strs_inv r2, ← hK] at h2
      exact ⟨a, p, ys, rfl, rfl, .inr (Same.seqT sG h2), hz, k _ _ _ (ends_val (.str _))⟩
    · cases hf
  · cases hf

/-! ### list(range(..)) -/
theorem rgV_rp {g : Gn} {G : Hp} {a b : Int} : RpA g G (rgV a b) (rngD a (b - a).toNat) := by
  unfold rgV rngD
  have key : ∀ l : List Nat, RpA g G (l.map fun i => V.int (a + (i : Nat))) (l.map fun (k : Nat) => D.int (a + (k : Int))) := by
    intro l
    induction l with
    | nil => exact .nil
    | cons x xs ih => exact .cons (.int _) ih
  exact key _
def mLR1 (a : M AV) : M RV := fun ρ => (a ρ).bind fun p => (look p.2 p.1).bind fun d => (intOf d).bind fun n => if 0 ≤ n ∧ n ≤ 16777216 then some (.fr (.lst (rngD 0 n.toNat)), p.2) else none
def mLR2 (a b : M AV) : M RV := fun ρ => (a ρ).bind fun p => (b p.2).bind fun q => (look q.2 p.1).bind fun d => (look q.2 q.1).bind fun e => (intOf d).bind fun i => (intOf e).bind fun j =>
  if 0 ≤ i ∧ i ≤ 16777216 ∧ 0 ≤ j ∧ j ≤ 16777216 then some (.fr (.lst (rngD i (j - i).toNat)), q.2) else none
section
variable {X : Cx} {g : Gn} {a b : Expr} {ma mb : M AV} {p pos p2 pos2 : Pos}
theorem f_listRng1 (hc : X.calm = true) (hL : X.mg "list" = none) (hR : X.mg "range" = none) (ha : PE X a (tV g ma)) (gL : Gl X "list" := by rfl) (gR : Gl X "range" := by rfl) (na : starEach [a] X.env = (false, eval a X.env) :: starEach [] X.env := by rfl)
    (nl : starEach [.Call (.Name "range" p2) [a] [] pos2] X.env = (false, eval (.Call (.Name "range" p2) [a] [] pos2) X.env) :: starEach [] X.env := by rfl) : PE X (.Call (.Name "list" p) [.Call (.Name "range" p2) [a] [] pos2] [] pos) (tF g (mLR1 ma)) :=
  (pe_listRg hc gL hL (prg_1 gR hR ha na) nl).ofM fun σ H Q ⟨c, G, ρ, r, ρ', R, hm, q⟩ => by
    obtain ⟨pp, h1, hm⟩ := bind_some hm
    obtain ⟨d, h2, hm⟩ := bind_some hm
    obtain ⟨n, h3, hm⟩ := bind_some hm
    split at hm
    · rename_i hz
      cases hm
      refine ⟨c, G, ρ, pp.1, pp.2, R, h1, fun G1 H1 v s1 R1 a1 => ?_⟩
      have nn := nw_of R1 a1 h2
      rw [intOf_some h3] at nn
      refine ⟨n, nn.int, RgOk.of_le (by omega) hz.2 (by omega) hz.1, fun pq hq => ?_⟩
      have e : n.toNat = (n - 0).toNat := by omega
      rw [e] at q
      obtain ⟨s2, R2, a2⟩ := R1.ends (ends_lst hq (rgV_rp (g := g) (G := G1) (a := 0) (b := n)))
      exact q _ _ _ (s1.trans s2) R2 a2
    · cases hm
theorem f_listRng2 (hc : X.calm = true) (hL : X.mg "list" = none) (hR : X.mg "range" = none) (ha : PE X a (tV g ma)) (hb : PE X b (tV g mb)) (gL : Gl X "list" := by rfl) (gR : Gl X "range" := by rfl) (na : starEach [a, b] X.env = (false, eval a X.env) :: starEach [b] X.env := by rfl)
    (nb : starEach [b] X.env = (false, eval b X.env) :: starEach [] X.env := by rfl) (hp : (backTo pos2 (starEach [b] X.env)).any (·.1) = false := by rfl)
    (nl : starEach [.Call (.Name "range" p2) [a, b] [] pos2] X.env = (false, eval (.Call (.Name "range" p2) [a, b] [] pos2) X.env) :: starEach [] X.env := by rfl) : PE X (.Call (.Name "list" p) [.Call (.Name "range" p2) [a, b] [] pos2] [] pos) (tF g (mLR2 ma mb)) :=
  (pe_listRg hc gL hL (prg_2 gR hR ha hb na nb hp) nl).ofM fun σ H Q ⟨c, G, ρ, r, ρ', R, hm, q⟩ => by
    obtain ⟨pp, h1, hm⟩ := bind_some hm
    obtain ⟨pq, h2, hm⟩ := bind_some hm
    obtain ⟨d, h3, hm⟩ := bind_some hm
    obtain ⟨e, h4, hm⟩ := bind_some hm
    obtain ⟨i, h5, hm⟩ := bind_some hm
    obtain ⟨j, h6, hm⟩ := bind_some hm
    split at hm
    · rename_i hz
      cases hm
      refine ⟨c, G, ρ, pp.1, pp.2, R, h1, fun G1 H1 v s1 R1 a1 => ⟨c, G1, pp.2, pq.1, pq.2, R1, h2, fun G2 H2 w s2 R2 a2 => ?_⟩⟩
      have n1 := nw_of R2 (a1.mono s2) h3
      rw [intOf_some h5] at n1
      have n2 := nw_of R2 a2 h4
      rw [intOf_some h6] at n2
      refine ⟨i, j, n1.int, n2.int, RgOk.of_le hz.1 hz.2.2.2 hz.2.1 hz.2.2.1, fun px hq => ?_⟩
      obtain ⟨s3, R3, a3⟩ := R2.ends (ends_lst hq (rgV_rp (g := g) (G := G2) (a := i) (b := j)))
      exact q _ _ _ ((s1.trans s2).trans s3) R3 a3
    · cases hm
end

/-! ### dicts -/
def keyD : D → Option Key
  | .int i => some (.inl i)
  | .str x => some (.inr x)
  | _ => none
def lookD (kd : List (Key × D)) (k : Key) : Option D := (kd.find? fun p => decide (p.1 = k)).map (·.2)
theorem lookD_rp {g : Gn} {G : Hp} {k : Key} : ∀ {kv : List (Key × V)} {kd : List (Key × D)}, RpK g G kv kd → (lookD kd k = none → valV kv k = none) ∧ ∀ d, lookD kd k = some d → ∃ v, valV kv k = some v ∧ Rp g G v d
  | _, _, .nil => ⟨fun _ => rfl, fun d h => by cases h⟩
  | _, _, .cons (k := k') (d := d') (ds := ds) a b => by
    obtain ⟨h1, h2⟩ := lookD_rp (k := k) b
    by_cases e : k' = k
    · have : lookD ((k', d') :: ds) k = some d' := by simp [lookD, List.find?_cons, e]
      refine ⟨fun z => ?_, fun d z => ?_⟩
      · rw [this] at z; cases z
      · rw [this] at z; cases z; exact ⟨_, valV_pos e, a⟩
    · have : lookD ((k', d') :: ds) k = lookD ds k := by simp [lookD, List.find?_cons, e]
      refine ⟨fun z => ?_, fun d z => ?_⟩
      · rw [this] at z; rw [valV_neg e]; exact h1 z
      · rw [this] at z; rw [valV_neg e]; exact h2 d z
theorem keyD_v {g : Gn} {G H : Hp} {v : V} {d : D} {k : Key} (n : Nw g G H v d) (h : keyD d = some k) : v = kV k := by
  cases d with
  | int i => cases h; exact n.int
  | str x => cases h; exact n.str
  | _ => cases h
/-- d[k] -/
def oDIx : D → D → Option RV
  | .dic kd, e => (keyD e).bind fun k => (lookD kd k).bind fun d => some (.sh d)
  | _, _ => none
def oGet : D → D → Option RV
  | .dic kd, e => (keyD e).bind fun k => some (.sh ((lookD kd k).getD .non))
  | _, _ => none
/-- d.get(k), d shared -/
def mGet (md : M D) (mk : M AV) : M RV := fun ρ => (md ρ).bind fun p => (mk p.2).bind fun q => (look q.2 q.1).bind fun e => (oGet p.1 e).bind fun r => some (r, q.2)
section
variable {X : Cx} {g : Gn} {o k : Expr} {mo mk : M AV} {md : M D} {pos apos cpos : Pos}
theorem f_dix (hu : X.A.units + 1 < cLine) (ho : PE X o (tV g mo)) (hk : PE X k (tV g mk)) (hs : NoSl k) : PE X (.Subscript o k pos) (tF g (m2 oDIx mo mk)) := (pe_dget hu ho hk hs).ofM fun σ H Q h => by
  obtain ⟨c, G, ρ, av, ρ', R, hm, q⟩ := two_t h
  refine ⟨c, G, ρ, av, ρ', R, hm, fun G1 H1 v s1 R1 a1 => ?_⟩
  obtain ⟨c2, G2, ρ2, av2, ρ2', R2, hm2, q2⟩ := q G1 H1 v s1 R1 a1
  refine ⟨c2, G2, ρ2, av2, ρ2', R2, hm2, fun G3 H3 w s3 R3 a3 => ?_⟩
  obtain ⟨G4, d, e, r, sG, n1, n2, hf, k⟩ := q2 G3 H3 w s3 R3 a3
  unfold oDIx at hf
  split at hf
  · obtain ⟨kk, h1, hf⟩ := bind_some hf
    obtain ⟨dd, h2, hf⟩ := bind_some hf
    cases hf
    obtain ⟨a, kv, rfl, h3, r3⟩ := n1.dic sG
    obtain ⟨vv, h4, h5⟩ := (lookD_rp r3).2 _ h2
    refine ⟨a, vv, rfl, ?_, k _ _ _ (ends_val h5)⟩
    rw [keyD_v n2 h1, ← h4]
    exact DGet.k h3
  · cases hf
theorem f_dget (hu : X.A.units + 1 < cLine) (ho : PE X o (tE g md)) (hk : PE X k (tV g mk)) (m : M1 X o "get" apos k cpos) : PE X (.Call (.Attribute o "get" apos) [k] [] cpos) (tF g (mGet md mk)) := (pe_dget1 hu ho hk m).ofM fun σ H Q ⟨c, G, ρ, r, ρ', R, hm, q⟩ => by
  obtain ⟨⟨d, ρ1⟩, h1, hm⟩ := bind_some hm
  obtain ⟨⟨av, ρ2⟩, h2, hm⟩ := bind_some hm
  obtain ⟨e, h3, hm⟩ := bind_some hm
  obtain ⟨r', h4, hm⟩ := bind_some hm
  cases hm
  refine ⟨c, G, ρ, d, ρ1, R, h1, fun G1 H1 v s1 R1 a1 => ?_⟩
  have h4 : oGet d e = some r := h4
  unfold oGet at h4
  split at h4
  · obtain ⟨kk, h5, h4⟩ := bind_some h4
    cases h4
    cases a1 with
    | dic h6 r6 =>
      refine ⟨_, rfl, .inl ⟨_, .inl (R1.sG _ _ h6)⟩, c, G1, ρ1, av, ρ2, R1, h2, fun G2 H2 w s2 R2 a2 => ?_⟩
      have n2 := nw_of R2 a2 h3
      have h7 := R2.sG _ _ (s2 _ _ h6)
      refine ⟨_, by rw [keyD_v n2 h5]; exact DGet.k h7, ?_⟩
      obtain ⟨l1, l2⟩ := lookD_rp (k := kk) (r6.mono s2)
      refine q G2 H2 _ (s1.trans s2) R2 ?_
      cases hl : lookD _ kk with
      | none => rw [l1 hl]; exact .non
      | some dd =>
        obtain ⟨vv, h8, h9⟩ := l2 dd hl
        rw [h8]
        exact h9
  · cases h4
end

/-! ### fields -/
def oFld (cn f : Str) : D → Option RV
  | .ins c fs => if c = cn then (fs.lookup f).bind fun d => some (.sh d) else none
  | _ => none
theorem fld_rp {g : Gn} {G : Hp} {f : Str} {d : D} : ∀ {vs : List (Str × V)} {fs : List (Str × D)}, RpF g G vs fs → fs.lookup f = some d → ∃ v, vs.lookup f = some v ∧ Rp g G v d
  | _, _, .nil, h => by cases h
  | _, _, .cons (k := k) a b, h => by
    rw [List.lookup_cons] at h ⊢
    cases e : f == k with
    | true => rw [e] at h; cases h; exact ⟨_, rfl, a⟩
    | false => rw [e] at h; exact fld_rp b h
def putFD (f : Str) (v : D) : List (Str × D) → List (Str × D)
  | [] => [(f, v)]
  | (g, x) :: r => if g = f then (g, v) :: r else (g, x) :: putFD f v r
theorem putF_rp {g : Gn} {G : Hp} {f : Str} {v : V} {d : D} (r : Rp g G v d) : ∀ {vs : List (Str × V)} {fs : List (Str × D)}, RpF g G vs fs → RpF g G (putF f v vs) (putFD f d fs)
  | _, _, .nil => .cons r .nil
  | _, _, .cons (k := k) a b => by
    show RpF g G (if k = f then _ else _) (if k = f then _ else _)
    by_cases e : k = f
    · rw [if_pos e, if_pos e]; exact .cons r b
    · rw [if_neg e, if_neg e]; exact .cons a (putF_rp r b)
theorem RpF.length {g : Gn} {G : Hp} : ∀ {vs : List (Str × V)} {fs : List (Str × D)}, RpF g G vs fs → vs.length = fs.length
  | _, _, .nil => rfl
  | _, _, .cons _ b => congrArg (· + 1) b.length
def insS : Option (Option SV) → Option (Bool × Str × List (Str × D))
  | some (some (.mu b (.ins c fs))) => some (b, c, fs)
  | _ => none
theorem insS_some {x : Option (Option SV)} {p : Bool × Str × List (Str × D)} (h : insS x = some p) : x = some (some (.mu p.1 (.ins p.2.1 p.2.2))) := by
  unfold insS at h
  split at h
  · cases h; rfl
  · cases h
/-- o.f = e, o in slot i -/
def sFldI (i : Nat) (cn f : Str) (me : M D) : MS := fun ρ => (me ρ).bind fun p => (insS p.2[i]?).bind fun q => if q.2.1 = cn ∧ q.2.2.length < 1000 then some (.nx (p.2.set i (some (.mu q.1 (.ins cn (putFD f p.1 q.2.2)))))) else none
section
variable {X : Cx} {g : Gn} {o e : Expr} {mo : M AV} {me : M D} {cn f : Str} {i : Nat} {pos pos' : Pos}
theorem f_fld (h1 : Cls X.K (g.cl cn)) (h2 : NoAttr X.K (g.cl cn) f) (ho : PE X o (tV g mo)) (hb : attributeBase o f X.env (eval o X.env) = eval o X.env := by rfl) : PE X (.Attribute o f pos) (tF g (m1 (oFld cn f) mo)) := (pe_fld ho hb).ofM fun σ H Q h => by
  obtain ⟨c, G, ρ, av, ρ', R, hm, q⟩ := one_t h
  refine ⟨c, G, ρ, av, ρ', R, hm, fun G1 H1 v s1 R1 a1 => ?_⟩
  obtain ⟨G2, d, r, sG, n, hf, k⟩ := q G1 H1 v s1 R1 a1
  unfold oFld at hf
  split at hf
  · split at hf
    · rename_i hc
      obtain ⟨dd, h3, hf⟩ := bind_some hf
      cases hf
      subst hc
      obtain ⟨a, dx, vs, rfl, h4, r4⟩ := n.ins sG
      obtain ⟨w, h5, h6⟩ := fld_rp r4 h3
      exact ⟨a, _, dx, vs, w, rfl, h4, h1, h2, h5, k _ _ _ (ends_val h6)⟩
    · cases hf
  · cases hf
theorem s_fld (h1 : Cls X.K (g.cl cn)) (h2 : NoAttr X.K (g.cl cn) f) (ho : PE X o (tVar i)) (he : PE X e (tE g me)) (hs : swapsWith e (some (.Attribute o f pos')) pos.line X.env = pure false := by rfl) : PS X (.Assign [.Attribute o f pos'] e pos) (tS g (sFldI i cn f me)) := (ps_fld ho he hs).ofM fun D σ H ⟨c, G, ρ, out, R, hm, q⟩ => by
  obtain ⟨p, h3, hm⟩ := bind_some hm
  obtain ⟨q1, h4, hm⟩ := bind_some hm
  split at hm
  · rename_i hc
    cases hm
    refine ⟨c, G, ρ, p.1, p.2, R, h3, fun G1 H1 v s1 R1 a1 => ?_⟩
    have e := insS_some h4
    obtain ⟨b, cn', fs⟩ := q1
    obtain ⟨rfl, hz⟩ := hc
    obtain ⟨a, f1, f2, f3, f4, f5⟩ := R1.mu i _ _ e
    obtain ⟨dx, vs, h5, r5⟩ := f4
    exact ⟨.ref a, f1, a, _, dx, vs, rfl, h5, h1, h2, by rw [r5.length]; exact hz, q G1 _ σ s1 (R1.write e f1 f2 ⟨dx, _, upd_same, putF_rp a1 r5⟩)⟩
  · cases hm
end
end L2.My

end
section
set_option Elab.async false
set_option linter.all false
set_option autoImplicit false
set_option maxRecDepth 100000
set_option maxHeartbeats 4000000
/-! Ml7: sorted over a list or a tuple, list.index, list.extend. -/
namespace L2.My
open PySem PySem.Spec PyProof.Rows

section
open PySem.W PySem.Calls
variable {prog : Program} {w : World} {A : Around} {E : Value → Shared → Prop} {s : Shared}
/-- a list or a tuple of these items -/
def SeqIs (h : Heap) (l : Addr) (xs : Array Value) : Prop := ∃ T, (T = "list" ∨ T = "tuple") ∧ ∃ o n, h.get? l = some o ∧ o.cls = .type T ∧ o.data = .seq xs n
theorem collect_seq {l : Addr} {vs : List Value} {Q : List Value → Shared → Prop} (hl : SeqIs s.heap l vs.toArray)
    (h : Q vs { s with heap := (s.heap.push (seqObj "list" #[] 0)).update s.heap.objs.size (Obj.mapSeq (· ++ vs.toArray)) }) (hsz : vs.length ≤ sizeLine) :
    wpAny (model prog w) A (collect (.ref l)) Q E s := by
  obtain ⟨T, hT, o, n, ho, hc, hd⟩ := id hl
  unfold collect
  refine wpAny_bind (wpAny_runValue (codeAny_builtin entry_proto_collect' ?_))
  show wpAny _ _ (do again (.builtin "list.__iadd__" ⟨[← newList [], .ref l], []⟩)) _ _ s
  refine wpAny_bind (wpAny_newList (wpAny_pure ⟨Code.quiet_builtin _ (by decide +kernel), codeAny_builtin entry_list_iadd' ?_⟩))
  show wpAny _ _ (Builtin.List.listExtendWith (.ref s.heap.objs.size) (.ref l) (.ref s.heap.objs.size)) _ _ { s with heap := s.heap.push (seqObj "list" #[] 0) }
  unfold Builtin.List.listExtendWith
  have ho' : (s.heap.push (seqObj "list" #[] 0)).get? l = some o := Heap.get?_push_of_some _ ho
  refine wpAny_bind (wpAny_typeOf (T := T) ⟨o, ho', hc⟩ ?_)
  have h1 : ∀ b : Bool, (b || Value.type T == Value.type "list" || Value.type T == Value.type "tuple") = true := by
    intro b
    rcases hT with rfl | rfl <;> simp
  rw [if_pos (h1 _)]
  refine wpAny_bind (listItems_at ho' hd ?_)
  refine wpAny_bind (listItems_at (xs := #[]) (n := 0) (Heap.get?_push_size _ rfl) rfl ?_)
  rw [if_neg (by simp)]
  refine wpAny_bind (listUpdate_at (xs := #[]) (n := 0) (Heap.get?_push_size _ rfl) rfl ?_ (Nat.zero_le _) (by show (#[] ++ vs.toArray).size ≤ sizeLine + 1; simp only [Array.size_append, List.size_toArray, List.length_nil]; omega))
  refine wpAny_pure ?_
  show wpAny (model prog w) A (do
      let o ← load s.heap.objs.size
      match o.data with
      | .seq xs _ => pure xs.toList
      | _ => unsupported "internal:collect") Q E { s with heap := (s.heap.push (seqObj "list" #[] 0)).update s.heap.objs.size (Obj.mapSeq (· ++ vs.toArray)) }
  refine wpAny_bind (wpAny_load (get?_update_seq (Heap.get?_push_size _ rfl) _) ?_)
  show wpAny _ _ (pure ((#[] : Array Value) ++ vs.toArray).toList) Q E _
  rw [show ((#[] : Array Value) ++ vs.toArray).toList = vs by simp]
  exact wpAny_pure h
theorem sortedT_of_sort {l : Addr} {vs : List Value} {kw : List (Str × Value)} {Q : Value → Shared → Prop} (hl : SeqIs s.heap l vs.toArray) (hL : vs.length ≤ sizeLine) (ha1 : argsOk "sorted" ⟨[.ref l], kw⟩) (ha2 : ∀ x, argsOk "list.sort" ⟨[.ref x], kw⟩)
    (body : ∀ E' : Value → Shared → Prop, wpAny (model prog w) A.in1.in1 (Builtin.«list.sort» ⟨[.ref (s.heap.objs.size + 1)], kw⟩) (fun f s' => f = .done (.ret .none) ∧ Q (.ref (s.heap.objs.size + 1)) s') E' { s with heap := copyHeap s.heap vs }) :
    wpAny (model prog w) A (call (.builtin "sorted") [.ref l] kw) Q E s := by
  refine call_function_entry_kw kind_sorted plain_sorted entry_sorted ha1 ?_
  unfold Builtin.«sorted»
  refine wpAny_bind (m := checkCount "sorted" 1 1 _) (wpAny_pure ?_)
  refine wpAny_bind (collect_seq hl ?_ hL)
  refine wpAny_bind (wpAny_newList ?_ hL)
  have hsz : ((s.heap.push (seqObj "list" #[] 0)).update s.heap.objs.size (Obj.mapSeq (· ++ vs.toArray))).objs.size = s.heap.objs.size + 1 := by
    rw [Heap.size_update, size_push']
  show wpAny _ _ _ _ _ { s with heap := copyHeap s.heap vs }
  rw [hsz]
  refine wpAny_bind (wpAny_holding (wpAny_call_entry_kw slot_list_sort ⟨_, copyHeap_at s.heap vs, rfl⟩ entry_list_sort ?body (ha2 _)))
  case body =>
    show wpAny (model prog w) A.in1.in1 (Builtin.«list.sort» ⟨[.ref (s.heap.objs.size + 1)], kw⟩) _ _ _
    refine wpAny_mono (body _) (fun f s' hf => ?_) fun _ _ e => e
    obtain ⟨rfl, hq⟩ := hf
    exact ⟨_, rfl, wpAny_pure ⟨_, rfl, hq⟩⟩
theorem sortedT_data {β : Type} {vs : List Value} {bs : List β} {enc : β → PyData} {R : Value → β → Prop} {l : Addr} {Q : Value → Shared → Prop} (hl : SeqIs s.heap l vs.toArray) (e : EachIs R vs bs) (er : EachIs (fun v b => ∃ as, Reads s.heap v (enc b) as) vs bs) (hal : AllAlike (bs.map enc)) (hk : Sortable (bs.map enc)) (hL : bs.length ≤ sizeLine)
    (hu : ∀ b, b ∈ bs → A.units + 2 + (enc b).depth < cLine) (h : ∀ out, out.length = bs.length → EachIs R out (bs.mergeSort (dataLe false enc)) → Q (.ref (s.heap.objs.size + 1)) { s with heap := sortedAll s.heap vs (List.toArray out) }) :
    wpAny (model prog w) A (call (.builtin "sorted") [.ref l]) Q E s := by
  have er' : EachIs (fun v b => ∃ as, Reads (sortingHeap (copyHeap s.heap vs) (s.heap.objs.size + 1) vs) v (enc b) as) vs bs := er.mono fun _ _ ⟨as, r⟩ => ⟨as, PyProof.Rows.Reads.keeps (fun _ _ => sorting_copy_old) r⟩
  exact sortedT_of_sort hl (by rw [e.length]; exact hL) (args_sorted1 _) (fun _ => args_list_sort _) fun _ => list_sort_vals (κ := dataKind (sortingHeap (copyHeap s.heap vs) (s.heap.objs.size + 1) vs) (bs.map enc)) (s := { s with heap := copyHeap s.heap vs }) (copyHeap_at s.heap vs)
    (SortsAt.data (s := { s with heap := sortingHeap (copyHeap s.heap vs) (s.heap.objs.size + 1) vs }) (each_map (R := fun v d => ∃ as, Reads (sortingHeap (copyHeap s.heap vs) (s.heap.objs.size + 1) vs) v d as) enc er') hal hk (bound_map hu)) (by rw [e.length]; exact hL)
    ⟨rfl, h _ (by rw [sortVals_length false rfl]; exact e.length) (sortVals_data false e er' hal)⟩
end

def isTupD : D → Bool
  | .tup (_ :: _) => true
  | _ => false
def isFltD : D → Bool
  | .tup _ => false
  | .non => false
  | _ => true
def sortOk (ds : List D) : Bool := ds.all D.pl && (ds.all fun d => ds.all fun e => PySem.W.alike d.py e.py) && (ds.all isTupD || ds.all isFltD) && ds.all fun d => decide (d.py.depth ≤ 60)
noncomputable def sortD (ds : List D) : List D := ds.mergeSort (PySem.W.dataLe false D.py)
noncomputable def oSorted : D → Option RV
  | .lst ds => if sortOk ds = true then some (.fr (.lst (sortD ds))) else none
  | .tup ds => if sortOk ds = true then some (.fr (.lst (sortD ds))) else none
  | _ => none
section
open PySem.W
variable {X : Cx} {g : Gn}
theorem each_of {pins : List (Addr × Obj)} {σ : L2.St} {H : Hp} {s : Shared} {G : Hp} : ∀ {us : List V} {ds : List D} {vs : List Value}, RpA g G us ds → Vals us vs → EachIs (fun v d => ∃ u, RelV u v ∧ Rp g G u d) vs ds
  | _, _, _, .nil, .nil => .nil
  | _, _, _, .cons a b, .cons r t => .cons ⟨_, r, a⟩ (each_of (pins := pins) (σ := σ) (H := H) (s := s) b t)
theorem each_back {G : Hp} : ∀ {vs : List Value} {ds : List D}, EachIs (fun v d => ∃ u, RelV u v ∧ Rp g G u d) vs ds → ∃ us, Vals us vs ∧ RpA g G us ds
  | _, _, .nil => ⟨[], .nil, .nil⟩
  | _, _, .cons ⟨u, r, a⟩ t => by
    obtain ⟨us, h1, h2⟩ := each_back t
    exact ⟨u :: us, .cons r h1, .cons a h2⟩
theorem sortOk_facts {ds : List D} (h : sortOk ds = true) : (∀ d ∈ ds, d.pl = true) ∧ AllAlike (ds.map D.py) ∧ Sortable (ds.map D.py) ∧ ∀ d ∈ ds, d.py.depth ≤ 60 := by
  unfold sortOk at h
  rw [Bool.and_eq_true, Bool.and_eq_true, Bool.and_eq_true, Bool.or_eq_true] at h
  obtain ⟨⟨⟨h1, h2⟩, h3⟩, h4⟩ := h
  refine ⟨fun d hd => List.all_eq_true.mp h1 d hd, fun d hd d' hd' => ?_, ?_, fun d hd => of_decide_eq_true (List.all_eq_true.mp h4 d hd)⟩
  · obtain ⟨b, hb, rfl⟩ := List.mem_map.mp hd
    obtain ⟨b', hb', rfl⟩ := List.mem_map.mp hd'
    exact List.all_eq_true.mp (List.all_eq_true.mp h2 b hb) b' hb'
  · rcases h3 with h3 | h3
    · refine .inl fun d hd => ?_
      obtain ⟨b, hb, rfl⟩ := List.mem_map.mp hd
      have := List.all_eq_true.mp h3 b hb
      cases b with
      | tup xs =>
        cases xs with
        | nil => cases this
        | cons x r => rw [D.py, D.pys]; exact ⟨_, _, rfl⟩
      | _ => cases this
    · refine .inr fun d hd => ?_
      obtain ⟨b, hb, rfl⟩ := List.mem_map.mp hd
      have h5 := List.all_eq_true.mp h3 b hb
      have h6 := List.all_eq_true.mp h1 b hb
      cases b with
      | tup xs => cases h5
      | non => cases h5
      | dic _ => rw [D.pl] at h6; cases h6
      | ins _ _ => rw [D.pl] at h6; cases h6
      | scr _ => rw [D.pl] at h6; cases h6
      | bl _ => rw [D.py]; exact ⟨fun e => (by cases e), fun xs e => (by cases e)⟩
      | int _ => rw [D.py]; exact ⟨fun e => (by cases e), fun xs e => (by cases e)⟩
      | str _ => rw [D.py]; exact ⟨fun e => (by cases e), fun xs e => (by cases e)⟩
      | lst _ => rw [D.py]; exact ⟨fun e => (by cases e), fun xs e => (by cases e)⟩
theorem SeqIs.ofL {X : Cx} {pins : List (Addr × Obj)} {σ : L2.St} {H : Hp} {s : Shared} {a : Addr} {us : List V} (I : Inv X pins σ H s) (h : SqL X.K H a us ∨ SqT X.K H a us) : ∃ its : List Value, Vals us its ∧ SeqIs s.heap a its.toArray ∧ us.length ≤ sizeLine := by
  rcases h with h | h
  · obtain ⟨its, rv, hl, hz⟩ := I.list h
    obtain ⟨o, ho, hc, n, hd⟩ := hl.isList
    exact ⟨its, rv, ⟨"list", .inl rfl, o, n, ho, hc, hd⟩, hz⟩
  · obtain ⟨its, rv, ⟨o, ho, hc, n, hd⟩, hz⟩ := I.tuple h
    exact ⟨its, rv, ⟨"tuple", .inr rfl, o, n, ho, hc, hd⟩, hz⟩
def rSortD (g : Gn) (K : PySem.W.Frag) : List V → Hp → VK → Prop := fun vs H Q => ∃ (G : Hp) (a : Addr) (us : List V) (ds : List D), vs = [V.ref a] ∧ Same G H ∧ (SqL K H a us ∨ SqT K H a us) ∧ RpA g G us ds ∧ sortOk ds = true ∧
  ∀ (us' : List V) (p : Addr), RpA g G us' (sortD ds) → H p = none → Q (.ref p) (upd H p (.lst us'))
theorem cr_sortD (hu : X.A.units + 65 < cLine) (hK : X.K = g.K) : CallR X (.builtin "sorted") (rSortD g X.K) := by
  intro pins s σ H vs us Q I r h
  obtain ⟨G, a, xs, ds, rfl, sG, hs, hr, hok, q⟩ := h
  obtain ⟨its, rv, hl, hz⟩ := SeqIs.ofL I hs
  rw [Vals.ref1 r]
  obtain ⟨k1, k2, k3, k4⟩ := sortOk_facts hok
  have e1 := each_of (pins := pins) (σ := σ) (H := H) (s := s) hr rv
  refine sortedT_data (enc := D.py) hl e1 ((each_mem e1).mono fun v d hv => ?_) k2 k3 (by rw [← hr.length]; exact hz) (fun d hd => ?_) fun out ho eo => ?_
  · obtain ⟨⟨u, ru, ra⟩, hd⟩ := hv
    refine Dp.reads I d.py u v ?_ ru
    rw [hK]
    exact Rp.dp (G := H) d u (k1 d hd) (ra.mono sG)
  · have := k4 d hd
    omega
  · obtain ⟨us', h1, h2⟩ := each_back eo
    obtain ⟨ep, he'⟩ := PyProof.Rows.sortedAll_at s.heap its out.toArray
    have hlen : us'.length ≤ sizeLine := by rw [h1.length, ho, ← hr.length]; exact hz
    exact ⟨.ref _, upd H (s.heap.objs.size + 1) (.lst us'), I.laid (t' := s.toks) (fun _ _ => PyProof.Rows.sortedAll_old) (Nat.le_succ _) ⟨hlen, out, ep, h1, he'⟩, rfl, q _ _ h2 (I.hok.fresh (Nat.le_succ _))⟩
theorem r_sortD {K : PySem.W.Frag} (hK : K = g.K) (y : V) (H1 : Hp) (Q : VK) (h : rOp1 g oSorted y H1 Q) : rSortD g K [y] H1 Q := by
  obtain ⟨G, d, r, sG, n, hf, k⟩ := h
  unfold oSorted at hf
  split at hf
  · split at hf
    · rename_i hz
      cases hf
      obtain ⟨a, us, rfl, h2, r⟩ := n.lst sG
      exact ⟨G, a, us, _, rfl, sG, .inl (.of h2), r, hz, fun us' p hr hp => k _ _ _ (ends_lst hp hr)⟩
    · cases hf
  · split at hf
    · rename_i hz
      cases hf
      obtain ⟨a, us, rfl, h2, r⟩ := n.tup
      exact ⟨G, a, us, _, rfl, sG, .inr (Same.seqT sG (by rw [hK]; exact h2)), r, hz, fun us' p hr hp => k _ _ _ (ends_lst hp hr)⟩
    · cases hf
  · cases hf
variable {a b : Expr} {ma mb : M AV} {p pos : Pos}
theorem f_sorted (hu : X.A.units + 65 < cLine) (hm : X.mg "sorted" = none) (ha : PE X a (tV g ma)) (hg : Gl X "sorted" := by rfl) (hK : X.K = g.K := by rfl) (he : starEach [a] X.env = (false, eval a X.env) :: starEach [] X.env := by rfl) (hpl : (backTo pos (starEach [] X.env)).any (·.1) = false := by rfl) :
    PE X (.Call (.Name "sorted" p) [a] [] pos) (tF g (m1 oSorted ma)) := f_call1 (cr_sortD hu hK) (r_sortD hK) hg hm PyProof.Rows.boot_sorted ha (he := he) (hpl := hpl)
end

/-! ### list.extend, list.index -/
def rExtD (K : PySem.W.Frag) : V → List V → Hp → VK → Prop := fun x vs H Q => ∃ l b xs zs, x = .ref l ∧ vs = [.ref b] ∧ H l = some (.lst xs) ∧ (SqL K H b zs ∨ SqT K H b zs) ∧ xs.length + zs.length ≤ sizeLine ∧ Q .non (upd H l (.lst (xs ++ zs)))
theorem mt_extD {X : Cx} : MtM X "list.extend" (rExtD X.K) := by
  intro pins s σ H x vs v us Q I rx rv h
  obtain ⟨l, b, xs, zs, rfl, rfl, hH, hB, hz, q⟩ := h
  cases rx
  obtain ⟨u, rfl, ru⟩ := rv.one
  cases ru
  obtain ⟨z, its, n, r, hl, e⟩ := I.lstM hH
  obtain ⟨its2, r2, ⟨T, hT, o2, n2, e2, hc2, hd2⟩, hz2⟩ := SeqIs.ofL I hB
  have hl2 := r2.length
  have hsz : its.toArray.size + its2.toArray.size ≤ sizeLine := by rw [List.size_toArray, List.size_toArray]; omega
  have hlong : ¬ (!its.toArray.isEmpty && Builtin.List.listTooLong (its.toArray.size + its2.toArray.size)) = true := by
    rw [notLongL hsz, Bool.and_false]
    exact Bool.false_ne_true
  refine wpAny_call_entry F.slot_list_extend ⟨_, e, rfl⟩ F.entry_list_extend ?_ (F.args_list_extend_2 _ _)
  show wpAny _ _ (Builtin.List.listExtendWith (.ref l) (.ref b) .none) _ _ s
  unfold Builtin.List.listExtendWith
  refine wpAny_bind (wpAny_typeOf (T := T) ⟨o2, e2, hc2⟩ ?_)
  have h1 : ∀ b : Bool, (b || Value.type T == Value.type "list" || Value.type T == Value.type "tuple") = true := by
    intro b
    rcases hT with rfl | rfl <;> simp
  rw [if_pos (h1 _)]
  refine wpAny_bind (listItems_at e2 hd2 ?_)
  refine wpAny_bind (listItems_at e rfl ?_)
  rw [if_neg hlong]
  refine wpAny_bind (listUpdate_at e rfl ?_ (by rw [List.size_toArray]; omega) (by rw [Array.size_append]; omega))
  refine wpAny_pure ⟨.none, rfl, .non, _, I.lset (its' := its ++ its2) hH e (by simp) (r.append r2) ?_, rfl, q⟩
  rw [List.length_append]
  omega
def seqOf : D → Option (List D)
  | .lst ds => some ds
  | .tup ds => some ds
  | _ => none
theorem seqOf_nw {g : Gn} {K : PySem.W.Frag} (hK : K = g.K) {G H : Hp} {v : V} {d : D} {ds : List D} (sG : Same G H) (n : Nw g G H v d) (h : seqOf d = some ds) : ∃ a us, v = .ref a ∧ (SqL K H a us ∨ SqT K H a us) ∧ RpA g G us ds := by
  subst hK
  unfold seqOf at h
  split at h
  · cases h
    obtain ⟨a, us, rfl, h2, r⟩ := n.lst sG
    exact ⟨a, us, rfl, .inl (.of h2), r⟩
  · cases h
    obtain ⟨a, us, rfl, h2, r⟩ := n.tup
    exact ⟨a, us, rfl, .inr (Same.seqT sG h2), r⟩
  · cases h
/-- x.extend(e) -/
def mExt (i : Nat) (me : M AV) : M RV := fun ρ => (lstS ρ[i]?).bind fun _ => (me ρ).bind fun p => (look p.2 p.1).bind fun d => (seqOf d).bind fun zs => (lstS p.2[i]?).bind fun q => if q.2.length + zs.length ≤ sizeLine then some (.sh .non, p.2.set i (some (.mu q.1 (.lst (q.2 ++ zs))))) else none
section
variable {X : Cx} {g : Gn} {o e k : Expr} {i : Nat} {mk mo : M AV} {apos cpos pos p2 : Pos}
theorem f_extend (ho : PE X o (tVar i)) (he : PE X e (tV g mk)) (hK : X.K = g.K := by rfl) (hb : attributeBase o "extend" X.env (eval o X.env) = eval o X.env := by rfl)
    (hf : ((backTo cpos (starEach [e] X.env)).all (fun x => !x.1) && (backToKw cpos (keywordEach [] X.env)).all (fun x => x.1.isSome) && decide (([e] : List Expr).length + ([] : List Keyword).length + (if ([] : List Keyword).isEmpty then 0 else 1) < 30)) = true := by rfl)
    (hl : (apos.endLine == cpos.line) = true := by rfl) (hs : starEach [e] X.env = (false, eval e X.env) :: starEach [] X.env := by rfl) (hp : (backTo cpos (starEach [] X.env)).any (·.1) = false := by rfl) :
    PE X (.Call (.Attribute o "extend" apos) [e] [] cpos) (tF g (mExt i mk)) := (pe_bm PySem.F.plainAttrs_list PySem.F.slot_list_extend PySem.F.type_list_extend mt_extD ho (pa_cons he pa_nil hs) hb hf hl hs hp).ofM fun σ H Q ⟨c, G, ρ, r, ρ', R, hm, q⟩ => by
  obtain ⟨q0, h0, hm⟩ := bind_some hm
  obtain ⟨p, h1, hm⟩ := bind_some hm
  obtain ⟨d, h2, hm⟩ := bind_some hm
  obtain ⟨zs, h3, hm⟩ := bind_some hm
  obtain ⟨q1, h4, hm⟩ := bind_some hm
  split at hm
  · rename_i hz
    cases hm
    obtain ⟨a, us, e1, e2, _⟩ := R.lstAt h0
    refine ⟨.ref a, e1, .inl ⟨rfl, us, .of e2⟩, c, G, ρ, p.1, p.2, R, h1, fun G1 H1 v s1 R1 a1 => ?_⟩
    obtain ⟨a', us', f1, f2, f3, f4⟩ := R1.lstAt h4
    rw [e1] at f1
    cases f1
    obtain ⟨b, ws, rfl, k1, k2⟩ := seqOf_nw hK R1.sG (nw_of R1 a1 h2) h3
    exact ⟨a, b, us', ws, rfl, rfl, f2, k1, by rw [f3.length, k2.length]; exact hz, q G1 _ _ s1 (f4 _ _ (f3.append k2)) .non⟩
  · cases hm
end
/-- the first place of an equal one -/
def findD (d : D) : List D → Option Nat
  | [] => none
  | e :: r => if PyData.eqv e.py d.py = true then some 0 else (findD d r).map (· + 1)
theorem findD_at {d : D} : ∀ {ds : List D} {j : Nat}, findD d ds = some j → (∃ z, ds[j]? = some z ∧ PyData.eqv z.py d.py = true) ∧ ∀ m z', m < j → ds[m]? = some z' → PyData.eqv z'.py d.py = false
  | [], _, h => by cases h
  | e :: r, j, h => by
    unfold findD at h
    split at h
    · rename_i he
      cases h
      exact ⟨⟨e, rfl, he⟩, fun m z' hm => by omega⟩
    · rename_i he
      cases hj : findD d r with
      | none => rw [hj] at h; cases h
      | some k =>
        rw [hj] at h
        obtain rfl : k + 1 = j := Option.some.inj h
        obtain ⟨⟨z, h1, h2⟩, h3⟩ := findD_at hj
        refine ⟨⟨z, by simpa using h1, h2⟩, fun m z' hm hz => ?_⟩
        cases m with
        | zero => simp at hz; subst hz; simpa using he
        | succ m => exact h3 m z' (by omega) (by simpa using hz)
def oIndex : D → D → Option RV
  | .lst ds, d => if d.pl = true ∧ D.pls ds = true ∧ SeqAt.shaped d.py = true ∧ SeqAt.shaped (.list (D.pys ds)) = true then (findD d ds).bind fun j => some (.sh (.int j)) else none
  | _, _ => none
def isLst : D → Bool
  | .lst _ => true
  | _ => false
/-- o.index(e) -/
def mIndex (mo mk : M AV) : M RV := fun ρ => (mo ρ).bind fun p => (look p.2 p.1).bind fun d0 => if isLst d0 = true then (mk p.2).bind fun q => (look q.2 p.1).bind fun d => (look q.2 q.1).bind fun e => (oIndex d e).bind fun r => some (r, q.2) else none
section
variable {X : Cx} {g : Gn} {o e k : Expr} {i : Nat} {mk mo : M AV} {apos cpos pos p2 : Pos}
theorem f_index (hu : X.A.units + 65 < cLine) (ho : PE X o (tV g mo)) (he : PE X e (tV g mk)) (hK : X.K = g.K := by rfl) (hb : attributeBase o "index" X.env (eval o X.env) = eval o X.env := by rfl)
    (hf : ((backTo cpos (starEach [e] X.env)).all (fun x => !x.1) && (backToKw cpos (keywordEach [] X.env)).all (fun x => x.1.isSome) && decide (([e] : List Expr).length + ([] : List Keyword).length + (if ([] : List Keyword).isEmpty then 0 else 1) < 30)) = true := by rfl)
    (hl : (apos.endLine == cpos.line) = true := by rfl) (hs : starEach [e] X.env = (false, eval e X.env) :: starEach [] X.env := by rfl) (hp : (backTo cpos (starEach [] X.env)).any (·.1) = false := by rfl) :
    PE X (.Call (.Attribute o "index" apos) [e] [] cpos) (tF g (mIndex mo mk)) := (pe_bm PySem.F.plainAttrs_list PySem.F.slot_list_index PySem.F.type_list_index (mt_indexD hu) ho (pa_cons he pa_nil hs) hb hf hl hs hp).ofM fun σ H Q ⟨c, G, ρ, r, ρ', R, hm, q⟩ => by
  obtain ⟨p, h1, hm⟩ := bind_some hm
  obtain ⟨d0, h2, hm⟩ := bind_some hm
  split at hm
  · rename_i hL
    obtain ⟨p2, h3, hm⟩ := bind_some hm
    obtain ⟨d, h4, hm⟩ := bind_some hm
    obtain ⟨e', h5, hm⟩ := bind_some hm
    obtain ⟨r', h6, hm⟩ := bind_some hm
    cases hm
    refine ⟨c, G, ρ, p.1, p.2, R, h1, fun G1 H1 v s1 R1 a1 => ⟨?_, c, G1, p.2, p2.1, p2.2, R1, h3, fun G2 H2 w s2 R2 a2 => ?_⟩⟩
    · have n := nw_of R1 a1 h2
      cases d0 with
      | lst ds =>
        obtain ⟨a, us, rfl, e1, _⟩ := n.lst R1.sG
        exact .inl ⟨rfl, us, .of e1⟩
      | _ => cases hL
    · have n1 := nw_of R2 (a1.mono s2) h4
      have n2 := nw_of R2 a2 h5
      cases d with
      | lst ds =>
        have h6 : (if _ then _ else _) = some r := h6
        split at h6
        · rename_i hz
          obtain ⟨j, h7, h6⟩ := bind_some h6
          cases h6
          obtain ⟨z1, z2, z3, z4⟩ := hz
          obtain ⟨a, us, rfl, e1, ra⟩ := n1.lst R2.sG
          have rp2 := n2.rp R2.sG
          obtain ⟨⟨z, f1, f2⟩, f3⟩ := findD_at h7
          refine ⟨a, w, e'.py, D.pys ds, j, z.py, rfl, rfl, ?_, ?_, z4, z3, ?_, f2, ?_, q _ _ _ (s1.trans s2) R2 (.int _)⟩
          · rw [hK]; exact .lst (.of e1) (RpA.dp ds us z2 (ra.mono R2.sG))
          · rw [hK]; exact Rp.dp e' w z1 rp2
          · rw [pys_map, List.getElem?_map, f1]; rfl
          · intro m z' hm hz'
            rw [pys_map, List.getElem?_map] at hz'
            cases hq : ds[m]? with
            | none => rw [hq] at hz'; cases hz'
            | some y => rw [hq] at hz'; cases hz'; exact f3 m y hm hq
        · cases h6
      | _ => cases h6
  · cases hm
end
end L2.My

end
section
set_option Elab.async false
set_option linter.all false
set_option autoImplicit false
set_option maxRecDepth 100000
set_option maxHeartbeats 4000000
/-! Mlz: enumerate over a tuple, enumerate over a zip of two tuples. -/
namespace L2.My
open PySem PySem.Spec PyProof.Rows

theorem wpAny_alive {M : Model} {A : Around} {E : Value → Shared → Prop} {s : Shared} {a : Addr} {Q : Option Obj → Shared → Prop} (h : Q (s.heap.get? a) s) : wpAny M A (loadIfAlive a) Q E s := fun Γ p _ => by
  show Sem.wp M Γ (Sem.loadIfAlive a Sem.pure) _ _ p s
  rw [Sem.wp_loadIfAlive, Sem.wp_pure]
  exact h
abbrev zipObj (f0 : Value) (f1 : Bool) (TI TO : Addr) : Obj := { cls := .type "zip", dict := none, data := .fields #[f0, .bool f1, .bool false, .ref TI, .ref TO], slots := #[] }
section
variable {prog : Program} {w : World} {A : Around} {E : Value → Shared → Prop} {s : Shared} {z TI TO i1 i2 : Addr} {fp1 fp2 : List Addr} {n1 n2 i : Nat} {P1 P2 : Nat → Value → Prop} {St1 St2 : Nat → Heap → Prop}
theorem ownedFree_zip {f0 : Value} {f1 : Bool} {Q : Bool → Shared → Prop} (hz : s.heap.get? z = some (zipObj f0 f1 TI TO)) (hf : f0 = .none ∨ ∃ T : Addr, f0 = rawInt T) (h1 : Q true s)
    (h2 : ∀ h' f1', h'.get? z = some (zipObj f0 f1' TI TO) → Heap.SameBut z s.heap h' → Q false { s with heap := h' }) : wpAny (model prog w) A (Builtin.SmallTypes.ownedTupleIsFree (.ref z)) Q E s := by
  unfold Builtin.SmallTypes.ownedTupleIsFree
  rcases hf with rfl | ⟨T, rfl⟩
  · exact wpAny_bind (wpAny_field hz rfl (x := .none) rfl (wpAny_pure h1))
  · refine wpAny_bind (wpAny_field hz rfl (x := rawInt T) rfl ?_)
    show wpAny _ _ (loadIfAlive ((T : Int)).toNat >>= _) _ _ _
    refine wpAny_bind (wpAny_alive ?_)
    cases hT : s.heap.get? ((T : Int)).toNat with
    | none => exact wpAny_pure h1
    | some o =>
      show wpAny _ _ (field (.ref z) 1 >>= _) _ _ _
      refine wpAny_bind (wpAny_field hz rfl (x := .bool f1) rfl ?_)
      cases f1 with
      | true => exact wpAny_pure (h2 s.heap true hz ⟨rfl, fun _ _ => rfl⟩)
      | false =>
        show wpAny _ _ (setField (.ref z) 1 (.bool true) >>= _) _ _ _
        exact wpAny_bind (wpAny_setField_rec hz (by simp) fun h' hz' hs' => wpAny_pure (h2 h' true hz' hs'))

def ZSt (z TI TO i1 i2 : Addr) (St1 St2 : Nat → Heap → Prop) (i : Nat) (h : Heap) : Prop := ∃ (f0 : Value) (f1 : Bool) (a1 a2 : Value), h.get? z = some (zipObj f0 f1 TI TO) ∧ (f0 = .none ∨ ∃ T : Addr, f0 = rawInt T) ∧
  IsTupOf2 h TI (.ref i1) (.ref i2) ∧ IsTupOf2 h TO a1 a2 ∧ St1 i h ∧ St2 i h
theorem zipG_next_item {Q : Value → Shared → Prop} (S : ZipSep2 z TI TO i1 i2 fp1 fp2) (D1 : Draws prog w A i1 fp1 n1 P1 St1) (D2 : Draws prog w A i2 fp2 n2 P2 St2) (st : ZSt z TI TO i1 i2 St1 St2 i s.heap) (hlt1 : i < n1) (hlt2 : i < n2)
    (hQ : ∀ T x1 x2 h' tk, P1 i x1 → P2 i x2 → ZSt z TI TO i1 i2 St1 St2 (i + 1) h' → s.heap.objs.size ≤ T → IsTupOf2 h' T x1 x2 → s.heap.objs.size ≤ h'.objs.size →
      (∀ c o, c ≠ z → c ≠ TO → c ≠ i1 → c ≠ i2 → s.heap.get? c = some o → h'.get? c = some o) → Q (.ref T) { s with heap := h', toks := tk }) :
    wpAny (model prog w) A (Builtin.«zip.__next__» ⟨[.ref z], []⟩) (fun fin s' => ∃ v, fin = .done (.ret v) ∧ Q v s') E s := by
  obtain ⟨hp, g, d, tk0, os⟩ := s
  obtain ⟨f0, f1, a1, a2, hz, hf, hTI, hTO, st1, st2⟩ := st
  show wpAny _ _ (field (.ref z) 2 >>= _) _ _ _
  refine wpAny_bind (wpAny_field hz rfl (x := .bool false) rfl ?_)
  show wpAny _ _ (field (.ref z) 3 >>= _) _ _ _
  refine wpAny_bind (wpAny_field hz rfl (x := .ref TI) rfl ?_)
  refine wpAny_bind (wpAny_seqItems hTI rfl ?_)
  show wpAny _ _ (Builtin.SmallTypes.ownedTupleIsFree (.ref z) >>= _) _ _ _
  refine wpAny_bind (ownedFree_zip hz hf ?_ fun g0 f1' hz0 hs0 => ?_)
  · simp only [if_true]
    refine wpAny_bind (wpAny_rule ?_)
    refine wpAny_bind (wpAny_field hz rfl (x := .ref TO) rfl ?_)
    refine wpAny_bind (wpAny_setField_rec hz (by simp) fun g0 hz0 hs0 => ?_)
    replace hz0 : g0.get? z = some (zipObj .ellipsis f1 TI TO) := hz0
    replace hs0 : Heap.SameBut z hp g0 := hs0
    refine wpAny_bind ?_
    simp only [List.zipIdx_cons, List.zipIdx_nil, List.forIn_cons, List.forIn_nil]
    refine wpAny_bind (wpAny_bind (wpAny_onRaise ?_))
    show wpAny _ _ (Builtin.SmallTypes.nextOf (.ref i1) >>= _) _ _ ⟨g0, g, d, tk0, os⟩
    refine wpAny_bind (D1.item i _ _ _ hlt1 (D1.over st1 hs0 S.zf1) fun x1 p1 tk1 hx1 sn1 hp1 => wpAny_pure ?_)
    replace hp1 : Heap.SameBut i1 g0 p1 := hp1
    have hU1 : IsTupOf2 p1 TO a1 a2 := hp1.extBut _ _ S.Ti1 (hs0.extBut _ _ S.TOz hTO)
    refine wpAny_bind (wpAny_seqItems (s := ⟨p1, g, d, tk1, os⟩) hU1 rfl ?_)
    refine wpAny_bind (updateSeq_IsTupOf2 (s := ⟨p1, g, d, tk1, os⟩) hU1 fun g1 hT1 hs1 => ?_)
    replace hT1 : IsTupOf2 g1 TO x1 a2 := hT1
    replace hs1 : Heap.SameBut TO p1 g1 := hs1
    refine wpAny_bind (wpAny_letGo (wpAny_pure ?_))
    refine wpAny_bind (wpAny_bind (wpAny_onRaise ?_))
    show wpAny _ _ (Builtin.SmallTypes.nextOf (.ref i2) >>= _) _ _ ⟨g1, g, d, tk1, os⟩
    refine wpAny_bind (D2.item i _ _ _ hlt2 (D2.over (D2.over (D2.over st2 hs0 S.zf2) hp1 S.sep1_2) hs1 S.Tf2) fun x2 p2 tk2 hx2 sn2 hp2 => wpAny_pure ?_)
    replace hp2 : Heap.SameBut i2 g1 p2 := hp2
    have hU2 : IsTupOf2 p2 TO x1 a2 := hp2.extBut _ _ S.Ti2 hT1
    refine wpAny_bind (wpAny_seqItems (s := ⟨p2, g, d, tk2, os⟩) hU2 rfl ?_)
    refine wpAny_bind (updateSeq_IsTupOf2 (s := ⟨p2, g, d, tk2, os⟩) hU2 fun g2 hT2 hs2 => ?_)
    replace hT2 : IsTupOf2 g2 TO x1 x2 := hT2
    replace hs2 : Heap.SameBut TO p2 g2 := hs2
    refine wpAny_bind (wpAny_letGo (wpAny_pure (wpAny_pure ?_)))
    refine wpAny_bind (wpAny_seqItems (s := ⟨g2, g, d, tk2, os⟩) hT2 rfl ?_)
    refine wpAny_bind (wpAny_newTuple ?_)
    have hsz : g2.objs.size = hp.objs.size := by rw [hs2.1, hp2.1, hs1.1, hp1.1, hs0.1]
    have hzz : g2.get? z = some (zipObj .ellipsis f1 TI TO) := (hs2.extBut _ _ S.TOz.symm (hp2.extBut _ _ S.zi2 (hs1.extBut _ _ S.TOz.symm (hp1.extBut _ _ S.zi1 hz0))))
    have hkk : ∀ c o, c ≠ z → c ≠ TO → c ≠ i1 → c ≠ i2 → hp.get? c = some o → g2.get? c = some o := fun c o cz cT c1 c2 e =>
      (hs2.extBut _ _ cT (hp2.extBut _ _ c2 (hs1.extBut _ _ cT (hp1.extBut _ _ c1 (hs0.extBut _ _ cz e)))))
    have hj1 : St1 (i + 1) g2 := (D1.over (D1.over (D1.over sn1 hs1 S.Tf1) hp2 S.sep2_1) hs2 S.Tf1)
    have hj2 : St2 (i + 1) g2 := (D2.over sn2 hs2 S.Tf2)
    have hzlt : z < g2.objs.size := Heap.lt_size hzz
    show wpAny _ _ (Builtin.SmallTypes.ownedTupleHandOut (.ref z) (.ref g2.objs.size) >>= _) _ _ ⟨g2.push { cls := .type "tuple", data := .seq #[x1, x2] }, g, d, tk2, os⟩
    refine wpAny_bind ?_
    unfold Builtin.SmallTypes.ownedTupleHandOut
    have hz₆ : (g2.push { cls := .type "tuple", data := .seq #[x1, x2] }).get? z = some (zipObj .ellipsis f1 TI TO) := Heap.get?_push_of_some _ hzz
    refine wpAny_bind (wpAny_setField_rec hz₆ (by simp) fun h₇ hz₇ hs₇ => ?_)
    replace hz₇ : h₇.get? z = some (zipObj (rawInt g2.objs.size) f1 TI TO) := hz₇
    refine wpAny_setField_rec hz₇ (by simp) fun h₈ hz₈ hs₈ => ?_
    replace hz₈ : h₈.get? z = some (zipObj (rawInt g2.objs.size) false TI TO) := hz₈
    replace hs₇ : Heap.SameBut z (g2.push { cls := .type "tuple", data := .seq #[x1, x2] }) h₇ := hs₇
    replace hs₈ : Heap.SameBut z h₇ h₈ := hs₈
    have up : ∀ c o, c ≠ z → g2.get? c = some o → h₈.get? c = some o := fun c o c1 e => hs₈.extBut _ _ c1 (hs₇.extBut _ _ c1 (Heap.get?_push_of_some _ e))
    have hT₈ : IsTupOf2 h₈ g2.objs.size x1 x2 := hs₈.extBut _ _ (Nat.ne_of_gt hzlt) (hs₇.extBut _ _ (Nat.ne_of_gt hzlt) (Heap.get?_push_size _ rfl))
    have hz8 : h₈.objs.size = g2.objs.size + 1 := by rw [hs₈.1, hs₇.1, Heap.size_push]
    refine wpAny_pure ⟨_, rfl, ?_⟩
    exact hQ g2.objs.size x1 x2 h₈ tk2 hx1 hx2 ⟨_, _, _, _, hz₈, .inr ⟨_, rfl⟩, up _ _ S.TIz (hkk _ _ S.TIz S.TITO S.TIi1 S.TIi2 hTI), up _ _ S.TOz hT2, D1.frame _ _ _ hj1 fun b hb o e => up b o (fun q => S.zf1 (q ▸ hb)) e, D2.frame _ _ _ hj2 fun b hb o e => up b o (fun q => S.zf2 (q ▸ hb)) e⟩
      (by show hp.objs.size ≤ _; omega) hT₈ (by show hp.objs.size ≤ _; omega) fun c o cz cT c1 c2 e => up c o cz (hkk c o cz cT c1 c2 e)
  · replace hs0 : Heap.SameBut z hp g0 := hs0
    simp only [Bool.false_eq_true, if_false]
    refine wpAny_bind ?_
    simp only [List.forIn_toArray, List.forIn_cons, List.forIn_nil]
    refine wpAny_bind (wpAny_bind (wpAny_holding ?_))
    show wpAny _ _ (Builtin.SmallTypes.nextOf (.ref i1) >>= _) _ _ ⟨g0, g, d, tk0, os⟩
    refine wpAny_bind (D1.item i _ _ _ hlt1 (D1.over st1 hs0 S.zf1) fun x1 p1 tk1 hx1 sn1 hp1 => wpAny_pure ?_)
    replace hp1 : Heap.SameBut i1 g0 p1 := hp1
    refine wpAny_pure ?_
    refine wpAny_bind (wpAny_bind (wpAny_holding ?_))
    show wpAny _ _ (Builtin.SmallTypes.nextOf (.ref i2) >>= _) _ _ ⟨p1, g, d, tk1, os⟩
    refine wpAny_bind (D2.item i _ _ _ hlt2 (D2.over (D2.over st2 hs0 S.zf2) hp1 S.sep1_2) fun x2 p2 tk2 hx2 sn2 hp2 => wpAny_pure ?_)
    replace hp2 : Heap.SameBut i2 p1 p2 := hp2
    refine wpAny_pure (wpAny_pure ?_)
    show wpAny _ _ (newTuple [x1, x2] >>= _) _ _ ⟨p2, g, d, tk2, os⟩
    refine wpAny_bind (wpAny_newTuple ?_)
    have hsz : p2.objs.size = hp.objs.size := by rw [hp2.1, hp1.1, hs0.1]
    have hzz : p2.get? z = some (zipObj f0 f1' TI TO) := hp2.extBut _ _ S.zi2 (hp1.extBut _ _ S.zi1 hz0)
    have hkk : ∀ c o, c ≠ z → c ≠ TO → c ≠ i1 → c ≠ i2 → hp.get? c = some o → p2.get? c = some o := fun c o cz cT c1 c2 e =>
      hp2.extBut _ _ c2 (hp1.extBut _ _ c1 (hs0.extBut _ _ cz e))
    have hj1 : St1 (i + 1) p2 := D1.over sn1 hp2 S.sep2_1
    have hTO2 : IsTupOf2 p2 TO a1 a2 := hp2.extBut _ _ S.Ti2 (hp1.extBut _ _ S.Ti1 (hs0.extBut _ _ S.TOz hTO))
    have up : ∀ c o, p2.get? c = some o → (p2.push { cls := .type "tuple", data := .seq #[x1, x2] }).get? c = some o := fun c o e => Heap.get?_push_of_some _ e
    refine wpAny_pure ⟨_, rfl, ?_⟩
    exact hQ p2.objs.size x1 x2 _ tk2 hx1 hx2 ⟨_, _, _, _, up _ _ hzz, hf, up _ _ (hkk _ _ S.TIz S.TITO S.TIi1 S.TIi2 hTI), up _ _ hTO2, D1.frame _ _ _ hj1 fun b hb o e => up b o e, D2.frame _ _ _ sn2 fun b hb o e => up b o e⟩
      (by show hp.objs.size ≤ _; omega) (Heap.get?_push_size _ rfl) (Nat.le_trans (Nat.le_of_eq hsz.symm) (by rw [Heap.size_push]; exact Nat.le_succ _)) fun c o cz cT c1 c2 e => up c o (hkk c o cz cT c1 c2 e)

theorem zipG_next_end {Q : PySem.Fin → Shared → Prop} (S : ZipSep2 z TI TO i1 i2 fp1 fp2) (D1 : Draws prog w A i1 fp1 n1 P1 St1) (D2 : Draws prog w A i2 fp2 n2 P2 St2) (st : ZSt z TI TO i1 i2 St1 St2 i s.heap) (hle1 : i ≤ n1) (hle2 : i ≤ n2) (hend : i = n1 ∨ i = n2)
    (hE : ∀ h' tk e, (∀ c o, c ≠ z → c ≠ TO → c ≠ i1 → c ≠ i2 → s.heap.get? c = some o → h'.get? c = some o) → (∃ o, h'.get? e = some o ∧ o.cls = .type "StopIteration") → E (.ref e) { s with heap := h', toks := tk }) :
    wpAny (model prog w) A (Builtin.«zip.__next__» ⟨[.ref z], []⟩) Q E s := by
  obtain ⟨hp, g, d, tk0, os⟩ := s
  obtain ⟨f0, f1, a1, a2, hz, hf, hTI, hTO, st1, st2⟩ := st
  show wpAny _ _ (field (.ref z) 2 >>= _) _ _ _
  refine wpAny_bind (wpAny_field hz rfl (x := .bool false) rfl ?_)
  show wpAny _ _ (field (.ref z) 3 >>= _) _ _ _
  refine wpAny_bind (wpAny_field hz rfl (x := .ref TI) rfl ?_)
  refine wpAny_bind (wpAny_seqItems hTI rfl ?_)
  show wpAny _ _ (Builtin.SmallTypes.ownedTupleIsFree (.ref z) >>= _) _ _ _
  refine wpAny_bind (ownedFree_zip hz hf ?_ fun g0 f1' hz0 hs0 => ?_)
  · simp only [if_true]
    refine wpAny_bind (wpAny_rule ?_)
    refine wpAny_bind (wpAny_field hz rfl (x := .ref TO) rfl ?_)
    refine wpAny_bind (wpAny_setField_rec hz (by simp) fun g0 hz0 hs0 => ?_)
    replace hz0 : g0.get? z = some (zipObj .ellipsis f1 TI TO) := hz0
    replace hs0 : Heap.SameBut z hp g0 := hs0
    refine wpAny_bind ?_
    simp only [List.zipIdx_cons, List.zipIdx_nil, List.forIn_cons, List.forIn_nil]
    refine wpAny_bind (wpAny_bind (wpAny_onRaise ?_))
    show wpAny _ _ (Builtin.SmallTypes.nextOf (.ref i1) >>= _) _ _ ⟨g0, g, d, tk0, os⟩
    by_cases hlt1 : i < n1
    · refine wpAny_bind (D1.item i _ _ _ hlt1 (D1.over st1 hs0 S.zf1) fun x1 p1 tk1 hx1 sn1 hp1 => wpAny_pure ?_)
      replace hp1 : Heap.SameBut i1 g0 p1 := hp1
      have hU1 : IsTupOf2 p1 TO a1 a2 := hp1.extBut _ _ S.Ti1 (hs0.extBut _ _ S.TOz hTO)
      refine wpAny_bind (wpAny_seqItems (s := ⟨p1, g, d, tk1, os⟩) hU1 rfl ?_)
      refine wpAny_bind (updateSeq_IsTupOf2 (s := ⟨p1, g, d, tk1, os⟩) hU1 fun g1 hT1 hs1 => ?_)
      replace hT1 : IsTupOf2 g1 TO x1 a2 := hT1
      replace hs1 : Heap.SameBut TO p1 g1 := hs1
      refine wpAny_bind (wpAny_letGo (wpAny_pure ?_))
      have hi2 : i = n2 := by omega
      refine wpAny_bind (wpAny_bind (wpAny_onRaise ?_))
      show wpAny _ _ (Builtin.SmallTypes.nextOf (.ref i2) >>= _) _ _ ⟨g1, g, d, tk1, os⟩
      refine wpAny_bind (D2.done ⟨g1, g, d, tk1, os⟩ _ _ (by rw [← hi2]; exact (D2.over (D2.over (D2.over st2 hs0 S.zf2) hp1 S.sep1_2) hs1 S.Tf2)) fun q e hq he => ?_)
      replace hq : Heap.ExtBut i2 g1 q := hq
      obtain ⟨oe, hoe, hce⟩ := he
      replace hoe : q.get? e = some oe := hoe
      have hzq : q.get? z = some (zipObj .ellipsis f1 TI TO) := hq _ _ S.zi2 (hs1.extBut _ _ S.TOz.symm (hp1.extBut _ _ S.zi1 hz0))
      have hez : e ≠ z := fun x => by subst x; rw [hzq] at hoe; cases hoe; simp at hce
      refine wpAny_setField_rec (s := ⟨q, g, d, tk1, os⟩) hzq (by simp) fun q' _ hq' => ?_
      replace hq' : Heap.SameBut z q q' := hq'
      exact hE q' tk1 e (fun c o cz cT c1 c2 x => hq'.extBut _ _ cz (hq _ _ c2 (hs1.extBut _ _ cT (hp1.extBut _ _ c1 (hs0.extBut _ _ cz x))))) ⟨oe, hq'.extBut _ _ hez hoe, hce⟩
    · have hi1 : i = n1 := by omega
      refine wpAny_bind (D1.done ⟨g0, g, d, tk0, os⟩ _ _ (by rw [← hi1]; exact (D1.over st1 hs0 S.zf1)) fun q e hq he => ?_)
      replace hq : Heap.ExtBut i1 g0 q := hq
      obtain ⟨oe, hoe, hce⟩ := he
      replace hoe : q.get? e = some oe := hoe
      have hzq : q.get? z = some (zipObj .ellipsis f1 TI TO) := hq _ _ S.zi1 hz0
      have hez : e ≠ z := fun x => by subst x; rw [hzq] at hoe; cases hoe; simp at hce
      refine wpAny_setField_rec (s := ⟨q, g, d, tk0, os⟩) hzq (by simp) fun q' _ hq' => ?_
      replace hq' : Heap.SameBut z q q' := hq'
      exact hE q' tk0 e (fun c o cz cT c1 c2 x => hq'.extBut _ _ cz (hq _ _ c1 (hs0.extBut _ _ cz x))) ⟨oe, hq'.extBut _ _ hez hoe, hce⟩
  · replace hs0 : Heap.SameBut z hp g0 := hs0
    simp only [Bool.false_eq_true, if_false]
    refine wpAny_bind ?_
    simp only [List.forIn_toArray, List.forIn_cons, List.forIn_nil]
    refine wpAny_bind (wpAny_bind (wpAny_holding ?_))
    show wpAny _ _ (Builtin.SmallTypes.nextOf (.ref i1) >>= _) _ _ ⟨g0, g, d, tk0, os⟩
    by_cases hlt1 : i < n1
    · refine wpAny_bind (D1.item i _ _ _ hlt1 (D1.over st1 hs0 S.zf1) fun x1 p1 tk1 hx1 sn1 hp1 => wpAny_pure ?_)
      replace hp1 : Heap.SameBut i1 g0 p1 := hp1
      refine wpAny_pure ?_
      have hi2 : i = n2 := by omega
      refine wpAny_bind (wpAny_bind (wpAny_holding ?_))
      show wpAny _ _ (Builtin.SmallTypes.nextOf (.ref i2) >>= _) _ _ ⟨p1, g, d, tk1, os⟩
      refine wpAny_bind (D2.done ⟨p1, g, d, tk1, os⟩ _ _ (by rw [← hi2]; exact D2.over (D2.over st2 hs0 S.zf2) hp1 S.sep1_2) fun q e hq he => ?_)
      replace hq : Heap.ExtBut i2 p1 q := hq
      exact hE q tk1 e (fun c o cz cT c1 c2 x => hq _ _ c2 (hp1.extBut _ _ c1 (hs0.extBut _ _ cz x))) he
    · have hi1 : i = n1 := by omega
      refine wpAny_bind (D1.done ⟨g0, g, d, tk0, os⟩ _ _ (by rw [← hi1]; exact (D1.over st1 hs0 S.zf1)) fun q e hq he => ?_)
      replace hq : Heap.ExtBut i1 g0 q := hq
      exact hE q tk0 e (fun c o cz cT c1 c2 x => hq _ _ c1 (hs0.extBut _ _ cz x)) he

theorem enumG_next_item {e it : Addr} {fp wr : List Addr} {n i : Nat} {P : Nat → Value → Heap → Prop} {St : Nat → Heap → Prop} {old : Value} {Q : Value → Shared → Prop}
    (frame : ∀ i h h', St i h → (∀ b ∈ fp, ∀ o, h.get? b = some o → h'.get? b = some o) → St i h')
    (item : ∀ (Q : Value → Shared → Prop) (E : Value → Shared → Prop),
      (∀ x h' tk, P i x h' → St (i + 1) h' → s.heap.objs.size ≤ h'.objs.size → (∀ b o, b ∉ wr → s.heap.get? b = some o → h'.get? b = some o) → Q x { s with heap := h', toks := tk }) → wpAny (model prog w) A (Builtin.SmallTypes.nextOf (.ref it)) Q E s)
    (he : IsEnum s.heap e it i old) (hef : e ∉ fp) (hew : e ∉ wr)
    (hQ : ∀ x T h1 h' tk, P i x h1 → h1.objs.size ≤ T → s.heap.objs.size ≤ T → (∀ b o, b ≠ e → h1.get? b = some o → h'.get? b = some o) → IsEnumOut h' e it ((i : Int) + 1) x T → St (i + 1) h' →
      h'.get? T = some { cls := .type "tuple", data := .seq #[.int i tk, x] } →
      (∀ b o, b ≠ e → b ∉ wr → s.heap.get? b = some o → h'.get? b = some o) → Q (.ref T) { s with heap := h', toks := tk + 1 }) :
    wpAny (model prog w) A (Builtin.«enumerate.__next__» ⟨[.ref e], []⟩) (fun fin s' => ∃ v, fin = .done (.ret v) ∧ Q v s') E s := by
  obtain ⟨hp, g, d, tk₀, os⟩ := s
  show wpAny _ _ (field (.ref e) 2 >>= _) _ _ _
  refine wpAny_bind (wpAny_field he rfl (x := .ref it) rfl ?_)
  refine wpAny_bind (item _ _ fun x h₁ tk hPx hit₁ hz₁ hs₁ => ?_)
  replace hs₁ : ∀ b o, b ∉ wr → hp.get? b = some o → h₁.get? b = some o := hs₁
  replace hz₁ : hp.objs.size ≤ h₁.objs.size := hz₁
  have he₁ : IsEnum h₁ e it i old := hs₁ _ _ hew he
  show wpAny _ _ (field (.ref e) 3 >>= _) _ _ ⟨h₁, g, d, tk, os⟩
  refine wpAny_bind (wpAny_field he₁ rfl (x := rawInt i) rfl ?_)
  show wpAny _ _ (field (.ref e) 4 >>= _) _ _ ⟨h₁, g, d, tk, os⟩
  refine wpAny_bind (wpAny_field he₁ rfl (x := .none) rfl ?_)
  show wpAny _ _ (mkInt i >>= _) _ _ ⟨h₁, g, d, tk, os⟩
  refine wpAny_bind (wpAny_mkInt ?_)
  show wpAny _ _ (setField (.ref e) 3 (rawInt ((i : Int) + 1)) >>= _) _ _ ⟨h₁, g, d, tk + 1, os⟩
  refine wpAny_bind (wpAny_setField_rec he₁ (by simp) fun h₂ he₂ hs₂ => ?_)
  replace hs₂ : Heap.SameBut e h₁ h₂ := hs₂
  replace he₂ : IsEnum h₂ e it ((i : Int) + 1) old := he₂
  show wpAny _ _ (setField (.ref e) 4 .none >>= _) _ _ ⟨h₂, g, d, tk + 1, os⟩
  refine wpAny_bind (wpAny_setField_rec he₂ (by simp) fun h₃ he₃ hs₃ => ?_)
  replace hs₃ : Heap.SameBut e h₂ h₃ := hs₃
  replace he₃ : IsEnum h₃ e it ((i : Int) + 1) old := he₃
  show wpAny _ _ (newTuple [.int i tk, x] >>= _) _ _ ⟨h₃, g, d, tk + 1, os⟩
  refine wpAny_bind (wpAny_newTuple ?_)
  have he₄ : IsEnum (h₃.push { cls := .type "tuple", data := .seq #[.int i tk, x] }) e it ((i : Int) + 1) old := Heap.get?_push_of_some _ he₃
  generalize hh₄ : h₃.push { cls := .type "tuple", data := .seq #[.int i tk, x] } = h₄ at he₄
  have hsz : h₃.objs.size = h₁.objs.size := by rw [hs₃.1, hs₂.1]
  have hel : e < h₁.objs.size := Heap.lt_size he₁
  have ht₄ : h₄.get? h₁.objs.size = some { cls := .type "tuple", data := .seq #[.int i tk, x] } := by rw [← hh₄, ← hsz]; exact Heap.get?_push_size _ rfl
  have hk₄ : ∀ b o, b ≠ e → h₁.get? b = some o → h₄.get? b = some o := fun b o hbe hb => by
    rw [← hh₄]; exact Heap.get?_push_of_some _ (hs₃.extBut b o hbe (hs₂.extBut b o hbe hb))
  show wpAny _ _ (Builtin.SmallTypes.ownedTupleIsFree (.ref e) >>= _) _ _ ⟨h₄, g, d, tk + 1, os⟩
  rw [hsz]
  refine wpAny_bind ?_
  unfold Builtin.SmallTypes.ownedTupleIsFree
  refine wpAny_bind (wpAny_field he₄ rfl (x := .none) rfl (wpAny_pure ?_))
  simp only [if_true]
  refine wpAny_bind (wpAny_rule ?_)
  refine wpAny_bind (wpAny_field he₄ rfl (x := old) rfl ?_)
  refine wpAny_bind (wpAny_setField_rec he₄ (by simp) fun h₅ he₅ hs₅ => ?_)
  replace hs₅ : Heap.SameBut e h₄ h₅ := hs₅
  replace he₅ : IsEnum h₅ e it ((i : Int) + 1) x := he₅
  show wpAny _ _ (Builtin.SmallTypes.ownedTupleHandOut (.ref e) (.ref h₁.objs.size) >>= _) _ _ ⟨h₅, g, d, tk + 1, os⟩
  refine wpAny_bind ?_
  unfold Builtin.SmallTypes.ownedTupleHandOut
  refine wpAny_bind (wpAny_setField_rec he₅ (by simp) fun h₆ he₆ hs₆ => ?_)
  replace hs₆ : Heap.SameBut e h₅ h₆ := hs₆
  replace he₆ : IsEnumOut h₆ e it ((i : Int) + 1) x h₁.objs.size := he₆
  refine wpAny_setField_rec he₆ (by simp) fun h₇ he₇ hs₇ => ?_
  replace hs₇ : Heap.SameBut e h₆ h₇ := hs₇
  replace he₇ : IsEnumOut h₇ e it ((i : Int) + 1) x h₁.objs.size := he₇
  have up : ∀ b o, b ≠ e → h₁.get? b = some o → h₇.get? b = some o := fun b o hbe hb => hs₇.extBut b o hbe (hs₆.extBut b o hbe (hs₅.extBut b o hbe (hk₄ b o hbe hb)))
  refine wpAny_bind (wpAny_letGo (wpAny_pure ⟨_, rfl, hQ x h₁.objs.size h₁ h₇ tk hPx (Nat.le_refl _) hz₁ up he₇ ?_ ?_ ?_⟩))
  · exact frame _ _ _ hit₁ fun b hb o y => up b o (fun q => hef (q ▸ hb)) y
  · exact hs₇.extBut _ _ (Nat.ne_of_gt hel) (hs₆.extBut _ _ (Nat.ne_of_gt hel) (hs₅.extBut _ _ (Nat.ne_of_gt hel) ht₄))
  · exact fun b o hbe hbw hb => up b o hbe (hs₁ b o hbw hb)
theorem enumG_next_end {e it : Addr} {wr : List Addr} {i : Int} {old : Value} {Q : Option Value → Shared → Prop} (he : IsEnum s.heap e it i old)
    (dn : ∀ (Q : Value → Shared → Prop) (E : Value → Shared → Prop), (∀ h' tk x, (∀ b o, b ∉ wr → s.heap.get? b = some o → h'.get? b = some o) → (∃ o, h'.get? x = some o ∧ o.cls = .type "StopIteration") → E (.ref x) { s with heap := h', toks := tk }) → wpAny (model prog w) A.in1 (Builtin.SmallTypes.nextOf (.ref it)) Q E s)
    (hQ : ∀ h' tk, (∀ b o, b ∉ wr → s.heap.get? b = some o → h'.get? b = some o) → Q none { s with heap := h', toks := tk }) : wpAny (model prog w) A (pyNext (.ref e)) Q E s := by
  have hT : s.TypeIs (.ref e) "enumerate" := ⟨_, he, rfl⟩
  unfold pyNext
  refine wpAny_bind (wpAny_attempt (wpAny_callSpecial?_slot (name := Str.ofString "__next__") hT F.slot_enumerate_next
    (wpAny_call_entry F.slot_enumerate_next hT F.entry_enumerate_next ?_ (F.args_enumerate_next_1 _))))
  show wpAny _ _ (field (.ref e) 2 >>= _) _ _ _
  refine wpAny_bind (wpAny_field he rfl (x := .ref it) rfl ?_)
  refine wpAny_bind (dn _ _ fun h' tk x hk hx => ?_)
  obtain ⟨o, ho, hc⟩ := hx
  refine wpAny_bind (wpAny_isInstance (T := "StopIteration") (b := true) ⟨o, ho, hc⟩ isSubtype_stop ?_)
  exact wpAny_pure (hQ _ _ hk)
theorem enumG_pyNext_item {e it : Addr} {fp wr : List Addr} {i : Nat} {P : Nat → Value → Heap → Prop} {St : Nat → Heap → Prop} {old : Value} {Q : Option Value → Shared → Prop}
    (frame : ∀ i h h', St i h → (∀ b ∈ fp, ∀ o, h.get? b = some o → h'.get? b = some o) → St i h')
    (item : ∀ (Q : Value → Shared → Prop) (E : Value → Shared → Prop),
      (∀ x h' tk, P i x h' → St (i + 1) h' → s.heap.objs.size ≤ h'.objs.size → (∀ b o, b ∉ wr → s.heap.get? b = some o → h'.get? b = some o) → Q x { s with heap := h', toks := tk }) → wpAny (model prog w) A.in1 (Builtin.SmallTypes.nextOf (.ref it)) Q E s)
    (he : IsEnum s.heap e it i old) (hef : e ∉ fp) (hew : e ∉ wr)
    (hQ : ∀ x T h1 h' tk, P i x h1 → h1.objs.size ≤ T → s.heap.objs.size ≤ T → (∀ b o, b ≠ e → h1.get? b = some o → h'.get? b = some o) → IsEnumOut h' e it ((i : Int) + 1) x T → St (i + 1) h' →
      h'.get? T = some { cls := .type "tuple", data := .seq #[.int i tk, x] } →
      (∀ b o, b ≠ e → b ∉ wr → s.heap.get? b = some o → h'.get? b = some o) → Q (some (.ref T)) { s with heap := h', toks := tk + 1 }) :
    wpAny (model prog w) A (pyNext (.ref e)) Q E s := by
  have hT : s.TypeIs (.ref e) "enumerate" := ⟨_, he, rfl⟩
  unfold pyNext
  exact wpAny_bind (wpAny_attempt (wpAny_callSpecial?_slot (name := Str.ofString "__next__") hT F.slot_enumerate_next
    (wpAny_call_entry F.slot_enumerate_next hT F.entry_enumerate_next
      (enumG_next_item (n := 0) frame item he hef hew fun x T h1 h' tk a b c d e f q k => wpAny_pure (hQ x T h1 h' tk a b c d e f q k)) (F.args_enumerate_next_1 _))))
theorem zipG_nextOf_item {Q : Value → Shared → Prop} (S : ZipSep2 z TI TO i1 i2 fp1 fp2) (D1 : Draws prog w A.in1 i1 fp1 n1 P1 St1) (D2 : Draws prog w A.in1 i2 fp2 n2 P2 St2) (st : ZSt z TI TO i1 i2 St1 St2 i s.heap) (hlt1 : i < n1) (hlt2 : i < n2)
    (hQ : ∀ T x1 x2 h' tk, P1 i x1 → P2 i x2 → ZSt z TI TO i1 i2 St1 St2 (i + 1) h' → s.heap.objs.size ≤ T → IsTupOf2 h' T x1 x2 → s.heap.objs.size ≤ h'.objs.size →
      (∀ c o, c ≠ z → c ≠ TO → c ≠ i1 → c ≠ i2 → s.heap.get? c = some o → h'.get? c = some o) → Q (.ref T) { s with heap := h', toks := tk }) :
    wpAny (model prog w) A (Builtin.SmallTypes.nextOf (.ref z)) Q E s := by
  have hT : s.TypeIs (.ref z) "zip" := by obtain ⟨f0, f1, a1, a2, hz, _⟩ := st; exact ⟨_, hz, rfl⟩
  unfold Builtin.SmallTypes.nextOf
  exact wpAny_bind (wpAny_callSpecial?_slot (name := Str.ofString "__next__") hT F.slot_zip_next
    (wpAny_call_entry F.slot_zip_next hT F.entry_zip_next (zipG_next_item S D1 D2 st hlt1 hlt2 fun T x1 x2 h' tk y1 y2 b1 b2 b3 b4 b5 => wpAny_pure (hQ T x1 x2 h' tk y1 y2 b1 b2 b3 b4 b5)) (F.args_zip_next_1 _)))
theorem zipG_nextOf_end {Q : Value → Shared → Prop} (S : ZipSep2 z TI TO i1 i2 fp1 fp2) (D1 : Draws prog w A.in1 i1 fp1 n1 P1 St1) (D2 : Draws prog w A.in1 i2 fp2 n2 P2 St2) (st : ZSt z TI TO i1 i2 St1 St2 i s.heap) (hle1 : i ≤ n1) (hle2 : i ≤ n2) (hend : i = n1 ∨ i = n2)
    (hE : ∀ h' tk e, (∀ c o, c ≠ z → c ≠ TO → c ≠ i1 → c ≠ i2 → s.heap.get? c = some o → h'.get? c = some o) → (∃ o, h'.get? e = some o ∧ o.cls = .type "StopIteration") → E (.ref e) { s with heap := h', toks := tk }) :
    wpAny (model prog w) A (Builtin.SmallTypes.nextOf (.ref z)) Q E s := by
  have hT : s.TypeIs (.ref z) "zip" := by obtain ⟨f0, f1, a1, a2, hz, _⟩ := st; exact ⟨_, hz, rfl⟩
  unfold Builtin.SmallTypes.nextOf
  exact wpAny_bind (wpAny_callSpecial?_slot (name := Str.ofString "__next__") hT F.slot_zip_next
    (wpAny_call_entry F.slot_zip_next hT F.entry_zip_next (zipG_next_end S D1 D2 st hle1 hle2 hend hE) (F.args_zip_next_1 _)))
end

/-! ### enumerate(tuple) -/
def Itet (K : PySem.W.Frag) (a : Addr) : It :=
  ⟨fun i H => ∃ (xs : List V) (x : V), SqT K H a xs ∧ xs[i]? = some x, fun i H v H' => ∃ T x, v = .ref T ∧ H T = none ∧ H' = upd H T (.tup [.int (i : Nat), x]) ∧ ∀ xs, SqT K H a xs → xs[i]? = some x, fun i H => ∃ xs : List V, SqT K H a xs ∧ i = xs.length⟩
theorem turn_enumT {P : Program} {w : World} {K : PySem.W.Frag} {elts : List Expr} {kk : Nat} {tpos : Pos} (a e it : Addr) :
    Turn P w K (.Tuple elts kk tpos) (Itet K a) [e, it] e (fun i h => (∃ old, IsEnum h e it ((i : Nat) : Int) old) ∧ h.IsTupleIter it a i ∧ e ≠ it ∧ a ≠ it ∧ a ≠ e) where
  mem := by simp
  obj := fun i h st b hb => by
    obtain ⟨⟨old, he⟩, ⟨o, ho, hc, hd⟩, _⟩ := st
    have e' : b = e ∨ b = it := by simpa using hb
    rcases e' with z | z
    · rw [z]; exact ⟨_, he, fun v q => nomatch q⟩
    · rw [z]; exact ⟨o, ho, fun v q => by rw [hd] at q; cases q⟩
  keep := fun i h h' st k => let ⟨⟨old, he⟩, hi, hne⟩ := st; ⟨⟨old, k e (by simp) _ he⟩, hi.at fun o q => k it (by simp) o q, hne⟩
  item := by
    intro X hP hw hK hc i pins s σ H E I hf st hg
    subst hP hw hK
    obtain ⟨⟨old, he⟩, hit, hne, hai, hae⟩ := st
    obtain ⟨xs, x, hq, hx⟩ := hg
    obtain ⟨its, rv, p, hz⟩ := I.tuple hq
    have pt : s.heap.IsTuple a its.toArray := p
    obtain ⟨u, hu, ru⟩ := rv.get hx
    have hel : e < s.heap.objs.size := Heap.lt_size he
    have hil : it < s.heap.objs.size := by obtain ⟨_, q, _⟩ := hit; exact Heap.lt_size q
    have hh : X.A.in1.handled = none := I.ok.hd hc
    have D := Draws.tuple (prog := X.prog) (w := X.w) hh it a hai its.toArray
    have hef : e ∉ [it, a] := fun q => by
      have q' : e = it ∨ e = a := by simpa using q
      exact q'.elim hne fun z => hae z.symm
    refine wpAny_pyNext_enum_itemD D he ⟨hit, pt⟩ (by simpa using (List.getElem?_eq_some_iff.mp hu).1) hne hef fun y h' tk hP ho hst' hT hsz hk => ?_
    have hy : y = u := by
      have : its[i]? = some y := by simpa using hP
      rw [hu] at this
      exact (Option.some.inj this).symm
    subst hy
    refine ⟨_, rfl, wpAny_letOwnedTupleGo_enum (s := { s with heap := h', toks := tk + 1 }) ho fun h'' he' sb => ?_⟩
    have hT2 : h''.get? s.heap.objs.size = some { cls := .type "tuple", data := .seq #[.int i tk, y] } := (sb.2 _ (Nat.ne_of_gt hel)).trans hT
    have new : ObjOk X.prog X.w (upd H s.heap.objs.size (.tup [.int (i : Nat), x])) h'' s.heap.objs.size (.tup [.int (i : Nat), x]) :=
      ⟨by show 2 ≤ sizeLine; decide, [.int i tk, y], .cons ⟨_, rfl⟩ (.cons ru .nil), ⟨_, hT2, rfl, _, rfl⟩⟩
    have I1 : Inv X pins σ (upd H s.heap.objs.size (.tup [.int (i : Nat), x])) { s with heap := h'', toks := tk + 1 } :=
      I.turnedNew (ch := [e, it]) (fun b ob hb q => (sb.2 b (fun z => hb (by simp [z]))).trans (hk b ob (fun z => hb (by simp [z])) (fun z => hb (by simp [z])) q)) hf (Nat.le_refl _) new
    refine ⟨.ref s.heap.objs.size, _, I1, rfl, ⟨_, x, rfl, I.hok.fresh (Nat.le_refl _), rfl, fun ys hy => by rw [I.tuple_inj hy hq]; exact hx⟩, ⟨⟨y, ?_⟩, hst'.1.at fun o q => (sb.2 it (Ne.symm hne)).trans q, hne, hai, hae⟩, fun b hb => ?_⟩
    · have e1 : ((i + 1 : Nat) : Int) = (i : Int) + 1 := by omega
      rw [e1]; exact he'
    · have hb' : b < s.heap.objs.size := by
        have e' : b = e ∨ b = it := by simpa using hb
        rcases e' with z | z
        · rw [z]; exact hel
        · rw [z]; exact hil
      rw [upd_ne (Nat.ne_of_lt hb')]
      exact (hf b hb).1
  done := by
    intro X hP hw hK hc i pins s σ H E I hf st hg
    subst hP hw hK
    obtain ⟨⟨old, he⟩, hit, hne, hai, hae⟩ := st
    obtain ⟨xs, hq, hx⟩ := hg
    obtain ⟨its, rv, p, hz⟩ := I.tuple hq
    have pt : s.heap.IsTuple a its.toArray := p
    obtain ⟨f0, f1, f2, f3, f4, f5⟩ := hf it (by simp)
    have hl := rv.length
    have hh : X.A.in1.handled = none := I.ok.hd hc
    have D := Draws.tuple (prog := X.prog) (w := X.w) hh it a hai its.toArray
    have hn : i = its.toArray.size := by simp; omega
    subst hn
    exact wpAny_pyNext_enum_endD D he ⟨hit, pt⟩ fun h' eb => ⟨rfl, I.turned (t' := s.toks) (fun b o hb q => eb b o hb q) f0 f1 f3 f4 f5⟩
  self := fun A i s Q E st h => let ⟨⟨_, he⟩, _⟩ := st; wpAny_pyIter_enum he h

set_option maxHeartbeats 1000000 in
theorem meets_enum_newB1 {v : Value} {o : Obj} {H : Heap → Prop} (B : Begins v o H) :
    Meets (Builtin.«enumerate.__new__» ⟨[.type "enumerate", v], []⟩) (fun _ R s => H s.heap ∧
      R (.ok (.ret (.ref (s.heap.push o).objs.size))) { s with heap := (s.heap.push o).push { cls := .type "enumerate", data := .fields #[.none, .bool false, .ref s.heap.objs.size, rawInt 0, .none, .none] } }) :=
  .of_wp fun prog w A R s h => by
    obtain ⟨hp, g, d, tk, os⟩ := s; obtain ⟨h1, h⟩ := h
    have hsub := sub_enumerate
    have q1 : ∀ {A' : Around} {E : Value → Shared → Prop} {Q : Value → Shared → Prop}, Q (.ref hp.objs.size) ⟨hp.push o, g, d, tk, os⟩ → wpAny (model prog w) A' (pyIter v) Q E ⟨hp, g, d, tk, os⟩ :=
      fun q => B.iter prog w _ _ ⟨hp, g, d, tk, os⟩ _ h1 q
    wp_walk using q1
    refine wpAny_stack_any fun st => wpAny_pure ?_
    split
    · rename_i c _ _ _ _ _
      cases (c == Value.type "enumerate")
      · wp_walk using q1
        exact ⟨_, rfl, h⟩
      · wp_walk using q1
        exact ⟨_, rfl, h⟩
    · wp_walk using q1
      exact ⟨_, rfl, h⟩
set_option maxHeartbeats 1000000 in
/-- v is its own iterator -/
theorem meets_enum_newS1 {v : Value} {H : Heap → Prop} {z : Addr} (B : ∀ (prog : Program) (w : World) (A : Around) (E : Value → Shared → Prop) (s : Shared) (Q : Value → Shared → Prop), H s.heap → Q (.ref z) s → wpAny (model prog w) A (pyIter v) Q E s) :
    Meets (Builtin.«enumerate.__new__» ⟨[.type "enumerate", v], []⟩) (fun _ R s => H s.heap ∧
      R (.ok (.ret (.ref s.heap.objs.size))) { s with heap := s.heap.push { cls := .type "enumerate", data := .fields #[.none, .bool false, .ref z, rawInt 0, .none, .none] } }) :=
  .of_wp fun prog w A R s h => by
    obtain ⟨hp, g, d, tk, os⟩ := s; obtain ⟨h1, h⟩ := h
    have hsub := sub_enumerate
    have q1 : ∀ {A' : Around} {E : Value → Shared → Prop} {Q : Value → Shared → Prop}, Q (.ref z) ⟨hp, g, d, tk, os⟩ → wpAny (model prog w) A' (pyIter v) Q E ⟨hp, g, d, tk, os⟩ :=
      fun q => B prog w _ _ ⟨hp, g, d, tk, os⟩ _ h1 q
    wp_walk using q1
    refine wpAny_stack_any fun st => wpAny_pure ?_
    split
    · rename_i c _ _ _ _ _
      cases (c == Value.type "enumerate")
      · wp_walk using q1
        exact ⟨_, rfl, h⟩
      · wp_walk using q1
        exact ⟨_, rfl, h⟩
    · wp_walk using q1
      exact ⟨_, rfl, h⟩
section
variable {prog : Program} {w : World} {A : Around} {E : Value → Shared → Prop} {s : Shared}
theorem enum_begins1 {v : Value} {o : Obj} {H : Heap → Prop} {Q : Value → Shared → Prop} (B : Begins v o H) (h1 : H s.heap)
    (h : ∀ h', IsEnum h' (s.heap.objs.size + 1) s.heap.objs.size 0 .none → h'.get? s.heap.objs.size = some o → h'.objs.size = s.heap.objs.size + 2 →
      (∀ b o, s.heap.get? b = some o → h'.get? b = some o) → Q (.ref (s.heap.objs.size + 1)) { s with heap := h' }) :
    wpAny (model prog w) A (call (.type "enumerate") [v]) Q E s := by
  refine callType_new F.called_enumerate (by decide) (F.typeCall_enumerate_1 _) (F.newCall_enumerate_1 _) (fun obj => F.args_object_init_2 obj _) F.entry_enumerate_new
    (meets_enum_newB1 B) ⟨h1, ?_⟩
  have hz : (s.heap.push o).objs.size = s.heap.objs.size + 1 := Heap.size_push ..
  show _ ∧ _
  rw [hz]
  have he : IsEnum ((s.heap.push o).push { cls := .type "enumerate", data := .fields #[.none, .bool false, .ref s.heap.objs.size, rawInt 0, .none, .none] }) (s.heap.objs.size + 1) s.heap.objs.size 0 .none := by
    have := Heap.get?_push_size (s.heap.push o) (o := { cls := .type "enumerate", data := .fields #[.none, .bool false, .ref s.heap.objs.size, rawInt 0, .none, .none] }) rfl
    rw [hz] at this; exact this
  refine ⟨⟨_, he, rfl⟩, h _ he (Heap.get?_push_of_some _ (Heap.get?_push_size _ B.free)) (by rw [Heap.size_push, hz]) fun b o x => Heap.get?_push_of_some _ (Heap.get?_push_of_some _ x)⟩
theorem enum_self1 {v : Value} {z : Addr} {H : Heap → Prop} {Q : Value → Shared → Prop} (B : ∀ (prog : Program) (w : World) (A : Around) (E : Value → Shared → Prop) (s : Shared) (Q : Value → Shared → Prop), H s.heap → Q (.ref z) s → wpAny (model prog w) A (pyIter v) Q E s) (h1 : H s.heap)
    (h : ∀ h', IsEnum h' s.heap.objs.size z 0 .none → h'.objs.size = s.heap.objs.size + 1 →
      (∀ b o, s.heap.get? b = some o → h'.get? b = some o) → Q (.ref s.heap.objs.size) { s with heap := h' }) :
    wpAny (model prog w) A (call (.type "enumerate") [v]) Q E s := by
  refine callType_new F.called_enumerate (by decide) (F.typeCall_enumerate_1 _) (F.newCall_enumerate_1 _) (fun obj => F.args_object_init_2 obj _) F.entry_enumerate_new
    (meets_enum_newS1 B) ⟨h1, ?_⟩
  have he : IsEnum (s.heap.push { cls := .type "enumerate", data := .fields #[.none, .bool false, .ref z, rawInt 0, .none, .none] }) s.heap.objs.size z 0 .none := Heap.get?_push_size _ rfl
  exact ⟨⟨_, he, rfl⟩, h _ he (by rw [Heap.size_push]) fun b o x => Heap.get?_push_of_some _ x⟩
end
def iEnumT (K : PySem.W.Frag) (ta : TA) : TI := fun σ H R => ta σ H fun vs H1 => ∃ a xs, vs = [.ref a] ∧ SqT K H1 a xs ∧ R (Itet K a) H1
theorem pi_enumT {X : Cx} {e : Expr} {ta : TA} {p pos tpos : Pos} {elts : List Expr} {kk : Nat} (hg : Gl X "enumerate") (hm : X.mg "enumerate" = none) (ha : PA X [e] ta) (hs : starEach [e] X.env = [(false, eval e X.env)] := by rfl) :
    PI X (.Tuple elts kk tpos) (.Call (.Name "enumerate" p) [e] [] pos) (iEnumT X.K ta) := by
  refine ⟨fun pins s σ H R I h => ?_⟩
  refine Call_ (ld_blt I hg hm boot_enumerate (PyProof.Rows.callWith_type1 (thn (ha.run pos pins s σ H _ I h) fun us s1 ⟨vs, H1, I1, r1, q1⟩ => ?_) hs rfl))
  obtain ⟨a, xs, ex, hq, q⟩ := q1
  subst ex
  cases r1 with
  | cons r rr =>
    cases rr
    cases r
    obtain ⟨its, rv, p', hz⟩ := I1.tuple hq
    have pt : s1.heap.IsTuple a its.toArray := p'
    have hal : a < s1.heap.objs.size := by obtain ⟨o, e, _⟩ := pt; exact Heap.lt_size e
    refine enum_begins1 (begins_tuple a its.toArray) pt fun h' he hit hsz hk => wpAny_pyIter_enum he ?_
    have I2 : Inv X pins σ H1 { s1 with heap := h' } := I1.kept (t' := s1.toks) hk
    refine ⟨s1.heap.objs.size + 1, [s1.heap.objs.size + 1, s1.heap.objs.size], _, _, H1, rfl, I2, turn_enumT a (s1.heap.objs.size + 1) s1.heap.objs.size, ⟨⟨.none, he⟩, ⟨_, hit, rfl, rfl⟩, Nat.succ_ne_self _, Nat.ne_of_lt hal, Nat.ne_of_lt (Nat.lt_succ_of_lt hal)⟩, fun b hb => ?_, q⟩
    have e' : b = s1.heap.objs.size + 1 ∨ b = s1.heap.objs.size := by simpa using hb
    have hle : s1.heap.objs.size ≤ b := by
      rcases e' with z | z
      · rw [z]; exact Nat.le_add_right _ _
      · rw [z]; exact Nat.le_refl _
    exact I1.fpOk hle (I1.hok.fresh hle)

/-! ### enumerate(zip(tuple, tuple)) -/
def Ietz (K : PySem.W.Frag) (a b : Addr) : It :=
  ⟨fun i H => ∃ (xs ys : List V) (x y : V), SqT K H a xs ∧ SqT K H b ys ∧ xs[i]? = some x ∧ ys[i]? = some y,
    fun i H v H' => ∃ T U x y, v = .ref U ∧ H T = none ∧ H U = none ∧ T ≠ U ∧ H' = upd (upd H T (.tup [x, y])) U (.tup [.int (i : Nat), .ref T]) ∧ (∀ xs, SqT K H a xs → xs[i]? = some x) ∧ ∀ ys, SqT K H b ys → ys[i]? = some y,
    fun i H => ∃ xs ys : List V, SqT K H a xs ∧ SqT K H b ys ∧ i ≤ xs.length ∧ i ≤ ys.length ∧ (i = xs.length ∨ i = ys.length)⟩
theorem ne5 {a n : Nat} (h : a < n) : n + 5 ≠ a := by omega
structure EzSep (e z TI TO i1 i2 a b : Addr) : Prop where
  S : ZipSep2 z TI TO i1 i2 [i1, a] [i2, b]
  ez : e ≠ z
  eTI : e ≠ TI
  eTO : e ≠ TO
  e1 : e ≠ i1
  e2 : e ≠ i2
  ea : e ≠ a
  eb : e ≠ b
theorem EzSep.i1a {e z TI TO i1 i2 a b : Addr} (D : EzSep e z TI TO i1 i2 a b) (ha : a ≠ i1) (hb : b ≠ i2) : True := trivial
abbrev ezTn (e z TI TO i1 i2 a b : Addr) (i : Nat) (h : Heap) : Prop := (∃ old, IsEnum h e z ((i : Nat) : Int) old) ∧ ZSt z TI TO i1 i2 (fun i h => h.IsTupleIter i1 a i) (fun i h => h.IsTupleIter i2 b i) i h
theorem turn_ez {P : Program} {w : World} {K : PySem.W.Frag} {elts : List Expr} {kk : Nat} {tpos : Pos} {e z TI TO i1 i2 a b : Addr} (D : EzSep e z TI TO i1 i2 a b) (ha : a ≠ i1) (hb : b ≠ i2) :
    Turn P w K (.Tuple elts kk tpos) (Ietz K a b) [e, z, TI, TO, i1, i2] e (ezTn e z TI TO i1 i2 a b) where
  mem := by simp
  obj := fun i h st c hc => by
    obtain ⟨⟨old, he⟩, f0, f1, a1, a2, hz, hf, hTI, hTO, ⟨o1, g1, _, d1⟩, ⟨o2, g2, _, d2⟩⟩ := st
    have e' : c = e ∨ c = z ∨ c = TI ∨ c = TO ∨ c = i1 ∨ c = i2 := by simpa using hc
    rcases e' with q | q | q | q | q | q
    · rw [q]; exact ⟨_, he, fun v q => nomatch q⟩
    · rw [q]; exact ⟨_, hz, fun v q => nomatch q⟩
    · rw [q]; exact ⟨_, hTI, fun v q => nomatch q⟩
    · rw [q]; exact ⟨_, hTO, fun v q => nomatch q⟩
    · rw [q]; exact ⟨o1, g1, fun v q => by rw [d1] at q; cases q⟩
    · rw [q]; exact ⟨o2, g2, fun v q => by rw [d2] at q; cases q⟩
  keep := fun i h h' st k => by
    obtain ⟨⟨old, he⟩, f0, f1, a1, a2, hz, hf, hTI, hTO, h1, h2⟩ := st
    exact ⟨⟨old, k e (by simp) _ he⟩, f0, f1, a1, a2, k z (by simp) _ hz, hf, k TI (by simp) _ hTI, k TO (by simp) _ hTO, h1.at fun o q => k i1 (by simp) o q, h2.at fun o q => k i2 (by simp) o q⟩
  item := by
    intro X hP hw hK hc i pins s σ H E I hf st hg
    subst hP hw hK
    obtain ⟨⟨old, he⟩, f0, f1, a1, a2, hz, hf0, hTI, hTO, h1, h2⟩ := st
    obtain ⟨xs, ys, x, y, hqx, hqy, hx, hy⟩ := hg
    obtain ⟨its, rv, p, _⟩ := I.tuple hqx
    obtain ⟨its2, rv2, p2, _⟩ := I.tuple hqy
    have pt : s.heap.IsTuple a its.toArray := p
    have pt2 : s.heap.IsTuple b its2.toArray := p2
    obtain ⟨u, hu, ru⟩ := rv.get hx
    obtain ⟨u2, hu2, ru2⟩ := rv2.get hy
    have hh : X.A.in1.in1.handled = none := I.ok.hd hc
    have D1 := Draws.tuple (prog := X.prog) (w := X.w) hh i1 a ha its.toArray
    have D2 := Draws.tuple (prog := X.prog) (w := X.w) hh i2 b hb its2.toArray
    have hl1 : i < its.toArray.size := by simpa using (List.getElem?_eq_some_iff.mp hu).1
    have hl2 : i < its2.toArray.size := by simpa using (List.getElem?_eq_some_iff.mp hu2).1
    have hnew : ∀ {c : Addr} {o : Obj}, s.heap.get? c = some o → c < s.heap.objs.size := fun e => Heap.lt_size e
    refine enumG_pyNext_item (fp := [z, TI, TO, i1, i2, a, b]) (wr := [z, TO, i1, i2]) (P := fun _ v h => ∃ T, v = .ref T ∧ s.heap.objs.size ≤ T ∧ IsTupOf2 h T u u2)
      (St := ZSt z TI TO i1 i2 (fun i h => h.IsTupleIter i1 a i ∧ h.IsTuple a its.toArray) (fun i h => h.IsTupleIter i2 b i ∧ h.IsTuple b its2.toArray)) ?_ ?_ he ?_ ?_ ?_
    · intro j h h' st k
      obtain ⟨f0, f1, a1, a2, hz, hf, hTI, hTO, ⟨q1, q2⟩, ⟨q3, q4⟩⟩ := st
      exact ⟨f0, f1, a1, a2, k z (by simp) _ hz, hf, k TI (by simp) _ hTI, k TO (by simp) _ hTO, ⟨q1.at fun o q => k i1 (by simp) o q, q2.at fun o q => k a (by simp) o q⟩, ⟨q3.at fun o q => k i2 (by simp) o q, q4.at fun o q => k b (by simp) o q⟩⟩
    · intro Q E hQ
      refine zipG_nextOf_item D.S D1 D2 ⟨f0, f1, a1, a2, hz, hf0, hTI, hTO, ⟨h1, pt⟩, ⟨h2, pt2⟩⟩ hl1 hl2 fun T x1 x2 h' tk y1 y2 b1 b2 b3 b4 b5 => ?_
      have z1 : x1 = u := by
        have : its[i]? = some x1 := by simpa using y1
        rw [hu] at this
        exact (Option.some.inj this).symm
      have z2 : x2 = u2 := by
        have : its2[i]? = some x2 := by simpa using y2
        rw [hu2] at this
        exact (Option.some.inj this).symm
      subst z1 z2
      exact hQ (.ref T) h' tk ⟨T, rfl, b2, b3⟩ b1 b4 fun c o hc e => b5 c o (fun q => hc (by simp [q])) (fun q => hc (by simp [q])) (fun q => hc (by simp [q])) (fun q => hc (by simp [q])) e
    · intro q
      have q' : e = z ∨ e = TI ∨ e = TO ∨ e = i1 ∨ e = i2 ∨ e = a ∨ e = b := by simpa using q
      rcases q' with q | q | q | q | q | q | q
      · exact D.ez q
      · exact D.eTI q
      · exact D.eTO q
      · exact D.e1 q
      · exact D.e2 q
      · exact D.ea q
      · exact D.eb q
    · intro q
      have q' : e = z ∨ e = TO ∨ e = i1 ∨ e = i2 := by simpa using q
      rcases q' with q | q | q | q
      · exact D.ez q
      · exact D.eTO q
      · exact D.e1 q
      · exact D.e2 q
    · intro v U h1' h' tk hP hU hsU hk1 ho hst' hT hk
      obtain ⟨T, rfl, hT1, hT2⟩ := hP
      refine ⟨_, rfl, wpAny_letOwnedTupleGo_enum (s := { s with heap := h', toks := tk + 1 }) ho fun h'' he' sb => ?_⟩
      have hTlt : T < h1'.objs.size := Heap.lt_size hT2
      have hTU : T ≠ U := Nat.ne_of_lt (Nat.lt_of_lt_of_le hTlt hU)
      have hel : e < s.heap.objs.size := Heap.lt_size he
      have hUe : U ≠ e := Nat.ne_of_gt (Nat.lt_of_lt_of_le hel hsU)
      have hTe : T ≠ e := Nat.ne_of_gt (Nat.lt_of_lt_of_le hel hT1)
      have gU : h''.get? U = some { cls := .type "tuple", data := .seq #[.int i tk, .ref T] } := (sb.2 _ hUe).trans hT
      have gT : IsTupOf2 h'' T u u2 := (sb.2 _ hTe).trans (hk1 _ _ hTe hT2)
      obtain ⟨R, g1, g2⟩ := restrict h'' fun c => decide (c ≠ U)
      have gk : ∀ c, c ≠ U → R.get? c = h''.get? c := fun c hc => g1 c (decide_eq_true hc)
      have gn : R.get? U = none := g2 U (decide_eq_false fun z => z rfl)
      have nT : H T = none := I.hok.fresh hT1
      have nU : H U = none := I.hok.fresh hsU
      have old' : ∀ c o, c ∉ [e, z, TI, TO, i1, i2] → s.heap.get? c = some o → h''.get? c = some o := fun c o hc q =>
        (sb.2 c (fun z => hc (by simp [z]))).trans (hk c o (fun z => hc (by simp [z])) (fun q => by
          have q' : c = z ∨ c = TO ∨ c = i1 ∨ c = i2 := by simpa using q
          rcases q' with z | z | z | z <;> exact hc (by simp [z])) q)
      have I1 : Inv X pins σ (upd H T (.tup [x, y])) { s with heap := R, toks := tk + 1 } :=
        I.turnedNew (ch := [e, z, TI, TO, i1, i2]) (fun c o hc q => by
          rw [gk c (Nat.ne_of_lt (Nat.lt_of_lt_of_le (Heap.lt_size q) hsU))]
          exact old' c o hc q) hf hT1 ⟨by show 2 ≤ sizeLine; decide, [u, u2], .cons ru (.cons ru2 .nil), ⟨_, (gk T hTU).trans gT, rfl, _, rfl⟩⟩
      have I2 : Inv X pins σ (upd (upd H T (.tup [x, y])) U (.tup [.int (i : Nat), .ref T])) { s with heap := h'', toks := tk + 1 } :=
        I1.laidN (t' := tk + 1) (fun c o q => by
          have hc : c ≠ U := fun z => by rw [z, gn] at q; cases q
          rw [← gk c hc]; exact q) gn (by rw [upd_ne (Ne.symm hTU)]; exact nU) ⟨by show 2 ≤ sizeLine; decide, [.int i tk, .ref T], .cons ⟨_, rfl⟩ (.cons rfl .nil), ⟨_, gU, rfl, _, rfl⟩⟩
      have hlt : ∀ c ∈ [e, z, TI, TO, i1, i2], c < s.heap.objs.size := fun c hc => by
        have e' : c = e ∨ c = z ∨ c = TI ∨ c = TO ∨ c = i1 ∨ c = i2 := by simpa using hc
        rcases e' with q | q | q | q | q | q
        · rw [q]; exact hel
        · rw [q]; exact Heap.lt_size hz
        · rw [q]; exact Heap.lt_size hTI
        · rw [q]; exact Heap.lt_size hTO
        · rw [q]; obtain ⟨_, e1, _⟩ := h1; exact Heap.lt_size e1
        · rw [q]; obtain ⟨_, e2, _⟩ := h2; exact Heap.lt_size e2
      refine ⟨.ref U, _, I2, rfl, ⟨T, U, x, y, rfl, nT, nU, hTU, rfl, fun l hl => by rw [I.tuple_inj hl hqx]; exact hx, fun l hl => by rw [I.tuple_inj hl hqy]; exact hy⟩, ⟨⟨.ref T, ?_⟩, ?_⟩, fun c hc => ?_⟩
      · have e1 : ((i + 1 : Nat) : Int) = (i : Int) + 1 := by omega
        rw [e1]; exact he'
      · obtain ⟨q0, q1, b1, b2, r1, r2, r3, r4, ⟨r5, _⟩, ⟨r6, _⟩⟩ := hst'
        exact ⟨q0, q1, b1, b2, (sb.2 _ (Ne.symm D.ez)).trans r1, r2, (sb.2 _ (Ne.symm D.eTI)).trans r3, (sb.2 _ (Ne.symm D.eTO)).trans r4, r5.at fun o q => (sb.2 _ (Ne.symm D.e1)).trans q, r6.at fun o q => (sb.2 _ (Ne.symm D.e2)).trans q⟩
      · have := hlt c hc
        rw [upd_ne (Nat.ne_of_lt (Nat.lt_of_lt_of_le this hsU)), upd_ne (Nat.ne_of_lt (Nat.lt_of_lt_of_le this hT1))]
        exact (hf c hc).1
  done := by
    intro X hP hw hK hc i pins s σ H E I hf st hg
    subst hP hw hK
    obtain ⟨⟨old, he⟩, f0, f1, a1, a2, hz, hf0, hTI, hTO, h1, h2⟩ := st
    obtain ⟨xs, ys, hqx, hqy, hx, hy, hend⟩ := hg
    obtain ⟨its, rv, p, _⟩ := I.tuple hqx
    obtain ⟨its2, rv2, p2, _⟩ := I.tuple hqy
    have pt : s.heap.IsTuple a its.toArray := p
    have pt2 : s.heap.IsTuple b its2.toArray := p2
    have l1 := rv.length
    have l2 := rv2.length
    have hh : X.A.in1.in1.handled = none := I.ok.hd hc
    have D1 := Draws.tuple (prog := X.prog) (w := X.w) hh i1 a ha its.toArray
    have D2 := Draws.tuple (prog := X.prog) (w := X.w) hh i2 b hb its2.toArray
    refine enumG_next_end (wr := [z, TO, i1, i2]) he (fun Q E hE => ?_) fun h' tk hk => ?_
    · refine zipG_nextOf_end D.S D1 D2 ⟨f0, f1, a1, a2, hz, hf0, hTI, hTO, ⟨h1, pt⟩, ⟨h2, pt2⟩⟩ (by simp; omega) (by simp; omega) (by simp; omega) fun h' tk x hk hx => ?_
      exact hE h' tk x (fun c o hc e => hk c o (fun q => hc (by simp [q])) (fun q => hc (by simp [q])) (fun q => hc (by simp [q])) (fun q => hc (by simp [q])) e) hx
    · refine ⟨rfl, I.turnedL (ch := [e, z, TI, TO, i1, i2]) (fun c o hb q => hk c o (fun q' => ?_) q) hf⟩
      have q2 : c = z ∨ c = TO ∨ c = i1 ∨ c = i2 := by simpa using q'
      rcases q2 with q2 | q2 | q2 | q2 <;> exact hb (by simp [q2])
  self := fun A i s Q E st h => let ⟨⟨_, he⟩, _⟩ := st; wpAny_pyIter_enum he h
def iEnumZ (K : PySem.W.Frag) (ta : TA) : TI := fun σ H R => ta σ H fun vs H1 => ∃ a b xs ys, vs = [.ref a, .ref b] ∧ SqT K H1 a xs ∧ SqT K H1 b ys ∧ R (Ietz K a b) H1
theorem pi_enumZ {X : Cx} {e e2 : Expr} {ta : TA} {p pos pz posz tpos : Pos} {elts : List Expr} {kk : Nat} (hgE : Gl X "enumerate") (hmE : X.mg "enumerate" = none) (hg : Gl X "zip") (hm : X.mg "zip" = none) (ha : PA X [e, e2] ta)
    (hs : starEach [e, e2] X.env = (false, eval e X.env) :: starEach [e2] X.env := by rfl) (hpl : (backTo posz (starEach [e2] X.env)).any (·.1) = false := by rfl)
    (hsE : starEach [.Call (.Name "zip" pz) [e, e2] [] posz] X.env = [(false, eval (.Call (.Name "zip" pz) [e, e2] [] posz) X.env)] := by rfl) :
    PI X (.Tuple elts kk tpos) (.Call (.Name "enumerate" p) [.Call (.Name "zip" pz) [e, e2] [] posz] [] pos) (iEnumZ X.K ta) := by
  refine ⟨fun pins s σ H R I h => ?_⟩
  refine Call_ (ld_blt I hgE hmE boot_enumerate (PyProof.Rows.callWith_type1 ?_ hsE rfl))
  rw [hsE]
  show wpAny (model X.prog X.w) X.A (spliced [(false, eval (.Call (.Name "zip" pz) [e, e2] [] posz) X.env)]) _ X.xe s
  refine Calls.spliced_cons (thn ?_ fun v s1 hv => Calls.spliced_nil hv)
  refine Call_ (ld_blt I hg hm PyProof.Rows.boot_zip (PyProof.Rows.callWith_type1 (thn (ha.run posz pins s σ H _ I h) fun us s1 ⟨vs, H1, I1, r1, q1⟩ => ?_) hs hpl))
  obtain ⟨a, b, xs, ys, ex, hqx, hqy, q⟩ := q1
  subst ex
  cases r1 with
  | cons r rr =>
    cases rr with
    | cons r' rr =>
      cases rr
      cases r
      cases r'
      obtain ⟨its, rv, p1, _⟩ := I1.tuple hqx
      obtain ⟨its2, rv2, p2, _⟩ := I1.tuple hqy
      have pt : s1.heap.IsTuple a its.toArray := p1
      have pt2 : s1.heap.IsTuple b its2.toArray := p2
      have la : a < s1.heap.objs.size := by obtain ⟨o, e, _⟩ := pt; exact Heap.lt_size e
      have lb : b < s1.heap.objs.size := by obtain ⟨o, e, _⟩ := pt2; exact Heap.lt_size e
      refine zip_begins2 (begins_tuple a its.toArray) (begins_tuple b its2.toArray) pt pt2 fun h' hz hTI hTO h1 h2 hsz hk => ?_
      have I2 : Inv X pins σ H1 { s1 with heap := h' } := I1.kept (t' := s1.toks) hk
      refine enum_self1 (v := .ref (s1.heap.objs.size + 4)) (z := s1.heap.objs.size + 4) (H := fun h => IsZip h (s1.heap.objs.size + 4) (s1.heap.objs.size + 2) (s1.heap.objs.size + 3) .none) (fun prog w A E s Q hz h => wpAny_pyIter_zip hz h) hz fun h2' he hsz2 hk2 => wpAny_pyIter_enum he ?_
      have hsz' : h'.objs.size = s1.heap.objs.size + 5 := hsz
      have I3 : Inv X pins σ H1 { s1 with heap := h2' } := I2.kept (t' := s1.toks) hk2
      have S : ZipSep2 (s1.heap.objs.size + 4) (s1.heap.objs.size + 2) (s1.heap.objs.size + 3) s1.heap.objs.size (s1.heap.objs.size + 1) [s1.heap.objs.size, a] [s1.heap.objs.size + 1, b] :=
        zip_sep2 (fun c hc => by rw [List.mem_singleton.mp hc]; exact la) (fun c hc => by rw [List.mem_singleton.mp hc]; exact lb)
      have D : EzSep (s1.heap.objs.size + 5) (s1.heap.objs.size + 4) (s1.heap.objs.size + 2) (s1.heap.objs.size + 3) s1.heap.objs.size (s1.heap.objs.size + 1) a b :=
        ⟨S, show (s1.heap.objs.size + 5 : Nat) ≠ s1.heap.objs.size + 4 by omega, show (s1.heap.objs.size + 5 : Nat) ≠ s1.heap.objs.size + 2 by omega, show (s1.heap.objs.size + 5 : Nat) ≠ s1.heap.objs.size + 3 by omega, show (s1.heap.objs.size + 5 : Nat) ≠ s1.heap.objs.size by omega, show (s1.heap.objs.size + 5 : Nat) ≠ s1.heap.objs.size + 1 by omega, ne5 la, ne5 lb⟩
      have he' : IsEnum h2' (s1.heap.objs.size + 5) (s1.heap.objs.size + 4) 0 .none := by rw [← hsz']; exact he
      have ev : (Value.ref ({ s1 with heap := h' } : Shared).heap.objs.size) = .ref (s1.heap.objs.size + 5) := by rw [← hsz']
      rw [show ({ s1 with heap := h' } : Shared).heap.objs.size = s1.heap.objs.size + 5 from hsz']
      refine ⟨s1.heap.objs.size + 5, [s1.heap.objs.size + 5, s1.heap.objs.size + 4, s1.heap.objs.size + 2, s1.heap.objs.size + 3, s1.heap.objs.size, s1.heap.objs.size + 1], _, _, H1, rfl, I3, turn_ez D (Nat.ne_of_lt la) (Nat.ne_of_lt (Nat.lt_succ_of_lt lb)),
        ⟨⟨.none, he'⟩, .none, false, .none, .none, hk2 _ _ hz, .inl rfl, hk2 _ _ hTI, hk2 _ _ hTO, ⟨_, hk2 _ _ h1, rfl, rfl⟩, ⟨_, hk2 _ _ h2, rfl, rfl⟩⟩, fun c hcm => ?_, q⟩
      have hle : s1.heap.objs.size ≤ c := by
        have e' : c = s1.heap.objs.size + 5 ∨ c = s1.heap.objs.size + 4 ∨ c = s1.heap.objs.size + 2 ∨ c = s1.heap.objs.size + 3 ∨ c = s1.heap.objs.size ∨ c = s1.heap.objs.size + 1 := by simpa using hcm
        have aux : ∀ k : Nat, s1.heap.objs.size ≤ s1.heap.objs.size + k := fun k => Nat.le_add_right _ k
        rcases e' with z | z | z | z | z | z
        · rw [z]; exact aux 5
        · rw [z]; exact aux 4
        · rw [z]; exact aux 2
        · rw [z]; exact aux 3
        · rw [z]; exact Nat.le_refl _
        · rw [z]; exact aux 1
      exact I1.fpOk hle (I1.hok.fresh hle)

/-! ### their readings -/
def enumD : Nat → List D → List D
  | _, [] => []
  | i, d :: ds => .tup [.int i, d] :: enumD (i + 1) ds
theorem enumD_at : ∀ {ds : List D} {i j : Nat} {d : D}, (enumD i ds)[j]? = some d → ∃ e, ds[j]? = some e ∧ d = .tup [.int ((i + j : Nat) : Int), e]
  | [], _, _, _, h => by simp [enumD] at h
  | x :: xs, i, 0, d, h => by simp [enumD] at h; exact ⟨x, rfl, h.symm⟩
  | x :: xs, i, j + 1, d, h => by
    obtain ⟨e, h1, h2⟩ := enumD_at (ds := xs) (i := i + 1) (j := j) (by simpa [enumD] using h)
    exact ⟨e, by simpa using h1, by rw [h2, show i + 1 + j = i + (j + 1) by omega]⟩
theorem enumD_len : ∀ (ds : List D) (i : Nat), (enumD i ds).length = ds.length
  | [], _ => rfl
  | _ :: xs, i => congrArg (· + 1) (enumD_len xs (i + 1))
def zipD : List D → List D → List D
  | x :: xs, y :: ys => .tup [x, y] :: zipD xs ys
  | _, _ => []
theorem zipD_at : ∀ {xs ys : List D} {j : Nat} {d : D}, (zipD xs ys)[j]? = some d → ∃ x y, xs[j]? = some x ∧ ys[j]? = some y ∧ d = .tup [x, y]
  | [], _, _, _, h => by simp [zipD] at h
  | _ :: _, [], _, _, h => by simp [zipD] at h
  | x :: xs, y :: ys, 0, d, h => by simp [zipD] at h; exact ⟨x, y, rfl, rfl, h.symm⟩
  | x :: xs, y :: ys, j + 1, d, h => by
    obtain ⟨a, b, h1, h2, h3⟩ := zipD_at (xs := xs) (ys := ys) (j := j) (by simpa [zipD] using h)
    exact ⟨a, b, by simpa using h1, by simpa using h2, h3⟩
theorem zipD_len : ∀ (xs ys : List D), (zipD xs ys).length = min xs.length ys.length
  | [], _ => by simp [zipD]
  | _ :: _, [] => by simp [zipD]
  | _ :: xs, _ :: ys => by
    show (zipD _ _).length + 1 = _
    rw [zipD_len]
    show _ = min (_ + 1) (_ + 1)
    omega
def tupD : D → Option (List D)
  | .tup ds => some ds
  | _ => none
def mEnum (m : M D) : M (List D) := fun ρ => (m ρ).bind fun p => (tupD p.1).bind fun ds => some (enumD 0 ds, p.2)
def mEnumZ (m1 m2 : M D) : M (List D) := fun ρ => (m1 ρ).bind fun p => (m2 p.2).bind fun q => (tupD p.1).bind fun ds => (tupD q.1).bind fun es => some (enumD 0 (zipD ds es), q.2)
theorem tupD_some {d : D} {ds : List D} (h : tupD d = some ds) : d = .tup ds := by
  unfold tupD at h
  split at h
  · cases h; rfl
  · cases h
theorem itok_et {g : Gn} {G0 : Hp} {a : Addr} {us : List V} {ds : List D} {K : PySem.W.Frag} (h : SqT K G0 a us) (r : RpA g G0 us ds) : ItOk g G0 (Itet K a) (enumD 0 ds) where
  go := fun i G H s1 s2 hi => ⟨us, us[i]'(by rw [enumD_len] at hi; rw [r.length]; exact hi), Same.seqT (s1.trans s2) h, by rw [enumD_len] at hi; simp [r.length, hi]⟩
  stop := fun i G H s1 s2 hi => ⟨us, Same.seqT (s1.trans s2) h, by rw [enumD_len] at hi; rw [r.length]; exact hi⟩
  yld := fun i G H x H' d s1 s2 y e => by
    obtain ⟨T, v, rfl, hT, rfl, y⟩ := y
    obtain ⟨d', h1, rfl⟩ := enumD_at e
    obtain ⟨v', hv, rv⟩ := r.get h1
    have e2 := y us (Same.seqT (s1.trans s2) h)
    rw [hv] at e2
    cases e2
    have sT : Same G (upd G T (.tup [.int (i : Nat), v])) := same_upd (s2.free hT)
    refine ⟨_, .one (.new _ hT), .tup (.of upd_same) (.cons ?_ (.cons ((rv.mono (s1.trans sT))) .nil))⟩
    rw [Nat.zero_add]
    exact .int _
theorem itok_ez {g : Gn} {G0 : Hp} {a b : Addr} {us ws : List V} {ds es : List D} {K : PySem.W.Frag} (h : SqT K G0 a us) (h' : SqT K G0 b ws) (r : RpA g G0 us ds) (r' : RpA g G0 ws es) : ItOk g G0 (Ietz K a b) (enumD 0 (zipD ds es)) where
  go := fun i G H s1 s2 hi => by
    rw [enumD_len, zipD_len] at hi
    have h1 : i < us.length := by rw [r.length]; omega
    have h2 : i < ws.length := by rw [r'.length]; omega
    exact ⟨us, ws, us[i], ws[i], Same.seqT (s1.trans s2) h, Same.seqT (s1.trans s2) h', by simp [h1], by simp [h2]⟩
  stop := fun i G H s1 s2 hi => by
    rw [enumD_len, zipD_len] at hi
    have h1 := r.length
    have h2 := r'.length
    exact ⟨us, ws, Same.seqT (s1.trans s2) h, Same.seqT (s1.trans s2) h', by omega, by omega, by omega⟩
  yld := fun i G H x H' d s1 s2 y e => by
    obtain ⟨T, U, v, w, rfl, hT, hU, hTU, rfl, y1, y2⟩ := y
    obtain ⟨d', h1, rfl⟩ := enumD_at e
    obtain ⟨dx, dy, h2, h3, rfl⟩ := zipD_at h1
    obtain ⟨v', hv, rv⟩ := r.get h2
    obtain ⟨w', hw, rw'⟩ := r'.get h3
    have e2 := y1 us (Same.seqT (s1.trans s2) h)
    rw [hv] at e2
    cases e2
    have e3 := y2 ws (Same.seqT (s1.trans s2) h')
    rw [hw] at e3
    cases e3
    have gT : G T = none := s2.free hT
    have sT : Same G (upd G T (.tup [v, w])) := same_upd gT
    have hU' : (upd H T (.tup [v, w])) U = none := by rw [upd_ne (Ne.symm hTU)]; exact hU
    have gU' : (upd G T (.tup [v, w])) U = none := by rw [upd_ne (Ne.symm hTU)]; exact s2.free hU
    have sU : Same (upd G T (.tup [v, w])) (upd (upd G T (.tup [v, w])) U (.tup [.int (i : Nat), .ref T])) := same_upd gU'
    refine ⟨_, .snoc (.one (.new _ hT)) (.new _ hU'), .tup (.of upd_same) (.cons ?_ (.cons (.tup (.of (sU _ _ upd_same)) (.cons (rv.mono (s1.trans (sT.trans sU))) (.cons (rw'.mono (s1.trans (sT.trans sU))) .nil))) .nil))⟩
    rw [Nat.zero_add]
    exact .int _
section
variable {X : Cx} {g : Gn} {e e2 : Expr} {m m2 : M D} {p pos pz posz tpos : Pos} {elts : List Expr} {kk : Nat}
theorem i_enum (hm : X.mg "enumerate" = none) (he : PE X e (tE g m)) (hg : Gl X "enumerate" := by rfl) (hK : X.K = g.K := by rfl) (hs : starEach [e] X.env = [(false, eval e X.env)] := by rfl) : PI X (.Tuple elts kk tpos) (.Call (.Name "enumerate" p) [e] [] pos) (tI g (mEnum m)) :=
  PI.ofM (pi_enumT hg hm (pa_cons he pa_nil hs) hs) fun σ H R ⟨c, G, ρ, ds, ρ', RR, hm, q⟩ => by
    obtain ⟨⟨d, ρ1⟩, h1, hm⟩ := bind_some hm
    obtain ⟨ds', h2, hm⟩ := bind_some hm
    cases hm
    refine ⟨c, G, ρ, d, ρ1, RR, h1, fun G' H' v s R' a => ?_⟩
    obtain rfl := tupD_some h2
    cases a with
    | tup h r =>
      rw [← hK] at h
      exact ⟨_, _, rfl, Same.seqT R'.sG h, q G' H' _ s R' (itok_et h r)⟩
theorem i_enumZ (hmE : X.mg "enumerate" = none) (hmZ : X.mg "zip" = none) (he : PE X e (tE g m)) (he2 : PE X e2 (tE g m2)) (hgE : Gl X "enumerate" := by rfl) (hgZ : Gl X "zip" := by rfl) (hK : X.K = g.K := by rfl) (hs : starEach [e, e2] X.env = (false, eval e X.env) :: starEach [e2] X.env := by rfl) (hs2 : starEach [e2] X.env = (false, eval e2 X.env) :: starEach [] X.env := by rfl) (hpl : (backTo posz (starEach [e2] X.env)).any (·.1) = false := by rfl)
    (hsE : starEach [.Call (.Name "zip" pz) [e, e2] [] posz] X.env = [(false, eval (.Call (.Name "zip" pz) [e, e2] [] posz) X.env)] := by rfl) :
    PI X (.Tuple elts kk tpos) (.Call (.Name "enumerate" p) [.Call (.Name "zip" pz) [e, e2] [] posz] [] pos) (tI g (mEnumZ m m2)) :=
  PI.ofM (pi_enumZ hgE hmE hgZ hmZ (pa_cons he (pa_cons he2 pa_nil hs2) hs) hs hpl hsE) fun σ H R ⟨c, G, ρ, ds, ρ', RR, hm, q⟩ => by
    obtain ⟨⟨d, ρ1⟩, h1, hm⟩ := bind_some hm
    obtain ⟨⟨d2, ρ2⟩, h2, hm⟩ := bind_some hm
    obtain ⟨xs, h3, hm⟩ := bind_some hm
    obtain ⟨ys, h4, hm⟩ := bind_some hm
    cases hm
    refine ⟨c, G, ρ, d, ρ1, RR, h1, fun G1 H1 v s1 R1 a1 => ⟨c, G1, ρ1, d2, ρ2, R1, h2, fun G2 H2 w s2 R2 a2 => ?_⟩⟩
    obtain rfl := tupD_some h3
    obtain rfl := tupD_some h4
    have a1 := a1.mono s2
    cases a1 with
    | tup k1 r1 =>
      cases a2 with
      | tup k2 r2 =>
        rw [← hK] at k1 k2
        exact ⟨_, _, _, _, rfl, Same.seqT R2.sG k1, Same.seqT R2.sG k2, q G2 H2 _ (s1.trans s2) R2 (itok_ez k1 k2 r1 r2)⟩
end
end L2.My

end
section
set_option Elab.async false
set_option linter.all false
set_option autoImplicit false
set_option maxRecDepth 100000
set_option maxHeartbeats 4000000
/-! Mld: a dict comprehension of two clauses (the proofs follow those of a list comprehension of two clauses in HandS.Comp, with a dict in the list's place). -/
namespace L2.My
open PySem PySem.Spec PyProof.Rows
theorem compTurn2d_out (kx vx t0 i0 t1 i1 : Expr) (ifs0 ifs1 : List Expr) (scope : Scope) (pos : Pos) (it acc : Value) (env : Env) :
    compTurn (.DictComp kx vx [⟨t0, i0, ifs0, 0⟩, ⟨t1, i1, ifs1, 0⟩] scope pos) 0 it acc env = (do
      standAt i0.pos
      match ← pyNext it with
      | none => pure (.done .next)
      | some v =>
        letOwnedTupleGo t0 it v
        assign t0 env v
        let mut ok := true
        for c in ifs0 do
          if ok then ok ← isTrue c env (eval c env)
        if ok then
          let x ← eval i1 env
          standAt i1.pos
          let x ← foldedSetIterable i1 env x
          let _ ← runOwn (.compStart (.DictComp kx vx [⟨t0, i0, ifs0, 0⟩, ⟨t1, i1, ifs1, 0⟩] scope pos) 1 (← holding [x] (pyIter x)) acc env) env
        again (.compLoop (.DictComp kx vx [⟨t0, i0, ifs0, 0⟩, ⟨t1, i1, ifs1, 0⟩] scope pos) 0 it acc env)) := by rfl
theorem compTurn2d_in (kx vx t0 i0 t1 i1 : Expr) (ifs0 ifs1 : List Expr) (scope : Scope) (pos : Pos) (it : Value) (D : Addr) (env : Env) :
    compTurn (.DictComp kx vx [⟨t0, i0, ifs0, 0⟩, ⟨t1, i1, ifs1, 0⟩] scope pos) 1 it (.ref D) env = (do
      standAt i1.pos
      match ← pyNext it with
      | none => pure (.done .next)
      | some v =>
        letOwnedTupleGo t1 it v
        assign t1 env v
        let mut ok := true
        for c in ifs1 do
          if ok then ok ← isTrue c env (eval c env)
        if ok then
          (do
            let kv ← eval kx env
            let vv ← holding [kv] (eval vx env)
            standAt { kx.pos with endLine := vx.pos.endLine, endCol := vx.pos.endCol }
            holding [kv, vv] (dictSet D kv vv))
        again (.compLoop (.DictComp kx vx [⟨t0, i0, ifs0, 0⟩, ⟨t1, i1, ifs1, 0⟩] scope pos) 1 it (.ref D) env)) := by rfl

section
variable {prog : Program} {w : World} {A : Around} {R : Result → Shared → Prop} {s : Shared} {kx vx t0 i0 t1 i1 : Expr} {ifs0 ifs1 : List Expr} {scope : Scope} {pos : Pos} {it acc : Value} {env : Env}
/-- the loop of the first clause -/
theorem compLoop2d_out (hs : ∀ x, foldedSetIterable i1 env x = pure x) (I : Nat → Shared → Prop)
    (turn : ∀ n s, I n s → wpAny (model prog w) A (pyNext it) (fun r s₁ => match r with
      | none => R (.ok .next) s₁
      | some v => wpAny (model prog w) A (letOwnedTupleGo t0 it v) (fun _ s₁' => wpAny (model prog w) A (assign t0 env v) (fun _ s₂ =>
          wpAny (model prog w) A (forIn ifs0 true fun c r => if r = true then do let ok ← isTrue c env (eval c env); pure (ForInStep.yield ok) else pure (ForInStep.yield r)) (fun ok s₃ =>
            if ok = true then wpAny (model prog w) A (eval i1 env) (fun x s₄ => wpAny (model prog w) A (pyIter x) (fun it1 s₅ =>
              codeAny (model prog w) A (.compStart (.DictComp kx vx [⟨t0, i0, ifs0, 0⟩, ⟨t1, i1, ifs1, 0⟩] scope pos) 1 it1 acc env) (fun r s' => match r with
                | .ok _ => ∃ m, m < n ∧ I m s'
                | .error _ => False) s₅) (notedBy (model prog w) A env fun e s' => R (.error e) s') s₄) (notedBy (model prog w) A env fun e s' => R (.error e) s') s₃
            else ∃ m, m < n ∧ I m s₃) (notedBy (model prog w) A env fun e s' => R (.error e) s') s₂) (notedBy (model prog w) A env fun e s' => R (.error e) s') s₁') (notedBy (model prog w) A env fun e s' => R (.error e) s') s₁) (notedBy (model prog w) A env fun e s' => R (.error e) s') s)
    (n : Nat) (h : I n s) :
    codeAny (model prog w) A (.compLoop (.DictComp kx vx [⟨t0, i0, ifs0, 0⟩, ⟨t1, i1, ifs1, 0⟩] scope pos) 0 it acc env) R s := by
  refine codeAny_loop rfl I (fun n s hI => ?_) n h
  show wpAny _ A ((compTurn (.DictComp kx vx [⟨t0, i0, ifs0, 0⟩, ⟨t1, i1, ifs1, 0⟩] scope pos) 0 it acc env).onRaise (fun x => do noteFrame x env; theTreesLotGoes x)) _ _ s
  refine wpAny_noted ?_
  rw [compTurn2d_out]
  refine wpAny_bind (wpAny_standAt (wpAny_bind (wpAny_mono (turn n s hI) (fun r s₁ h₁ => ?_) fun _ _ h' => h')))
  cases r with
  | none => exact wpAny_pure h₁
  | some v =>
    refine wpAny_bind (wpAny_mono h₁ (fun _ s₁' h₁' => ?_) fun _ _ h' => h')
    refine wpAny_bind (wpAny_mono h₁' (fun _ s₂ h₂ => wpAny_bind (wpAny_mono h₂ (fun ok s₃ h₃ => ?_) fun _ _ h' => h')) fun _ _ h' => h')
    cases ok with
    | false => exact wpAny_pure ⟨rfl, h₃⟩
    | true =>
      refine wpAny_bind (wpAny_mono h₃ (fun x s₄ h₄ => ?_) fun _ _ h' => h')
      refine wpAny_bind (wpAny_standAt (wpAny_bind (wpAny_of_eq (hs x) (wpAny_bind (wpAny_holding (wpAny_mono h₄ (fun it1 s₅ h₅ => ?_) fun _ _ h' => h'))))))
      refine wpAny_bind (wpAny_runOwn ?_)
      rw [Around.mark_none]
      refine codeAny_mono h₅ fun r s' hr => ?_
      cases r with
      | ok f =>
        first
          | exact wpAny_pure ⟨rfl, hr⟩
          | exact wpAny_bind (wpAny_pure (wpAny_pure ⟨rfl, hr⟩))
      | error e => exact hr.elim
/-- the loop of the second -/
theorem compLoop2d_in {D : Addr} (I : Nat → Shared → Prop)
    (turn : ∀ n s, I n s → wpAny (model prog w) A (pyNext it) (fun r s₁ => match r with
      | none => R (.ok .next) s₁
      | some v => wpAny (model prog w) A (letOwnedTupleGo t1 it v) (fun _ s₁' => wpAny (model prog w) A (assign t1 env v) (fun _ s₂ =>
          wpAny (model prog w) A (forIn ifs1 true fun c r => if r = true then do let ok ← isTrue c env (eval c env); pure (ForInStep.yield ok) else pure (ForInStep.yield r)) (fun ok s₃ =>
            if ok = true then wpAny (model prog w) A (eval kx env) (fun kv s₄ => wpAny (model prog w) A (eval vx env) (fun vv s₅ =>
              wpAny (model prog w) A (dictSet D kv vv) (fun _ s₆ => ∃ m, m < n ∧ I m s₆) (notedBy (model prog w) A env fun e s' => R (.error e) s') s₅) (notedBy (model prog w) A env fun e s' => R (.error e) s') s₄) (notedBy (model prog w) A env fun e s' => R (.error e) s') s₃
            else ∃ m, m < n ∧ I m s₃) (notedBy (model prog w) A env fun e s' => R (.error e) s') s₂) (notedBy (model prog w) A env fun e s' => R (.error e) s') s₁') (notedBy (model prog w) A env fun e s' => R (.error e) s') s₁) (notedBy (model prog w) A env fun e s' => R (.error e) s') s)
    (n : Nat) (h : I n s) :
    codeAny (model prog w) A (.compLoop (.DictComp kx vx [⟨t0, i0, ifs0, 0⟩, ⟨t1, i1, ifs1, 0⟩] scope pos) 1 it (.ref D) env) R s := by
  refine codeAny_loop rfl I (fun n s hI => ?_) n h
  show wpAny _ A ((compTurn (.DictComp kx vx [⟨t0, i0, ifs0, 0⟩, ⟨t1, i1, ifs1, 0⟩] scope pos) 1 it (.ref D) env).onRaise (fun x => do noteFrame x env; theTreesLotGoes x)) _ _ s
  refine wpAny_noted ?_
  rw [compTurn2d_in]
  refine wpAny_bind (wpAny_standAt (wpAny_bind (wpAny_mono (turn n s hI) (fun r s₁ h₁ => ?_) fun _ _ h' => h')))
  cases r with
  | none => exact wpAny_pure h₁
  | some v =>
    refine wpAny_bind (wpAny_mono h₁ (fun _ s₁' h₁' => ?_) fun _ _ h' => h')
    refine wpAny_bind (wpAny_mono h₁' (fun _ s₂ h₂ => wpAny_bind (wpAny_mono h₂ (fun ok s₃ h₃ => ?_) fun _ _ h' => h')) fun _ _ h' => h')
    cases ok with
    | false => exact wpAny_pure ⟨rfl, h₃⟩
    | true =>
      exact wpAny_bind (wpAny_bind (wpAny_mono h₃ (fun kv s₄ h₄ => wpAny_bind (wpAny_holding (wpAny_mono h₄ (fun vv s₅ h₅ => wpAny_bind (wpAny_standAt (wpAny_holding (wpAny_mono h₅ (fun _ s₆ h₆ => wpAny_pure ⟨rfl, h₆⟩) fun _ _ h' => h')))) fun _ _ h' => h'))) fun _ _ h' => h'))
/-- the second clause's start -/
theorem compStart1d_ok (h0 : codeAny (model prog w) A (.compLoop (.DictComp kx vx [⟨t0, i0, ifs0, 0⟩, ⟨t1, i1, ifs1, 0⟩] scope pos) 1 it acc env) R s)
    (h : wpAny (model prog w) A (pyIter it) (fun it' s' => codeAny (model prog w) A (.compLoop (.DictComp kx vx [⟨t0, i0, ifs0, 0⟩, ⟨t1, i1, ifs1, 0⟩] scope pos) 1 it' acc env) R s')
      (notedBy (model prog w) A env fun x s' => R (.error x) s') s) :
    codeAny (model prog w) A (.compStart (.DictComp kx vx [⟨t0, i0, ifs0, 0⟩, ⟨t1, i1, ifs1, 0⟩] scope pos) 1 it acc env) R s := by
  refine codeAny_of_tree ?_
  show wpAny _ _ ((compStart (.DictComp kx vx [⟨t0, i0, ifs0, 0⟩, ⟨t1, i1, ifs1, 0⟩] scope pos) 1 it acc env).onRaise (fun x => do noteFrame x env; standAt theWindowsPlace)) _ _ s
  refine wpAny_notedAt ?_
  unfold compStart
  show wpAny _ _ (ask >>= _) _ _ s
  refine wpAny_bind (wpAny_askSetting (wpAny_ite ?_))
  split
  · first
      | exact wpAny_bind (wpAny_pure (wpAny_pure (And.intro rfl h0)))
      | exact wpAny_pure (And.intro rfl h0)
  · first
      | exact wpAny_bind (wpAny_rule (wpAny_bind (wpAny_standAt (wpAny_bind (wpAny_mono h (fun it' s' h' => wpAny_pure (And.intro rfl h')) fun _ _ x => x)))))
      | (refine wpAny_bind (wpAny_rule ?_); show wpAny _ _ (standAt i1.pos >>= _) _ _ s; exact wpAny_bind (wpAny_standAt (wpAny_bind (wpAny_mono h (fun it' s' h' => wpAny_pure (And.intro rfl h')) fun _ _ x => x))))
end

section
variable {X : Cx}
/-- [elt for tg in iter if .. for tg1 in iter1 if ..]: behind the first clause's store and tests the second source's own loop, from which Nx is reached. vs: the block's names; vs1: those of the second target -/
def tDc2 (wi : TI) (g : TG) (tt : TT) (wi1 : TI) (g1 : TG) (tt1 : TT) (tk te : TE) (vs vs1 : List Nat) : TE := fun σ H Q => wi σ H fun J H1 => ∀ D, H1 D = none → ∃ W : Nat → Nat → Hp → Prop, (∃ m, W 0 m (upd H1 D (.dK []))) ∧ ∀ i m H, W i m H →
  (J.stop i H ∧ Q (.ref D) H) ∨ (J.go i H ∧ ∃ Nx : Hp → Prop, (∀ H', Nx H' → ∃ m', m' < m ∧ W (i + 1) m' H') ∧ ∀ x H', J.yld i H x H' → g x (wipe σ vs) H' fun σ2 H2 => wipe σ2 vs = wipe σ vs ∧ tt σ2 H2 fun b H3 =>
    if b = true then wi1 σ2 H3 fun J1 H4 => ∃ W1 : Nat → Nat → Hp → Prop, (∃ m, W1 0 m H4) ∧ ∀ j k H, W1 j k H →
      (J1.stop j H ∧ Nx H) ∨ (J1.go j H ∧ ∃ Nx1 : Hp → Prop, (∀ H', Nx1 H' → ∃ k', k' < k ∧ W1 (j + 1) k' H') ∧ ∀ x H', J1.yld j H x H' → g1 x (wipe σ2 vs1) H' fun σ3 H5 => wipe σ3 vs1 = wipe σ2 vs1 ∧ tt1 σ3 H5 fun b H6 =>
        if b = true then tk σ3 H6 fun y H7 => te σ3 H7 fun z H8 => ∃ kvs k, y = kV k ∧ H8 D = some (.dK kvs) ∧ kvs.length < sizeLine ∧ Nx1 (upd H8 D (.dK (putK kvs k z))) else Nx1 H6)
    else Nx H3)
theorem dc2_core {pins : List (Addr × Obj)} {s : Shared} {σ : St} {H : Hp} {Q : VK} {kx vx tg iter tg1 iter1 : Expr} {ifs ifs1 : List Expr} {scope : Scope} {own : List (Str × Nat)} {vs1 : List Nat} {pos pos' : Pos} {wi wi1 : TI} {g g1 : TG} {tt tt1 : TT} {tk te : TE} {use : Option (Value → Sem Unit)} {Qf : Value → Shared → Prop}
    (hc : X.calm = true) (hN : X.N.Nodup) (I : Inv X pins σ H s) (hi : PI X tg iter wi) (ok : BlkOk X.N X.env.scope scope own) (hv : ∀ i ∈ vs1, i ∈ own.map (·.2))
    (hg : ∀ (s : Shared) (H : Hp) (C : Addr) (cl : List (Str × Addr)) (fp : List Addr), PG (X.blk s H scope (compEnvC scope cl C X.env) fp) tg g) (ht : ∀ (s : Shared) (H : Hp) (C : Addr) (cl : List (Str × Addr)) (fp : List Addr), PTs (X.blk s H scope (compEnvC scope cl C X.env) fp) ifs tt)
    (hk : ∀ (s : Shared) (H : Hp) (C : Addr) (cl : List (Str × Addr)) (fp : List Addr), PE (X.blk s H scope (compEnvC scope cl C X.env) fp) kx tk)
    (he : ∀ (s : Shared) (H : Hp) (C : Addr) (cl : List (Str × Addr)) (fp : List Addr), PE (X.blk s H scope (compEnvC scope cl C X.env) fp) vx te) (hs : ∀ x, foldedSetIterable iter X.env x = pure x)
    (hi1 : ∀ (s : Shared) (H : Hp) (C : Addr) (cl : List (Str × Addr)) (fp : List Addr), PI (X.blk s H scope (compEnvC scope cl C X.env) fp) tg1 iter1 wi1)
    (hg1 : ∀ (s : Shared) (H : Hp) (C : Addr) (cl : List (Str × Addr)) (fp : List Addr), PG (X.blk s H scope (compEnvC scope cl C X.env) fp) tg1 g1)
    (ht1 : ∀ (s : Shared) (H : Hp) (C : Addr) (cl : List (Str × Addr)) (fp : List Addr), PTs (X.blk s H scope (compEnvC scope cl C X.env) fp) ifs1 tt1)
    (hs1 : ∀ env x, foldedSetIterable iter1 env x = pure x)
    (h : tDc2 wi g tt wi1 g1 tt1 tk te (own.map (·.2)) vs1 σ H Q)
    (hRR : ∀ D C s' m H', Inv X pins σ H' s' → Q (.ref D) H' → s'.heap.Ns C m → FpOk X pins H' C → compPost (model X.prog X.w) X.A X.xe use Qf (.ref D) C (.ok .next) s') :
    wpAny (model X.prog X.w) X.A (comprehension (.DictComp kx vx [⟨tg, iter, ifs, 0⟩, ⟨tg1, iter1, ifs1, 0⟩] scope pos) scope X.env pos' newDict false (eval iter X.env) use) Qf X.xe s := by
  have hfree : ∀ y ∈ scope.names, y.2 = .free → ∃ c, X.env.cells.lookup y.1 = some c := fun y hy e => by
    rcases ok.free y hy e with k | k
    · exact I.ok.has _ (.inl k)
    · exact I.ok.has _ (.inr k)
  refine wpAny_comprehension_free (use := use) rfl hs (closure_ok hfree) ok.kind (fun y hy e => by rw [ok.uniq y hy, e])
    (thn (hi.run pins s σ H _ I h) fun xv s1 hx => thn hx fun itv s2 h2 => ?_)
  obtain ⟨it, fp, tn, J, H2, e, I2, T, st2, f2, q⟩ := h2
  subst e
  refine wpAny_newObj_type (newEnv_comp ?_)
  generalize hD : s2.heap.objs.size = D
  have hDn : H2 D = none := I2.hok.fresh (Nat.le_of_eq hD)
  obtain ⟨W, ⟨m0, w0⟩, turn⟩ := q D hDn
  -- the new list
  generalize hs3 : ({ s2 with heap := s2.heap.push { cls := .type "dict", data := .dict #[] } } : Shared) = s3
  have I3 : Inv X pins σ (upd H2 D (.dK [])) s3 := by
    rw [← hs3]
    refine I2.laid (t' := s2.toks) (fun b o e => Heap.get?_push_of_some _ e) (Nat.le_of_eq hD) ?_
    rw [← hD]
    exact dk_empty s2.heap I2.big
  have h3 : s3.heap = s2.heap.push { cls := .type "dict", data := .dict #[] } := by rw [← hs3]
  have sz : ∀ b ∈ fp, b < s2.heap.objs.size := fun b hb => by
    obtain ⟨o, e, _⟩ := T.obj _ _ st2 b hb
    exact Heap.lt_size e
  have f3 : ∀ b ∈ fp, FpOk X pins (upd H2 D (.dK [])) b ∧ b < s3.heap.objs.size := fun b hb => by
    have hlt := sz b hb
    refine ⟨⟨?_, (f2 b hb).2⟩, by rw [h3, Heap.size_push]; exact Nat.lt_succ_of_lt hlt⟩
    rw [upd_ne (by rw [← hD]; exact Nat.ne_of_lt hlt)]
    exact (f2 b hb).1
  have st3 : tn 0 s3.heap := T.keep _ _ _ st2 fun b _ o e => by rw [h3]; exact Heap.get?_push_of_some _ e
  have I4 := block_start I3 ok hN f3
  have pg := hg s3 (upd H2 D (.dK [])) s3.heap.objs.size (cellsFrom (s3.heap.objs.size + 1) scope.names (cloFrom X.env.cells scope.names [])) fp
  have pt := ht s3 (upd H2 D (.dK [])) s3.heap.objs.size (cellsFrom (s3.heap.objs.size + 1) scope.names (cloFrom X.env.cells scope.names [])) fp
  have pk := hk s3 (upd H2 D (.dK [])) s3.heap.objs.size (cellsFrom (s3.heap.objs.size + 1) scope.names (cloFrom X.env.cells scope.names [])) fp
  have pe := he s3 (upd H2 D (.dK [])) s3.heap.objs.size (cellsFrom (s3.heap.objs.size + 1) scope.names (cloFrom X.env.cells scope.names [])) fp
  have pi1 := hi1 s3 (upd H2 D (.dK [])) s3.heap.objs.size (cellsFrom (s3.heap.objs.size + 1) scope.names (cloFrom X.env.cells scope.names [])) fp
  have pg1 := hg1 s3 (upd H2 D (.dK [])) s3.heap.objs.size (cellsFrom (s3.heap.objs.size + 1) scope.names (cloFrom X.env.cells scope.names [])) fp
  have pt1 := ht1 s3 (upd H2 D (.dK [])) s3.heap.objs.size (cellsFrom (s3.heap.objs.size + 1) scope.names (cloFrom X.env.cells scope.names [])) fp
  show codeAny _ _ (.compStart (.DictComp kx vx [⟨tg, iter, ifs, 0⟩, ⟨tg1, iter1, ifs1, 0⟩] scope pos) 0 (.ref it) (.ref D) (compEnvC scope (cellsFrom (s3.heap.objs.size + 1) scope.names (cloFrom X.env.cells scope.names [])) s3.heap.objs.size X.env)) (compPost (model X.prog X.w) X.A X.xe use Qf (.ref D) s3.heap.objs.size) { s3 with heap := pushCells (s3.heap.push { cls := .type "dict", data := .dict #[] }) scope.names }
  have nfp : ∀ b ∈ fp, (upd H2 D (.dK [])) b = none := fun b hb => (f3 b hb).1.1
  generalize hce : compEnvC scope (cellsFrom (s3.heap.objs.size + 1) scope.names (cloFrom X.env.cells scope.names [])) s3.heap.objs.size X.env = ce at I4 pg pt pk pe pi1 pg1 pt1 ⊢
  have cL : ce.locals = s3.heap.objs.size := by subst hce; rfl
  generalize hH3 : upd H2 D (.dK []) = H3 at I3 I4 pg pt pk pe pi1 pg1 pt1 w0 nfp f3
  generalize hs4 : ({ s3 with heap := pushCells (s3.heap.push { cls := .type "dict", data := .dict #[] }) scope.names } : Shared) = s4 at I4 ⊢
  have st4 : tn 0 s4.heap := T.keep _ _ _ st3 fun b _ o e => by rw [← hs4]; exact pushCells_keeps _ _ _ _ (Heap.get?_push_of_some _ e)
  have stat : ∀ {σ' : St} {H' : Hp} {s' : Shared}, Inv (X.blk s3 H3 scope ce fp) [] σ' H' s' → (∀ b ∈ fp, H' b = none) → ∀ b ∈ fp, FpOk (X.blk s3 H3 scope ce fp) [] H' b := fun {σ' H' s'} I' hn b hb =>
    ⟨hn b hb, (I'.ok.exf b hb).1, I'.ok.exfs b hb, .inl hb, fun x c e => (I'.ok.exf b hb).2 x c e, fun p hp => absurd (show p ∈ ([] : List (Addr × Obj)) ++ [] from hp) (by simp)⟩
  have loop : codeAny (model X.prog X.w) X.A (.compLoop (.DictComp kx vx [⟨tg, iter, ifs, 0⟩, ⟨tg1, iter1, ifs1, 0⟩] scope pos) 0 (.ref it) (.ref D) ce) (compPost (model X.prog X.w) X.A X.xe use Qf (.ref D) s3.heap.objs.size) s4 := by
    refine compLoop2d_out (hs1 ce) (fun n s' => ∃ i H', Inv (X.blk s3 H3 scope ce fp) [] (wipe σ (own.map (·.2))) H' s' ∧ tn i s'.heap ∧ (∀ b ∈ fp, H' b = none) ∧ W i n H') ?_ m0 ⟨0, H3, I4, st4, nfp, w0⟩
    rintro n s5 ⟨i, H5, I5, st5, n5, w5⟩
    rcases turn i n H5 w5 with ⟨stop, qq⟩ | ⟨go, Nx, hNx, step⟩
    · have td := T.done (X.blk s3 H3 scope ce fp) rfl rfl rfl hc i [] s5 _ H5 (fun _ _ => False) I5 (stat I5 n5) st5 stop
      refine thnF td fun r s6 ⟨hr, I6⟩ => ?_
      subst hr
      -- back in the def's context
      have I7 : Inv X pins σ H5 s6 := I3.call' (ch := fp) I6.os I6.base I6.hok I6.bare fun b hb => ⟨(f3 b hb).1.2.2.2.1, (f3 b hb).1.2.1, (f3 b hb).1.2.2.2.2.1, (f3 b hb).1.2.2.2.2.2⟩
      have nC : H5 s3.heap.objs.size = none := by
        have z : H5 ce.locals = none := I6.free
        rw [cL] at z
        exact z
      obtain ⟨m, hn, _⟩ := I6.loc
      have hn : s6.heap.Ns ce.locals m := hn
      rw [cL] at hn
      exact hRR D s3.heap.objs.size s6 m H5 I7 qq hn (I3.fpOk (Nat.le_refl _) nC)
    · have ti := T.item (X.blk s3 H3 scope ce fp) rfl rfl rfl hc i [] s5 _ H5 (fun _ _ => False) I5 (stat I5 n5) st5 go
      refine thnF ti fun r s6 ⟨u, hr, h6⟩ => ?_
      subst hr
      refine thnF h6 fun _ s7 ⟨x, H7, I7, r7, y7, st7, n7⟩ => ?_
      have I7' := I7.pinned (stat I7 n7) (T.obj _ _ st7)
      refine thnF (pg.run _ s7 _ H7 x u _ I7' r7 (step x H7 y7)) fun _ s8 ⟨σ8, H8, I8, hw8, q8⟩ => ?_
      refine thnF (pt.run _ s8 σ8 H8 _ I8 q8) fun b s9 ⟨H9, I9, q9⟩ => ?_
      -- the turn's end, from any slots that know what the block knew at its start
      have fin : ∀ {σ9 : St} {s' : Shared} {H' : Hp}, Inv (X.blk s3 H3 scope ce fp) ([] ++ pinsAt fp s7.heap) σ9 H' s' → (wipe σ (own.map (·.2))).length = σ9.length → (∀ (j : Nat) v, (wipe σ (own.map (·.2)))[j]? = some (some v) → σ9[j]? = some (some v)) → Nx H' →
          ∃ m, m < n ∧ ∃ i H', Inv (X.blk s3 H3 scope ce fp) [] (wipe σ (own.map (·.2))) H' s' ∧ tn i s'.heap ∧ (∀ b ∈ fp, H' b = none) ∧ W i m H' := fun {σ9 s' H'} I' hl hk nx => by
        obtain ⟨m', hm, w'⟩ := hNx H' nx
        have pin' : ∀ b ∈ fp, ∀ o, s7.heap.get? b = some o → s'.heap.get? b = some o ∧ H' b = none := fun b hb o e =>
          let z := I'.pin (b, o) (List.mem_append_right _ (List.mem_append_right _ (mem_pinsAt hb e)))
          ⟨z.1, z.2.1⟩
        refine ⟨m', hm, i + 1, H', (I'.unpinned (pins := [])).weak hl hk, T.keep _ _ _ st7 fun b hb o e => (pin' b hb o e).1, fun b hb => ?_, w'⟩
        obtain ⟨o, e, _⟩ := T.obj _ _ st7 b hb
        exact (pin' b hb o e).2
      have hl8 : (wipe σ (own.map (·.2))).length = σ8.length := by rw [← hw8, wipe_length]
      have hk8 : ∀ (j : Nat) v, (wipe σ (own.map (·.2)))[j]? = some (some v) → σ8[j]? = some (some v) := fun j v e => by
        rw [← hw8] at e
        exact (wipe_some e).1
      have hk9 : ∀ (j : Nat) v, (wipe σ (own.map (·.2)))[j]? = some (some v) → (wipe σ8 vs1)[j]? = some (some v) := fun j v e => by
        rw [← hw8] at e
        obtain ⟨e1, e2⟩ := wipe_some e
        rw [wipe_out fun z => e2 (hv j z)]
        exact e1
      cases b with
      | false =>
        simp only [Bool.false_eq_true, if_false] at q9 ⊢
        exact fin I9 hl8 hk8 q9
      | true =>
        simp only [if_true] at q9 ⊢
        refine thnF (pi1.run _ s9 σ8 H9 _ I9 q9) fun xv s10 hx => thnF hx fun itv s11 h11 => ?_
        obtain ⟨it1, fp1, tn1, J1, H11, e1, I11, T1, st11, f11, W1, ⟨m1, w1⟩, turn1⟩ := h11
        subst e1
        -- the inner loop
        have stat1 : ∀ {H' : Hp}, (∀ b ∈ fp1, H' b = none) → ∀ b ∈ fp1, FpOk (X.blk s3 H3 scope ce fp) ([] ++ pinsAt fp s7.heap) H' b := fun hn b hb => ⟨hn b hb, (f11 b hb).2⟩
        have loop1 : codeAny (model X.prog X.w) X.A (.compLoop (.DictComp kx vx [⟨tg, iter, ifs, 0⟩, ⟨tg1, iter1, ifs1, 0⟩] scope pos) 1 (.ref it1) (.ref D) ce)
            (fun r s' => match r with
              | .ok _ => ∃ m, m < n ∧ ∃ i H', Inv (X.blk s3 H3 scope ce fp) [] (wipe σ (own.map (·.2))) H' s' ∧ tn i s'.heap ∧ (∀ b ∈ fp, H' b = none) ∧ W i m H'
              | .error _ => False) s11 := by
          refine compLoop2d_in (fun k s' => ∃ j H', Inv (X.blk s3 H3 scope ce fp) ([] ++ pinsAt fp s7.heap) (wipe σ8 vs1) H' s' ∧ tn1 j s'.heap ∧ (∀ b ∈ fp1, H' b = none) ∧ W1 j k H') ?_ m1 ⟨0, H11, I11.weak (wipe_length _ _) (fun j v e => (wipe_some e).1), st11, fun b hb => (f11 b hb).1, w1⟩
          rintro k s12 ⟨j, H12, I12, st12, n12, w12⟩
          rcases turn1 j k H12 w12 with ⟨stop1, nx1⟩ | ⟨go1, Nx1, hNx1, step1⟩
          · refine thnF (T1.done (X.blk s3 H3 scope ce fp) rfl rfl rfl hc j _ s12 (wipe σ8 vs1) H12 (fun _ _ => False) I12 (stat1 n12) st12 stop1) fun r s13 ⟨hr, I13⟩ => ?_
            subst hr
            exact fin I13 (hl8.trans (wipe_length σ8 vs1).symm) hk9 nx1
          · refine thnF (T1.item (X.blk s3 H3 scope ce fp) rfl rfl rfl hc j _ s12 (wipe σ8 vs1) H12 (fun _ _ => False) I12 (stat1 n12) st12 go1) fun r s13 ⟨u1, hr, h13⟩ => ?_
            subst hr
            refine thnF h13 fun _ s14 ⟨x1, H14, I14, r14, y14, st14, n14⟩ => ?_
            have I14' := I14.pinned (stat1 n14) (T1.obj _ _ st14)
            refine thnF (pg1.run _ s14 (wipe σ8 vs1) H14 x1 u1 _ I14' r14 (step1 x1 H14 y14)) fun _ s15 ⟨σ15, H15, I15, hw15, q15⟩ => ?_
            refine thnF (pt1.run _ s15 σ15 H15 _ I15 q15) fun b1 s16 ⟨H16, I16, q16⟩ => ?_
            have fin1 : ∀ {s' : Shared} {H' : Hp}, Inv (X.blk s3 H3 scope ce fp) (([] ++ pinsAt fp s7.heap) ++ pinsAt fp1 s14.heap) σ15 H' s' → Nx1 H' → ∃ m, m < k ∧ ∃ j H', Inv (X.blk s3 H3 scope ce fp) ([] ++ pinsAt fp s7.heap) (wipe σ8 vs1) H' s' ∧ tn1 j s'.heap ∧ (∀ b ∈ fp1, H' b = none) ∧ W1 j m H' := fun {s' H'} I' nx => by
              obtain ⟨m', hm, w'⟩ := hNx1 H' nx
              have pin' : ∀ b ∈ fp1, ∀ o, s14.heap.get? b = some o → s'.heap.get? b = some o ∧ H' b = none := fun b hb o e =>
                let z := I'.pin (b, o) (List.mem_append_right _ (List.mem_append_right _ (mem_pinsAt hb e)))
                ⟨z.1, z.2.1⟩
              refine ⟨m', hm, j + 1, H', I'.unpinned.weak (by rw [← hw15, wipe_length]) (fun j v e => by rw [← hw15] at e; exact (wipe_some e).1), T1.keep _ _ _ st14 fun b hb o e => (pin' b hb o e).1, fun b hb => ?_, w'⟩
              obtain ⟨o, e, _⟩ := T1.obj _ _ st14 b hb
              exact (pin' b hb o e).2
            cases b1 with
            | false =>
              simp only [Bool.false_eq_true, if_false] at q16 ⊢
              exact fin1 I16 q16
            | true =>
              simp only [if_true] at q16 ⊢
              refine thnF (pk.run _ s16 σ15 H16 _ I16 q16) fun z s17 ⟨yk, H17, I17, r17, q17⟩ => ?_
              refine thnF (pe.run _ s17 σ15 H17 _ I17 q17) fun z2 s18 ⟨yv, H18, I18, r18, kvs, k, ek, hD18, hz18, nx⟩ => ?_
              subst ek
              exact d_dictSet (X := X.blk s3 H3 scope ce fp) I18 hD18 hz18 r17 r18 fun s19 I19 => fin1 I19 nx
        exact compStart1d_ok loop1 (T1.self X.A 0 _ _ _ st11 loop1)
  exact codeAny_compStart_dict loop (T.self X.A 0 _ _ _ st4 loop)
/-- as a value -/
theorem pe_dc2 {kx vx tg iter tg1 iter1 : Expr} {ifs ifs1 : List Expr} {scope : Scope} {own : List (Str × Nat)} {vs1 : List Nat} {pos : Pos} {wi wi1 : TI} {g g1 : TG} {tt tt1 : TT} {tk te : TE} (hc : X.calm = true) (hN : X.N.Nodup) (hi : PI X tg iter wi) (ok : BlkOk X.N X.env.scope scope own) (hv : ∀ i ∈ vs1, i ∈ own.map (·.2))
    (hg : ∀ (s : Shared) (H : Hp) (C : Addr) (cl : List (Str × Addr)) (fp : List Addr), PG (X.blk s H scope (compEnvC scope cl C X.env) fp) tg g) (ht : ∀ (s : Shared) (H : Hp) (C : Addr) (cl : List (Str × Addr)) (fp : List Addr), PTs (X.blk s H scope (compEnvC scope cl C X.env) fp) ifs tt)
    (hi1 : ∀ (s : Shared) (H : Hp) (C : Addr) (cl : List (Str × Addr)) (fp : List Addr), PI (X.blk s H scope (compEnvC scope cl C X.env) fp) tg1 iter1 wi1)
    (hg1 : ∀ (s : Shared) (H : Hp) (C : Addr) (cl : List (Str × Addr)) (fp : List Addr), PG (X.blk s H scope (compEnvC scope cl C X.env) fp) tg1 g1) (ht1 : ∀ (s : Shared) (H : Hp) (C : Addr) (cl : List (Str × Addr)) (fp : List Addr), PTs (X.blk s H scope (compEnvC scope cl C X.env) fp) ifs1 tt1)
    (hk : ∀ (s : Shared) (H : Hp) (C : Addr) (cl : List (Str × Addr)) (fp : List Addr), PE (X.blk s H scope (compEnvC scope cl C X.env) fp) kx tk)
    (he : ∀ (s : Shared) (H : Hp) (C : Addr) (cl : List (Str × Addr)) (fp : List Addr), PE (X.blk s H scope (compEnvC scope cl C X.env) fp) vx te) (hs : ∀ x, foldedSetIterable iter X.env x = pure x := by intro _; rfl) (hs1 : ∀ env x, foldedSetIterable iter1 env x = pure x := by intro _ _; rfl) :
    PE X (.DictComp kx vx [⟨tg, iter, ifs, 0⟩, ⟨tg1, iter1, ifs1, 0⟩] scope pos) (tDc2 wi g tt wi1 g1 tt1 tk te (own.map (·.2)) vs1) := by
  refine ⟨fun pins s σ H Q I h => ?_⟩
  rw [arm_eval_DictComp]
  refine dc2_core hc hN I hi ok hv hg ht hk he hs hi1 hg1 ht1 hs1 h fun D C s' m H' I' q hn f => ⟨m, hn, fun h'' sb => ?_⟩
  obtain ⟨f0, f1, f2, f3, f4, f5⟩ := f
  exact ⟨.ref D, H', I'.turned (t' := s'.toks) (fun b o hb e => (sb.2 b hb).trans e) f0 f1 f3 f4 f5, rfl, q⟩end
end L2.My

end
section
set_option Elab.async false
set_option linter.all false
set_option autoImplicit false
set_option maxRecDepth 100000
set_option maxHeartbeats 4000000
/-! Mlg: any((x in l for x in e)), l a name of the def that holds a list of truth values, e a list of truth values (follows HandS.AnyAll's gen_str). -/
namespace L2.My
open PySem PySem.Spec PyProof.Rows

def trB (pb : Bool → Bool) (l : List Bool) (j : Nat) : Bool := match l[j]? with
  | some b => pb b
  | none => false
theorem trB_some {pb : Bool → Bool} {l : List Bool} {j : Nat} {b : Bool} (h : l[j]? = some b) : trB pb l j = pb b := by
  unfold trB
  rw [h]
theorem any_trB (l : List Bool) (pb : Bool → Bool) : (List.range l.length).any (trB pb l) = l.any pb := by
  rw [Bool.eq_iff_iff, List.any_eq_true, List.any_eq_true]
  constructor
  · intro ⟨j, hj, h⟩
    have hj' := List.mem_range.mp hj
    rw [trB_some (List.getElem?_eq_getElem hj')] at h
    exact ⟨l[j], List.getElem_mem hj', h⟩
  · intro ⟨b, hb, h⟩
    obtain ⟨j, hj, e⟩ := List.getElem_of_mem hb
    refine ⟨j, List.mem_range.mpr hj, ?_⟩
    rw [trB_some (List.getElem?_eq_getElem hj), e]
    exact h
theorem eqGives_bl (a b : Bool) : MeetsSeq.EqGives (.bool a) (.bool b) (a == b) := fun prog w A E s Q h => SeqAt.EqAt.bool_bool (A := A) (s := s) a b prog w E Q h
/-- the generator expression's own scope -/
structure GenC (sc scope : Scope) (x : Str) : Prop where
  kind : scope.kind = .function
  co : scope.isCoroutine = false
  cell : ∀ y ∈ scope.names, y.2 ≠ .cell
  dot : scope.names.lookup (".0" : Str) = some NameKind.local
  loc : scope.names.lookup x = some .local
  free : ∀ y ∈ scope.names, y.2 = .free → sc.names.lookup y.1 = some .cell ∨ sc.names.lookup y.1 = some .free
def genB (sc scope : Scope) (x : Str) : Bool := (match scope.kind with | .function => true | _ => false) && !scope.isCoroutine && decide (scope.names.lookup (".0" : Str) = some NameKind.local) && decide (scope.names.lookup x = some NameKind.local) &&
  scope.names.all fun y => match y.2 with
    | .free => (match sc.names.lookup y.1 with | some .cell => true | some .free => true | _ => false)
    | .cell => false
    | _ => true
theorem genC_by {sc scope : Scope} {x : Str} (h : genB sc scope x = true) : GenC sc scope x := by
  unfold genB at h
  simp only [Bool.and_eq_true, List.all_eq_true, decide_eq_true_eq, Bool.not_eq_true'] at h
  obtain ⟨⟨⟨⟨h1, h2⟩, h3⟩, h4⟩, h5⟩ := h
  refine ⟨?_, h2, fun y hy e => ?_, h3, h4, fun y hy e => ?_⟩
  · split at h1
    · assumption
    · cases h1
  · have := h5 y hy
    rw [e] at this
    cases this
  · have q := h5 y hy
    rw [e] at q
    simp only at q
    split at q <;> first | exact .inl (by assumption) | exact .inr (by assumption) | cases q
def bls : List V → Option (List Bool)
  | [] => some []
  | .bl b :: r => (bls r).bind fun l => some (b :: l)
  | _ :: _ => none
theorem vals_bls : ∀ {bs : List Bool} {its : List Value}, Vals (bs.map V.bl) its → its = bs.map Value.bool
  | [], _, .nil => rfl
  | b :: bs, _, .cons r t => by
    cases r
    rw [vals_bls t]
    rfl
section
variable {X : Cx} {pins : List (Addr × Obj)} {σ : L2.St} {H : Hp} {s : Shared}
theorem gen_in {c P : Addr} {iter : Expr} {x l : Str} {i : Nat} {px p1 p2 p3 gpos : Pos} {scope : Scope} {te : TE} {k : Nat} {Q' : Value → Shared → Prop} {R : List Bool → List Bool → Hp → Prop}
    (hr : Room k X.A) (TB : GxR.TabB X.base X.mg c P) (hcode : X.env.code = .ref c) (S : GenC X.env.scope scope x) (hi : PE X iter te) (hl : scope.names.lookup l = some .free) (hN : X.N[i]? = some l) (hV : X.env.scope.names.lookup l = some .cell)
    (hs : ∀ v, genFold iter X.env v = pure v) (I : Inv X pins σ H s)
    (h : te σ H fun v H1 => ∃ (a b : Addr) (bs cs : List Bool), v = .ref a ∧ H1 a = some (.lst (bs.map V.bl)) ∧ σ[i]? = some (some (.ref b)) ∧ SqL X.K H1 b (cs.map V.bl) ∧ GxR.TabG H1 P ∧ R bs cs H1)
    (hQ : ∀ (bs cs : List Bool) H1 g s5, R bs cs H1 → (∃ (fp wr : List Addr) (G : Array GenState → Array GenState → Prop) (F : Nat → Value → Prop) (St : Nat → Shared → Prop),
      WalksS X.prog X.w X.A.in1 g fp wr G bs.length F St ∧ St 0 s5 ∧ TruthOf X.prog X.w X.A.in1 F (trB (fun b => cs.any (· == b)) bs) ∧ ∀ s', Moved wr G s5 s' → ∃ H2, GxR.Tabbed P H1 H2 ∧ Inv X pins σ H2 s') → Q' (.ref g) s5)
    (hdx : (x == ("__debug__" : Str)) = false := by decide) (hdl : (l == ("__debug__" : Str)) = false := by decide) (hcl : (l == ("__classdict__" : Str)) = false := by decide) :
    wpAny (model X.prog X.w) X.A (eval (.GeneratorExp (.Compare (.Name x p1) [.In] [.Name l p2] p3) [⟨.Name x px, iter, [], 0⟩] scope gpos) X.env) Q' X.xe s := by
  refine wpAny_GeneratorExp_walksQ hr.hd S.co (closure_ok fun y hy e => I.ok.has _ (S.free y hy e)) S.cell S.dot S.loc S.kind (by have := hr.dp; omega) ?_ hs
  refine thn (hi.run pins s σ H _ I h) fun xv s1 ⟨v, H1, I1, r1, q1⟩ => ?_
  obtain ⟨a, lb, bs, cs, rfl, hLa, hσ, hLb, ⟨ps, hP, ht⟩, q1⟩ := q1
  cases r1
  obtain ⟨hza, its, na, rva, hoa⟩ := I1.hok a _ hLa
  have hits : its = bs.map Value.bool := vals_bls rva
  subst hits
  have hIL : s1.heap.IsList a (bs.map Value.bool).toArray := ⟨_, hoa, rfl, na, rfl⟩
  obtain ⟨itb, rvb, pb', hzb⟩ := I1.list hLb
  have hitb : itb = cs.map Value.bool := vals_bls rvb
  subst hitb
  have hILb : s1.heap.IsList lb (cs.map Value.bool).toArray := pb'.isList
  refine wpAny_pyIter_list hIL ?_
  generalize ho : ({ cls := .type "list_iterator", data := .fields #[.ref a, .int 0 0] } : Obj) = o
  -- the name's cell
  obtain ⟨m0, hn0, hl0⟩ := I1.loc
  obtain ⟨u0, ru0, look0⟩ := hl0 i l _ hN hσ (.inr (.inl hV))
  cases ru0
  obtain ⟨cc, hcc, hIC⟩ : ∃ cc, X.env.cells.lookup l = some cc ∧ s1.heap.IsCell cc (some (.ref lb)) := by
    rcases look0 with ⟨z, _⟩ | ⟨_, z⟩
    · have z' : X.env.scope.names.lookup l = some .local := z
      rw [hV] at z'; cases z'
    · exact z
  have hclk : (cloFrom X.env.cells scope.names []).lookup l = some cc := by
    have hm : (l, NameKind.free) ∈ scope.names := by
      have aux : ∀ (ns : List (Str × NameKind)), ns.lookup l = some .free → (l, NameKind.free) ∈ ns := by
        intro ns
        induction ns with
        | nil => intro z; cases z
        | cons p r ih =>
          intro z
          obtain ⟨n, kd⟩ := p
          rw [List.lookup_cons] at z
          cases hb : l == n with
          | true =>
            rw [hb] at z
            cases z
            have : l = n := by simpa using hb
            rw [this]; exact List.mem_cons_self
          | false => rw [hb] at z; exact List.mem_cons_of_mem _ (ih z)
      exact aux _ hl
    have h1 := cloFrom_has (cells := X.env.cells) (acc := []) hm
    obtain ⟨c', hc'⟩ := mem_lookup h1
    have aux : ∀ (ns : List (Str × Addr)) (c : Addr), ns.lookup l = some c → (l, c) ∈ ns := by
      intro ns
      induction ns with
      | nil => intro c z; cases z
      | cons p r ih =>
        intro c z
        obtain ⟨n, kd⟩ := p
        rw [List.lookup_cons] at z
        cases hb : l == n with
        | true =>
          rw [hb] at z
          cases z
          have : l = n := by simpa using hb
          rw [this]; exact List.mem_cons_self
        | false => rw [hb] at z; exact List.mem_cons_of_mem _ (ih c z)
    rcases cloFrom_mem (aux _ _ hc') with z | ⟨_, z⟩
    · cases z
    · rw [hc', z, hcc]; rfl
  have hPs : s1.heap.get? P = some { cls := .none, data := .fields ps } := I1.hok P _ hP
  have hPlt : P < s1.heap.objs.size := Heap.lt_size hPs
  have hP2 : (s1.heap.push o).get? P = some { cls := .none, data := .fields ps } := Heap.get?_push_of_some _ hPs
  have cd : PySem.W.CodeHd (s1.heap.push o) c P := TB.code.keeps fun b u e => Heap.get?_push_of_some _ (I1.bk b u e)
  have lim2 : (s1.heap.push o).NoLimit := I1.nolimit.push o
  have hofr : o.isFreed = false := by rw [← ho]; rfl
  have hal : a < s1.heap.objs.size := Heap.lt_size hoa
  have haP : a ≠ P := fun e => by rw [e, hP] at hLa; cases hLa
  have W : ∀ A' : Around, A'.handled = none → Walks X.prog X.w A' s1.heap.objs.size [s1.heap.objs.size, a] [s1.heap.objs.size] (bs.map Value.bool).toArray.size (fun i v => (bs.map Value.bool).toArray[i]? = some v) (fun i h => h.IsListIter s1.heap.objs.size a i ∧ h.IsList a (bs.map Value.bool).toArray) :=
    fun A' hh => Walks.list hh s1.heap.objs.size a (Nat.ne_of_lt hal) _
  have hst : (s1.heap.push o).IsListIter s1.heap.objs.size a 0 ∧ (s1.heap.push o).IsList a (bs.map Value.bool).toArray :=
    ⟨⟨o, Heap.get?_push_size _ hofr, by rw [← ho], by rw [← ho]; rfl⟩, _, Heap.get?_push_of_some _ hoa, rfl, na, rfl⟩
  have cont : ∀ (code : Value) (h3 : Heap) (tk : Nat) (ps' : Array Value), Heap.ExtBut P (s1.heap.push o) h3 → (s1.heap.push o).objs.size ≤ h3.objs.size → h3.get? P = some { cls := .none, data := .fields ps' } → (∃ more, ps' = ps ++ more) → TriplesOk ps'.toList →
      wpAny (model X.prog X.w) X.A (builtinsFor X.env.globals X.env.builtins) (fun bi s₄ =>
        ∃ Ia fp wr n₀ Pf St₀ pz F, Value.ref s1.heap.objs.size = .ref Ia ∧ (∀ A' : Around, A'.handled = none → Walks X.prog X.w A' Ia fp wr n₀ Pf St₀) ∧ St₀ 0 s₄.heap ∧ (∀ b ∈ fp, b < s₄.heap.objs.size) ∧ s₄.heap.NoLimit ∧ cStatics ∉ wr ∧
          (∀ href : Heap, (∀ b o, s₄.heap.get? b = some o → href.get? b = some o) →
            QuietGen X.prog X.w (genEnv scope (cloFrom X.env.cells scope.names []) s₄.heap.objs.size code bi X.env) x [] (.Compare (.Name x p1) [.In] [.Name l p2] p3) (List.range s₄.heap.objs.size) wr Pf pz F href) ∧
          (∀ a h₅ tk gs, gs.bare = true → s₄.heap.objs.size < a → h₅.objs.size = a + 1 → (∀ b o, s₄.heap.get? b = some o → h₅.get? b = some o) →
            WalksS X.prog X.w X.A.in4 a (a :: s₄.heap.objs.size :: List.range s₄.heap.objs.size) (s₄.heap.objs.size :: wr) (GenOnlyQ s₄.gens.size) (passing pz n₀ 0).length
              (fun j y => ∃ i, (passing pz n₀ 0)[j]? = some i ∧ F i y) (GenAt X.prog X.w X.A.in4 a s₄.gens.size s₄.heap.objs.size (List.range s₄.heap.objs.size) wr pz n₀ F) →
            GenAt X.prog X.w X.A.in4 a s₄.gens.size s₄.heap.objs.size (List.range s₄.heap.objs.size) wr pz n₀ F 0 { s₄ with gens := s₄.gens.push gs, toks := tk, heap := h₅ } →
            Q' (.ref a) { s₄ with gens := s₄.gens.push gs, toks := tk, heap := h₅ })) X.xe { s1 with heap := h3, toks := tk } := by
    intro code h3 tk ps' hx hsz hP3 hmore ht3
    obtain ⟨bm, ob, e1, e2, e3, e4, e5, e6, e7, e8⟩ := TB.bm
    have hcP : cStatics ≠ P := fun e => by
      obtain ⟨_, hns, _⟩ := I1.nolimit
      obtain ⟨o', es, ep, ho, hd, _⟩ := hns
      rw [e, hPs] at ho
      cases ho
      cases hd
    have hcS : cStatics < s1.heap.objs.size := let ⟨_, hns, _⟩ := I1.nolimit; hns.lt
    have sz2 : (s1.heap.push o).objs.size = s1.heap.objs.size + 1 := Heap.size_push ..
    have szle : s1.heap.objs.size ≤ h3.objs.size := by omega
    have keep3 : ∀ b u, b ≠ P → s1.heap.get? b = some u → h3.get? b = some u := fun b u hb e => hx b u hb (Heap.get?_push_of_some _ e)
    refine wpAny_builtinsFor (m := X.mg) (by rw [I1.ok.glob]; exact ((I1.mod.glob.keeps I1.bk).push o).extBut hx TB.gP) e1 e2 (keep3 _ _ e4 (I1.bk _ _ e5)) e6 e7 e8 ?_
    refine ⟨s1.heap.objs.size, [s1.heap.objs.size, a], [s1.heap.objs.size], (bs.map Value.bool).toArray.size, (fun i v => (bs.map Value.bool).toArray[i]? = some v), (fun i h => h.IsListIter s1.heap.objs.size a i ∧ h.IsList a (bs.map Value.bool).toArray), (fun _ => true), (fun i y => ∃ b, bs[i]? = some b ∧ y = .bool (cs.any (· == b))), rfl, W, ?_, ?_, lim2.extBut hx hcP, ?_, ?_, ?_⟩
    · refine (W X.A hr.hd).frame _ _ _ hst fun b hb u e => hx b u (fun z => ?_) e
      have hb' : b = s1.heap.objs.size ∨ b = a := by simpa using hb
      rcases hb' with z2 | z2
      · exact Nat.ne_of_lt hPlt (z.symm.trans z2)
      · exact haP (z2.symm.trans z)
    · intro b hb
      have hb' : b = s1.heap.objs.size ∨ b = a := by simpa using hb
      rcases hb' with z | z
      · rw [z]
        show s1.heap.objs.size < h3.objs.size
        omega
      · rw [z]
        exact Nat.lt_of_lt_of_le hal szle
    · intro z
      rcases List.mem_cons.mp z with z | z
      · exact Nat.ne_of_lt hcS z
      · cases z
    · intro href hhref
      refine ⟨fun A' E' i v s₂ m₂ hA hPv hn hm hk => ?_, fun A' E' i v s₂ m₂ hA hPv hp hn hm hk => ?_⟩
      · simp only [List.forIn_nil]
        exact wpAny_pure ⟨rfl, GxR.keeps_refl _⟩
      · obtain ⟨b, hb, rfl⟩ : ∃ b, bs[i]? = some b ∧ v = .bool b := by
          have hPv' : (bs.map Value.bool)[i]? = some v := by simpa using hPv
          rw [List.getElem?_map] at hPv'
          cases hb : bs[i]? with
          | none => rw [hb] at hPv'; cases hPv'
          | some b => rw [hb] at hPv'; exact ⟨b, rfl, (Option.some.inj hPv').symm⟩
        -- what stood before is still there
        have stands : ∀ d u, d ≠ P → s1.heap.get? d = some u → s₂.heap.get? d = some u := fun d u hd e => by
          have hlt := Heap.lt_size e
          refine hk d (List.mem_range.mpr ?_) (fun z => ?_) u (hhref d u (keep3 d u hd e))
          · exact Nat.lt_of_lt_of_le hlt szle
          · rw [List.mem_singleton.mp z] at hlt
            exact Nat.lt_irrefl _ hlt
        have hccP : cc ≠ P := fun z => by
          obtain ⟨o', ho', hd'⟩ := hIC
          rw [z, hPs] at ho'
          cases ho'
          cases hd'
        have hlbP : lb ≠ P := fun z => by
          obtain ⟨o', ho', hc', _⟩ := hILb
          rw [z, hPs] at ho'
          cases ho'
          cases hc'
        have hIC2 : s₂.heap.IsCell cc (some (.ref lb)) := by
          obtain ⟨o', ho', hd'⟩ := hIC
          exact ⟨o', stands _ _ hccP ho', hd'⟩
        have hIL2 : s₂.heap.IsList lb (cs.map Value.bool).toArray := hILb.at fun o' e => stands _ _ hlbP e
        refine wpAny_Compare1 ?_
        refine wpAny_Name (wpAny_loadName_local S.kind (show scope.names.lookup x = some .local from S.loc) hn hm ?_) hdx
        refine wpAny_Name (wpAny_loadName_free S.kind (show scope.names.lookup l = some .free from hl) hclk hIC2 ?_ hcl) hdl
        refine SeqInW.in_listW (fun y => match y with | .bool d => d == b | _ => false) (fun y hy => ?_) hIL2 ⟨⟨b, hb, ?_⟩, GxR.keeps_refl _⟩
        · have hy' : y ∈ cs.map Value.bool := by simpa using hy
          obtain ⟨d, _, rfl⟩ := List.mem_map.mp hy'
          exact eqGives_bl d b
        · show Value.bool _ = _
          congr 1
          rw [← Array.any_toList]
          show (cs.map Value.bool).any _ = _
          rw [List.any_map]
          rfl
    · intro g h5 tk5 gs hgb hag hsz5 hk5 W5 hat
      have hsz' : (bs.map Value.bool).toArray.size = bs.length := by simp
      simp only [GxR.passing_true, List.length_range, hsz'] at W5
      refine hQ bs cs H1 g _ q1 ⟨_, _, _, _, _, W5.in4_1, ?_, ?_, fun s' hm => ?_⟩
      · rw [hsz'] at hat; exact hat
      · intro j y sj Qj Ej hy hQj
        obtain ⟨i, hij, b, hb, rfl⟩ := hy
        obtain ⟨hj, ej⟩ := List.getElem?_eq_some_iff.mp hij
        rw [List.getElem_range] at ej
        subst ej
        have hQ2 : Qj (trB (fun b => cs.any (· == b)) bs j) sj := hQj
        rw [trB_some hb] at hQ2
        exact wpAny_truthy_bool hQ2
      · obtain ⟨more, em⟩ := hmore
        have nwr : ∀ b u, s1.heap.get? b = some u → b ∉ h3.objs.size :: [s1.heap.objs.size] := fun b u e hb => by
          have hl := Heap.lt_size e
          rcases List.mem_cons.mp hb with z | z
          · rw [z] at hl
            have h9 : (h3.objs.size : Nat) < s1.heap.objs.size := hl
            omega
          · rcases List.mem_cons.mp z with z | z
            · rw [z] at hl
              exact Nat.lt_irrefl _ hl
            · cases z
        have J := GxR.inv_tab (more := more) (h' := s'.heap) (g' := s'.gens) (d' := s'.drawn) (t' := s'.toks) I1 hP (fun b u hb e => hm.heap b u (nwr b u e) (hk5 b u (keep3 b u hb e)))
          (by rw [← em]; exact hm.heap P _ (nwr P _ hPs) (hk5 P _ hP3)) (AllBare.movedS (I1.bare.push hgb) hm)
        rw [GxR.sh_eta s1 s' hm.os] at J
        refine ⟨upd H1 P (.tbl (ps ++ more)), ⟨⟨ps ++ more, upd_same, by rw [← em]; exact ht3⟩, fun b hb => upd_ne hb⟩, J⟩
  refine ⟨lim2, ?_⟩
  cases hf : codeAmong gpos ps.toList with
  | none =>
    refine wpAny_genexprCodeX hcode (cd.code hP2 ht) (cd.tab hP2) hf fun c' h' tk hx hge hlt hco' _ htab' _ => ?_
    obtain ⟨o1, vs, f1, tf, fl, tg, inF, tx, tt, op, _, _, _, _, _, _, _, _, _, htr, _⟩ := hco'
    exact cont _ h' tk _ hx (Nat.le_trans hge (Nat.le_of_lt hlt)) htab'.2 ⟨_, rfl⟩ htr
  | some cv =>
    refine wpAny_genexprCode_hit hcode (cd.code hP2 ht) hf ?_
    exact cont cv (s1.heap.push o) s1.toks ps (Heap.ExtBut.refl _ _) (Nat.le_refl _) hP2 ⟨#[], by simp⟩ ht
def tAnyIn (K : PySem.W.Frag) (P : Addr) (i : Nat) (te : TE) : TE := fun σ H Q => te σ H fun v H1 => ∃ (a b : Addr) (bs cs : List Bool), v = .ref a ∧ H1 a = some (.lst (bs.map V.bl)) ∧ σ[i]? = some (some (.ref b)) ∧ SqL K H1 b (cs.map V.bl) ∧ GxR.TabG H1 P ∧
  ∀ H2, GxR.Tabbed P H1 H2 → Q (.bl (bs.any fun b => cs.any (· == b))) H2
theorem pe_anyIn {c P : Addr} {iter : Expr} {x l : Str} {i : Nat} {px p1 p2 p3 p pos gpos : Pos} {scope : Scope} {te : TE} {k : Nat}
    (hr : Room k X.A) (hg : Gl X "any") (hm : X.mg "any" = none) (TB : GxR.TabB X.base X.mg c P) (hcode : X.env.code = .ref c) (S : GenC X.env.scope scope x) (hi : PE X iter te) (hl : scope.names.lookup l = some .free) (hN : X.N[i]? = some l) (hV : X.env.scope.names.lookup l = some .cell)
    (hs : ∀ v, genFold iter X.env v = pure v)
    (hdx : (x == ("__debug__" : Str)) = false := by decide) (hdl : (l == ("__debug__" : Str)) = false := by decide) (hcl : (l == ("__classdict__" : Str)) = false := by decide)
    (he : starEach [.GeneratorExp (.Compare (.Name x p1) [.In] [.Name l p2] p3) [⟨.Name x px, iter, [], 0⟩] scope gpos] X.env = (false, eval (.GeneratorExp (.Compare (.Name x p1) [.In] [.Name l p2] p3) [⟨.Name x px, iter, [], 0⟩] scope gpos) X.env) :: starEach [] X.env := by rfl) :
    PE X (.Call (.Name "any" p) [.GeneratorExp (.Compare (.Name x p1) [.In] [.Name l p2] p3) [⟨.Name x px, iter, [], 0⟩] scope gpos] [] pos) (tAnyIn X.K P i te) := by
  refine ⟨fun pins s σ H Q I h => ?_⟩
  refine wpAny_Call_Name_kw (ld_blt I hg hm boot_any ?_)
  refine PyProof.Rows.callWith_builtin1 ?_ he (by rfl)
  rw [he]
  show wpAny _ _ (spliced ((false, eval (.GeneratorExp (.Compare (.Name x p1) [.In] [.Name l p2] p3) [⟨.Name x px, iter, [], 0⟩] scope gpos) X.env) :: backTo pos (starEach [] X.env))) _ _ s
  refine Calls.spliced_cons (gen_in (R := fun bs cs H1 => ∀ H2, GxR.Tabbed P H1 H2 → Q (.bl (bs.any fun b => cs.any (· == b))) H2) hr TB hcode S hi hl hN hV hs I h (fun bs cs H1 g s5 hR hG => ?_) hdx hdl hcl)
  obtain ⟨fp, wr, G, F, St, W, hst, htr, hI⟩ := hG
  refine Calls.spliced_nil ?_
  refine call_any_walkS (W.self 0 _ _ _ hst ⟨g, fp, wr, G, _, F, St, _, rfl, W, hst, htr, fun s' hmv => ?_⟩)
  obtain ⟨H2, hT, J⟩ := hI s' hmv
  refine ⟨.bl _, H2, J, rfl, ?_⟩
  rw [any_trB]
  exact hR H2 hT
end
/-- the table has grown -/
theorem Rel.tabbed {g : Gn} {c : Cn} {G H H' : Hp} {ρ : Rho} {σ : L2.St} (R : Rel g c G H ρ σ) {P : Addr} (hP : g.T P) (h : GxR.Tabbed P H H') : Rel g c G H' ρ σ := by
  obtain ⟨h1, h2⟩ := h
  refine ⟨fun b u e => ?_, fun b u e => ?_, R.g0, R.gB, R.len, R.sh, fun i b o e => ?_, R.inj, fun P' hP' => ?_, R.nT⟩
  · have : b ≠ P := fun z => by rw [z, (R.nT P hP).2] at e; cases e
    rw [h2 b this]; exact R.sB b u e
  · have : b ≠ P := fun z => by rw [z, (R.nT P hP).1] at e; cases e
    rw [h2 b this]; exact R.sG b u e
  · obtain ⟨a, f1, f2, f3, f4, f5⟩ := R.mu i b o e
    refine ⟨a, f1, f2, f3, f4.mono (Same.refl _) fun u hu => ?_, f5⟩
    have : a ≠ P := fun z => f4.notT R.tb (by rw [z]; exact hP)
    rw [h2 a this]; exact hu
  · by_cases e : P' = P
    · rw [e]; exact h1
    · obtain ⟨ps, q1, q2⟩ := R.tb P' hP'
      exact ⟨ps, by rw [h2 P' e]; exact q1, q2⟩
def blsD : List D → Option (List Bool)
  | [] => some []
  | .bl b :: r => (blsD r).bind fun l => some (b :: l)
  | _ :: _ => none
theorem blsD_map : ∀ {ds : List D} {bs : List Bool}, blsD ds = some bs → ds = bs.map D.bl
  | [], _, h => by cases h; rfl
  | .bl b :: r, _, h => by
    obtain ⟨l, h1, h⟩ := bind_some h
    cases h
    rw [blsD_map h1]
    rfl
theorem rp_bls {g : Gn} {G : Hp} : ∀ {us : List V} {bs : List Bool}, RpA g G us (bs.map D.bl) → us = bs.map V.bl
  | _, [], .nil => rfl
  | _, _ :: _, .cons a b => by cases a; rw [rp_bls b]; rfl
def lstD : D → Option (List D)
  | .lst ds => some ds
  | _ => none
theorem lstD_some {d : D} {ds : List D} (h : lstD d = some ds) : d = .lst ds := by
  unfold lstD at h
  split at h
  · cases h; rfl
  · cases h
/-- any((x in l for x in e)), l in slot i -/
def mAnyIn (i : Nat) (me : M D) : M RV := fun ρ => (me ρ).bind fun p => (lstD p.1).bind fun xs => (blsD xs).bind fun bs => (lookS p.2[i]?).bind fun d => (lstD d).bind fun ys => (blsD ys).bind fun cs => some (.sh (.bl (bs.any fun b => cs.any (· == b))), p.2)
section
variable {X : Cx} {g : Gn}
theorem f_anyIn {c P : Addr} {iter : Expr} {x l : Str} {i : Nat} {px p1 p2 p3 p pos gpos : Pos} {scope : Scope} {me : M D} {k : Nat}
    (hr : Room k X.A) (hm : X.mg "any" = none) (TB : GxR.TabB X.base X.mg c P) (hT : g.T P) (hcode : X.env.code = .ref c) (S : GenC X.env.scope scope x) (hi : PE X iter (tE g me)) (hl : scope.names.lookup l = some .free) (hN : X.N[i]? = some l) (hV : X.env.scope.names.lookup l = some .cell)
    (hs : ∀ v, genFold iter X.env v = pure v := by intro _; rfl) (hg : Gl X "any" := by rfl) (hK : X.K = g.K := by rfl)
    (hdx : (x == ("__debug__" : Str)) = false := by decide) (hdl : (l == ("__debug__" : Str)) = false := by decide) (hcl : (l == ("__classdict__" : Str)) = false := by decide)
    (he : starEach [.GeneratorExp (.Compare (.Name x p1) [.In] [.Name l p2] p3) [⟨.Name x px, iter, [], 0⟩] scope gpos] X.env = (false, eval (.GeneratorExp (.Compare (.Name x p1) [.In] [.Name l p2] p3) [⟨.Name x px, iter, [], 0⟩] scope gpos) X.env) :: starEach [] X.env := by rfl) :
    PE X (.Call (.Name "any" p) [.GeneratorExp (.Compare (.Name x p1) [.In] [.Name l p2] p3) [⟨.Name x px, iter, [], 0⟩] scope gpos] [] pos) (tF g (mAnyIn i me)) :=
  (pe_anyIn hr hg hm TB hcode S hi hl hN hV hs hdx hdl hcl he).ofM fun σ H Q ⟨cn, G, ρ, r, ρ', R, hm, q⟩ => by
    obtain ⟨p, h1, hm⟩ := bind_some hm
    obtain ⟨xs, h2, hm⟩ := bind_some hm
    obtain ⟨bs, h3, hm⟩ := bind_some hm
    obtain ⟨d, h4, hm⟩ := bind_some hm
    obtain ⟨ys, h5, hm⟩ := bind_some hm
    obtain ⟨cs, h6, hm⟩ := bind_some hm
    cases hm
    refine ⟨cn, G, ρ, p.1, p.2, R, h1, fun G1 H1 v s1 R1 a1 => ?_⟩
    rw [lstD_some h2, blsD_map h3] at a1
    obtain ⟨w, hw⟩ := slot_some R1 h4
    have n := nw_of (av := .sl i) R1 hw h4
    rw [lstD_some h5, blsD_map h6] at n
    obtain ⟨b, us2, rfl, e2, r2⟩ := n.lst R1.sG
    cases a1 with
    | lst e1 r1 =>
      rw [rp_bls r1] at e1
      rw [rp_bls r2] at e2
      exact ⟨_, b, bs, cs, rfl, R1.sG _ _ e1, hw, .of e2, R1.tb P hT, fun H2 hT2 => q G1 H2 _ s1 (R1.tabbed hT hT2) (.bl _)⟩
end
end L2.My

end
section
set_option Elab.async false
set_option linter.all false
set_option autoImplicit false
set_option maxRecDepth 100000
set_option maxHeartbeats 4000000
/-! Ml8: dict comprehension of two clauses, dict displays, f-strings, chained comparison, a, b = x, y, new instances. -/
namespace L2.My
open PySem PySem.Spec PyProof.Rows

/-! ### dict puts -/
def putKD (kd : List (Key × D)) (k : Key) (d : D) : List (Key × D) := if (kd.any fun kv => decide (kv.1 = k)) = true then kd.map (fun kv => if kv.1 = k then (kv.1, d) else kv) else kd ++ [(k, d)]
theorem RpK.any {g : Gn} {G : Hp} {k : Key} : ∀ {kv : List (Key × V)} {kd : List (Key × D)}, RpK g G kv kd → (kv.any fun p => decide (p.1 = k)) = kd.any fun p => decide (p.1 = k)
  | _, _, .nil => rfl
  | _, _, .cons a b => by rw [List.any_cons, List.any_cons, RpK.any b]
theorem RpK.append {g : Gn} {G : Hp} : ∀ {kv lv : List (Key × V)} {kd ld : List (Key × D)}, RpK g G kv kd → RpK g G lv ld → RpK g G (kv ++ lv) (kd ++ ld)
  | _, _, _, _, .nil, s => s
  | _, _, _, _, .cons a b, s => .cons a (RpK.append b s)
theorem RpK.map {g : Gn} {G : Hp} {k : Key} {v : V} {d : D} (r : Rp g G v d) : ∀ {kv : List (Key × V)} {kd : List (Key × D)}, RpK g G kv kd → RpK g G (kv.map (fun p => if p.1 = k then (p.1, v) else p)) (kd.map (fun p => if p.1 = k then (p.1, d) else p))
  | _, _, .nil => .nil
  | _, _, .cons (k := k') a b => by
    rw [List.map_cons, List.map_cons]
    by_cases e : k' = k
    · rw [if_pos e, if_pos e]; exact .cons r (RpK.map r b)
    · rw [if_neg e, if_neg e]; exact .cons a (RpK.map r b)
theorem RpK.put {g : Gn} {G : Hp} {k : Key} {v : V} {d : D} {kv : List (Key × V)} {kd : List (Key × D)} (h : RpK g G kv kd) (r : Rp g G v d) : RpK g G (putK kv k v) (putKD kd k d) := by
  unfold putK putKD
  rw [h.any (k := k)]
  split
  · exact h.map r
  · exact h.append (.cons r .nil)
theorem Rp.key {g : Gn} {G : Hp} {v : V} {d : D} {k : Key} (h : Rp g G v d) (e : keyD d = some k) : v = kV k := by
  cases d with
  | int i => cases e; cases h; rfl
  | str x => cases e; cases h; rfl
  | _ => cases e

/-! ### {k: v for .. for ..} -/
def dcIn (vs1 : List Nat) (ga : D → Rho → Option Rho) (mt : M Bool) (mk mv : M D) : List D → List (Key × D) → Rho → Option (List (Key × D) × Rho)
  | [], acc, ρ => some (acc, ρ)
  | d :: ds, acc, ρ => (ga d ρ).bind fun ρ1 => (mt ρ1).bind fun p => if p.1 = true then (mk p.2).bind fun q => (keyD q.1).bind fun k => (mv q.2).bind fun r => if acc.length < sizeLine then dcIn vs1 ga mt mk mv ds (putKD acc k r.1) (wipeR r.2 vs1) else none
    else dcIn vs1 ga mt mk mv ds acc (wipeR p.2 vs1)
def dcOut (vs vs1 : List Nat) (ga : D → Rho → Option Rho) (mt : M Bool) (mi1 : M (List D)) (inner : List D → List (Key × D) → Rho → Option (List (Key × D) × Rho)) : List D → List (Key × D) → Rho → Option (List (Key × D) × Rho)
  | [], acc, ρ => some (acc, ρ)
  | d :: ds, acc, ρ => (ga d ρ).bind fun ρ1 => (mt ρ1).bind fun p => if p.1 = true then (mi1 p.2).bind fun q => (inner q.1 acc (wipeR q.2 vs1)).bind fun r => dcOut vs vs1 ga mt mi1 inner ds r.1 (wipeR r.2 vs)
    else dcOut vs vs1 ga mt mi1 inner ds acc (wipeR p.2 vs)
def fDc2 (vs vs1 : List Nat) (mi : M (List D)) (ga : D → Rho → Option Rho) (mt : M Bool) (mi1 : M (List D)) (ga1 : D → Rho → Option Rho) (mt1 : M Bool) (mk mv : M D) : M RV := fun ρ => (mi ρ).bind fun p => if clean p.2 vs = true then
  (dcOut vs vs1 ga mt mi1 (dcIn vs1 ga1 mt1 mk mv) p.1 [] (wipeR p.2 vs)).bind fun q => some (.fr (.dic q.1), backR p.2 q.2 vs) else none
theorem wipe_sub {σ : L2.St} {vs vs1 : List Nat} (h : ∀ i ∈ vs1, i ∈ vs) : L2.wipe (L2.wipe σ vs1) vs = L2.wipe σ vs := wipe_eq (L2.wipe_length _ _) fun j hj => wipe_ne fun z => hj (h j z)
theorem dc2_t {g : Gn} {σ : L2.St} {H : Hp} {Q : VK} {vs vs1 : List Nat} {mi mi1 : M (List D)} {ga ga1 : D → Rho → Option Rho} {mt mt1 : M Bool} {mk mv : M D} (hv : ∀ i ∈ vs1, i ∈ vs)
    (h : tF g (fDc2 vs vs1 mi ga mt mi1 ga1 mt1 mk mv) σ H Q) : tDc2 (tI g mi) (tG g vs ga) (tB' g mt) (tI g mi1) (tG g vs1 ga1) (tB' g mt1) (tE g mk) (tE g mv) vs vs1 σ H Q := by
  obtain ⟨c, G, ρ, r, ρ', R, hm, q⟩ := h
  obtain ⟨⟨ds, ρ1⟩, h1, hm⟩ := bind_some hm
  split at hm
  · rename_i hcl
    have hcl : clean ρ1 vs = true := hcl
    obtain ⟨⟨out, ρe⟩, h2, hm⟩ := bind_some hm
    cases hm
    refine ⟨c, G, ρ, ds, ρ1, R, h1, fun G1 H1 J s1 R1 ok Dd hD => ?_⟩
    have bD := R1.freeB hD
    have gD := R1.freeG hD
    have g0D : c.G0 Dd = none := R1.g0.free gD
    refine ⟨fun i m H => m = ds.length - i ∧ i ≤ ds.length ∧ ∃ G2 ρ2 kv acc, Same G1 G2 ∧ Rel g { c with B := upd c.B Dd (.dK kv) } G2 H ρ2 (L2.wipe σ vs) ∧ RpK g G2 kv acc ∧ dcOut vs vs1 ga mt mi1 (dcIn vs1 ga1 mt1 mk mv) (ds.drop i) acc ρ2 = some (out, ρe), ⟨ds.length, rfl, Nat.zero_le _, G1, wipeR ρ1 vs, [], [], Same.refl _, ?_, .nil, h2⟩, ?_⟩
    · have R2 : Rel g c G1 (upd H1 Dd (.dK [])) (wipeR ρ1 vs) (L2.wipe σ vs) := (R1.grow (same_upd hD)).wipe vs
      have nO : ¬ Owns (wipeR ρ1 vs) (L2.wipe σ vs) Dd := (R1.wipe vs).notOwn hD
      exact R2.hold upd_same gD nO fun ps z => by cases z
    · rintro i m H ⟨rfl, hi, G2, ρ2, kv, acc, s2, R2, ra, hf⟩
      by_cases hlt : i < ds.length
      · refine .inr ⟨ok.go i G2 H s2 R2.sG hlt, fun H' => ∃ G2 ρ2 kv acc, Same G1 G2 ∧ Rel g { c with B := upd c.B Dd (.dK kv) } G2 H' ρ2 (L2.wipe σ vs) ∧ RpK g G2 kv acc ∧ dcOut vs vs1 ga mt mi1 (dcIn vs1 ga1 mt1 mk mv) (ds.drop (i + 1)) acc ρ2 = some (out, ρe),
          fun H' h3 => ⟨ds.length - (i + 1), by omega, rfl, hlt, h3⟩, fun x H' y => ?_⟩
        have ed : ds[i]? = some ds[i] := List.getElem?_eq_getElem hlt
        obtain ⟨G3, gr, rx⟩ := ok.yld i G2 H x H' _ s2 R2.sG y ed
        obtain ⟨s3, R3⟩ := R2.growths gr
        rw [List.drop_eq_getElem_cons hlt] at hf
        obtain ⟨ρ3, h3, hf⟩ := bind_some hf
        obtain ⟨⟨k, ρ4⟩, h4, hf⟩ := bind_some hf
        refine ⟨_, G3, ρ2, ds[i], ρ3, R3, rx, h3, fun G4 H4 σ4 s4 R4 w4 => ?_⟩
        rw [wipe_idem] at w4
        refine ⟨w4, _, G4, ρ3, k, ρ4, R4, h4, fun G5 H5 s5 R5 => ?_⟩
        have s25 : Same G2 G5 := (s3.trans s4).trans s5
        have s15 : Same G1 G5 := s2.trans s25
        cases k with
        | false =>
          rw [if_neg Bool.false_ne_true] at hf
          have R6 := R5.wipe vs
          rw [w4] at R6
          refine iteF ?_
          exact ⟨G5, wipeR ρ4 vs, kv, acc, s15, R6, ra.mono s25, hf⟩
        | true =>
          rw [if_pos rfl] at hf
          obtain ⟨⟨es, ρ5⟩, h5, hf⟩ := bind_some hf
          obtain ⟨⟨acc2, ρ6⟩, h6, hf⟩ := bind_some hf
          refine iteT ?_
          refine ⟨_, G5, ρ4, es, ρ5, R5, h5, fun G6 H6 J1 s6 R6 ok1 => ?_⟩
          refine ⟨fun j m H => m = es.length - j ∧ j ≤ es.length ∧ ∃ G7 ρ7 kv7 acc7, Same G6 G7 ∧ Rel g { c with B := upd c.B Dd (.dK kv7) } G7 H ρ7 (L2.wipe σ4 vs1) ∧ RpK g G7 kv7 acc7 ∧ dcIn vs1 ga1 mt1 mk mv (es.drop j) acc7 ρ7 = some (acc2, ρ6),
            ⟨es.length, rfl, Nat.zero_le _, G6, wipeR ρ5 vs1, kv, acc, Same.refl _, R6.wipe vs1, ra.mono (s25.trans s6), h6⟩, ?_⟩
          rintro j m2 H7 ⟨rfl, hj, G7, ρ7, kv7, acc7, s7, R7, ra7, hf7⟩
          by_cases hlt1 : j < es.length
          · refine .inr ⟨ok1.go j G7 H7 s7 R7.sG hlt1, fun H' => ∃ G8 ρ8 kv8 acc8, Same G6 G8 ∧ Rel g { c with B := upd c.B Dd (.dK kv8) } G8 H' ρ8 (L2.wipe σ4 vs1) ∧ RpK g G8 kv8 acc8 ∧ dcIn vs1 ga1 mt1 mk mv (es.drop (j + 1)) acc8 ρ8 = some (acc2, ρ6),
              fun H' h8 => ⟨es.length - (j + 1), by omega, rfl, hlt1, h8⟩, fun x1 H8 y1 => ?_⟩
            have ed1 : es[j]? = some es[j] := List.getElem?_eq_getElem hlt1
            obtain ⟨G8, gr1, rx1⟩ := ok1.yld j G7 H7 x1 H8 _ s7 R7.sG y1 ed1
            obtain ⟨s8, R8⟩ := R7.growths gr1
            rw [List.drop_eq_getElem_cons hlt1] at hf7
            obtain ⟨ρ9, h9, hf7⟩ := bind_some hf7
            obtain ⟨⟨k1, ρ10⟩, h10, hf7⟩ := bind_some hf7
            refine ⟨_, G8, ρ7, es[j], ρ9, R8, rx1, h9, fun G9 H9 σ9 s9 R9 w9 => ?_⟩
            rw [wipe_idem] at w9
            refine ⟨w9, _, G9, ρ9, k1, ρ10, R9, h10, fun G10 H10 s10 R10 => ?_⟩
            have s7_10 : Same G7 G10 := (s8.trans s9).trans s10
            cases k1 with
            | false =>
              rw [if_neg Bool.false_ne_true] at hf7
              have R11 := R10.wipe vs1
              rw [w9] at R11
              refine iteF ?_
              exact ⟨G10, wipeR ρ10 vs1, kv7, acc7, s7.trans s7_10, R11, ra7.mono s7_10, hf7⟩
            | true =>
              rw [if_pos rfl] at hf7
              obtain ⟨⟨dk, ρ11⟩, h11, hf7⟩ := bind_some hf7
              obtain ⟨kk, hkk, hf7⟩ := bind_some hf7
              obtain ⟨⟨dv, ρ12⟩, h12, hf7⟩ := bind_some hf7
              split at hf7
              · rename_i hz
                refine iteT ?_
                refine ⟨_, G10, ρ10, dk, ρ11, R10, h11, fun G11 H11 vk s11 R11 rk => ?_⟩
                refine ⟨_, G11, ρ11, dv, ρ12, R11, h12, fun G12 H12 vv s12 R12 rv => ?_⟩
                have s7_12 : Same G7 G12 := (s7_10.trans s11).trans s12
                have ra12 := ra7.mono s7_12
                refine ⟨kv7, kk, rk.key hkk, R12.held, by rw [ra7.length]; exact hz, G12, wipeR ρ12 vs1, putK kv7 kk vv, putKD acc7 kk dv, s7.trans s7_12, ?_, ra12.put rv, hf7⟩
                have gD12 := R12.stay g0D
                have R13 := (R12.letgo bD).poke (o := .dK (putK kv7 kk vv)) bD gD12 R12.heldO fun ps z => by rw [R12.held] at z; cases z
                have R14 := R13.hold upd_same gD12 R12.heldO fun ps z => by cases z
                have R15 := R14.wipe vs1
                rw [w9] at R15
                exact R15
              · cases hf7
          · have e : es.drop j = [] := List.drop_of_length_le (by omega)
            rw [e] at hf7
            cases hf7
            have R8 := R7.wipe vs
            rw [wipe_sub hv, w4] at R8
            exact .inl ⟨ok1.stop j G7 H7 s7 R7.sG (by omega), G7, wipeR ρ6 vs, kv7, acc2, (s15.trans s6).trans s7, R8, ra7, hf⟩
      · have e : ds.drop i = [] := List.drop_of_length_le (by omega)
        rw [e] at hf
        cases hf
        refine .inl ⟨ok.stop i G2 H s2 R2.sG (by omega), ?_⟩
        have R3 := R2.letgo bD
        have R4 := R1.back R3 s2 hcl
        refine q G2 H _ (s1.trans s2) R4 ⟨Dd, rfl, R2.stay g0D, bD, ⟨kv, R2.held, ra⟩, fun ⟨j, b, o, e1, e2⟩ => ?_⟩
        rcases backR_at e1 with ⟨h1, h2⟩ | ⟨h1, h2⟩
        · exact (clean_at hcl h1 h2).elim
        · exact R2.heldO ⟨j, b, o, h2, by rw [wipe_ne h1]; exact e2⟩
  · cases hm
section
variable {X : Cx} {g : Gn} {kx vx tg iter tg1 iter1 : Expr} {ifs ifs1 : List Expr} {scope : Scope} {own : List (Str × Nat)} {vs1 : List Nat} {pos : Pos} {mi mi1 : M (List D)} {ga ga1 : D → Rho → Option Rho} {mt mt1 : M Bool} {mk mv : M D}
theorem f_dc2 (hc : X.calm = true) (hN : X.N.Nodup) (hi : PI X tg iter (tI g mi)) (ok : BlkOk X.N X.env.scope scope own) (hv : ∀ i ∈ vs1, i ∈ own.map (·.2))
    (hg : ∀ (s : Shared) (H : Hp) (C : Addr) (cl : List (Str × Addr)) (fp : List Addr), PG (X.blk s H scope (compEnvC scope cl C X.env) fp) tg (tG g (own.map (·.2)) ga)) (ht : ∀ (s : Shared) (H : Hp) (C : Addr) (cl : List (Str × Addr)) (fp : List Addr), PTs (X.blk s H scope (compEnvC scope cl C X.env) fp) ifs (tB' g mt))
    (hi1 : ∀ (s : Shared) (H : Hp) (C : Addr) (cl : List (Str × Addr)) (fp : List Addr), PI (X.blk s H scope (compEnvC scope cl C X.env) fp) tg1 iter1 (tI g mi1))
    (hg1 : ∀ (s : Shared) (H : Hp) (C : Addr) (cl : List (Str × Addr)) (fp : List Addr), PG (X.blk s H scope (compEnvC scope cl C X.env) fp) tg1 (tG g vs1 ga1)) (ht1 : ∀ (s : Shared) (H : Hp) (C : Addr) (cl : List (Str × Addr)) (fp : List Addr), PTs (X.blk s H scope (compEnvC scope cl C X.env) fp) ifs1 (tB' g mt1))
    (hk : ∀ (s : Shared) (H : Hp) (C : Addr) (cl : List (Str × Addr)) (fp : List Addr), PE (X.blk s H scope (compEnvC scope cl C X.env) fp) kx (tE g mk)) (he : ∀ (s : Shared) (H : Hp) (C : Addr) (cl : List (Str × Addr)) (fp : List Addr), PE (X.blk s H scope (compEnvC scope cl C X.env) fp) vx (tE g mv))
    (hs : ∀ x, foldedSetIterable iter X.env x = pure x := by intro _; rfl) (hs1 : ∀ env x, foldedSetIterable iter1 env x = pure x := by intro _ _; rfl) :
    PE X (.DictComp kx vx [⟨tg, iter, ifs, 0⟩, ⟨tg1, iter1, ifs1, 0⟩] scope pos) (tF g (fDc2 (own.map (·.2)) vs1 mi ga mt mi1 ga1 mt1 mk mv)) := (pe_dc2 hc hN hi ok hv hg ht hi1 hg1 ht1 hk he hs hs1).ofM fun σ H Q h => dc2_t hv h
end
end L2.My

end
section
set_option Elab.async false
set_option linter.all false
set_option autoImplicit false
set_option maxRecDepth 100000
set_option maxHeartbeats 4000000
/-! Ml9: dict displays, f-strings, chained comparison, a, b = x, y, new instances. -/
namespace L2.My
open PySem PySem.Spec PyProof.Rows

/-! ### a op b op' c -/
def mChain (f f' : D → D → Option RV) (ma mb mc : M AV) : M RV := fun ρ => (ma ρ).bind fun p => (mb p.2).bind fun q => (look q.2 p.1).bind fun x => (look q.2 q.1).bind fun y => (f x y).bind fun z => match z with
  | .sh (.bl true) => (mc q.2).bind fun r => (look r.2 q.1).bind fun y' => (look r.2 r.1).bind fun w => (f' y' w).bind fun o => some (o, r.2)
  | .sh (.bl false) => some (.sh (.bl false), q.2)
  | _ => none
section
variable {X : Cx} {g : Gn} {a b c : Expr} {ma mb mc : M AV} {f f' : D → D → Option RV} {pos : Pos}
theorem f_chain {op op' : CmpOp} (ho : OpR X (compareOp op) (rOp g f)) (ho' : OpR X (compareOp op') (rOp g f')) (ha : PE X a (tV g ma)) (hb : PE X b (tV g mb)) (hc : PE X c (tV g mc)) (hm : lastMarks [op, op'] [b, c] = false := by with_unfolding_all rfl) :
    PE X (.Compare a [op, op'] [b, c] pos) (tF g (mChain f f' ma mb mc)) := (pe_chain ho ho' ha hb hc hm).ofM fun σ H Q ⟨cn, G, ρ, r, ρ', R, hm, q⟩ => by
  obtain ⟨p, h1, hm⟩ := bind_some hm
  obtain ⟨p2, h2, hm⟩ := bind_some hm
  obtain ⟨x, h3, hm⟩ := bind_some hm
  obtain ⟨y, h4, hm⟩ := bind_some hm
  obtain ⟨z, h5, hm⟩ := bind_some hm
  refine ⟨cn, G, ρ, p.1, p.2, R, h1, fun G1 H1 v s1 R1 a1 => ⟨cn, G1, p.2, p2.1, p2.2, R1, h2, fun G2 H2 w s2 R2 a2 => ?_⟩⟩
  refine ⟨G2, x, y, z, R2.sG, nw_of R2 (a1.mono s2) h3, nw_of R2 a2 h4, h5, fun G3 H3 u hE => ?_⟩
  obtain ⟨s3, R3, a3⟩ := R2.ends hE
  split at hm
  · have a3 : Rp g G3 u (.bl true) := a3
    cases a3
    obtain ⟨p3, h6, hm⟩ := bind_some hm
    obtain ⟨y', h7, hm⟩ := bind_some hm
    obtain ⟨w', h8, hm⟩ := bind_some hm
    obtain ⟨o, h9, hm⟩ := bind_some hm
    cases hm
    refine ⟨true, rfl, cn, G3, p2.2, p3.1, p3.2, R3, h6, fun G4 H4 t s4 R4 a4 => ?_⟩
    refine ⟨G4, y', w', r, R4.sG, nw_of R4 (a2.mono (s3.trans s4)) h7, nw_of R4 a4 h8, h9, fun G5 H5 t2 hE2 => ?_⟩
    obtain ⟨s5, R5, a5⟩ := R4.ends hE2
    exact q _ _ _ ((((s1.trans s2).trans s3).trans s4).trans s5) R5 a5
  · have a3 : Rp g G3 u (.bl false) := a3
    cases a3
    cases hm
    exact ⟨false, rfl, q _ _ _ ((s1.trans s2).trans s3) R3 (.bl _)⟩
  · cases hm
end

/-! ### f-strings -/
def oFmt : D → Option RV
  | .str y => if y.length ≤ sizeLine then some (.sh (.str y)) else none
  | .int i => if i.natAbs.log2 < 1920 then some (.sh (.str (toString i))) else none
  | _ => none
def tJ (g : Gn) (m : M Str) : L2.St → Hp → (Str → Hp → Prop) → Prop := fun σ H Q => ∃ (c : Cn) (G : Hp) (ρ : Rho) (y : Str) (ρ' : Rho), Rel g c G H ρ σ ∧ m ρ = some (y, ρ') ∧ ∀ G' H', Same G G' → Rel g c G' H' ρ' σ → Q y H'
structure PJM (X : Cx) (es : List Expr) (g : Gn) (m : Str → M Str) : Prop where
  ex : ∃ ts, PJ X es ts ∧ ∀ acc σ H Q, tJ g (m acc) σ H Q → tJs ts acc σ H Q
def jNil : Str → M Str := fun acc ρ => some (acc, ρ)
def strD : RV → Option Str
  | .sh (.str y) => some y
  | _ => none
def jCons (a : M RV) (r : Str → M Str) : Str → M Str := fun acc ρ => (a ρ).bind fun p => (strD p.1).bind fun y => if (acc ++ y).length ≤ sizeLine then r (acc ++ y) p.2 else none
def mJoined (m : Str → M Str) : M RV := fun ρ => (m Str.empty ρ).bind fun p => some (.sh (.str p.1), p.2)
section
variable {X : Cx} {g : Gn} {e : Expr} {es : List Expr} {ma : M AV} {a : M RV} {m : Str → M Str} {pos : Pos}
theorem f_fmt (he : PE X e (tV g ma)) : PE X (.FormattedValue e (-1) none pos) (tF g (m1 oFmt ma)) := (pe_fmt he).ofM fun σ H Q h => by
  obtain ⟨c, G, ρ, av, ρ', R, hm, q⟩ := one_t h
  refine ⟨c, G, ρ, av, ρ', R, hm, fun G1 H1 v s1 R1 a1 => ?_⟩
  obtain ⟨G2, d, r, sG, n, hf, k⟩ := q G1 H1 v s1 R1 a1
  unfold oFmt at hf
  split at hf
  · split at hf
    · rename_i hz; cases hf; exact .inl ⟨_, n.str, hz, k _ _ _ (ends_val (.str _))⟩
    · cases hf
  · split at hf
    · rename_i hz; cases hf; exact .inr ⟨_, n.int, hz, k _ _ _ (ends_val (.str _))⟩
    · cases hf
  · cases hf
theorem j_nil : PJM X [] g jNil := ⟨[], .nil, fun acc σ H Q ⟨c, G, ρ, y, ρ', R, hm, q⟩ => by
  cases hm
  exact q G H (Same.refl _) R⟩
theorem j_cons (he : PE X e (tF g a)) (hr : PJM X es g m) : PJM X (e :: es) g (jCons a m) := by
  obtain ⟨ts, h1, h2⟩ := hr.ex
  refine ⟨_, .cons he h1, fun acc σ H Q ⟨c, G, ρ, y, ρ', R, hm, q⟩ => ?_⟩
  obtain ⟨p, h3, hm⟩ := bind_some hm
  obtain ⟨z, h4, hm⟩ := bind_some hm
  split at hm
  · rename_i hz
    refine ⟨c, G, ρ, p.1, p.2, R, h3, fun G1 H1 v s1 R1 a1 => ?_⟩
    have e : p.1 = .sh (.str z) := by
      unfold strD at h4
      split at h4
      · rename_i heq; cases h4; exact heq
      · cases h4
    rw [e] at a1
    have a1 : Rp g G1 v (.str z) := a1
    cases a1
    exact ⟨z, rfl, hz, h2 _ _ _ _ ⟨c, G1, p.2, y, ρ', R1, hm, fun G2 H2 s2 R2 => q G2 H2 (s1.trans s2) R2⟩⟩
  · cases hm
theorem f_joined {v1 v2 : Expr} {rest : List Expr} (h : PJM X (v1 :: v2 :: rest) g m) : PE X (.JoinedStr (v1 :: v2 :: rest) pos) (tF g (mJoined m)) := by
  obtain ⟨ts, h1, h2⟩ := h.ex
  refine (pe_joined h1).ofM fun σ H Q ⟨c, G, ρ, r, ρ', R, hm, q⟩ => ?_
  obtain ⟨p, h3, hm⟩ := bind_some hm
  cases hm
  exact h2 _ _ _ _ ⟨c, G, ρ, p.1, p.2, R, h3, fun G1 H1 s1 R1 => q G1 H1 _ s1 R1 (.str _)⟩
end

/-! ### dict displays -/
def tPm (g : Gn) (m : M (List (Key × D))) : L2.St → Hp → (List (V × V) → Hp → Prop) → Prop := fun σ H Q => ∃ (c : Cn) (G : Hp) (ρ : Rho) (kd : List (Key × D)) (ρ' : Rho), Rel g c G H ρ σ ∧ m ρ = some (kd, ρ') ∧
  ∀ G' H' kv, Same G G' → Rel g c G' H' ρ' σ → RpK g G' kv kd → Q (kv.map fun p => (kV p.1, p.2)) H'
structure PPM (X : Cx) (pos : Pos) (ks : List (Option Expr)) (vs : List Expr) (g : Gn) (m : M (List (Key × D))) : Prop where
  ex : ∃ trs, PPs X pos ks vs trs ∧ ∀ σ H Q, tPm g m σ H Q → tPairs trs σ H Q
def pNil : M (List (Key × D)) := fun ρ => some ([], ρ)
def pCons (mk mv : M D) (r : M (List (Key × D))) : M (List (Key × D)) := fun ρ => (mk ρ).bind fun p => (keyD p.1).bind fun k => (mv p.2).bind fun q => (r q.2).bind fun t => some ((k, q.1) :: t.1, t.2)
def mergeKD (kd more : List (Key × D)) : List (Key × D) := more.foldl (fun acc kv => putKD acc kv.1 kv.2) kd
theorem RpK.merge {g : Gn} {G : Hp} : ∀ {kv2 : List (Key × V)} {kd2 : List (Key × D)} {kv : List (Key × V)} {kd : List (Key × D)}, RpK g G kv2 kd2 → RpK g G kv kd → RpK g G (mergeK kv kv2) (mergeKD kd kd2)
  | _, _, _, _, .nil, h => h
  | _, _, kv, kd, .cons (k := k) (v := v) (d := d) (vs := vs) (ds := ds) a b, h => show RpK g G (mergeK (putK kv k v) vs) (mergeKD (putKD kd k d) ds) from RpK.merge b (h.put a)
def mDict (m : M (List (Key × D))) : M RV := fun ρ => (m ρ).bind fun p => if p.1.length ≤ 15 then some (.fr (.dic (mergeKD [] p.1)), p.2) else none
section
variable {X : Cx} {g : Gn} {pos : Pos} {k v : Expr} {ks : List (Option Expr)} {vs : List Expr} {mk mv : M D} {m : M (List (Key × D))}
theorem p_nil : PPM X pos [] [] g pNil := ⟨[], pps_nil, fun σ H Q ⟨c, G, ρ, kd, ρ', R, hm, q⟩ => by
  cases hm
  exact q G H [] (Same.refl _) R .nil⟩
theorem p_cons (hk : PE X k (tE g mk)) (hv : PE X v (tE g mv)) (hr : PPM X pos ks vs g m) : PPM X pos (some k :: ks) (v :: vs) g (pCons mk mv m) := by
  obtain ⟨trs, h1, h2⟩ := hr.ex
  refine ⟨_, pps_cons hk hv h1, fun σ H Q ⟨c, G, ρ, kd, ρ', R, hm, q⟩ => ?_⟩
  obtain ⟨p, h3, hm⟩ := bind_some hm
  obtain ⟨kk, h4, hm⟩ := bind_some hm
  obtain ⟨p2, h5, hm⟩ := bind_some hm
  obtain ⟨p3, h6, hm⟩ := bind_some hm
  cases hm
  refine ⟨c, G, ρ, p.1, p.2, R, h3, fun G1 H1 x s1 R1 a1 => ⟨c, G1, p.2, p2.1, p2.2, R1, h5, fun G2 H2 y s2 R2 a2 => ?_⟩⟩
  refine h2 _ _ _ ⟨c, G2, p2.2, p3.1, p3.2, R2, h6, fun G3 H3 kv s3 R3 a3 => ?_⟩
  rw [a1.key h4]
  exact q G3 H3 ((kk, y) :: kv) ((s1.trans s2).trans s3) R3 (.cons (a2.mono s3) a3)
theorem f_dict (h : PPM X pos ks vs g m) (hall : ks.all (·.isSome) = true) (hl : ks.length = vs.length) (h0 : ks ≠ []) (h15 : ks.length ≤ 15) : PE X (.Dict ks vs pos) (tF g (mDict m)) := by
  obtain ⟨trs, h1, h2⟩ := h.ex
  refine (pe_disp h1 hall hl h0 h15).ofM fun σ H Q ⟨c, G, ρ, r, ρ', R, hm, q⟩ p hp => ?_
  obtain ⟨pp, h3, hm⟩ := bind_some hm
  split at hm
  · rename_i hz
    cases hm
    have bD := R.freeB hp
    have gD := R.freeG hp
    have g0D : c.G0 p = none := R.g0.free gD
    have R1 : Rel g { c with B := upd c.B p (.dK []) } G (upd H p (.dK [])) ρ σ := (R.grow (same_upd hp)).hold upd_same gD (R.notOwn hp) fun ps z => by cases z
    refine h2 _ _ _ ⟨_, G, ρ, pp.1, pp.2, R1, h3, fun G2 H2 kv s2 R2 a2 => ⟨R2.held, kv, rfl, by rw [a2.length]; exact hz, ?_⟩⟩
    have gD2 := R2.stay g0D
    have R3 := (R2.letgo bD).poke (o := .dK (mergeK [] kv)) bD gD2 R2.heldO fun ps z => by rw [R2.held] at z; cases z
    exact q G2 _ _ s2 R3 ⟨p, rfl, gD2, bD, ⟨_, upd_same, a2.merge .nil⟩, R2.heldO⟩
  · cases hm
end

/-! ### a, b = x, y -/
def sPar (i j : Nat) (a b : M RV) : MS := fun ρ => (a ρ).bind fun p => (b p.2).bind fun q => some (.nx ((q.2.set i (some (slotOf p.1))).set j (some (slotOf q.1))))
section
variable {X : Cx} {g : Gn}
theorem s_par {i j : Nat} {x y : Str} {a b : Expr} {ma mb : M RV} {px py pt pos : Pos} {kt k2 : Nat} {pt2 : Pos} (hc : X.calm = true) (hN : X.N.Nodup) (hi : X.N[i]? = some x) (hj : X.N[j]? = some y) (hij : i ≠ j)
    (hx : X.env.scope.names.lookup x = some .local) (hy : X.env.scope.names.lookup y = some .local) (ha : PE X a (tF g ma)) (hb : PE X b (tF g mb))
    (hw : swappedStores [.Tuple [.Name x px, .Name y py] kt pt] (.Tuple [a, b] k2 pt2) X.env = pure (some [x, y]))
    (hs : swapsWithSole [.Tuple [.Name x px, .Name y py] kt pt] (.Tuple [a, b] k2 pt2) pos.line X.env = pure false := by rfl)
    (he : starEach [a, b] X.env = (false, eval a X.env) :: starEach [b] X.env := by rfl) (he2 : starEach [b] X.env = (false, eval b X.env) :: starEach [] X.env := by rfl) :
    PS X (.Assign [.Tuple [.Name x px, .Name y py] kt pt] (.Tuple [a, b] k2 pt2) pos) (tS g (sPar i j ma mb)) := (ps_par hc hN hi hj hij hx hy (pa_cons ha (pa_cons hb pa_nil he2) he) hw hs).ofM fun Dn σ H ⟨c, G, ρ, o, R, hm, q⟩ => by
  obtain ⟨p, h1, hm⟩ := bind_some hm
  obtain ⟨p2, h2, hm⟩ := bind_some hm
  cases hm
  refine ⟨c, G, ρ, p.1, p.2, R, h1, fun G1 H1 v s1 R1 a1 => ?_⟩
  obtain ⟨r1, ρ1⟩ := p
  obtain ⟨r2, ρ2⟩ := p2
  cases r1 with
  | sh d =>
    have a1 : Rp g G1 v d := a1
    refine ⟨c, G1, ρ1, r2, ρ2, R1, h2, fun G2 H2 w s2 R2 a2 => ⟨v, w, rfl, ?_⟩⟩
    have R3 := R2.setSh (i := i) (a1.mono s2)
    cases r2 with
    | sh d2 => exact q G2 H2 _ (s1.trans s2) (R3.setSh a2)
    | fr o2 =>
      obtain ⟨p2, rfl, hG, hB, mo, hO⟩ := a2
      refine q G2 H2 _ (s1.trans s2) (R3.setMu hG hB mo fun ⟨l, b, o, e1, e2⟩ => ?_)
      by_cases hl : i = l
      · subst hl
        by_cases hi' : i < ρ2.length
        · rw [List.getElem?_set_self hi'] at e1; cases e1
        · rw [List.getElem?_eq_none (by rw [List.length_set]; omega)] at e1; cases e1
      · rw [List.getElem?_set_ne hl] at e1 e2
        exact hO ⟨l, b, o, e1, e2⟩
  | fr o1 =>
    obtain ⟨p1, rfl, hG1, hB1, mo1, hO1⟩ := a1
    obtain ⟨ho, e1, _⟩ := mo1.ho
    have g0 : c.G0 p1 = none := R1.g0.free hG1
    have R1' : Rel g { c with B := upd c.B p1 ho } G1 H1 ρ1 σ := R1.hold e1 hG1 hO1 fun ps z => mo1.notT R1.tb (by
      exfalso
      rw [z] at e1
      cases o1 with
      | lst ds => obtain ⟨us, e2, _⟩ := mo1; rw [e1] at e2; cases e2
      | dic ds => obtain ⟨us, e2, _⟩ := mo1; rw [e1] at e2; cases e2
      | ins cn ds => obtain ⟨_, us, e2, _⟩ := mo1; rw [e1] at e2; cases e2)
    refine ⟨_, G1, ρ1, r2, ρ2, R1', h2, fun G2 H2 w s2 R2 a2 => ⟨_, w, rfl, ?_⟩⟩
    have gD2 := R2.stay g0
    have R3 := R2.letgo hB1
    have mo1' : MoAt g G2 H2 p1 o1 := mo1.mono s2 fun u hu => by rw [e1] at hu; cases hu; exact R2.held
    have R4 := R3.setMu (i := i) gD2 hB1 mo1' R2.heldO
    cases r2 with
    | sh d2 => exact q G2 H2 _ (s1.trans s2) (R4.setSh a2)
    | fr o2 =>
      obtain ⟨p2, rfl, hG, hB, mo, hO⟩ := a2
      have hB' : upd c.B p1 ho p2 = none := hB
      have hne : p2 ≠ p1 := fun z => by rw [z, upd_same] at hB'; cases hB'
      rw [upd_ne hne] at hB'
      refine q G2 H2 _ (s1.trans s2) (R4.setMu hG hB' mo fun ⟨l, b, o, e1, e2⟩ => ?_)
      by_cases hl : i = l
      · subst hl
        by_cases hi' : i < σ.length
        · rw [List.getElem?_set_self hi'] at e2; cases e2; exact hne rfl
        · rw [List.getElem?_eq_none (by rw [List.length_set]; omega)] at e2; cases e2
      · rw [List.getElem?_set_ne hl] at e1 e2
        exact hO ⟨l, b, o, e1, e2⟩
end

/-! ### new instances -/
def mMake (cn : Str) (f : FM) (ma : M (List D)) : M RV := fun ρ => (ma ρ).bind fun p => (f (.mu true (.ins cn []) :: p.1.map SV.sh)).bind fun r => match r with
  | (.sh .non, [o]) => some (.fr o, p.2)
  | _ => none
theorem args_sh {g : Gn} {G H : Hp} : ∀ {vs : List V} {ds : List D}, RpA g G vs ds → ArgsAt g G H vs (ds.map SV.sh) []
  | _, _, .nil => .nil
  | _, _, .cons a b => .sh a (args_sh b)
section
variable {X : Cx} {g : Gn} {k n : Nat} {f C : Addr} {fd : FuncData} {ps : List Str} {fm : FM} {x cn : Str} {p pos : Pos} {e : Expr} {es : List Expr} {ma : M (List D)}
theorem f_make (M : Mk X.K C f) (hC : g.cl cn = C) (F : FnOk X.prog X.w X.K X.mg X.base CX0 k f fd ps (spM g ps.length fm)) (hr : Room (k + 1) X.A) (hg : Gl X x) (hm : X.mg x = some (.ref C)) (hb : Binds X.K fd ps []) (ha : PA X (e :: es) (tAr g ma)) (hn : (e :: es).length + 1 = ps.length) (hl : ∀ ρ as ρ', ma ρ = some (as, ρ') → as.length = (e :: es).length)
    (hdb : (x == ("__debug__" : Str)) = false := by decide) (he : starEach (e :: es) X.env = (false, eval e X.env) :: starEach es X.env := by rfl) (hpl : (backTo pos (starEach es X.env)).any (·.1) = false := by rfl) :
    PE X (.Call (.Name x p) (e :: es) [] pos) (tF g (mMake cn fm ma)) := (pe_make (E := E0) M F hr hg hm hb .nil pass0 ha hdb he hpl).ofM fun σ H Q ⟨c, G, ρ, r, ρ', R, hm, q⟩ => by
  obtain ⟨⟨ds, ρ1⟩, h1, hm⟩ := bind_some hm
  obtain ⟨rr, h2, hm⟩ := bind_some hm
  split at hm
  · rename_i o
    cases hm
    refine ⟨c, G, ρ, ds, ρ1, R, h1, fun G1 H1 vs s1 R1 a1 => fun a dx ha hdx hne => ?_⟩
    subst hC
    have s0 : Same H1 (upd H1 dx (.own a)) := same_upd hdx
    have ha' : (upd H1 dx (.own a)) a = none := by rw [upd_ne (Ne.symm hne)]; exact ha
    have s01 : Same H1 (upd (upd H1 dx (.own a)) a (.ins (g.cl cn) dx [])) := s0.trans (same_upd ha')
    have Rm := R1.grow s01
    have gA := R1.freeG ha
    have bA := R1.freeB ha
    have nO := R1.notOwn ha
    refine ⟨G1, .mu true (.ins cn []) :: ds.map SV.sh, [a], _, _, ?_, Rm.sG, Rm.tb, fun P hP => (Rm.nT P hP).1, ?_, by simp, h2, fun G2 H2 v s2 sG2 hG hH tb ho hr => ?_⟩
    · rw [List.append_nil]
      show vs.length + 1 = _
      rw [a1.length, hl _ _ _ h1]
      exact hn
    · rw [List.append_nil]
      exact .mu ⟨dx, [], upd_same, .nil⟩ gA (args_sh a1)
    · have hr : Rp g G2 v .non := hr
      cases hr
      refine ⟨rfl, ?_⟩
      cases ho with
      | cons mo gn t =>
        obtain ⟨ob, eo, _⟩ := mo.ho
        have R2 := Rm.poke (o := ob) bA gA nO fun ps z => by rw [upd_same] at z; cases z
        have R3 : Rel g c G2 H2 ρ1 σ := R2.called (avs := []) (bs := []) (os := []) List.nodup_nil .nil s2 sG2 (fun b u e => ?_) (fun b u e _ nt => ?_) tb .nil
        · exact q G2 H2 _ (s1.trans s2) R3 ⟨a, rfl, gn, bA, mo, fun ⟨i, b, o', e1, e2⟩ => nO ⟨i, b, o', e1, e2⟩⟩
        · rcases hG b u e with z | z
          · exact .inl z
          · have hb : b ≠ a := fun w => by rw [w, upd_same] at z; cases z
            exact .inr (by rw [upd_ne hb]; exact z)
        · by_cases hb : b = a
          · subst hb
            rw [upd_same] at e
            cases e
            exact eo
          · rw [upd_ne hb] at e
            exact hH b u e (by simpa using hb) nt
  · cases hm
end
end L2.My

end
section
set_option Elab.async false
set_option linter.all false
set_option autoImplicit false
set_option maxRecDepth 100000
set_option maxHeartbeats 4000000
/-! Mlx: a def whose code object is known (for generator expressions). -/
namespace L2.My
open PySem PySem.Spec PyProof.Rows
structure FunC (K : PySem.W.Frag) (x qual : Str) (st : Stmt) (f : Addr) (fd : FuncData) (cd : Addr) : Prop where
  ex : ∃ (oc : Value) (od : Option Addr) (kV doc pm : Value) (an : Option Addr) (ct : Value) (osl : Array (Option Value)),
    fd = PySem.W.fnOf x qual (defArgs st) (defBody st) (defScope st) .none kV doc pm an (.ref cd) ct ∧ K.lookup f = some ⟨oc, od, .func fd, osl⟩ ∧ PySem.W.codeIn K (.ref cd) qual = true
  kp : PySem.W.keepIn K (.ref f) = true
theorem FunC.fn {K : PySem.W.Frag} {x qual : Str} {st : Stmt} {f : Addr} {fd : FuncData} {cd : Addr} (F : FunC K x qual st f fd cd) : Fun K x qual st f fd := by
  obtain ⟨oc, od, kV, doc, pm, an, ct, osl, h1, h2, h3⟩ := F.ex
  exact ⟨⟨oc, od, kV, doc, pm, an, _, ct, osl, h1, h2, h3⟩, F.kp⟩
theorem FunC.ok {P : Program} {w : World} {K : PySem.W.Frag} {mg : Str → Option Value} {base : Heap} {x qual : Str} {st : Stmt} {f : Addr} {fd : FuncData} {cd : Addr} {N ps : List Str} {k : Nat} {sp : Sp} (F : FunC K x qual st f fd cd) (S : FnScope N ps (defScope st)) (len : ∀ vs H Q E, sp vs H Q E → vs.length = ps.length)
    (hbody : ∀ (A : Around) (outer : List Env) (s : Shared) (H : Hp) (vs : List V) (Q : VK) (E : XK), Room k (A.deeper (envOfC qual (defScope st) s.heap.objs.size f (.ref cd))) → sp vs H Q E →
      ∃ t, PSs (cxOf CX0 P w K mg base N qual (defScope st) f (.ref cd) A outer s H E).nox (defBody st) t ∧ t { nx := fun _ H' => Q .non H', rt := Q } (start N vs) H) : FnOk P w K mg base CX0 (k + 1) f fd ps sp := by
  obtain ⟨oc, od, kV, doc, pm, an, ct, osl, rfl, lk, hcd⟩ := F.ex
  refine fn_of lk hcd S len fun A outer s H vs Q E hr hsp => ?_
  obtain ⟨t, h, q⟩ := hbody A outer s H vs Q E hr hsp
  exact ⟨t, h.nox, q⟩
/-- THE RULE: a def keeps the promise of its mirror -/
theorem fn_Mc {P : Program} {w : World} {K : PySem.W.Frag} {mg : Str → Option Value} {base : Heap} {x qual : Str} {st : Stmt} {f : Addr} {fd : FuncData} {N ps : List Str} {k : Nat} {g : Gn} {m : MS} {cd : Addr} (F : FunC K x qual st f fd cd) (S : FnScope N ps (defScope st))
    (hbody : ∀ (A : Around) (outer : List Env) (s : Shared) (H : Hp) (E : XK), Room k (A.deeper (envOfC qual (defScope st) s.heap.objs.size f (.ref cd))) →
      PSs (cxOf CX0 P w K mg base N qual (defScope st) f (.ref cd) A outer s H E).nox (defBody st) (tS g m)) : FnOk P w K mg base CX0 (k + 1) f fd ps (spM g ps.length (fnM N.length m)) := by
  refine F.ok S (fun vs H Q E h => ?_) fun A outer s H vs Q E hr h => ?_
  · obtain ⟨G, as, bs, r, outs, h1, _⟩ := h
    exact h1
  · obtain ⟨G, as, bs, r, outs, hl, sG, tb, nT, ar, nd, hf, q⟩ := h
    refine ⟨_, hbody A outer s H E hr, ?_⟩
    obtain ⟨o, h1, hf⟩ := bind_some hf
    refine ⟨⟨G, baseOf g H bs, borOf vs⟩, G, _, o, rel_start sG tb nT ar nd, h1, ?_⟩
    have fin : ∀ {G' H' : Hp} {σ' : L2.St} {ρ' : Rho} {v : V} {r' : RV} {os : List MO}, Same G G' → Rel g ⟨G, baseOf g H bs, borOf vs⟩ G' H' ρ' σ' → RvAt g ⟨G, baseOf g H bs, borOf vs⟩ G' H' ρ' σ' v r' → outsOf as 0 ρ' = some os → (r', os) = (r, outs) → Q v H' := by
      intro G' H' σ' ρ' v r' os s R a ho e
      cases e
      obtain ⟨h2, h3⟩ := outs_at (c := ⟨G, baseOf g H bs, borOf vs⟩) rfl R (i := 0) ar (fun j v h => by rw [Nat.zero_add]; exact h) ho
      have base_none : ∀ {b : Addr}, baseOf g H bs b = none → b ∈ bs ∨ g.T b ∨ H b = none := fun {b} e => by
        unfold baseOf at e
        split at e
        · rename_i z
          rcases z with z | z
          · exact .inl z
          · exact .inr (.inl z)
        · exact .inr (.inr e)
      have notBs : ∀ {b : Addr}, b ∈ bs → G' b = none := fun {b} hb => by
        obtain ⟨i, b', o', e1, e2⟩ := h3 b hb
        obtain ⟨a, f1, f2, _⟩ := R.mu i b' o' e1
        rw [e2] at f1; cases f1; exact f2
      refine q G' H' v s R.sG (fun b u e => ?_) (fun b u e nb nt => ?_) R.tb h2 ?_
      · rcases R.gB b u e with z | z
        · exact .inl z
        · rcases base_none z with z | z | z
          · rw [notBs z] at e; cases e
          · rw [(R.nT b z).1] at e; cases e
          · exact .inr z
      · refine R.sB b u ?_
        show baseOf g H bs b = some u
        unfold baseOf
        rw [if_neg (fun z => z.elim nb nt)]
        exact e
      · cases r with
        | sh d => exact a
        | fr o =>
          obtain ⟨p, rfl, hG, hB, mo, hO⟩ := a
          refine ⟨p, rfl, hG, ?_, mo⟩
          rcases base_none hB with z | z | z
          · exact (hO (h3 p z)).elim
          · exact (mo.notT R.tb z).elim
          · exact z
    cases o with
    | bk ρ => cases hf
    | ct ρ => cases hf
    | nx ρ' =>
      obtain ⟨os, h2, hf⟩ := bind_some hf
      exact fun G' H' σ' s R => fin (r' := .sh .non) s R .non h2 (Option.some.inj hf)
    | rt r' ρ' =>
      obtain ⟨os, h2, hf⟩ := bind_some hf
      exact fun G' H' σ' v s R a => fin s R a h2 (Option.some.inj hf)

end L2.My

end
section
set_option Elab.async false
set_option linter.all false
set_option autoImplicit false
set_option maxRecDepth 100000
/-! Mq: mirrors run: Ok x Q says that x gives something, of which Q holds. -/
namespace L2.My
open PySem PySem.Spec PyProof.Rows
/-- a continuation (an instance argument: simp does not go into it) -/
class Ct (α : Type) where
  run : α → Prop
/-- x gives something, of which the continuation holds -/
def Ok {α : Type} (x : Option α) [k : Ct α] : Prop := ∃ a, x = some a ∧ k.run a
class Wr where
  p : Prop
def It (c : Prop) [A : Wr] [B : Wr] : Prop := (c ∧ A.p) ∨ (¬ c ∧ B.p)
section
variable {α β : Type} {x y : Option α}
theorem ok_some {a : α} {k : Ct α} : @Ok α (some a) k = k.run a := propext ⟨fun ⟨_, e, q⟩ => by cases e; exact q, fun q => ⟨a, rfl, q⟩⟩
theorem ok_bind {f : α → Option β} {k : Ct β} : @Ok β (x.bind f) k = @Ok α x ⟨fun a => @Ok β (f a) k⟩ := by
  apply propext
  constructor
  · rintro ⟨b, e, q⟩
    obtain ⟨a, h1, h2⟩ := bind_some e
    exact ⟨a, h1, b, h2, q⟩
  · rintro ⟨a, h1, b, h2, q⟩
    exact ⟨b, by rw [h1]; exact h2, q⟩
theorem ok_ite {c : Prop} [Decidable c] {a b : Option α} {k : Ct α} : @Ok α (if c then a else b) k = @It c ⟨@Ok α a k⟩ ⟨@Ok α b k⟩ := by
  apply propext
  unfold It
  constructor
  · intro h
    split at h
    · exact .inl ⟨by assumption, h⟩
    · exact .inr ⟨by assumption, h⟩
  · rintro (⟨h, q⟩ | ⟨h, q⟩)
    · rw [if_pos h]; exact q
    · rw [if_neg h]; exact q
theorem it_true {A B : Wr} : @It True A B = A.p := by simp [It]
theorem it_false {A B : Wr} : @It False A B = B.p := by simp [It]
theorem it_of {c : Prop} {A B : Wr} (h1 : c → A.p) (h2 : ¬ c → B.p) : @It c A B := by
  by_cases h : c
  · exact .inl ⟨h, h1 h⟩
  · exact .inr ⟨h, h2 h⟩
theorem it_pos {c : Prop} {A B : Wr} (h : c) (q : A.p) : @It c A B := .inl ⟨h, q⟩
theorem it_neg {c : Prop} {A B : Wr} (h : ¬ c) (q : B.p) : @It c A B := .inr ⟨h, q⟩
theorem Ok.imp {k k' : Ct α} (h : @Ok α x k) (i : ∀ a, k.run a → k'.run a) : @Ok α x k' := let ⟨a, e, q⟩ := h; ⟨a, e, i a q⟩
theorem Ok.of {a : α} {k : Ct α} (e : x = some a) (q : k.run a) : @Ok α x k := ⟨a, e, q⟩
end
def endM (as : List SV) (o : Out) : Option (RV × List MO) := match o with
      | .rt r ρ' => (outsOf as 0 ρ').bind fun os => some (r, os)
      | .nx ρ' => (outsOf as 0 ρ').bind fun os => some (.sh .non, os)
      | _ => none
section
variable {ρ : Rho} {a b c : M RV} {av bv cv : M AV} {d e : M D} {t u : M Bool} {f f' : D → D → Option RV} {f1 : D → Option RV} {s s' : MS} {i j : Nat}
theorem q_mV : mV a ρ = (a ρ).bind fun p => some (.sh p.1.d, p.2) := rfl
theorem q_mE : mE a ρ = (a ρ).bind fun p => some (p.1.d, p.2) := rfl
theorem q_mF : mF d ρ = (d ρ).bind fun p => some (.sh p.1, p.2) := rfl
theorem q_mVar : mVar i ρ = mVarS i ρ ρ[i]? := rfl
theorem q_mVarS1 {x : D} : mVarS i ρ (some (some (.sh x))) = some (x, ρ) := rfl
theorem q_mVarS2 {o : MO} : mVarS i ρ (some (some (.mu false o))) = some (o.d, ρ.set i (some (.sh o.d))) := rfl
theorem q_mC {x : D} : mC x ρ = some (.sh x, ρ) := rfl
theorem q_mNm : mNm' i ρ = (lookS ρ[i]?).bind fun _ => some (.sl i, ρ) := rfl
theorem q_look1 {x : D} : look ρ (.sh x) = some x := rfl
theorem q_look2 : look ρ (.sl i) = lookS ρ[i]? := rfl
theorem q_lookS1 {x : D} : lookS (some (some (.sh x))) = some x := rfl
theorem q_lookS2 {bb : Bool} {o : MO} : lookS (some (some (.mu bb o))) = some o.d := rfl
theorem q_d1 {x : D} : (RV.sh x).d = x := rfl
theorem q_d2 {o : MO} : (RV.fr o).d = o.d := rfl
theorem q_od1 {ds : List D} : (MO.lst ds).d = .lst ds := rfl
theorem q_od2 {ds : List (Key × D)} : (MO.dic ds).d = .dic ds := rfl
theorem q_od3 {cn : Str} {ds : List (Str × D)} : (MO.ins cn ds).d = .ins cn ds := rfl
theorem q_m1 : m1 f1 av ρ = (av ρ).bind fun p => (look p.2 p.1).bind fun x => (f1 x).bind fun r => some (r, p.2) := rfl
theorem q_m2 : m2 f av bv ρ = (av ρ).bind fun p => (bv p.2).bind fun q => (look q.2 p.1).bind fun x => (look q.2 q.1).bind fun y => (f x y).bind fun r => some (r, q.2) := rfl
def boolR : RV → Option Bool
  | .sh (.bl b) => some b
  | _ => none
theorem q_mT : mT a ρ = (a ρ).bind fun p => (boolR p.1).bind fun b => some (b, p.2) := by
  unfold mT
  cases h : a ρ with
  | none => rfl
  | some p =>
    obtain ⟨r, ρ'⟩ := p
    cases r with
    | fr o => rfl
    | sh d => cases d <;> rfl
theorem q_boolR {bb : Bool} : boolR (.sh (.bl bb)) = some bb := rfl
theorem q_mAndT : mAndT t u ρ = (t ρ).bind fun p => if p.1 = true then u p.2 else some (false, p.2) := rfl
theorem q_mOrT : mOrT t u ρ = (t ρ).bind fun p => if p.1 = true then some (true, p.2) else u p.2 := rfl
theorem q_mNotT : mNotT t ρ = (t ρ).bind fun p => some (!p.1, p.2) := rfl
theorem q_mIf : mIf t a b ρ = (t ρ).bind fun p => if p.1 = true then a p.2 else b p.2 := rfl
theorem q_mAndV : mAndV a b ρ = (mT a ρ).bind fun p => if p.1 = true then b p.2 else some (.sh (.bl false), p.2) := rfl
theorem q_mOrV : mOrV a b ρ = (mT a ρ).bind fun p => if p.1 = true then some (.sh (.bl true), p.2) else b p.2 := rfl
theorem q_mNotV : mNotV a ρ = (mT a ρ).bind fun p => some (.sh (.bl (!p.1)), p.2) := rfl
theorem q_mIsi {n : String} : mIsi n av ρ = (av ρ).bind fun p => (look p.2 p.1).bind fun x => (oIsi n x).bind fun r => some (r, p.2) := rfl
theorem q_mNil : mNil ρ = some ([], ρ) := rfl
theorem q_mCons {r : M (List D)} : mCons d r ρ = (d ρ).bind fun p => (r p.2).bind fun q => some (p.1 :: q.1, q.2) := rfl
theorem q_mTup {r : M (List D)} : mTup r ρ = (r ρ).bind fun p => if p.1.length ≤ 64 then some (.sh (.tup p.1), p.2) else none := rfl
theorem q_mLst {r : M (List D)} : mLst r ρ = (r ρ).bind fun p => if p.1.length ≤ 64 then some (.fr (.lst p.1), p.2) else none := rfl
theorem q_mANil : mANil ρ = some ([], ρ) := rfl
theorem q_mACons {r : M (List AV)} : mACons av r ρ = (av ρ).bind fun p => (r p.2).bind fun q => some (p.1 :: q.1, q.2) := rfl
theorem q_mVE : mVE d ρ = (d ρ).bind fun p => some (.sh p.1, p.2) := rfl
theorem q_mCall {fm : FM} {r : M (List AV)} : mCall fm r ρ = (r ρ).bind fun p => if (slotsOf p.1).Nodup then (argsOf p.2 p.1).bind fun as => (fm as).bind fun r => some (r.1, putOuts p.1 r.2 p.2) else none := rfl
theorem q_args0 : argsOf ρ [] = some [] := rfl
theorem q_args1 {x : AV} {xs : List AV} : argsOf ρ (x :: xs) = (argOf ρ x).bind fun y => (argsOf ρ xs).bind fun ys => some (y :: ys) := rfl
theorem q_arg1 {x : D} : argOf ρ (.sh x) = some (.sh x) := rfl
theorem q_arg2 : argOf ρ (.sl i) = argS ρ[i]? := rfl
theorem q_argS {bb : Bool} {o : MO} : argS (some (some (.mu bb o))) = some (.mu true o) := rfl
theorem q_slots0 : slotsOf [] = [] := rfl
theorem q_slots1 {x : D} {xs : List AV} : slotsOf (.sh x :: xs) = slotsOf xs := rfl
theorem q_slots2 {xs : List AV} : slotsOf (.sl i :: xs) = i :: slotsOf xs := rfl
theorem q_put0 {os : List MO} : putOuts [] os ρ = ρ := rfl
theorem q_put1 {x : D} {xs : List AV} {os : List MO} : putOuts (.sh x :: xs) os ρ = putOuts xs os ρ := rfl
theorem q_put2 {o : MO} {xs : List AV} {os : List MO} : putOuts (.sl i :: xs) (o :: os) ρ = putOuts xs os (putS i o ρ ρ[i]?) := rfl
theorem q_putS {bb : Bool} {o o' : MO} : putS i o ρ (some (some (.mu bb o'))) = ρ.set i (some (.mu bb o)) := rfl
theorem q_sSeq : sSeq s s' ρ = (s ρ).bind fun o => sThen o s' := rfl
theorem q_then1 {r : Rho} : sThen (.nx r) s = s r := rfl
theorem q_then2 {r : Rho} : sThen (.bk r) s = some (.bk r) := rfl
theorem q_then3 {r : Rho} : sThen (.ct r) s = some (.ct r) := rfl
theorem q_then4 {v : RV} {r : Rho} : sThen (.rt v r) s = some (.rt v r) := rfl
theorem q_sNil : sNil ρ = some (.nx ρ) := rfl
theorem q_sSet : sSet i a ρ = (a ρ).bind fun p => some (.nx (p.2.set i (some (slotOf p.1)))) := rfl
theorem q_slotOf1 {x : D} : slotOf (.sh x) = .sh x := rfl
theorem q_slotOf2 {o : MO} : slotOf (.fr o) = .mu false o := rfl
theorem q_sExpr : sExpr a ρ = (a ρ).bind fun p => some (.nx p.2) := rfl
theorem q_sRet : sRet a ρ = (a ρ).bind fun p => some (.rt p.1 p.2) := rfl
theorem q_sIf : sIf t s s' ρ = (t ρ).bind fun p => if p.1 = true then s p.2 else s' p.2 := rfl
theorem q_sBreak : sBreak ρ = some (.bk ρ) := rfl
theorem q_sCont : sCont ρ = some (.ct ρ) := rfl
theorem q_gNm {x : D} : gNm i x ρ = some (ρ.set i (some (.sh x))) := rfl
theorem q_gsNil : gsNil [] ρ = some ρ := rfl
theorem q_gsCons {g1 : D → Rho → Option Rho} {g2 : List D → Rho → Option Rho} {x : D} {xs : List D} : gsCons g1 g2 (x :: xs) ρ = (g1 x ρ).bind fun r => g2 xs r := rfl
theorem q_gTp {n : Nat} {g2 : List D → Rho → Option Rho} {xs : List D} : gTp n g2 (.tup xs) ρ = if xs.length = n then g2 xs ρ else none := rfl
theorem q_sAsg {ga : D → Rho → Option Rho} : sAsg d ga ρ = (d ρ).bind fun p => (ga p.1 p.2).bind fun r => some (.nx r) := rfl
theorem q_sPar : sPar i j a b ρ = (a ρ).bind fun p => (b p.2).bind fun q => some (.nx ((q.2.set i (some (slotOf p.1))).set j (some (slotOf q.1)))) := rfl
theorem q_mSo : mSo av ρ = (av ρ).bind fun p => (look p.2 p.1).bind fun x => (intOf x).bind fun i => some (some i, p.2) := rfl
theorem q_mNo : mNo ρ = some (none, ρ) := rfl
theorem q_mSl {l h : MO'} : mSl av l h ρ = (av ρ).bind fun p => (l p.2).bind fun q => (h q.2).bind fun r => (look r.2 p.1).bind fun x => (oSl q.1 r.1 x).bind fun z => some (z, r.2) := rfl
theorem q_intOf {z : Int} : intOf (.int z) = some z := rfl
theorem q_mApp : mApp i d ρ = (lstS ρ[i]?).bind fun _ => (d ρ).bind fun p => (lstS p.2[i]?).bind fun q => if q.2.length < sizeLine then some (.sh .non, p.2.set i (some (.mu q.1 (.lst (q.2 ++ [p.1]))))) else none := rfl
theorem q_mExt : mExt i av ρ = (lstS ρ[i]?).bind fun _ => (av ρ).bind fun p => (look p.2 p.1).bind fun x => (seqOf x).bind fun zs => (lstS p.2[i]?).bind fun q => if q.2.length + zs.length ≤ sizeLine then some (.sh .non, p.2.set i (some (.mu q.1 (.lst (q.2 ++ zs))))) else none := rfl
theorem q_mPop : mPop i av ρ = (lstS ρ[i]?).bind fun _ => (av ρ).bind fun p => (look p.2 p.1).bind fun x => (intOf x).bind fun k => (lstS p.2[i]?).bind fun q => if 0 ≤ k ∧ k < 2 ^ 63 then (q.2[k.toNat]?).bind fun y => some (.sh y, p.2.set i (some (.mu q.1 (.lst (q.2.eraseIdx k.toNat))))) else none := rfl
theorem q_lstS {bb : Bool} {ds : List D} : lstS (some (some (.mu bb (.lst ds)))) = some (bb, ds) := rfl
theorem q_sSetI : sSetI i d av ρ = (d ρ).bind fun p => (lstS p.2[i]?).bind fun _ => (av p.2).bind fun q => (look q.2 q.1).bind fun x => (intOf x).bind fun k => (lstS q.2[i]?).bind fun l => (ixN l.2.length k).bind fun j => some (.nx (q.2.set i (some (.mu l.1 (.lst (l.2.set j p.1)))))) := rfl
theorem q_mIndex : mIndex av bv ρ = (av ρ).bind fun p => (look p.2 p.1).bind fun d0 => if isLst d0 = true then (bv p.2).bind fun q => (look q.2 p.1).bind fun x => (look q.2 q.1).bind fun e => (oIndex x e).bind fun r => some (r, q.2) else none := rfl
theorem q_mGet : mGet d av ρ = (d ρ).bind fun p => (av p.2).bind fun q => (look q.2 q.1).bind fun e => (oGet p.1 e).bind fun r => some (r, q.2) := rfl
theorem q_mLR1 : mLR1 av ρ = (av ρ).bind fun p => (look p.2 p.1).bind fun d => (intOf d).bind fun n => if 0 ≤ n ∧ n ≤ 16777216 then some (.fr (.lst (rngD 0 n.toNat)), p.2) else none := rfl
theorem q_mRng1 : mRng1 av ρ = (av ρ).bind fun p => (look p.2 p.1).bind fun d => (intOf d).bind fun j => if -(2 ^ 62) ≤ j ∧ j < 2 ^ 62 then some (rngD 0 j.toNat, p.2) else none := rfl
theorem q_mItems : mItems d ρ = (d ρ).bind fun p => (itemsD p.1).bind fun ds => some (ds, p.2) := rfl
theorem q_items1 {xs : List D} : itemsD (.lst xs) = some xs := rfl
theorem q_items2 {xs : List D} : itemsD (.tup xs) = some xs := rfl
theorem q_mEnum : mEnum d ρ = (d ρ).bind fun p => (tupD p.1).bind fun ds => some (enumD 0 ds, p.2) := rfl
theorem q_mEnumZ : mEnumZ d e ρ = (d ρ).bind fun p => (e p.2).bind fun q => (tupD p.1).bind fun ds => (tupD q.1).bind fun es => some (enumD 0 (zipD ds es), q.2) := rfl
theorem q_tupD {xs : List D} : tupD (.tup xs) = some xs := rfl
theorem q_sFor {mi : M (List D)} {ga : D → Rho → Option Rho} : sFor mi ga s ρ = (mi ρ).bind fun p => sForL ga s p.1 p.2 := rfl
theorem q_fLc {vs : List Nat} {mi : M (List D)} {ga : D → Rho → Option Rho} : fLc vs mi ga t d ρ = (mi ρ).bind fun p => if clean p.2 vs = true then (lcL vs ga t d p.1 [] (wipeR p.2 vs)).bind fun q => some (.fr (.lst q.1), backR p.2 q.2 vs) else none := rfl
theorem q_mYes : mYes ρ = some (true, ρ) := rfl
theorem q_mMake {cn : Str} {fm : FM} {r : M (List D)} : mMake cn fm r ρ = (r ρ).bind fun p => (fm (.mu true (.ins cn []) :: p.1.map SV.sh)).bind fun q => match q with
  | (.sh .non, [o]) => some (.fr o, p.2)
  | _ => none := rfl
theorem q_sFldI {cn fl : Str} : sFldI i cn fl d ρ = (d ρ).bind fun p => (insS p.2[i]?).bind fun q => if q.2.1 = cn ∧ q.2.2.length < 1000 then some (.nx (p.2.set i (some (.mu q.1 (.ins cn (putFD fl p.1 q.2.2)))))) else none := rfl
theorem q_insS {bb : Bool} {cn : Str} {fs : List (Str × D)} : insS (some (some (.mu bb (.ins cn fs)))) = some (bb, cn, fs) := rfl
theorem q_mAnyIn : mAnyIn i d ρ = (d ρ).bind fun p => (lstD p.1).bind fun xs => (blsD xs).bind fun bs => (lookS p.2[i]?).bind fun d => (lstD d).bind fun ys => (blsD ys).bind fun cs => some (.sh (.bl (bs.any fun b => cs.any (· == b))), p.2) := rfl
theorem q_mJoined {m : Str → M Str} : mJoined m ρ = (m Str.empty ρ).bind fun p => some (.sh (.str p.1), p.2) := rfl
theorem q_jNil {acc : Str} : jNil acc ρ = some (acc, ρ) := rfl
theorem q_jCons {m : Str → M Str} {acc : Str} : jCons a m acc ρ = (a ρ).bind fun p => (strD p.1).bind fun y => if (acc ++ y).length ≤ sizeLine then m (acc ++ y) p.2 else none := rfl
theorem q_strD {y : Str} : strD (.sh (.str y)) = some y := rfl
theorem q_mDict {m : M (List (Key × D))} : mDict m ρ = (m ρ).bind fun p => if p.1.length ≤ 15 then some (.fr (.dic (mergeKD [] p.1)), p.2) else none := rfl
theorem q_pNil : pNil ρ = some ([], ρ) := rfl
theorem q_pCons {m : M (List (Key × D))} : pCons d e m ρ = (d ρ).bind fun p => (keyD p.1).bind fun k => (e p.2).bind fun q => (m q.2).bind fun t => some ((k, q.1) :: t.1, t.2) := rfl
def chainR (r : RV) (x y : Option (RV × Rho)) : Option (RV × Rho) := match r with
  | .sh (.bl true) => x
  | .sh (.bl false) => y
  | _ => none
theorem q_mChain : mChain f f' av bv cv ρ = (av ρ).bind fun p => (bv p.2).bind fun q => (look q.2 p.1).bind fun x => (look q.2 q.1).bind fun y => (f x y).bind fun z => chainR z ((cv q.2).bind fun r => (look r.2 q.1).bind fun y' => (look r.2 r.1).bind fun w => (f' y' w).bind fun o => some (o, r.2)) (some (.sh (.bl false), q.2)) := by
  unfold mChain chainR
  rfl
theorem q_chain1 {x y : Option (RV × Rho)} : chainR (.sh (.bl true)) x y = x := rfl
theorem q_chain2 {x y : Option (RV × Rho)} : chainR (.sh (.bl false)) x y = y := rfl
theorem q_fnM {n : Nat} {as : List SV} : fnM n s as = (s (as.map some ++ List.replicate (n - as.length) none)).bind fun o => endM as o := by
  unfold fnM
  congr
theorem q_end1 {as : List SV} {v : RV} {r : Rho} : endM as (.rt v r) = (outsOf as 0 r).bind fun os => some (v, os) := rfl
theorem q_end2 {as : List SV} {r : Rho} : endM as (.nx r) = (outsOf as 0 r).bind fun os => some (.sh .non, os) := rfl
def outS (o : Option (Option SV)) : Option MO := match o with
  | some (some (.mu true o)) => some o
  | _ => none
theorem q_outs0 : outsOf [] i ρ = some [] := rfl
theorem q_outs1 {x : D} {as : List SV} : outsOf (.sh x :: as) i ρ = outsOf as (i + 1) ρ := rfl
theorem q_outs2 {bb : Bool} {o : MO} {as : List SV} : outsOf (.mu bb o :: as) i ρ = (outS ρ[i]?).bind fun o => (outsOf as (i + 1) ρ).bind fun os => some (o :: os) := by
  show (match ρ[i]? with
    | some (some (.mu true o)) => (outsOf as (i + 1) ρ).bind fun os => some (o :: os)
    | _ => none) = _
  cases ρ[i]? with
  | none => rfl
  | some x =>
    cases x with
    | none => rfl
    | some y =>
      cases y with
      | sh d => rfl
      | mu b o' => cases b <;> rfl
theorem q_outS {o : MO} : outS (some (some (.mu true o))) = some o := rfl
end
/-! ### primitives -/
section
variable {xs ys : List D} {i j : Int} {x y : Str} {bb cc : Bool}
theorem p_ix1 : oIx (.lst xs) (.int i) = (atI xs i).bind fun d => some (.sh d) := rfl
theorem p_ix2 : oIx (.tup xs) (.int i) = (atI xs i).bind fun d => some (.sh d) := rfl
theorem p_ix3 : oIx (.str x) (.int i) = if x.length ≤ sizeLine then (atI x.cps.toList i).bind fun c => some (.sh (.str ⟨#[c]⟩)) else none := rfl
theorem p_atI {α : Type} {zs : List α} : atI zs i = (ixN zs.length i).bind fun j => zs[j]? := rfl
theorem p_ixN {n : Nat} : ixN n i = if 0 ≤ i then (if i.toNat < n then some i.toNat else none) else if (-i).toNat ≤ n then some (n - (-i).toNat) else none := by
  unfold ixN
  by_cases h : 0 ≤ i
  · rw [if_pos h, if_pos h]
    by_cases h1 : i < n
    · rw [if_pos h1, if_pos (by omega)]
    · rw [if_neg h1, if_neg (by omega)]
  · rw [if_neg h, if_neg h]
    by_cases h1 : -(n : Int) ≤ i
    · rw [if_pos h1, if_pos (by omega)]
      congr 1
      omega
    · rw [if_neg h1, if_neg (by omega)]
theorem p_add : oAdd (.int i) (.int j) = some (.sh (.int (i + j))) := rfl
theorem p_addS : oAdd (.str x) (.str y) = if x.length + y.length ≤ sizeLine then some (.sh (.str (x ++ y))) else none := rfl
theorem p_addT : oAdd (.tup xs) (.tup ys) = if xs.length + ys.length ≤ sizeLine then some (.sh (.tup (xs ++ ys))) else none := rfl
theorem p_addL : oAdd (.lst xs) (.lst ys) = if xs.length + ys.length ≤ sizeLine then some (.fr (.lst (xs ++ ys))) else none := rfl
theorem p_sub : oSub (.int i) (.int j) = some (.sh (.int (i - j))) := rfl
theorem p_mul : oMul (.int i) (.int j) = if i.natAbs.log2 + j.natAbs.log2 < 1000000 then some (.sh (.int (i * j))) else none := rfl
theorem p_div : oDiv (.int i) (.int j) = if 0 < j ∧ j.natAbs.log2 < 9000 then some (.sh (.int (i / j))) else none := rfl
theorem p_mod : oMod (.int i) (.int j) = if 0 < j then some (.sh (.int (i % j))) else none := rfl
theorem p_pow : oPow (.int i) (.int j) = if 0 ≤ j ∧ j ≤ 1000000 ∧ i.natAbs < 2 ^ 64 then some (.sh (.int (i ^ j.toNat))) else none := rfl
theorem p_neg : oNeg (.int i) = some (.sh (.int (-i))) := rfl
theorem p_lt : oLt (.int i) (.int j) = some (.sh (.bl (decide (i < j)))) := rfl
theorem p_le : oLe (.int i) (.int j) = some (.sh (.bl (decide (i ≤ j)))) := rfl
theorem p_gt : oGt (.int i) (.int j) = some (.sh (.bl (decide (j < i)))) := rfl
theorem p_ge : oGe (.int i) (.int j) = some (.sh (.bl (decide (j ≤ i)))) := rfl
theorem p_len1 : oLen' (.lst xs) = some (.sh (.int xs.length)) := rfl
theorem p_len2 : oLen' (.tup xs) = some (.sh (.int xs.length)) := rfl
theorem p_len3 : oLen' (.str x) = if x.length ≤ sizeLine then some (.sh (.int x.length)) else none := rfl
theorem p_int : oInt (.int i) = some (.sh (.int i)) := rfl
theorem p_abs : oAbs (.int i) = some (.sh (.int (if i < 0 then -i else i))) := rfl
theorem p_str : oStr (.int i) = if i.natAbs.log2 < 1920 then some (.sh (.str (toString i))) else none := rfl
theorem p_max : oMax (.int i) (.int j) = some (.sh (.int (if j > i then j else i))) := rfl
theorem p_list1 : oList (.lst xs) = some (.fr (.lst xs)) := rfl
theorem p_list2 : oList (.tup xs) = some (.fr (.lst xs)) := rfl
theorem p_tuple1 : oTuple (.lst xs) = some (.sh (.tup xs)) := rfl
theorem p_tuple2 : oTuple (.tup xs) = some (.sh (.tup xs)) := rfl
theorem p_isN {d : D} : oIsN d .non = some (.sh (.bl (isNon d))) := rfl
theorem p_notN {d : D} : oNotN d .non = some (.sh (.bl (!isNon d))) := rfl
theorem p_non1 : isNon .non = true := rfl
theorem p_non2 : isNon (.int i) = false := rfl
theorem p_non3 : isNon (.tup xs) = false := rfl
theorem p_non4 : isNon (.str x) = false := rfl
theorem p_non5 : isNon (.lst xs) = false := rfl
theorem p_isi {n : String} {d : D} : oIsi n d = (tyN d).bind fun t => some (.sh (.bl (isiB t n))) := rfl
theorem p_ty1 : tyN .non = some "NoneType" := rfl
theorem p_ty2 : tyN (.bl bb) = some "bool" := rfl
theorem p_ty3 : tyN (.int i) = some "int" := rfl
theorem p_ty4 : tyN (.str x) = some "str" := rfl
theorem p_ty5 : tyN (.tup xs) = some "tuple" := rfl
theorem p_ty6 : tyN (.lst xs) = some "list" := rfl
theorem p_isi_NoneType_bool : isiB "NoneType" "bool" = false := by decide
theorem p_isi_NoneType_int : isiB "NoneType" "int" = false := by decide
theorem p_isi_NoneType_str : isiB "NoneType" "str" = false := by decide
theorem p_isi_NoneType_tuple : isiB "NoneType" "tuple" = false := by decide
theorem p_isi_bool_bool : isiB "bool" "bool" = true := by decide
theorem p_isi_bool_int : isiB "bool" "int" = true := by decide
theorem p_isi_bool_str : isiB "bool" "str" = false := by decide
theorem p_isi_bool_tuple : isiB "bool" "tuple" = false := by decide
theorem p_isi_int_bool : isiB "int" "bool" = false := by decide
theorem p_isi_int_int : isiB "int" "int" = true := by decide
theorem p_isi_int_str : isiB "int" "str" = false := by decide
theorem p_isi_int_tuple : isiB "int" "tuple" = false := by decide
theorem p_isi_str_bool : isiB "str" "bool" = false := by decide
theorem p_isi_str_int : isiB "str" "int" = false := by decide
theorem p_isi_str_str : isiB "str" "str" = true := by decide
theorem p_isi_str_tuple : isiB "str" "tuple" = false := by decide
theorem p_isi_tuple_bool : isiB "tuple" "bool" = false := by decide
theorem p_isi_tuple_int : isiB "tuple" "int" = false := by decide
theorem p_isi_tuple_str : isiB "tuple" "str" = false := by decide
theorem p_isi_tuple_tuple : isiB "tuple" "tuple" = true := by decide
theorem p_isi_list_bool : isiB "list" "bool" = false := by decide
theorem p_isi_list_int : isiB "list" "int" = false := by decide
theorem p_isi_list_str : isiB "list" "str" = false := by decide
theorem p_isi_list_tuple : isiB "list" "tuple" = false := by decide
theorem p_in {d e : D} : oIn d e = (inD d e).bind fun b => some (.sh (.bl b)) := rfl
theorem p_notIn {d e : D} : oNotIn d e = (inD d e).bind fun b => some (.sh (.bl (!b))) := rfl
theorem eqOkS (hx : PyData.strOk x = true) (hy : PyData.strOk y = true) : eqOk (.str x) (.str y) = true := by simp [eqOk, D.pl, D.py, SeqAt.shaped, PyData.canLay0, PyData.depth, hx, hy]
theorem eq_str (hx : PyData.strOk x = true) (hy : PyData.strOk y = true) : oEq (.str x) (.str y) = some (.sh (.bl (decide (x = y)))) := by
  unfold oEq
  rw [if_pos (eqOkS hx hy)]
  have e : (x == y) = decide (x = y) := by
    rw [Bool.eq_iff_iff]
    simp
  simp only [D.py, PyData.eqv, e]
theorem ne_str (hx : PyData.strOk x = true) (hy : PyData.strOk y = true) : oNe (.str x) (.str y) = some (.sh (.bl (!decide (x = y)))) := by
  unfold oNe
  rw [if_pos (eqOkS hx hy)]
  have e : (x == y) = decide (x = y) := by
    rw [Bool.eq_iff_iff]
    simp
  simp only [D.py, PyData.eqv, e]
theorem p_eqI : oEq (.int i) (.int j) = some (.sh (.bl (decide (i = j)))) := by
  have h : eqOk (.int i) (.int j) = true := by simp [eqOk, D.pl, D.py, SeqAt.shaped, PyData.canLay0, PyData.depth]
  unfold oEq
  rw [if_pos h]
  simp only [D.py, PyData.eqv]
  rfl
theorem p_neI : oNe (.int i) (.int j) = some (.sh (.bl (!decide (i = j)))) := by
  have h : eqOk (.int i) (.int j) = true := by simp [eqOk, D.pl, D.py, SeqAt.shaped, PyData.canLay0, PyData.depth]
  unfold oNe
  rw [if_pos h]
  simp only [D.py, PyData.eqv]
  rfl
theorem p_eqB : oEq (.bl bb) (.bl cc) = some (.sh (.bl (decide (bb = cc)))) := by
  have h : eqOk (.bl bb) (.bl cc) = true := by simp [eqOk, D.pl, D.py, SeqAt.shaped, PyData.canLay0, PyData.depth]
  unfold oEq
  rw [if_pos h]
  simp only [D.py, PyData.eqv]
  rfl
theorem p_neB : oNe (.bl bb) (.bl cc) = some (.sh (.bl (!decide (bb = cc)))) := by
  have h : eqOk (.bl bb) (.bl cc) = true := by simp [eqOk, D.pl, D.py, SeqAt.shaped, PyData.canLay0, PyData.depth]
  unfold oNe
  rw [if_pos h]
  simp only [D.py, PyData.eqv]
  rfl
theorem p_fmt1 : oFmt (.str x) = if x.length ≤ sizeLine then some (.sh (.str x)) else none := rfl
theorem p_fmt2 : oFmt (.int i) = if i.natAbs.log2 < 1920 then some (.sh (.str (toString i))) else none := rfl
theorem p_fld {cn f : Str} {fs : List (Str × D)} : oFld cn f (.ins cn fs) = (fs.lookup f).bind fun d => some (.sh d) := by
  show (if cn = cn then _ else _) = _
  rw [if_pos rfl]
theorem p_sl1 {lo hi : Option Int} : oSl lo hi (.lst xs) = some (.fr (.lst (cutD xs lo hi))) := rfl
theorem p_sl2 {lo hi : Option Int} : oSl lo hi (.tup xs) = some (.sh (.tup (cutD xs lo hi))) := rfl
theorem p_sl3 {lo hi : Option Int} {ns : List Int} : oSl lo hi (.scr ns) = some (.fr (.lst (cutD (ns.map D.int) lo hi))) := rfl
end
/-! ### under Ok -/
section
variable {ρ : Rho} {a b c : M RV} {av bv cv : M AV} {d e : M D} {t u : M Bool} {f f' : D → D → Option RV} {f1 : D → Option RV} {s s' : MS} {i j : Nat}
theorem k_mV {k_ : Ct _} : @Ok _ (mV a ρ) k_ = @Ok _ ((a ρ).bind fun p => some (.sh p.1.d, p.2)) k_ := congrArg (fun z => @Ok _ z k_) q_mV
theorem k_mE {k_ : Ct _} : @Ok _ (mE a ρ) k_ = @Ok _ ((a ρ).bind fun p => some (p.1.d, p.2)) k_ := congrArg (fun z => @Ok _ z k_) q_mE
theorem k_mF {k_ : Ct _} : @Ok _ (mF d ρ) k_ = @Ok _ ((d ρ).bind fun p => some (.sh p.1, p.2)) k_ := congrArg (fun z => @Ok _ z k_) q_mF
theorem k_mVar {k_ : Ct _} : @Ok _ (mVar i ρ) k_ = @Ok _ (mVarS i ρ ρ[i]?) k_ := congrArg (fun z => @Ok _ z k_) q_mVar
theorem k_mC {x : D} {k_ : Ct _} : @Ok _ (mC x ρ) k_ = @Ok _ (some (.sh x, ρ)) k_ := congrArg (fun z => @Ok _ z k_) q_mC
theorem k_mNm {k_ : Ct _} : @Ok _ (mNm' i ρ) k_ = @Ok _ ((lookS ρ[i]?).bind fun _ => some (.sl i, ρ)) k_ := congrArg (fun z => @Ok _ z k_) q_mNm
theorem k_m1 {k_ : Ct _} : @Ok _ (m1 f1 av ρ) k_ = @Ok _ ((av ρ).bind fun p => (look p.2 p.1).bind fun x => (f1 x).bind fun r => some (r, p.2)) k_ := congrArg (fun z => @Ok _ z k_) q_m1
theorem k_m2 {k_ : Ct _} : @Ok _ (m2 f av bv ρ) k_ = @Ok _ ((av ρ).bind fun p => (bv p.2).bind fun q => (look q.2 p.1).bind fun x => (look q.2 q.1).bind fun y => (f x y).bind fun r => some (r, q.2)) k_ := congrArg (fun z => @Ok _ z k_) q_m2
theorem k_mT {k_ : Ct _} : @Ok _ (mT a ρ) k_ = @Ok _ ((a ρ).bind fun p => (boolR p.1).bind fun b => some (b, p.2)) k_ := congrArg (fun z => @Ok _ z k_) q_mT
theorem k_mAndT {k_ : Ct _} : @Ok _ (mAndT t u ρ) k_ = @Ok _ ((t ρ).bind fun p => if p.1 = true then u p.2 else some (false, p.2)) k_ := congrArg (fun z => @Ok _ z k_) q_mAndT
theorem k_mOrT {k_ : Ct _} : @Ok _ (mOrT t u ρ) k_ = @Ok _ ((t ρ).bind fun p => if p.1 = true then some (true, p.2) else u p.2) k_ := congrArg (fun z => @Ok _ z k_) q_mOrT
theorem k_mNotT {k_ : Ct _} : @Ok _ (mNotT t ρ) k_ = @Ok _ ((t ρ).bind fun p => some (!p.1, p.2)) k_ := congrArg (fun z => @Ok _ z k_) q_mNotT
theorem k_mIf {k_ : Ct _} : @Ok _ (mIf t a b ρ) k_ = @Ok _ ((t ρ).bind fun p => if p.1 = true then a p.2 else b p.2) k_ := congrArg (fun z => @Ok _ z k_) q_mIf
theorem k_mAndV {k_ : Ct _} : @Ok _ (mAndV a b ρ) k_ = @Ok _ ((mT a ρ).bind fun p => if p.1 = true then b p.2 else some (.sh (.bl false), p.2)) k_ := congrArg (fun z => @Ok _ z k_) q_mAndV
theorem k_mOrV {k_ : Ct _} : @Ok _ (mOrV a b ρ) k_ = @Ok _ ((mT a ρ).bind fun p => if p.1 = true then some (.sh (.bl true), p.2) else b p.2) k_ := congrArg (fun z => @Ok _ z k_) q_mOrV
theorem k_mNotV {k_ : Ct _} : @Ok _ (mNotV a ρ) k_ = @Ok _ ((mT a ρ).bind fun p => some (.sh (.bl (!p.1)), p.2)) k_ := congrArg (fun z => @Ok _ z k_) q_mNotV
theorem k_mIsi {n : String} {k_ : Ct _} : @Ok _ (mIsi n av ρ) k_ = @Ok _ ((av ρ).bind fun p => (look p.2 p.1).bind fun x => (oIsi n x).bind fun r => some (r, p.2)) k_ := congrArg (fun z => @Ok _ z k_) q_mIsi
theorem k_mNil {k_ : Ct _} : @Ok _ (mNil ρ) k_ = @Ok _ (some ([], ρ)) k_ := congrArg (fun z => @Ok _ z k_) q_mNil
theorem k_mCons {r : M (List D)} {k_ : Ct _} : @Ok _ (mCons d r ρ) k_ = @Ok _ ((d ρ).bind fun p => (r p.2).bind fun q => some (p.1 :: q.1, q.2)) k_ := congrArg (fun z => @Ok _ z k_) q_mCons
theorem k_mTup {r : M (List D)} {k_ : Ct _} : @Ok _ (mTup r ρ) k_ = @Ok _ ((r ρ).bind fun p => if p.1.length ≤ 64 then some (.sh (.tup p.1), p.2) else none) k_ := congrArg (fun z => @Ok _ z k_) q_mTup
theorem k_mLst {r : M (List D)} {k_ : Ct _} : @Ok _ (mLst r ρ) k_ = @Ok _ ((r ρ).bind fun p => if p.1.length ≤ 64 then some (.fr (.lst p.1), p.2) else none) k_ := congrArg (fun z => @Ok _ z k_) q_mLst
theorem k_mANil {k_ : Ct _} : @Ok _ (mANil ρ) k_ = @Ok _ (some ([], ρ)) k_ := congrArg (fun z => @Ok _ z k_) q_mANil
theorem k_mACons {r : M (List AV)} {k_ : Ct _} : @Ok _ (mACons av r ρ) k_ = @Ok _ ((av ρ).bind fun p => (r p.2).bind fun q => some (p.1 :: q.1, q.2)) k_ := congrArg (fun z => @Ok _ z k_) q_mACons
theorem k_mVE {k_ : Ct _} : @Ok _ (mVE d ρ) k_ = @Ok _ ((d ρ).bind fun p => some (.sh p.1, p.2)) k_ := congrArg (fun z => @Ok _ z k_) q_mVE
theorem k_mCall {fm : FM} {r : M (List AV)} {k_ : Ct _} : @Ok _ (mCall fm r ρ) k_ = @Ok _ ((r ρ).bind fun p => if (slotsOf p.1).Nodup then (argsOf p.2 p.1).bind fun as => (fm as).bind fun r => some (r.1, putOuts p.1 r.2 p.2) else none) k_ := congrArg (fun z => @Ok _ z k_) q_mCall
theorem k_args0 {k_ : Ct _} : @Ok _ (argsOf ρ []) k_ = @Ok _ (some []) k_ := congrArg (fun z => @Ok _ z k_) q_args0
theorem k_args1 {x : AV} {xs : List AV} {k_ : Ct _} : @Ok _ (argsOf ρ (x :: xs)) k_ = @Ok _ ((argOf ρ x).bind fun y => (argsOf ρ xs).bind fun ys => some (y :: ys)) k_ := congrArg (fun z => @Ok _ z k_) q_args1
theorem k_sSeq {k_ : Ct _} : @Ok _ (sSeq s s' ρ) k_ = @Ok _ ((s ρ).bind fun o => sThen o s') k_ := congrArg (fun z => @Ok _ z k_) q_sSeq
theorem k_then1 {r : Rho} {k_ : Ct _} : @Ok _ (sThen (.nx r) s) k_ = @Ok _ (s r) k_ := congrArg (fun z => @Ok _ z k_) q_then1
theorem k_then2 {r : Rho} {k_ : Ct _} : @Ok _ (sThen (.bk r) s) k_ = @Ok _ (some (.bk r)) k_ := congrArg (fun z => @Ok _ z k_) q_then2
theorem k_then3 {r : Rho} {k_ : Ct _} : @Ok _ (sThen (.ct r) s) k_ = @Ok _ (some (.ct r)) k_ := congrArg (fun z => @Ok _ z k_) q_then3
theorem k_then4 {v : RV} {r : Rho} {k_ : Ct _} : @Ok _ (sThen (.rt v r) s) k_ = @Ok _ (some (.rt v r)) k_ := congrArg (fun z => @Ok _ z k_) q_then4
theorem k_sNil {k_ : Ct _} : @Ok _ (sNil ρ) k_ = @Ok _ (some (.nx ρ)) k_ := congrArg (fun z => @Ok _ z k_) q_sNil
theorem k_sSet {k_ : Ct _} : @Ok _ (sSet i a ρ) k_ = @Ok _ ((a ρ).bind fun p => some (.nx (p.2.set i (some (slotOf p.1))))) k_ := congrArg (fun z => @Ok _ z k_) q_sSet
theorem k_sExpr {k_ : Ct _} : @Ok _ (sExpr a ρ) k_ = @Ok _ ((a ρ).bind fun p => some (.nx p.2)) k_ := congrArg (fun z => @Ok _ z k_) q_sExpr
theorem k_sRet {k_ : Ct _} : @Ok _ (sRet a ρ) k_ = @Ok _ ((a ρ).bind fun p => some (.rt p.1 p.2)) k_ := congrArg (fun z => @Ok _ z k_) q_sRet
theorem k_sIf {k_ : Ct _} : @Ok _ (sIf t s s' ρ) k_ = @Ok _ ((t ρ).bind fun p => if p.1 = true then s p.2 else s' p.2) k_ := congrArg (fun z => @Ok _ z k_) q_sIf
theorem k_sBreak {k_ : Ct _} : @Ok _ (sBreak ρ) k_ = @Ok _ (some (.bk ρ)) k_ := congrArg (fun z => @Ok _ z k_) q_sBreak
theorem k_sCont {k_ : Ct _} : @Ok _ (sCont ρ) k_ = @Ok _ (some (.ct ρ)) k_ := congrArg (fun z => @Ok _ z k_) q_sCont
theorem k_gNm {x : D} {k_ : Ct _} : @Ok _ (gNm i x ρ) k_ = @Ok _ (some (ρ.set i (some (.sh x)))) k_ := congrArg (fun z => @Ok _ z k_) q_gNm
theorem k_gsNil {k_ : Ct _} : @Ok _ (gsNil [] ρ) k_ = @Ok _ (some ρ) k_ := congrArg (fun z => @Ok _ z k_) q_gsNil
theorem k_gsCons {g1 : D → Rho → Option Rho} {g2 : List D → Rho → Option Rho} {x : D} {xs : List D} {k_ : Ct _} : @Ok _ (gsCons g1 g2 (x :: xs) ρ) k_ = @Ok _ ((g1 x ρ).bind fun r => g2 xs r) k_ := congrArg (fun z => @Ok _ z k_) q_gsCons
theorem k_gTp {n : Nat} {g2 : List D → Rho → Option Rho} {xs : List D} {k_ : Ct _} : @Ok _ (gTp n g2 (.tup xs) ρ) k_ = @Ok _ (if xs.length = n then g2 xs ρ else none) k_ := congrArg (fun z => @Ok _ z k_) q_gTp
theorem k_sAsg {ga : D → Rho → Option Rho} {k_ : Ct _} : @Ok _ (sAsg d ga ρ) k_ = @Ok _ ((d ρ).bind fun p => (ga p.1 p.2).bind fun r => some (.nx r)) k_ := congrArg (fun z => @Ok _ z k_) q_sAsg
theorem k_sPar {k_ : Ct _} : @Ok _ (sPar i j a b ρ) k_ = @Ok _ ((a ρ).bind fun p => (b p.2).bind fun q => some (.nx ((q.2.set i (some (slotOf p.1))).set j (some (slotOf q.1))))) k_ := congrArg (fun z => @Ok _ z k_) q_sPar
theorem k_mSo {k_ : Ct _} : @Ok _ (mSo av ρ) k_ = @Ok _ ((av ρ).bind fun p => (look p.2 p.1).bind fun x => (intOf x).bind fun i => some (some i, p.2)) k_ := congrArg (fun z => @Ok _ z k_) q_mSo
theorem k_mNo {k_ : Ct _} : @Ok _ (mNo ρ) k_ = @Ok _ (some (none, ρ)) k_ := congrArg (fun z => @Ok _ z k_) q_mNo
theorem k_mSl {l h : MO'} {k_ : Ct _} : @Ok _ (mSl av l h ρ) k_ = @Ok _ ((av ρ).bind fun p => (l p.2).bind fun q => (h q.2).bind fun r => (look r.2 p.1).bind fun x => (oSl q.1 r.1 x).bind fun z => some (z, r.2)) k_ := congrArg (fun z => @Ok _ z k_) q_mSl
theorem k_mApp {k_ : Ct _} : @Ok _ (mApp i d ρ) k_ = @Ok _ ((lstS ρ[i]?).bind fun _ => (d ρ).bind fun p => (lstS p.2[i]?).bind fun q => if q.2.length < sizeLine then some (.sh .non, p.2.set i (some (.mu q.1 (.lst (q.2 ++ [p.1]))))) else none) k_ := congrArg (fun z => @Ok _ z k_) q_mApp
theorem k_mExt {k_ : Ct _} : @Ok _ (mExt i av ρ) k_ = @Ok _ ((lstS ρ[i]?).bind fun _ => (av ρ).bind fun p => (look p.2 p.1).bind fun x => (seqOf x).bind fun zs => (lstS p.2[i]?).bind fun q => if q.2.length + zs.length ≤ sizeLine then some (.sh .non, p.2.set i (some (.mu q.1 (.lst (q.2 ++ zs))))) else none) k_ := congrArg (fun z => @Ok _ z k_) q_mExt
theorem k_mPop {k_ : Ct _} : @Ok _ (mPop i av ρ) k_ = @Ok _ ((lstS ρ[i]?).bind fun _ => (av ρ).bind fun p => (look p.2 p.1).bind fun x => (intOf x).bind fun k => (lstS p.2[i]?).bind fun q => if 0 ≤ k ∧ k < 2 ^ 63 then (q.2[k.toNat]?).bind fun y => some (.sh y, p.2.set i (some (.mu q.1 (.lst (q.2.eraseIdx k.toNat))))) else none) k_ := congrArg (fun z => @Ok _ z k_) q_mPop
theorem k_sSetI {k_ : Ct _} : @Ok _ (sSetI i d av ρ) k_ = @Ok _ ((d ρ).bind fun p => (lstS p.2[i]?).bind fun _ => (av p.2).bind fun q => (look q.2 q.1).bind fun x => (intOf x).bind fun k => (lstS q.2[i]?).bind fun l => (ixN l.2.length k).bind fun j => some (.nx (q.2.set i (some (.mu l.1 (.lst (l.2.set j p.1))))))) k_ := congrArg (fun z => @Ok _ z k_) q_sSetI
theorem k_mIndex {k_ : Ct _} : @Ok _ (mIndex av bv ρ) k_ = @Ok _ ((av ρ).bind fun p => (look p.2 p.1).bind fun d0 => if isLst d0 = true then (bv p.2).bind fun q => (look q.2 p.1).bind fun x => (look q.2 q.1).bind fun e => (oIndex x e).bind fun r => some (r, q.2) else none) k_ := congrArg (fun z => @Ok _ z k_) q_mIndex
theorem k_mGet {k_ : Ct _} : @Ok _ (mGet d av ρ) k_ = @Ok _ ((d ρ).bind fun p => (av p.2).bind fun q => (look q.2 q.1).bind fun e => (oGet p.1 e).bind fun r => some (r, q.2)) k_ := congrArg (fun z => @Ok _ z k_) q_mGet
theorem k_mLR1 {k_ : Ct _} : @Ok _ (mLR1 av ρ) k_ = @Ok _ ((av ρ).bind fun p => (look p.2 p.1).bind fun d => (intOf d).bind fun n => if 0 ≤ n ∧ n ≤ 16777216 then some (.fr (.lst (rngD 0 n.toNat)), p.2) else none) k_ := congrArg (fun z => @Ok _ z k_) q_mLR1
theorem k_mRng1 {k_ : Ct _} : @Ok _ (mRng1 av ρ) k_ = @Ok _ ((av ρ).bind fun p => (look p.2 p.1).bind fun d => (intOf d).bind fun j => if -(2 ^ 62) ≤ j ∧ j < 2 ^ 62 then some (rngD 0 j.toNat, p.2) else none) k_ := congrArg (fun z => @Ok _ z k_) q_mRng1
theorem k_mItems {k_ : Ct _} : @Ok _ (mItems d ρ) k_ = @Ok _ ((d ρ).bind fun p => (itemsD p.1).bind fun ds => some (ds, p.2)) k_ := congrArg (fun z => @Ok _ z k_) q_mItems
theorem k_mEnum {k_ : Ct _} : @Ok _ (mEnum d ρ) k_ = @Ok _ ((d ρ).bind fun p => (tupD p.1).bind fun ds => some (enumD 0 ds, p.2)) k_ := congrArg (fun z => @Ok _ z k_) q_mEnum
theorem k_mEnumZ {k_ : Ct _} : @Ok _ (mEnumZ d e ρ) k_ = @Ok _ ((d ρ).bind fun p => (e p.2).bind fun q => (tupD p.1).bind fun ds => (tupD q.1).bind fun es => some (enumD 0 (zipD ds es), q.2)) k_ := congrArg (fun z => @Ok _ z k_) q_mEnumZ
theorem k_sFor {mi : M (List D)} {ga : D → Rho → Option Rho} {k_ : Ct _} : @Ok _ (sFor mi ga s ρ) k_ = @Ok _ ((mi ρ).bind fun p => sForL ga s p.1 p.2) k_ := congrArg (fun z => @Ok _ z k_) q_sFor
theorem k_fLc {vs : List Nat} {mi : M (List D)} {ga : D → Rho → Option Rho} {k_ : Ct _} : @Ok _ (fLc vs mi ga t d ρ) k_ = @Ok _ ((mi ρ).bind fun p => if clean p.2 vs = true then (lcL vs ga t d p.1 [] (wipeR p.2 vs)).bind fun q => some (.fr (.lst q.1), backR p.2 q.2 vs) else none) k_ := congrArg (fun z => @Ok _ z k_) q_fLc
theorem k_mYes {k_ : Ct _} : @Ok _ (mYes ρ) k_ = @Ok _ (some (true, ρ)) k_ := congrArg (fun z => @Ok _ z k_) q_mYes
def makeR (r : RV) (os : List MO) (ρ : Rho) : Option (RV × Rho) := match r, os with
  | .sh .non, [o] => some (.fr o, ρ)
  | _, _ => none
theorem q_makeR {o : MO} : makeR (.sh .non) [o] ρ = some (.fr o, ρ) := rfl
theorem k_mMake {cn : Str} {fm : FM} {r : M (List D)} {k_ : Ct _} : @Ok _ (mMake cn fm r ρ) k_ = @Ok _ ((r ρ).bind fun p => (fm (.mu true (.ins cn []) :: p.1.map SV.sh)).bind fun q => makeR q.1 q.2 p.2) k_ := by
  congr 1
  unfold mMake makeR
  congr
  funext p
  congr
  funext q
  obtain ⟨q1, q2⟩ := q
  cases q1 with
  | fr o => rfl
  | sh d => cases d <;> first | rfl | (cases q2 with | nil => rfl | cons o r => cases r <;> rfl)
theorem k_sFldI {cn fl : Str} {k_ : Ct _} : @Ok _ (sFldI i cn fl d ρ) k_ = @Ok _ ((d ρ).bind fun p => (insS p.2[i]?).bind fun q => if q.2.1 = cn ∧ q.2.2.length < 1000 then some (.nx (p.2.set i (some (.mu q.1 (.ins cn (putFD fl p.1 q.2.2)))))) else none) k_ := congrArg (fun z => @Ok _ z k_) q_sFldI
theorem k_mAnyIn {k_ : Ct _} : @Ok _ (mAnyIn i d ρ) k_ = @Ok _ ((d ρ).bind fun p => (lstD p.1).bind fun xs => (blsD xs).bind fun bs => (lookS p.2[i]?).bind fun d => (lstD d).bind fun ys => (blsD ys).bind fun cs => some (.sh (.bl (bs.any fun b => cs.any (· == b))), p.2)) k_ := congrArg (fun z => @Ok _ z k_) q_mAnyIn
theorem k_mJoined {m : Str → M Str} {k_ : Ct _} : @Ok _ (mJoined m ρ) k_ = @Ok _ ((m Str.empty ρ).bind fun p => some (.sh (.str p.1), p.2)) k_ := congrArg (fun z => @Ok _ z k_) q_mJoined
theorem k_jNil {acc : Str} {k_ : Ct _} : @Ok _ (jNil acc ρ) k_ = @Ok _ (some (acc, ρ)) k_ := congrArg (fun z => @Ok _ z k_) q_jNil
theorem k_jCons {m : Str → M Str} {acc : Str} {k_ : Ct _} : @Ok _ (jCons a m acc ρ) k_ = @Ok _ ((a ρ).bind fun p => (strD p.1).bind fun y => if (acc ++ y).length ≤ sizeLine then m (acc ++ y) p.2 else none) k_ := congrArg (fun z => @Ok _ z k_) q_jCons
theorem k_mDict {m : M (List (Key × D))} {k_ : Ct _} : @Ok _ (mDict m ρ) k_ = @Ok _ ((m ρ).bind fun p => if p.1.length ≤ 15 then some (.fr (.dic (mergeKD [] p.1)), p.2) else none) k_ := congrArg (fun z => @Ok _ z k_) q_mDict
theorem k_pNil {k_ : Ct _} : @Ok _ (pNil ρ) k_ = @Ok _ (some ([], ρ)) k_ := congrArg (fun z => @Ok _ z k_) q_pNil
theorem k_pCons {m : M (List (Key × D))} {k_ : Ct _} : @Ok _ (pCons d e m ρ) k_ = @Ok _ ((d ρ).bind fun p => (keyD p.1).bind fun k => (e p.2).bind fun q => (m q.2).bind fun t => some ((k, q.1) :: t.1, t.2)) k_ := congrArg (fun z => @Ok _ z k_) q_pCons
theorem k_mChain {k_ : Ct _} : @Ok _ (mChain f f' av bv cv ρ) k_ = @Ok _ ((av ρ).bind fun p => (bv p.2).bind fun q => (look q.2 p.1).bind fun x => (look q.2 q.1).bind fun y => (f x y).bind fun z => chainR z ((cv q.2).bind fun r => (look r.2 q.1).bind fun y' => (look r.2 r.1).bind fun w => (f' y' w).bind fun o => some (o, r.2)) (some (.sh (.bl false), q.2))) k_ := congrArg (fun z => @Ok _ z k_) q_mChain
theorem k_chain1 {x y : Option (RV × Rho)} {k_ : Ct _} : @Ok _ (chainR (.sh (.bl true)) x y) k_ = @Ok _ (x) k_ := congrArg (fun z => @Ok _ z k_) q_chain1
theorem k_chain2 {x y : Option (RV × Rho)} {k_ : Ct _} : @Ok _ (chainR (.sh (.bl false)) x y) k_ = @Ok _ (y) k_ := congrArg (fun z => @Ok _ z k_) q_chain2
theorem k_fnM {n : Nat} {as : List SV} {k_ : Ct _} : @Ok _ (fnM n s as) k_ = @Ok _ ((s (as.map some ++ List.replicate (n - as.length) none)).bind fun o => endM as o) k_ := congrArg (fun z => @Ok _ z k_) q_fnM
theorem k_end1 {as : List SV} {v : RV} {r : Rho} {k_ : Ct _} : @Ok _ (endM as (.rt v r)) k_ = @Ok _ ((outsOf as 0 r).bind fun os => some (v, os)) k_ := congrArg (fun z => @Ok _ z k_) q_end1
theorem k_end2 {as : List SV} {r : Rho} {k_ : Ct _} : @Ok _ (endM as (.nx r)) k_ = @Ok _ ((outsOf as 0 r).bind fun os => some (.sh .non, os)) k_ := congrArg (fun z => @Ok _ z k_) q_end2
theorem k_outs0 {k_ : Ct _} : @Ok _ (outsOf [] i ρ) k_ = @Ok _ (some []) k_ := congrArg (fun z => @Ok _ z k_) q_outs0
theorem k_outs1 {x : D} {as : List SV} {k_ : Ct _} : @Ok _ (outsOf (.sh x :: as) i ρ) k_ = @Ok _ (outsOf as (i + 1) ρ) k_ := congrArg (fun z => @Ok _ z k_) q_outs1
theorem k_outs2 {bb : Bool} {o : MO} {as : List SV} {k_ : Ct _} : @Ok _ (outsOf (.mu bb o :: as) i ρ) k_ = @Ok _ ((outS ρ[i]?).bind fun o => (outsOf as (i + 1) ρ).bind fun os => some (o :: os)) k_ := congrArg (fun z => @Ok _ z k_) q_outs2
end
end L2.My

end
section
set_option Elab.async false
set_option linter.all false
set_option autoImplicit false
set_option maxRecDepth 100000
/-! Mq2: loops of mirrors by an invariant. -/
namespace L2.My
open PySem PySem.Spec PyProof.Rows
section
variable {ρ ρ' : Rho} {v : Nat} {vs : List Nat}
theorem q_clean0 : clean ρ [] = true := rfl
theorem q_clean1 : clean ρ (v :: vs) = (cleanS ρ[v]? && clean ρ vs) := rfl
theorem q_cleanS1 : cleanS (some none) = true := rfl
theorem q_cleanS2 {d : D} : cleanS (some (some (.sh d))) = true := rfl
theorem q_wipe0 : wipeR ρ [] = ρ := rfl
theorem q_wipe1 : wipeR ρ (v :: vs) = (wipeR ρ vs).set v none := rfl
theorem q_back0 : backR ρ ρ' [] = ρ' := rfl
theorem q_back1 : backR ρ ρ' (v :: vs) = (backR ρ ρ' vs).set v (ρ[v]?.join) := rfl
theorem q_join1 {α : Type} {x : Option α} : Option.join (some x) = x := rfl
theorem q_and1 {b : Bool} : (true && b) = b := rfl
end
def outP (I B : Rho → Prop) (R : RV → Rho → Prop) : Out → Prop
  | .nx ρ => I ρ
  | .ct ρ => I ρ
  | .bk ρ => B ρ
  | .rt r ρ => R r ρ
section
variable {I B : Rho → Prop} {R : RV → Rho → Prop} {ρ : Rho} {r : RV}
theorem q_outP1 : outP I B R (.nx ρ) = I ρ := rfl
theorem q_outP2 : outP I B R (.ct ρ) = I ρ := rfl
theorem q_outP3 : outP I B R (.bk ρ) = B ρ := rfl
theorem q_outP4 : outP I B R (.rt r ρ) = R r ρ := rfl
end
theorem lcL_inv {vs : List Nat} {ga : D → Rho → Option Rho} {mt : M Bool} {me : M D} {ds : List D} {ρ0 : Rho} {k : Ct (List D × Rho)} (I : Nat → List D → Rho → Prop) (hl : ds.length < sizeLine) (h0 : I 0 [] ρ0)
    (step : ∀ i d acc ρ, ds[i]? = some d → acc.length ≤ i → I i acc ρ → @Ok _ (ga d ρ) ⟨fun ρ1 => @Ok _ (mt ρ1) ⟨fun p => @It (p.1 = true) ⟨@Ok _ (me p.2) ⟨fun q => I (i + 1) (acc ++ [q.1]) (wipeR q.2 vs)⟩⟩ ⟨I (i + 1) acc (wipeR p.2 vs)⟩⟩⟩)
    (fin : ∀ out ρ', out.length ≤ ds.length → I ds.length out ρ' → k.run (out, ρ')) : @Ok _ (lcL vs ga mt me ds [] ρ0) k := by
  have key : ∀ (m i : Nat) (acc : List D) (ρ : Rho), m = ds.length - i → i ≤ ds.length → acc.length ≤ i → I i acc ρ → @Ok _ (lcL vs ga mt me (ds.drop i) acc ρ) k := by
    intro m
    induction m with
    | zero =>
      intro i acc ρ hm hi ha h
      have e : i = ds.length := by omega
      subst e
      rw [List.drop_of_length_le (Nat.le_refl _)]
      exact ⟨(acc, ρ), rfl, fin acc ρ ha h⟩
    | succ m ih =>
      intro i acc ρ hm hi ha h
      have hlt : i < ds.length := by omega
      rw [List.drop_eq_getElem_cons hlt]
      obtain ⟨ρ1, h1, ⟨b, ρ2⟩, h2, h3⟩ := step i ds[i] acc ρ (List.getElem?_eq_getElem hlt) ha h
      have e : lcL vs ga mt me (ds[i] :: ds.drop (i + 1)) acc ρ = if b = true then (me ρ2).bind fun q => if acc.length < sizeLine then lcL vs ga mt me (ds.drop (i + 1)) (acc ++ [q.1]) (wipeR q.2 vs) else none else lcL vs ga mt me (ds.drop (i + 1)) acc (wipeR ρ2 vs) := by
        show (ga ds[i] ρ).bind _ = _
        rw [h1]
        show (mt ρ1).bind _ = _
        rw [h2]
        rfl
      rw [e]
      rcases h3 with ⟨hb, ⟨d, ρ3⟩, h4, h5⟩ | ⟨hb, h5⟩
      · have hb : b = true := hb
        rw [if_pos hb]
        have e2 : (me ρ2).bind (fun q => if acc.length < sizeLine then lcL vs ga mt me (ds.drop (i + 1)) (acc ++ [q.1]) (wipeR q.2 vs) else none) = lcL vs ga mt me (ds.drop (i + 1)) (acc ++ [d]) (wipeR ρ3 vs) := by
          rw [h4]
          show (if acc.length < sizeLine then _ else none) = _
          rw [if_pos (by omega)]
        rw [e2]
        exact ih (i + 1) _ _ (by omega) hlt (by simp; omega) h5
      · have hb : ¬ b = true := hb
        rw [if_neg hb]
        exact ih (i + 1) _ _ (by omega) hlt (by omega) h5
  have := key ds.length 0 [] ρ0 (by omega) (Nat.zero_le _) (Nat.le_refl _) h0
  rwa [List.drop_zero] at this
theorem sForL_inv {ga : D → Rho → Option Rho} {mb : MS} {ds : List D} {ρ0 : Rho} {k : Ct Out} (I : Nat → Rho → Prop) (B : Rho → Prop) (R : RV → Rho → Prop) (h0 : I 0 ρ0)
    (step : ∀ i d ρ, ds[i]? = some d → I i ρ → @Ok _ (ga d ρ) ⟨fun ρ1 => @Ok _ (mb ρ1) ⟨fun o => outP (I (i + 1)) B R o⟩⟩)
    (fin : ∀ ρ', I ds.length ρ' → k.run (.nx ρ')) (finB : ∀ ρ', B ρ' → k.run (.nx ρ')) (finR : ∀ r ρ', R r ρ' → k.run (.rt r ρ')) : @Ok _ (sForL ga mb ds ρ0) k := by
  have key : ∀ (m i : Nat) (ρ : Rho), m = ds.length - i → i ≤ ds.length → I i ρ → @Ok _ (sForL ga mb (ds.drop i) ρ) k := by
    intro m
    induction m with
    | zero =>
      intro i ρ hm hi h
      have e : i = ds.length := by omega
      subst e
      rw [List.drop_of_length_le (Nat.le_refl _)]
      exact ⟨.nx ρ, rfl, fin ρ h⟩
    | succ m ih =>
      intro i ρ hm hi h
      have hlt : i < ds.length := by omega
      rw [List.drop_eq_getElem_cons hlt]
      obtain ⟨ρ1, h1, o, h2, h3⟩ := step i ds[i] ρ (List.getElem?_eq_getElem hlt) h
      have e : ∀ r : Option Out, (∀ o', o' = o → (match o' with
          | .nx ρ2 => sForL ga mb (ds.drop (i + 1)) ρ2
          | .ct ρ2 => sForL ga mb (ds.drop (i + 1)) ρ2
          | .bk ρ2 => some (.nx ρ2)
          | .rt r ρ2 => some (.rt r ρ2)) = r) → sForL ga mb (ds[i] :: ds.drop (i + 1)) ρ = r := by
        intro r hr
        show (ga ds[i] ρ).bind _ = _
        rw [h1]
        show (mb ρ1).bind _ = _
        rw [h2]
        exact hr o rfl
      cases o with
      | nx ρ2 => rw [e _ (fun o' ho => by rw [ho])]; exact ih (i + 1) _ (by omega) hlt h3
      | ct ρ2 => rw [e _ (fun o' ho => by rw [ho])]; exact ih (i + 1) _ (by omega) hlt h3
      | bk ρ2 => rw [e _ (fun o' ho => by rw [ho])]; exact ⟨_, rfl, finB _ h3⟩
      | rt r ρ2 => rw [e _ (fun o' ho => by rw [ho])]; exact ⟨_, rfl, finR _ _ h3⟩
  have := key ds.length 0 ρ0 (by omega) (Nat.zero_le _) h0
  rwa [List.drop_zero] at this
theorem rng_at {n i : Nat} {d : D} (h : (rngD 0 n)[i]? = some d) : i < n ∧ d = .int i := by
  unfold rngD at h
  rw [List.getElem?_map] at h
  cases e : (List.range n)[i]? with
  | none => rw [e] at h; cases h
  | some j =>
    rw [e] at h
    cases h
    obtain ⟨h1, h2⟩ := List.getElem?_eq_some_iff.mp e
    rw [List.getElem_range] at h2
    rw [List.length_range] at h1
    subst h2
    exact ⟨h1, by simp⟩
theorem rng_len (n : Nat) : (rngD 0 n).length = n := by
  unfold rngD
  rw [List.length_map, List.length_range]
theorem sizeLine_v : sizeLine = 16777216 := by rw [sizeLine_eq]
end L2.My

end
section
set_option Elab.async false
set_option linter.all false
set_option autoImplicit false
set_option maxRecDepth 100000
/-! K91m: the mirrors (printed by gen.py). -/
namespace L2.My
open PySem PySem.Spec PyProof.Rows
namespace K91
noncomputable section
/-- is_whole(value); slots 0:value -/
def mx_is_whole : MS := (sRet (mAndV (mIsi "int" (mNm' 0)) (mNotV (mIsi "bool" (mNm' 0)))))
def fm_is_whole : FM := fnM 1 mx_is_whole
/-- bands_of(thing); slots 0:thing 1:bands 2:row 3:k -/
def mx_bands_of : MS := (sSeq (sIf (mT (m2 oEq (mV (m2 oIx (mNm' 0) (mV (mC (.int 0))))) (mV (mC (.str "ware"))))) (sRet (mTup (mCons (mE (m2 oIx (mNm' 0) (mV (mC (.int 1))))) mNil))) sNil)
    (sSeq (sIf (mT (m2 oNe (mV (m2 oIx (mNm' 0) (mV (mC (.int 0))))) (mV (mC (.str "series"))))) (sRet (mTup mNil)) sNil)
    (sSeq (sSet 1 (mLst mNil))
    (sSeq (sFor (mItems (mE (m2 oIx (mNm' 0) (mV (mC (.int 1)))))) (gNm 2) (sSeq (sExpr (mExt 1 (mNm' 2)))
    (sFor (mRng1 (mV (m2 oSub (mV (m1 oLen' (mNm' 2))) (mV (mC (.int 1)))))) (gNm 3) (sExpr (mApp 1 (mE (m1 oTuple (mV (m1 oSorted (mV (m2 oAdd (mV (m2 oIx (mNm' 2) (mNm' 3))) (mV (m2 oIx (mNm' 2) (mV (m2 oAdd (mNm' 3) (mV (mC (.int 1))))))))))))))))))
    (sRet (m1 oTuple (mNm' 1)))))))
def fm_bands_of : FM := fnM 4 mx_bands_of
/-- lot_numbers(row); slots 0:row 1:k 2:lot 3:name -/
def mx_lot_numbers : MS := (sRet (fDc2 [1, 2, 3] [3] (mEnum (mVar 0)) (gTp 2 (gsCons (gNm 1) (gsCons (gNm 2) gsNil))) mYes (mItems (mVar 2)) (gNm 3) mYes (mVar 3) (mVar 1)))
def fm_lot_numbers : FM := fnM 4 mx_lot_numbers
/-- Rules.__init__(self, told); slots 0:self 1:told 2:thing 3:row -/
def mx_Rules_init : MS := (sSeq (sFldI 0 "Rules" "finds" (mE (m2 oIx (mNm' 1) (mV (mC (.int 0))))))
    (sSeq (sFldI 0 "Rules" "things" (mE (m2 oIx (mNm' 1) (mV (mC (.int 1))))))
    (sSeq (sFldI 0 "Rules" "bands" (mE (fLc [2] (mItems (mE (m2 oIx (mNm' 1) (mV (mC (.int 1)))))) (gNm 2) mYes (mE (mCall fm_bands_of (mACons (mVE (mVar 2)) mANil))))))
    (sFldI 0 "Rules" "lots" (mE (fLc [2] (mItems (mE (m2 oIx (mNm' 1) (mV (mC (.int 1)))))) (gNm 2) mYes (mE (mIf (mT (m2 oEq (mV (m2 oIx (mNm' 2) (mV (mC (.int 0))))) (mV (mC (.str "series"))))) (fLc [3] (mItems (mE (m2 oIx (mNm' 2) (mV (mC (.int 1)))))) (gNm 3) mYes (mE (mCall fm_lot_numbers (mACons (mVE (mVar 3)) mANil)))) (mLst mNil)))))))))
def fm_Rules_init : FM := fnM 4 mx_Rules_init
/-- is_number(value, many); slots 0:value 1:many -/
def mx_is_number : MS := (sRet (mAndV (mCall fm_is_whole (mACons (mVE (mVar 0)) mANil)) (mChain oLe oLt (mV (mC (.int 0))) (mNm' 0) (mNm' 1))))
def fm_is_number : FM := fnM 2 mx_is_number
/-- side_leads(rules, pair, n, k, a, b); slots 0:rules 1:pair 2:n 3:k 4:a 5:b 6:band -/
def mx_side_leads : MS := (sSeq (sIf (mOrT (mNotT (mT (mCall fm_is_number (mACons (mVE (mVar 2)) (mACons (mVE (mE (m1 oLen' (mV (m1 (oFld "Rules" "things") (mNm' 0)))))) mANil))))) (mNotT (mT (mCall fm_is_number (mACons (mVE (mVar 3)) (mACons (mVE (mE (m1 oLen' (mV (m2 oIx (mV (m1 (oFld "Rules" "bands") (mNm' 0))) (mNm' 2)))))) mANil)))))) (sRet (mC (.bl false))) sNil)
    (sSeq (sSet 6 (m2 oIx (mV (m2 oIx (mV (m1 (oFld "Rules" "bands") (mNm' 0))) (mNm' 2))) (mNm' 3)))
    (sSeq (sIf (mAndT (mT (m2 oEq (mV (m2 oIx (mNm' 1) (mV (mC (.int 1))))) (mNm' 5))) (mAndT (mT (m2 oIn (mV (m2 oIx (mNm' 1) (mV (mC (.int 0))))) (mNm' 6))) (mAndT (mT (m2 oIn (mNm' 4) (mNm' 6))) (mT (m2 oNotIn (mNm' 5) (mNm' 6)))))) (sRet (mC (.bl true))) sNil)
    (sRet (mAndV (m2 oEq (mV (m2 oIx (mNm' 1) (mV (mC (.int 0))))) (mNm' 4)) (mAndV (m2 oIn (mV (m2 oIx (mNm' 1) (mV (mC (.int 1))))) (mNm' 6)) (mAndV (m2 oIn (mNm' 5) (mNm' 6)) (m2 oNotIn (mNm' 4) (mNm' 6)))))))))
def fm_side_leads : FM := fnM 7 mx_side_leads
/-- row_directions(rules, n, a, b); slots 0:rules 1:n 2:a 3:b 4:directions 5:numbers 6:one 7:other -/
def mx_row_directions : MS := (sSeq (sSet 4 (mLst mNil))
    (sSeq (sFor (mItems (mE (m2 oIx (mV (m1 (oFld "Rules" "lots") (mNm' 0))) (mNm' 1)))) (gNm 5) (sSeq (sSet 6 (mGet (mVar 5) (mNm' 2)))
    (sSeq (sSet 7 (mGet (mVar 5) (mNm' 3)))
    (sIf (mAndT (mT (m2 oNotN (mNm' 6) (mV (mC .non)))) (mAndT (mT (m2 oNotN (mNm' 7) (mV (mC .non)))) (mT (m2 oNe (mNm' 6) (mNm' 7))))) (sExpr (mApp 4 (mE (m2 oLt (mNm' 6) (mNm' 7))))) sNil))))
    (sRet (mF (mVar 4)))))
def fm_row_directions : FM := fnM 8 mx_row_directions
/-- link_leads(rules, pair, n, a, b); slots 0:rules 1:pair 2:n 3:a 4:b 5:directions -/
def mx_link_leads : MS := (sSeq (sIf (mNotT (mT (mCall fm_is_number (mACons (mVE (mVar 2)) (mACons (mVE (mE (m1 oLen' (mV (m1 (oFld "Rules" "things") (mNm' 0)))))) mANil))))) (sRet (mC (.bl false))) sNil)
    (sSeq (sSet 5 (mCall fm_row_directions (mACons (mVE (mVar 0)) (mACons (mVE (mVar 2)) (mACons (mVE (mE (m2 oIx (mNm' 1) (mV (mC (.int 0)))))) (mACons (mVE (mE (m2 oIx (mNm' 1) (mV (mC (.int 1)))))) mANil))))))
    (sRet (mAnyIn 5 (mE (mCall fm_row_directions (mACons (mVE (mVar 0)) (mACons (mVE (mVar 2)) (mACons (mVE (mVar 3)) (mACons (mVE (mVar 4)) mANil))))))))))
def fm_link_leads : FM := fnM 6 mx_link_leads
/-- told_pair(rules, line); slots 0:rules 1:line 2:n 3:a 4:b 5:thing -/
def mx_told_pair : MS := (sSeq (sAsg (mE (mSl (mNm' 1) (mSo (mV (mC (.int 1)))) mNo)) (gTp 3 (gsCons (gNm 2) (gsCons (gNm 3) (gsCons (gNm 4) gsNil)))))
    (sSeq (sIf (mNotT (mT (mCall fm_is_number (mACons (mVE (mVar 2)) (mACons (mVE (mE (m1 oLen' (mV (m1 (oFld "Rules" "things") (mNm' 0)))))) mANil))))) (sRet (mC .non)) sNil)
    (sSeq (sSet 5 (m2 oIx (mV (m1 (oFld "Rules" "things") (mNm' 0))) (mNm' 2)))
    (sSeq (sIf (mAndT (mT (m2 oEq (mV (m2 oIx (mNm' 5) (mV (mC (.int 0))))) (mV (mC (.str "elder"))))) (mAndT (mT (m2 oIn (mNm' 3) (mV (m2 oIx (mNm' 5) (mV (mC (.int 1))))))) (mT (m2 oIn (mNm' 4) (mV (m2 oIx (mNm' 5) (mV (mC (.int 2))))))))) (sRet (mTup (mCons (mVar 3) (mCons (mVar 4) mNil)))) sNil)
    (sRet (mC .non))))))
def fm_told_pair : FM := fnM 6 mx_told_pair
/-- years_pair(rules, line); slots 0:rules 1:line 2:n 3:m 4:a 5:b 6:one 7:other -/
def mx_years_pair : MS := (sSeq (sAsg (mE (mSl (mNm' 1) (mSo (mV (mC (.int 1)))) mNo)) (gTp 4 (gsCons (gNm 2) (gsCons (gNm 3) (gsCons (gNm 4) (gsCons (gNm 5) gsNil))))))
    (sSeq (sIf (mOrT (mNotT (mT (mCall fm_is_number (mACons (mVE (mVar 2)) (mACons (mVE (mE (m1 oLen' (mV (m1 (oFld "Rules" "things") (mNm' 0)))))) mANil))))) (mNotT (mT (mCall fm_is_number (mACons (mVE (mVar 3)) (mACons (mVE (mE (m1 oLen' (mV (m1 (oFld "Rules" "things") (mNm' 0)))))) mANil)))))) (sRet (mC .non)) sNil)
    (sSeq (sSet 6 (m2 oIx (mV (m1 (oFld "Rules" "things") (mNm' 0))) (mNm' 2)))
    (sSeq (sSet 7 (m2 oIx (mV (m1 (oFld "Rules" "things") (mNm' 0))) (mNm' 3)))
    (sSeq (sIf (mOrT (mT (m2 oNe (mV (m2 oIx (mNm' 6) (mV (mC (.int 0))))) (mV (mC (.str "years"))))) (mOrT (mT (m2 oNe (mV (m2 oIx (mNm' 7) (mV (mC (.int 0))))) (mV (mC (.str "years"))))) (mOrT (mT (m2 oNotIn (mNm' 4) (mV (m2 oIx (mNm' 6) (mV (mC (.int 1))))))) (mT (m2 oNotIn (mNm' 5) (mV (m2 oIx (mNm' 7) (mV (mC (.int 1)))))))))) (sRet (mC .non)) sNil)
    (sSeq (sIf (mOrT (mT (m2 oIsN (mV (m2 oIx (mNm' 6) (mV (mC (.int 3))))) (mV (mC .non)))) (mOrT (mT (m2 oIsN (mV (m2 oIx (mNm' 7) (mV (mC (.int 2))))) (mV (mC .non)))) (mT (m2 oGe (mV (m2 oIx (mNm' 6) (mV (mC (.int 3))))) (mV (m2 oIx (mNm' 7) (mV (mC (.int 2))))))))) (sRet (mC .non)) sNil)
    (sRet (mTup (mCons (mVar 4) (mCons (mVar 5) mNil))))))))))
def fm_years_pair : FM := fnM 8 mx_years_pair
/-- chain_pair(pairs, line); slots 0:pairs 1:line 2:i 3:j -/
def mx_chain_pair : MS := (sSeq (sAsg (mE (mSl (mNm' 1) (mSo (mV (mC (.int 1)))) mNo)) (gTp 2 (gsCons (gNm 2) (gsCons (gNm 3) gsNil))))
    (sSeq (sIf (mOrT (mNotT (mT (mCall fm_is_number (mACons (mVE (mVar 2)) (mACons (mVE (mE (m1 oLen' (mNm' 0)))) mANil))))) (mOrT (mNotT (mT (mCall fm_is_number (mACons (mVE (mVar 3)) (mACons (mVE (mE (m1 oLen' (mNm' 0)))) mANil))))) (mT (m2 oNe (mV (m2 oIx (mV (m2 oIx (mNm' 0) (mNm' 2))) (mV (mC (.int 1))))) (mV (m2 oIx (mV (m2 oIx (mNm' 0) (mNm' 3))) (mV (mC (.int 0))))))))) (sRet (mC .non)) sNil)
    (sRet (mTup (mCons (mE (m2 oIx (mV (m2 oIx (mNm' 0) (mNm' 2))) (mV (mC (.int 0))))) (mCons (mE (m2 oIx (mV (m2 oIx (mNm' 0) (mNm' 3))) (mV (mC (.int 1))))) mNil))))))
def fm_chain_pair : FM := fnM 4 mx_chain_pair
/-- line_pair(rules, pairs, line); slots 0:rules 1:pairs 2:line 3:pair -/
def mx_line_pair : MS := (sSeq (sIf (mOrT (mNotT (mT (mIsi "tuple" (mNm' 2)))) (mT (m2 oLt (mV (m1 oLen' (mNm' 2))) (mV (mC (.int 3)))))) (sRet (mC .non)) sNil)
    (sSeq (sIf (mAndT (mT (m2 oEq (mV (m2 oIx (mNm' 2) (mV (mC (.int 0))))) (mV (mC (.str "told"))))) (mT (m2 oEq (mV (m1 oLen' (mNm' 2))) (mV (mC (.int 4)))))) (sRet (mCall fm_told_pair (mACons (mVE (mVar 0)) (mACons (mVE (mVar 2)) mANil)))) sNil)
    (sSeq (sIf (mAndT (mT (m2 oEq (mV (m2 oIx (mNm' 2) (mV (mC (.int 0))))) (mV (mC (.str "years"))))) (mT (m2 oEq (mV (m1 oLen' (mNm' 2))) (mV (mC (.int 5)))))) (sRet (mCall fm_years_pair (mACons (mVE (mVar 0)) (mACons (mVE (mVar 2)) mANil)))) sNil)
    (sSeq (sIf (mAndT (mT (m2 oEq (mV (m2 oIx (mNm' 2) (mV (mC (.int 0))))) (mV (mC (.str "chain"))))) (mT (m2 oEq (mV (m1 oLen' (mNm' 2))) (mV (mC (.int 3)))))) (sRet (mCall fm_chain_pair (mACons (mNm' 1) (mACons (mVE (mVar 2)) mANil)))) sNil)
    (sSeq (sIf (mNotT (mT (mCall fm_is_number (mACons (mVE (mE (m2 oIx (mNm' 2) (mV (mC (.int 1)))))) (mACons (mVE (mE (m1 oLen' (mNm' 1)))) mANil))))) (sRet (mC .non)) sNil)
    (sSeq (sSet 3 (m2 oIx (mNm' 1) (mV (m2 oIx (mNm' 2) (mV (mC (.int 1)))))))
    (sSeq (sIf (mAndT (mT (m2 oEq (mV (m2 oIx (mNm' 2) (mV (mC (.int 0))))) (mV (mC (.str "side"))))) (mAndT (mT (m2 oEq (mV (m1 oLen' (mNm' 2))) (mV (mC (.int 6))))) (mT (mCall fm_side_leads (mACons (mVE (mVar 0)) (mACons (mVE (mVar 3)) (mACons (mVE (mE (m2 oIx (mNm' 2) (mV (mC (.int 2)))))) (mACons (mVE (mE (m2 oIx (mNm' 2) (mV (mC (.int 3)))))) (mACons (mVE (mE (m2 oIx (mNm' 2) (mV (mC (.int 4)))))) (mACons (mVE (mE (m2 oIx (mNm' 2) (mV (mC (.int 5)))))) mANil)))))))))) (sRet (mTup (mCons (mE (m2 oIx (mNm' 2) (mV (mC (.int 4))))) (mCons (mE (m2 oIx (mNm' 2) (mV (mC (.int 5))))) mNil)))) sNil)
    (sSeq (sIf (mAndT (mT (m2 oEq (mV (m2 oIx (mNm' 2) (mV (mC (.int 0))))) (mV (mC (.str "link"))))) (mAndT (mT (m2 oEq (mV (m1 oLen' (mNm' 2))) (mV (mC (.int 5))))) (mT (mCall fm_link_leads (mACons (mVE (mVar 0)) (mACons (mVE (mVar 3)) (mACons (mVE (mE (m2 oIx (mNm' 2) (mV (mC (.int 2)))))) (mACons (mVE (mE (m2 oIx (mNm' 2) (mV (mC (.int 3)))))) (mACons (mVE (mE (m2 oIx (mNm' 2) (mV (mC (.int 4)))))) mANil))))))))) (sRet (mTup (mCons (mE (m2 oIx (mNm' 2) (mV (mC (.int 3))))) (mCons (mE (m2 oIx (mNm' 2) (mV (mC (.int 4))))) mNil)))) sNil)
    (sRet (mC .non))))))))))
def fm_line_pair : FM := fnM 4 mx_line_pair
/-- pairs_of(dossier, value); slots 0:dossier 1:value 2:rules 3:pairs 4:line 5:pair -/
def mx_pairs_of : MS := (sSeq (sIf (mNotT (mT (mIsi "tuple" (mNm' 1)))) (sRet (mC .non)) sNil)
    (sSeq (sSet 2 (mMake "Rules" fm_Rules_init (mCons (mVar 0) mNil)))
    (sSeq (sSet 3 (mLst mNil))
    (sSeq (sFor (mItems (mVar 1)) (gNm 4) (sSeq (sSet 5 (mCall fm_line_pair (mACons (mVE (mVar 2)) (mACons (mNm' 3) (mACons (mVE (mVar 4)) mANil)))))
    (sSeq (sIf (mT (m2 oIsN (mNm' 5) (mV (mC .non)))) (sRet (mC .non)) sNil)
    (sExpr (mApp 3 (mVar 5))))))
    (sRet (m1 oTuple (mNm' 3)))))))
def fm_pairs_of : FM := fnM 6 mx_pairs_of
/-- derives(dossier, value, a, b); slots 0:dossier 1:value 2:a 3:b 4:pairs -/
def mx_derives : MS := (sSeq (sSet 4 (mCall fm_pairs_of (mACons (mVE (mVar 0)) (mACons (mVE (mVar 1)) mANil))))
    (sRet (mAndV (m2 oNotN (mNm' 4) (mV (mC .non))) (mAndV (m2 oGt (mV (m1 oLen' (mNm' 4))) (mV (mC (.int 0)))) (m2 oEq (mV (m2 oIx (mNm' 4) (mV (m1 oNeg (mV (mC (.int 1))))))) (mV (mTup (mCons (mVar 2) (mCons (mVar 3) mNil)))))))))
def fm_derives : FM := fnM 5 mx_derives
/-- line_text(number, line, pair); slots 0:number 1:line 2:pair 3:named 4:words 5:one -/
def mx_line_text : MS := (sSeq (sSet 3 (mIf (mT (m2 oEq (mV (m2 oIx (mNm' 1) (mV (mC (.int 0))))) (mV (mC (.str "told"))))) (mSl (mNm' 1) (mSo (mV (mC (.int 1)))) (mSo (mV (mC (.int 2))))) (mSl (mNm' 1) (mSo (mV (mC (.int 1)))) (mSo (mV (mC (.int 3)))))))
    (sSeq (sSet 4 (m2 oAdd (mV (mLst (mCons (mE (m1 oStr (mNm' 0))) (mCons (mE (m2 oIx (mNm' 1) (mV (mC (.int 0))))) mNil)))) (mV (fLc [5] (mItems (mVar 3)) (gNm 5) mYes (mE (m1 oStr (mNm' 5)))))))
    (sRet (m2 oAdd (mV (m1 (oJoin " ") (mNm' 4))) (mV (mJoined (jCons (mC (.str ": ")) (jCons (m1 oFmt (mV (m2 oIx (mNm' 2) (mV (mC (.int 0)))))) (jCons (mC (.str " < ")) (jCons (m1 oFmt (mV (m2 oIx (mNm' 2) (mV (mC (.int 1)))))) jNil))))))))))
def fm_line_text : FM := fnM 6 mx_line_text
/-- print_lines(dossier, lines); slots 0:dossier 1:lines 2:pairs 3:number 4:line 5:pair -/
def mx_print_lines : MS := (sSeq (sSet 2 (mCall fm_pairs_of (mACons (mVE (mVar 0)) (mACons (mVE (mVar 1)) mANil))))
    (sRet (m1 oTuple (mV (fLc [3, 4, 5] (mEnumZ (mVar 1) (mVar 2)) (gTp 2 (gsCons (gNm 3) (gsCons (gTp 2 (gsCons (gNm 4) (gsCons (gNm 5) gsNil))) gsNil))) mYes (mE (mCall fm_line_text (mACons (mVE (mVar 3)) (mACons (mVE (mVar 4)) (mACons (mVE (mVar 5)) mANil))))))))))
def fm_print_lines : FM := fnM 6 mx_print_lines
/-- _law_deck(script); slots 0:script 1:cell -/
def mx_law_deck : MS := (sRet (mLst (mCons (mE (fLc [1] (mItems (mE (mSl (mNm' 0) mNo (mSo (mV (mC (.int 63))))))) (gNm 1) mYes (mE (m1 oAbs (mV (m1 oInt (mNm' 1))))))) (mCons (mE (mC (.int 0))) (mCons (mE (mC (.int 1))) (mCons (mE (mC (.int 0))) (mCons (mE (mC (.int 7))) (mCons (mE (mC (.int 0))) mNil))))))))
def fm_law_deck : FM := fnM 2 mx_law_deck
/-- _law_draw(deck, many); slots 0:deck 1:many 2:cell 3:digit 4:once -/
def mx_law_draw : MS := (sSeq (sSetI 0 (mE (m2 oAdd (mV (m2 oIx (mNm' 0) (mV (mC (.int 5))))) (mV (mC (.int 1))))) (mV (mC (.int 5))))
    (sSeq (sIf (mAndT (mT (m2 oLt (mV (m2 oIx (mNm' 0) (mV (mC (.int 2))))) (mV (mC (.int 2))))) (mT (m2 oLt (mV (m2 oIx (mNm' 0) (mV (mC (.int 1))))) (mV (m1 oLen' (mV (m2 oIx (mNm' 0) (mV (mC (.int 0)))))))))) (sSeq (sSet 2 (m2 oIx (mV (m2 oIx (mNm' 0) (mV (mC (.int 0))))) (mV (m2 oIx (mNm' 0) (mV (mC (.int 1)))))))
    (sSeq (sSetI 0 (mE (m2 oAdd (mV (m2 oIx (mNm' 0) (mV (mC (.int 1))))) (mV (mC (.int 1))))) (mV (mC (.int 1))))
    (sSeq (sSetI 0 (mE (mIf (mT (m2 oGe (mNm' 2) (mV (m2 oPow (mV (mC (.int 10))) (mV (mC (.int 18))))))) (mF (mVar 2)) (mC (.int 1)))) (mV (mC (.int 2))))
    (sSeq (sSetI 0 (mE (mC (.int 60))) (mV (mC (.int 3))))
    (sSetI 0 (mE (m2 oMod (mV (m1 oInt (mV (m2 oAdd (mV (m2 oAdd (mV (m2 oMul (mV (m2 oIx (mNm' 0) (mV (mC (.int 4))))) (mV (mC (.int 48271))))) (mV (m2 oMod (mV (m1 oInt (mNm' 2))) (mV (mC (.int 2147483629))))))) (mV (m2 oIx (mNm' 0) (mV (mC (.int 1))))))))) (mV (mC (.int 2147483647))))) (mV (mC (.int 4)))))))) sNil)
    (sSeq (sIf (mT (m2 oGt (mV (m2 oIx (mNm' 0) (mV (mC (.int 2))))) (mV (mC (.int 1))))) (sSeq (sSet 3 (m2 oMod (mV (m1 oInt (mV (m2 oIx (mNm' 0) (mV (mC (.int 2))))))) (mNm' 1)))
    (sSeq (sSetI 0 (mE (m2 oSub (mV (m2 oIx (mNm' 0) (mV (mC (.int 3))))) (mV (mC (.int 1))))) (mV (mC (.int 3))))
    (sSeq (sSetI 0 (mE (mIf (mT (m2 oGt (mV (m2 oIx (mNm' 0) (mV (mC (.int 3))))) (mV (mC (.int 0))))) (m2 oDiv (mV (m2 oIx (mNm' 0) (mV (mC (.int 2))))) (mNm' 1)) (mC (.int 1)))) (mV (mC (.int 2))))
    (sRet (mF (mVar 3)))))) sNil)
    (sSeq (sSet 4 (m2 oMod (mV (m1 oInt (mV (m2 oAdd (mV (m2 oAdd (mV (m2 oMul (mV (m2 oIx (mNm' 0) (mV (mC (.int 4))))) (mV (mC (.int 69621))))) (mV (m2 oMul (mV (m2 oIx (mNm' 0) (mV (mC (.int 5))))) (mV (mC (.int 40692))))))) (mV (mC (.int 11))))))) (mV (mC (.int 2147483647)))))
    (sSeq (sSetI 0 (mE (m2 oMod (mV (m1 oInt (mV (m2 oAdd (mV (m2 oMul (mNm' 4) (mNm' 4))) (mV (m2 oIx (mNm' 0) (mV (mC (.int 5))))))))) (mV (mC (.int 2147483629))))) (mV (mC (.int 4))))
    (sRet (m2 oMod (mV (m2 oDiv (mV (m2 oMod (mV (m1 oInt (mV (m2 oAdd (mV (m2 oMul (mV (m2 oIx (mNm' 0) (mV (mC (.int 4))))) (mV (mC (.int 16807))))) (mV (m2 oDiv (mNm' 4) (mV (mC (.int 7))))))))) (mV (mC (.int 2147483647))))) (mV (mC (.int 16))))) (mNm' 1))))))))
def fm_law_draw : FM := fnM 5 mx_law_draw
/-- _law_pick(deck, some); slots 0:deck 1:some -/
def mx_law_pick : MS := (sRet (m2 oIx (mNm' 1) (mV (mCall fm_law_draw (mACons (mNm' 0) (mACons (mVE (mE (m1 oLen' (mNm' 1)))) mANil))))))
def fm_law_pick : FM := fnM 2 mx_law_pick
/-- _law_shuffled(deck, some); slots 0:deck 1:some 2:left 3:k -/
def mx_law_shuffled : MS := (sSeq (sSet 2 (m1 oList (mNm' 1)))
    (sRet (fLc [3] (mRng1 (mV (m1 oLen' (mNm' 1)))) (gNm 3) mYes (mE (mPop 2 (mV (mCall fm_law_draw (mACons (mNm' 0) (mACons (mVE (mE (m1 oLen' (mNm' 2)))) mANil)))))))))
def fm_law_shuffled : FM := fnM 4 mx_law_shuffled
/-- _law_is(found, due); slots 0:found 1:due 2:k -/
def mx_law_is (self_ : FM) : MS := (sSeq (sIf (mT (m2 oIsN (mNm' 1) (mV (mC .non)))) (sRet (m2 oIsN (mNm' 0) (mV (mC .non)))) sNil)
    (sSeq (sIf (mT (mIsi "tuple" (mNm' 1))) (sSeq (sIf (mOrT (mNotT (mT (mIsi "tuple" (mNm' 0)))) (mT (m2 oNe (mV (m1 oLen' (mNm' 0))) (mV (m1 oLen' (mNm' 1)))))) (sRet (mC (.bl false))) sNil)
    (sRet (m2 oEq (mV (fLc [2] (mRng1 (mV (m1 oLen' (mNm' 1)))) (gNm 2) (mNotT (mT (mCall self_ (mACons (mVE (mE (m2 oIx (mNm' 0) (mNm' 2)))) (mACons (mVE (mE (m2 oIx (mNm' 1) (mNm' 2)))) mANil))))) (mVar 2))) (mV (mLst mNil))))) sNil)
    (sSeq (sIf (mOrT (mT (mIsi "bool" (mNm' 1))) (mT (mIsi "bool" (mNm' 0)))) (sRet (mAndV (mIsi "bool" (mNm' 1)) (mAndV (mIsi "bool" (mNm' 0)) (m2 oEq (mNm' 0) (mNm' 1))))) sNil)
    (sSeq (sIf (mT (mIsi "int" (mNm' 1))) (sRet (mAndV (mIsi "int" (mNm' 0)) (m2 oEq (mNm' 0) (mNm' 1)))) sNil)
    (sRet (mAndV (mIsi "str" (mNm' 0)) (m2 oEq (mNm' 0) (mNm' 1))))))))
def fm_law_is : Nat → FM
  | 0 => fun _ => none
  | n + 1 => fnM 3 (mx_law_is (fm_law_is n))
/-- _law_names(deck, many); slots 0:deck 1:many 2:signs 3:made 4:k 5:name 6:j -/
def mx_law_names : MS := (sSeq (sSet 2 (mC (.str "abcdefghijklmnopqrstuvwxyz0123456789.")))
    (sSeq (sSet 3 (mLst mNil))
    (sSeq (sFor (mRng1 (mNm' 1)) (gNm 4) (sSeq (sSet 5 (m1 (oJoin "") (mV (fLc [6] (mRng1 (mV (mCall fm_law_pick (mACons (mNm' 0) (mACons (mVE (mE (mLst (mCons (mE (mC (.int 1))) (mCons (mE (mC (.int 2))) (mCons (mE (mC (.int 2))) (mCons (mE (mC (.int 3))) (mCons (mE (mC (.int 4))) (mCons (mE (mC (.int 10))) mNil))))))))) mANil))))) (gNm 6) mYes (mE (m2 oIx (mNm' 2) (mV (mCall fm_law_draw (mACons (mNm' 0) (mACons (mVE (mE (mC (.int 37)))) mANil))))))))))
    (sSeq (sFor (mRng1 (mV (m2 oAdd (mNm' 1) (mV (mC (.int 2)))))) (gNm 6) (sSeq (sIf (mT (m2 oNotIn (mNm' 5) (mNm' 3))) sBreak sNil)
    (sSet 5 (m2 oAdd (mV (mC (.str "n"))) (mV (m1 oStr (mNm' 6)))))))
    (sExpr (mApp 3 (mVar 5))))))
    (sRet (mF (mVar 3))))))
def fm_law_names : FM := fnM 7 mx_law_names
/-- _law_bands(thing); slots 0:thing 1:made 2:row 3:k -/
def mx_law_bands : MS := (sSeq (sIf (mT (m2 oEq (mV (m2 oIx (mNm' 0) (mV (mC (.int 0))))) (mV (mC (.str "ware"))))) (sRet (mLst (mCons (mE (m2 oIx (mNm' 0) (mV (mC (.int 1))))) mNil))) sNil)
    (sSeq (sSet 1 (mLst mNil))
    (sSeq (sIf (mT (m2 oEq (mV (m2 oIx (mNm' 0) (mV (mC (.int 0))))) (mV (mC (.str "series"))))) (sFor (mItems (mE (m2 oIx (mNm' 0) (mV (mC (.int 1)))))) (gNm 2) (sSet 1 (m2 oAdd (mV (m2 oAdd (mNm' 1) (mV (m1 oList (mNm' 2))))) (mV (fLc [3] (mRng1 (mV (m2 oSub (mV (m1 oLen' (mNm' 2))) (mV (mC (.int 1)))))) (gNm 3) mYes (mE (m1 oTuple (mV (m1 oSorted (mV (m2 oAdd (mV (m2 oIx (mNm' 2) (mNm' 3))) (mV (m2 oIx (mNm' 2) (mV (m2 oAdd (mNm' 3) (mV (mC (.int 1)))))))))))))))))) sNil)
    (sRet (mF (mVar 1))))))
def fm_law_bands : FM := fnM 4 mx_law_bands
/-- _law_row_pairs(thing); slots 0:thing 1:made 2:row 3:k 4:j 5:c 6:d -/
def mx_law_row_pairs : MS := (sSeq (sSet 1 (mLst mNil))
    (sSeq (sFor (mItems (mE (m2 oIx (mNm' 0) (mV (mC (.int 1)))))) (gNm 2) (sFor (mRng1 (mV (m1 oLen' (mNm' 2)))) (gNm 3) (sFor (mRng1 (mNm' 3)) (gNm 4) (sFor (mItems (mE (m2 oIx (mNm' 2) (mNm' 4)))) (gNm 5) (sSet 1 (m2 oAdd (mNm' 1) (mV (fLc [6] (mItems (mE (m2 oIx (mNm' 2) (mNm' 3)))) (gNm 6) mYes (mE (mTup (mCons (mVar 5) (mCons (mVar 6) mNil))))))))))))
    (sRet (mF (mVar 1)))))
def fm_law_row_pairs : FM := fnM 7 mx_law_row_pairs
/-- _law_thing(deck, finds, kind); slots 0:deck 1:finds 2:kind 3:some 4:cut 5:rows 6:k 7:row 8:lots 9:y -/
def mx_law_thing : MS := (sSeq (sSet 3 (mCall fm_law_shuffled (mACons (mNm' 0) (mACons (mVE (mVar 1)) mANil))))
    (sSeq (sSet 4 (m2 oAdd (mV (mC (.int 1))) (mV (mCall fm_law_draw (mACons (mNm' 0) (mACons (mVE (mE (mC (.int 3)))) mANil))))))
    (sSeq (sIf (mT (m2 oEq (mNm' 2) (mV (mC (.int 0))))) (sRet (mTup (mCons (mE (mC (.str "elder"))) (mCons (mE (m1 oTuple (mV (m1 oSorted (mV (mSl (mNm' 3) mNo (mSo (mNm' 4)))))))) (mCons (mE (m1 oTuple (mV (m1 oSorted (mV (mSl (mNm' 3) (mSo (mNm' 4)) (mSo (mV (m2 oAdd (mV (m2 oAdd (mNm' 4) (mV (mC (.int 1))))) (mV (mCall fm_law_draw (mACons (mNm' 0) (mACons (mVE (mE (mC (.int 2)))) mANil))))))))))))) mNil))))) sNil)
    (sSeq (sIf (mT (m2 oEq (mNm' 2) (mV (mC (.int 1))))) (sRet (mTup (mCons (mE (mC (.str "ware"))) (mCons (mE (m1 oTuple (mV (m1 oSorted (mV (mSl (mNm' 3) mNo (mSo (mV (m2 oAdd (mV (mC (.int 2))) (mV (mCall fm_law_draw (mACons (mNm' 0) (mACons (mVE (mE (mC (.int 3)))) mANil))))))))))))) mNil)))) sNil)
    (sSeq (sIf (mT (m2 oEq (mNm' 2) (mV (mC (.int 2))))) (sSeq (sSet 5 (mLst mNil))
    (sSeq (sFor (mRng1 (mV (m2 oAdd (mV (mC (.int 1))) (mV (mCall fm_law_draw (mACons (mNm' 0) (mACons (mVE (mE (mC (.int 3)))) mANil))))))) (gNm 6) (sSeq (sSet 7 (mCall fm_law_shuffled (mACons (mNm' 0) (mACons (mVE (mVar 1)) mANil))))
    (sSeq (sSet 8 (mLst (mCons (mE (m1 oTuple (mV (m1 oSorted (mV (mSl (mNm' 7) mNo (mSo (mNm' 4)))))))) (mCons (mE (m1 oTuple (mV (m1 oSorted (mV (mSl (mNm' 7) (mSo (mNm' 4)) (mSo (mV (m2 oAdd (mNm' 4) (mV (mC (.int 2)))))))))))) (mCons (mE (mTup (mCons (mE (m2 oIx (mNm' 7) (mV (mC (.int 5))))) mNil))) mNil)))))
    (sExpr (mApp 5 (mE (m1 oTuple (mV (mSl (mNm' 8) mNo (mSo (mV (m2 oAdd (mV (mC (.int 2))) (mV (mCall fm_law_draw (mACons (mNm' 0) (mACons (mVE (mE (mC (.int 2)))) mANil))))))))))))))))
    (sRet (mTup (mCons (mE (mC (.str "series"))) (mCons (mE (m1 oTuple (mNm' 5))) mNil)))))) sNil)
    (sSeq (sSet 9 (m2 oSub (mV (mCall fm_law_draw (mACons (mNm' 0) (mACons (mVE (mE (mC (.int 60)))) mANil)))) (mV (mC (.int 30)))))
    (sRet (mTup (mCons (mE (mC (.str "years"))) (mCons (mE (m1 oTuple (mV (m1 oSorted (mV (mSl (mNm' 3) mNo (mSo (mNm' 4)))))))) (mCons (mE (mCall fm_law_pick (mACons (mNm' 0) (mACons (mVE (mE (mLst (mCons (mE (mC .non)) (mCons (mVar 9) mNil))))) mANil)))) (mCons (mE (m2 oAdd (mNm' 9) (mV (mCall fm_law_draw (mACons (mNm' 0) (mACons (mVE (mE (mC (.int 9)))) mANil)))))) mNil))))))))))))
def fm_law_thing : FM := fnM 10 mx_law_thing
/-- _law_dossier(deck); slots 0:deck 1:finds 2:core 3:many 4:spots 5:things 6:k -/
def mx_law_dossier : MS := (sSeq (sSet 1 (m1 oTuple (mV (m1 oSorted (mV (mCall fm_law_names (mACons (mNm' 0) (mACons (mVE (mE (m2 oAdd (mV (mC (.int 6))) (mV (mCall fm_law_draw (mACons (mNm' 0) (mACons (mVE (mE (mC (.int 7)))) mANil))))))) mANil))))))))
    (sSeq (sSet 2 (fLc [6] (mRng1 (mV (m2 oAdd (mV (mC (.int 10))) (mV (mCall fm_law_draw (mACons (mNm' 0) (mACons (mVE (mE (mC (.int 8)))) mANil))))))) (gNm 6) mYes (mE (mCall fm_law_thing (mACons (mNm' 0) (mACons (mVE (mVar 1)) (mACons (mVE (mE (mIf (mT (m2 oLt (mNm' 6) (mV (mC (.int 4))))) (mF (mVar 6)) (mCall fm_law_draw (mACons (mNm' 0) (mACons (mVE (mE (mC (.int 4)))) mANil)))))) mANil)))))))
    (sSeq (sSet 2 (m2 oAdd (mNm' 2) (mV (mLst (mCons (mE (mTup (mCons (mE (mC (.str "years"))) (mCons (mE (mTup (mCons (mE (m2 oIx (mNm' 1) (mV (mC (.int 0))))) mNil))) (mCons (mE (mC .non)) (mCons (mE (m1 oNeg (mV (mC (.int 40))))) mNil)))))) (mCons (mE (mTup (mCons (mE (mC (.str "years"))) (mCons (mE (mTup (mCons (mE (m2 oIx (mNm' 1) (mV (m1 oNeg (mV (mC (.int 1))))))) mNil))) (mCons (mE (mC (.int 40))) (mCons (mE (mC .non)) mNil)))))) mNil))))))
    (sSeq (sSet 3 (mCall fm_law_pick (mACons (mNm' 0) (mACons (mVE (mE (mLst (mCons (mE (m1 oLen' (mNm' 2))) (mCons (mE (m2 oAdd (mV (m1 oLen' (mNm' 2))) (mV (mC (.int 2))))) (mCons (mE (mC (.int 40))) (mCons (mE (mC (.int 101))) (mCons (mE (mC (.int 120))) (mCons (mE (mC (.int 300))) mNil))))))))) mANil))))
    (sSeq (sSet 4 (m1 oSorted (mV (mSl (mV (mCall fm_law_shuffled (mACons (mNm' 0) (mACons (mVE (mE (mLR1 (mV (m2 oMax (mNm' 3) (mV (m1 oLen' (mNm' 2)))))))) mANil)))) mNo (mSo (mV (m1 oLen' (mNm' 2))))))))
    (sSeq (sSet 2 (mCall fm_law_shuffled (mACons (mNm' 0) (mACons (mVE (mVar 2)) mANil))))
    (sSeq (sSet 5 (mLst mNil))
    (sSeq (sFor (mRng1 (mV (m2 oMax (mNm' 3) (mV (m1 oLen' (mNm' 2)))))) (gNm 6) (sIf (mT (m2 oIn (mNm' 6) (mNm' 4))) (sExpr (mApp 5 (mE (m2 oIx (mNm' 2) (mV (mIndex (mNm' 4) (mNm' 6))))))) (sExpr (mApp 5 (mE (mCall fm_law_pick (mACons (mNm' 0) (mACons (mVE (mE (mLst (mCons (mE (mTup (mCons (mE (mC (.str "ware"))) (mCons (mE (mTup (mCons (mE (m2 oIx (mNm' 1) (mV (mC (.int 0))))) mNil))) mNil)))) (mCons (mE (mTup (mCons (mE (mC (.str "ware"))) (mCons (mE (mTup (mCons (mE (m2 oIx (mNm' 1) (mV (m1 oNeg (mV (mC (.int 1))))))) mNil))) mNil)))) (mCons (mE (mTup (mCons (mE (mC (.str "years"))) (mCons (mE (mTup (mCons (mE (m2 oIx (mNm' 1) (mV (mC (.int 1))))) mNil))) (mCons (mE (m1 oNeg (mV (mC (.int 9999))))) (mCons (mE (mC .non)) mNil)))))) mNil)))))) mANil))))))))
    (sRet (mTup (mCons (mE (mTup (mCons (mVar 1) (mCons (mE (m1 oTuple (mNm' 5))) mNil)))) (mCons (mVar 4) mNil))))))))))))
def fm_law_dossier : FM := fnM 7 mx_law_dossier
/-- _law_told(deck, things, spots, kind); slots 0:deck 1:things 2:spots 3:kind 4:some 5:n 6:a 7:b 8:early 9:late 10:m -/
def mx_law_told : MS := (sSeq (sIf (mT (m2 oEq (mNm' 3) (mV (mC (.str "told"))))) (sSeq (sSet 4 (fLc [5] (mItems (mVar 2)) (gNm 5) (mT (m2 oEq (mV (m2 oIx (mV (m2 oIx (mNm' 1) (mNm' 5))) (mV (mC (.int 0))))) (mV (mC (.str "elder"))))) (mVar 5)))
    (sSeq (sIf (mT (m2 oEq (mNm' 4) (mV (mLst mNil)))) (sRet (mC .non)) sNil)
    (sSeq (sSet 5 (mCall fm_law_pick (mACons (mNm' 0) (mACons (mVE (mVar 4)) mANil))))
    (sSeq (sPar 6 7 (mCall fm_law_pick (mACons (mNm' 0) (mACons (mVE (mE (m2 oIx (mV (m2 oIx (mNm' 1) (mNm' 5))) (mV (mC (.int 1)))))) mANil))) (mCall fm_law_pick (mACons (mNm' 0) (mACons (mVE (mE (m2 oIx (mV (m2 oIx (mNm' 1) (mNm' 5))) (mV (mC (.int 2)))))) mANil))))
    (sRet (mTup (mCons (mE (mTup (mCons (mVar 3) (mCons (mVar 5) (mCons (mVar 6) (mCons (mVar 7) mNil)))))) (mCons (mE (mTup (mCons (mVar 6) (mCons (mVar 7) mNil)))) mNil)))))))) sNil)
    (sSeq (sSet 8 (fLc [5] (mItems (mVar 2)) (gNm 5) (mAndT (mT (m2 oEq (mV (m2 oIx (mV (m2 oIx (mNm' 1) (mNm' 5))) (mV (mC (.int 0))))) (mV (mC (.str "years"))))) (mT (m2 oNotN (mV (m2 oIx (mV (m2 oIx (mNm' 1) (mNm' 5))) (mV (mC (.int 3))))) (mV (mC .non))))) (mVar 5)))
    (sSeq (sSet 5 (mCall fm_law_pick (mACons (mNm' 0) (mACons (mVE (mVar 8)) mANil))))
    (sSeq (sSet 9 (fLc [10] (mItems (mVar 2)) (gNm 10) (mAndT (mT (m2 oEq (mV (m2 oIx (mV (m2 oIx (mNm' 1) (mNm' 10))) (mV (mC (.int 0))))) (mV (mC (.str "years"))))) (mAndT (mT (m2 oNotN (mV (m2 oIx (mV (m2 oIx (mNm' 1) (mNm' 10))) (mV (mC (.int 2))))) (mV (mC .non)))) (mT (m2 oGt (mV (m2 oIx (mV (m2 oIx (mNm' 1) (mNm' 10))) (mV (mC (.int 2))))) (mV (m2 oIx (mV (m2 oIx (mNm' 1) (mNm' 5))) (mV (mC (.int 3))))))))) (mVar 10)))
    (sSeq (sIf (mT (m2 oEq (mNm' 9) (mV (mLst mNil)))) (sRet (mC .non)) sNil)
    (sSeq (sSet 10 (mCall fm_law_pick (mACons (mNm' 0) (mACons (mVE (mVar 9)) mANil))))
    (sSeq (sPar 6 7 (mCall fm_law_pick (mACons (mNm' 0) (mACons (mVE (mE (m2 oIx (mV (m2 oIx (mNm' 1) (mNm' 5))) (mV (mC (.int 1)))))) mANil))) (mCall fm_law_pick (mACons (mNm' 0) (mACons (mVE (mE (m2 oIx (mV (m2 oIx (mNm' 1) (mNm' 10))) (mV (mC (.int 1)))))) mANil))))
    (sRet (mTup (mCons (mE (mTup (mCons (mVar 3) (mCons (mVar 5) (mCons (mVar 10) (mCons (mVar 6) (mCons (mVar 7) mNil))))))) (mCons (mE (mTup (mCons (mVar 6) (mCons (mVar 7) mNil)))) mNil)))))))))))
def fm_law_told : FM := fnM 11 mx_law_told
/-- _law_moved(deck, things, bands, links, pairs, kind); slots 0:deck 1:things 2:bands 3:links 4:pairs 5:kind 6:i 7:p 8:q 9:some 10:n 11:k 12:band 13:pair 14:along 15:c 16:d 17:j 18:one -/
def mx_law_moved : MS := (sSeq (sSet 6 (mCall fm_law_pick (mACons (mNm' 0) (mACons (mVE (mE (mLst (mCons (mE (mCall fm_law_draw (mACons (mNm' 0) (mACons (mVE (mE (m1 oLen' (mNm' 4)))) mANil)))) (mCons (mE (m2 oSub (mV (m1 oLen' (mNm' 4))) (mV (mC (.int 1))))) mNil))))) mANil))))
    (sSeq (sAsg (mE (m2 oIx (mNm' 4) (mNm' 6))) (gTp 2 (gsCons (gNm 7) (gsCons (gNm 8) gsNil))))
    (sSeq (sIf (mT (m2 oEq (mNm' 5) (mV (mC (.str "side"))))) (sSeq (sSet 9 (fLc [18] (mItems (mVar 2)) (gNm 18) (mT (m2 oNe (mV (m2 oIn (mNm' 7) (mV (m2 oIx (mNm' 18) (mV (mC (.int 2))))))) (mV (m2 oIn (mNm' 8) (mV (m2 oIx (mNm' 18) (mV (mC (.int 2))))))))) (mVar 18)))
    (sSeq (sIf (mT (m2 oEq (mNm' 9) (mV (mLst mNil)))) (sRet (mC .non)) sNil)
    (sSeq (sAsg (mE (mCall fm_law_pick (mACons (mNm' 0) (mACons (mVE (mVar 9)) mANil)))) (gTp 3 (gsCons (gNm 10) (gsCons (gNm 11) (gsCons (gNm 12) gsNil)))))
    (sSeq (sSet 13 (mIf (mT (m2 oIn (mNm' 7) (mNm' 12))) (mTup (mCons (mE (mCall fm_law_pick (mACons (mNm' 0) (mACons (mVE (mVar 12)) mANil)))) (mCons (mVar 8) mNil))) (mTup (mCons (mVar 7) (mCons (mE (mCall fm_law_pick (mACons (mNm' 0) (mACons (mVE (mVar 12)) mANil)))) mNil)))))
    (sRet (mTup (mCons (mE (m2 oAdd (mV (mTup (mCons (mVar 5) (mCons (mVar 6) (mCons (mVar 10) (mCons (mVar 11) mNil)))))) (mNm' 13))) (mCons (mVar 13) mNil)))))))) sNil)
    (sSeq (sIf (mT (m2 oEq (mNm' 5) (mV (mC (.str "link"))))) (sSeq (sSet 9 (fLc [18] (mItems (mVar 3)) (gNm 18) (mOrT (mT (m2 oIn (mV (mTup (mCons (mVar 7) (mCons (mVar 8) mNil)))) (mV (m2 oIx (mNm' 18) (mV (mC (.int 1))))))) (mT (m2 oIn (mV (mTup (mCons (mVar 8) (mCons (mVar 7) mNil)))) (mV (m2 oIx (mNm' 18) (mV (mC (.int 1)))))))) (mVar 18)))
    (sSeq (sIf (mT (m2 oEq (mNm' 9) (mV (mLst mNil)))) (sRet (mC .non)) sNil)
    (sSeq (sAsg (mE (mCall fm_law_pick (mACons (mNm' 0) (mACons (mVE (mVar 9)) mANil)))) (gTp 2 (gsCons (gNm 10) (gsCons (gNm 14) gsNil))))
    (sSeq (sAsg (mE (mCall fm_law_pick (mACons (mNm' 0) (mACons (mVE (mVar 14)) mANil)))) (gTp 2 (gsCons (gNm 15) (gsCons (gNm 16) gsNil))))
    (sSeq (sSet 13 (mIf (mT (m2 oIn (mV (mTup (mCons (mVar 7) (mCons (mVar 8) mNil)))) (mNm' 14))) (mTup (mCons (mVar 15) (mCons (mVar 16) mNil))) (mTup (mCons (mVar 16) (mCons (mVar 15) mNil)))))
    (sRet (mTup (mCons (mE (m2 oAdd (mV (mTup (mCons (mVar 5) (mCons (mVar 6) (mCons (mVar 10) mNil))))) (mNm' 13))) (mCons (mVar 13) mNil))))))))) sNil)
    (sSeq (sSet 9 (fLc [17] (mRng1 (mV (m1 oLen' (mNm' 4)))) (gNm 17) (mT (m2 oEq (mV (m2 oIx (mV (m2 oIx (mNm' 4) (mNm' 17))) (mV (mC (.int 0))))) (mNm' 8))) (mVar 17)))
    (sSeq (sIf (mT (m2 oEq (mNm' 9) (mV (mLst mNil)))) (sRet (mC .non)) sNil)
    (sSeq (sSet 17 (mCall fm_law_pick (mACons (mNm' 0) (mACons (mVE (mVar 9)) mANil))))
    (sRet (mTup (mCons (mE (mTup (mCons (mVar 5) (mCons (mVar 6) (mCons (mVar 17) mNil))))) (mCons (mE (mTup (mCons (mVar 7) (mCons (mE (m2 oIx (mV (m2 oIx (mNm' 4) (mNm' 17))) (mV (mC (.int 1))))) mNil)))) mNil)))))))))))
def fm_law_moved : FM := fnM 19 mx_law_moved
/-- _law_said(number, line, pair); slots 0:number 1:line 2:pair 3:numbers 4:words 5:one -/
def mx_law_said : MS := (sSeq (sSet 3 (mDict (pCons (mE (mC (.str "told"))) (mE (mSl (mNm' 1) (mSo (mV (mC (.int 1)))) (mSo (mV (mC (.int 2)))))) (pCons (mE (mC (.str "years"))) (mE (mSl (mNm' 1) (mSo (mV (mC (.int 1)))) (mSo (mV (mC (.int 3)))))) (pCons (mE (mC (.str "side"))) (mE (mSl (mNm' 1) (mSo (mV (mC (.int 1)))) (mSo (mV (mC (.int 3)))))) (pCons (mE (mC (.str "link"))) (mE (mSl (mNm' 1) (mSo (mV (mC (.int 1)))) (mSo (mV (mC (.int 3)))))) (pCons (mE (mC (.str "chain"))) (mE (mSl (mNm' 1) (mSo (mV (mC (.int 1)))) (mSo (mV (mC (.int 3)))))) pNil)))))))
    (sSeq (sSet 4 (m2 oAdd (mV (mLst (mCons (mE (m1 oStr (mNm' 0))) (mCons (mE (m2 oIx (mNm' 1) (mV (mC (.int 0))))) mNil)))) (mV (fLc [5] (mItems (mE (m2 oDIx (mNm' 3) (mV (m2 oIx (mNm' 1) (mV (mC (.int 0)))))))) (gNm 5) mYes (mE (m1 oStr (mNm' 5)))))))
    (sRet (m2 oAdd (mV (m2 oAdd (mV (m2 oAdd (mV (m2 oAdd (mV (m1 (oJoin " ") (mNm' 4))) (mV (mC (.str ": "))))) (mV (m2 oIx (mNm' 2) (mV (mC (.int 0))))))) (mV (mC (.str " < "))))) (mV (m2 oIx (mNm' 2) (mV (mC (.int 1)))))))))
def fm_law_said : FM := fnM 6 mx_law_said
/-- _law_lines(deck, dossier, spots, many); slots 0:deck 1:dossier 2:spots 3:many 4:things 5:bands 6:links 7:n 8:here 9:lines 10:pairs 11:turn 12:kind 13:found 14:k -/
def mx_law_lines : MS := (sSeq (sSet 4 (m2 oIx (mNm' 1) (mV (mC (.int 1)))))
    (sSeq (sPar 5 6 (mLst mNil) (mLst mNil))
    (sSeq (sFor (mItems (mVar 2)) (gNm 7) (sSeq (sSet 8 (mCall fm_law_bands (mACons (mVE (mE (m2 oIx (mNm' 4) (mNm' 7)))) mANil)))
    (sSeq (sSet 5 (m2 oAdd (mNm' 5) (mV (fLc [14] (mRng1 (mV (m1 oLen' (mNm' 8)))) (gNm 14) mYes (mE (mTup (mCons (mVar 7) (mCons (mVar 14) (mCons (mE (m2 oIx (mNm' 8) (mNm' 14))) mNil)))))))))
    (sIf (mT (m2 oEq (mV (m2 oIx (mV (m2 oIx (mNm' 4) (mNm' 7))) (mV (mC (.int 0))))) (mV (mC (.str "series"))))) (sExpr (mApp 6 (mE (mTup (mCons (mVar 7) (mCons (mE (mCall fm_law_row_pairs (mACons (mVE (mE (m2 oIx (mNm' 4) (mNm' 7)))) mANil))) mNil)))))) sNil))))
    (sSeq (sPar 9 10 (mLst mNil) (mLst mNil))
    (sSeq (sFor (mRng1 (mV (m2 oMul (mV (mC (.int 3))) (mNm' 3)))) (gNm 11) (sSeq (sSet 12 (mCall fm_law_pick (mACons (mNm' 0) (mACons (mVE (mE (mLst (mCons (mE (mC (.str "told"))) (mCons (mE (mC (.str "years"))) (mCons (mE (mC (.str "side"))) (mCons (mE (mC (.str "side"))) (mCons (mE (mC (.str "link"))) (mCons (mE (mC (.str "link"))) (mCons (mE (mC (.str "chain"))) (mCons (mE (mC (.str "chain"))) mNil))))))))))) mANil))))
    (sSeq (sSet 13 (mC .non))
    (sSeq (sIf (mT (m2 oIn (mNm' 12) (mV (mLst (mCons (mE (mC (.str "told"))) (mCons (mE (mC (.str "years"))) mNil)))))) (sSet 13 (mCall fm_law_told (mACons (mNm' 0) (mACons (mVE (mVar 4)) (mACons (mVE (mVar 2)) (mACons (mVE (mVar 12)) mANil)))))) (sIf (mT (m2 oNe (mNm' 10) (mV (mLst mNil)))) (sSet 13 (mCall fm_law_moved (mACons (mNm' 0) (mACons (mVE (mVar 4)) (mACons (mVE (mVar 5)) (mACons (mVE (mVar 6)) (mACons (mNm' 10) (mACons (mVE (mVar 12)) mANil)))))))) sNil))
    (sIf (mAndT (mT (m2 oNotN (mNm' 13) (mV (mC .non)))) (mT (m2 oLt (mV (m1 oLen' (mNm' 9))) (mNm' 3)))) (sSeq (sExpr (mApp 9 (mE (m2 oIx (mNm' 13) (mV (mC (.int 0)))))))
    (sExpr (mApp 10 (mE (m2 oIx (mNm' 13) (mV (mC (.int 1)))))))) sNil)))))
    (sRet (mTup (mCons (mVar 9) (mCons (mVar 10) mNil)))))))))
def fm_law_lines : FM := fnM 15 mx_law_lines
/-- law(script); slots 0:script 1:deck 2:dossier 3:spots 4:many 5:lines 6:pairs 7:due 8:turn 9:size 10:alone 11:some 12:a 13:b 14:c 15:d 16:told 17:k -/
def mx_law : MS := (sSeq (sSet 1 (mCall fm_law_deck (mACons (mVE (mVar 0)) mANil)))
    (sSeq (sAsg (mE (mCall fm_law_dossier (mACons (mNm' 1) mANil))) (gTp 2 (gsCons (gNm 2) (gsCons (gNm 3) gsNil))))
    (sSeq (sSet 4 (mIf (mT (m2 oEq (mV (mCall fm_law_draw (mACons (mNm' 1) (mACons (mVE (mE (mC (.int 6)))) mANil)))) (mV (mC (.int 0))))) (m2 oAdd (mV (mC (.int 101))) (mV (mCall fm_law_draw (mACons (mNm' 1) (mACons (mVE (mE (mC (.int 50)))) mANil))))) (m2 oAdd (mV (mC (.int 12))) (mV (mCall fm_law_draw (mACons (mNm' 1) (mACons (mVE (mE (mC (.int 29)))) mANil)))))))
    (sSeq (sAsg (mE (mCall fm_law_lines (mACons (mNm' 1) (mACons (mVE (mVar 2)) (mACons (mVE (mVar 3)) (mACons (mVE (mVar 4)) mANil)))))) (gTp 2 (gsCons (gNm 5) (gsCons (gNm 6) gsNil))))
    (sSeq (sSet 7 (m1 oTuple (mV (fLc [17] (mRng1 (mV (m1 oLen' (mNm' 5)))) (gNm 17) mYes (mE (mCall fm_law_said (mACons (mVE (mVar 17)) (mACons (mVE (mE (m2 oIx (mNm' 5) (mNm' 17)))) (mACons (mVE (mE (m2 oIx (mNm' 6) (mNm' 17)))) mANil)))))))))
    (sSeq (sIf (mNotT (mT (mCall (fm_law_is 5) (mACons (mVE (mE (mTup (mCons (mE (mCall fm_print_lines (mACons (mVE (mVar 2)) (mACons (mVE (mE (m1 oTuple (mNm' 5)))) mANil)))) (mCons (mE (mCall fm_pairs_of (mACons (mVE (mVar 2)) (mACons (mVE (mE (m1 oTuple (mNm' 5)))) mANil)))) mNil))))) (mACons (mVE (mE (mTup (mCons (mVar 7) (mCons (mE (m1 oTuple (mNm' 6))) mNil))))) mANil))))) (sRet (mC (.bl false))) sNil)
    (sSeq (sFor (mRng1 (mV (mC (.int 2)))) (gNm 8) (sSeq (sSet 9 (mCall fm_law_draw (mACons (mNm' 1) (mACons (mVE (mE (m2 oAdd (mV (m1 oLen' (mNm' 5))) (mV (mC (.int 1)))))) mANil))))
    (sIf (mNotT (mT (mCall (fm_law_is 5) (mACons (mVE (mE (mCall fm_print_lines (mACons (mVE (mVar 2)) (mACons (mVE (mE (m1 oTuple (mV (mSl (mNm' 5) mNo (mSo (mNm' 9))))))) mANil))))) (mACons (mVE (mE (mSl (mNm' 7) mNo (mSo (mNm' 9))))) mANil))))) (sRet (mC (.bl false))) sNil)))
    (sSeq (sSet 10 (fLc [17] (mRng1 (mV (m1 oLen' (mNm' 5)))) (gNm 17) (mT (m2 oIn (mV (m2 oIx (mV (m2 oIx (mNm' 5) (mNm' 17))) (mV (mC (.int 0))))) (mV (mLst (mCons (mE (mC (.str "told"))) (mCons (mE (mC (.str "years"))) mNil)))))) (mVar 17)))
    (sSeq (sSet 11 (m1 oTuple (mV (fLc [17] (mItems (mVar 10)) (gNm 17) mYes (mE (m2 oIx (mNm' 5) (mNm' 17)))))))
    (sSeq (sIf (mNotT (mT (mCall (fm_law_is 5) (mACons (mVE (mE (mCall fm_print_lines (mACons (mVE (mVar 2)) (mACons (mVE (mVar 11)) mANil))))) (mACons (mVE (mE (m1 oTuple (mV (fLc [17] (mRng1 (mV (m1 oLen' (mNm' 11)))) (gNm 17) mYes (mE (mCall fm_law_said (mACons (mVE (mVar 17)) (mACons (mVE (mE (m2 oIx (mNm' 11) (mNm' 17)))) (mACons (mVE (mE (m2 oIx (mNm' 6) (mV (m2 oIx (mNm' 10) (mNm' 17)))))) mANil)))))))))) mANil))))) (sRet (mC (.bl false))) sNil)
    (sSeq (sIf (mT (m2 oEq (mNm' 5) (mV (mLst mNil)))) (sRet (mC (.bl true))) sNil)
    (sSeq (sAsg (mE (m2 oIx (mNm' 6) (mV (m1 oNeg (mV (mC (.int 1))))))) (gTp 2 (gsCons (gNm 12) (gsCons (gNm 13) gsNil))))
    (sSeq (sPar 14 15 (mCall fm_law_pick (mACons (mNm' 1) (mACons (mVE (mE (m2 oIx (mNm' 2) (mV (mC (.int 0)))))) mANil))) (mCall fm_law_pick (mACons (mNm' 1) (mACons (mVE (mE (m2 oIx (mNm' 2) (mV (mC (.int 0)))))) mANil))))
    (sSeq (sSet 16 (mTup (mCons (mE (mCall fm_derives (mACons (mVE (mVar 2)) (mACons (mVE (mE (m1 oTuple (mNm' 5)))) (mACons (mVE (mVar 12)) (mACons (mVE (mVar 13)) mANil)))))) (mCons (mE (mCall fm_derives (mACons (mVE (mVar 2)) (mACons (mVE (mE (m1 oTuple (mNm' 5)))) (mACons (mVE (mVar 14)) (mACons (mVE (mVar 15)) mANil)))))) mNil))))
    (sRet (mCall (fm_law_is 5) (mACons (mVE (mVar 16)) (mACons (mVE (mE (mTup (mCons (mE (mC (.bl true))) (mCons (mE (m2 oEq (mV (mTup (mCons (mVar 14) (mCons (mVar 15) mNil)))) (mV (mTup (mCons (mVar 12) (mCons (mVar 13) mNil)))))) mNil))))) mANil))))))))))))))))))
def fm_law : FM := fnM 18 mx_law
end
end K91
end L2.My

end
section
set_option Elab.async false
set_option linter.all false
set_option autoImplicit false
set_option maxRecDepth 100000
set_option maxHeartbeats 4000000
/-! K91w: the walks (printed by gen.py). -/
namespace L2.My
open PySem PySem.Spec PyProof.Rows
namespace K91
def topS (i : Nat) : Stmt := PySem.Challenge.pw_surelyelder_k91_long_print_lines.main.body.getD i (.Pass ⟨0, 0, 0, 0⟩)
def clsS (s : Stmt) (j : Nat) : Stmt := match s with
  | .ClassDef (body := b) .. => b.getD j (.Pass ⟨0, 0, 0, 0⟩)
  | _ => .Pass ⟨0, 0, 0, 0⟩
theorem uu {k : Nat} {A : Around} (h : Room k A) : A.units + 65 < cLine := by have := h.un; omega
theorem uu64 {k : Nat} {A : Around} (h : Room k A) : A.units + 64 < cLine := by have := h.un; omega
theorem uu1 {k : Nat} {A : Around} (h : Room k A) : A.units + 1 < cLine := by have := h.un; omega
theorem arL0 {ρ : Rho} {as : List D} {ρ' : Rho} (h : mNil ρ = some (as, ρ')) : as.length = 0 := by cases h; rfl
theorem arL {m : M D} {ms : M (List D)} {n : Nat} (h : ∀ ρ as ρ', ms ρ = some (as, ρ') → as.length = n) (ρ : Rho) (as : List D) (ρ' : Rho) (e : mCons m ms ρ = some (as, ρ')) : as.length = n + 1 := by
  obtain ⟨p, h1, e⟩ := bind_some e
  obtain ⟨p2, h2, e⟩ := bind_some e
  cases e
  exact congrArg (· + 1) (h _ _ _ h2)
theorem fn_none {P : Program} {w : World} {K : PySem.W.Frag} {mg : Str → Option Value} {base : Heap} {f : Addr} {fd : FuncData} {ps : List Str} {g : Gn} : FnOk P w K mg base CX0 0 f fd ps (spM g ps.length fun _ => none) :=
  ⟨fun vs H Q E ⟨_, _, _, _, _, h, _⟩ => h, fun A outer s H args us vs Q E hr he hb hv ⟨_, _, _, _, _, _, _, _, _, _, _, h, _⟩ => by cases h⟩
abbrev s_is_whole : Stmt := (topS 1)
theorem sc_is_whole : FnScope ["value"] ["value"] (defScope s_is_whole) := ⟨rfl, rfl, rfl, by decide +kernel, rfl, by decide +kernel, by decide +kernel⟩
abbrev s_bands_of : Stmt := (topS 2)
theorem sc_bands_of : FnScope ["thing", "bands", "row", "k"] ["thing"] (defScope s_bands_of) := ⟨rfl, rfl, rfl, by decide +kernel, rfl, by decide +kernel, by decide +kernel⟩
abbrev s_lot_numbers : Stmt := (topS 4)
theorem sc_lot_numbers : FnScope ["row", "k", "lot", "name"] ["row"] (defScope s_lot_numbers) := ⟨rfl, rfl, rfl, by decide +kernel, rfl, by decide +kernel, by decide +kernel⟩
abbrev s_Rules_init : Stmt := (clsS (topS 5) 0)
theorem sc_Rules_init : FnScope ["self", "told", "thing", "row"] ["self", "told"] (defScope s_Rules_init) := ⟨rfl, rfl, rfl, by decide +kernel, rfl, by decide +kernel, by decide +kernel⟩
abbrev s_is_number : Stmt := (topS 6)
theorem sc_is_number : FnScope ["value", "many"] ["value", "many"] (defScope s_is_number) := ⟨rfl, rfl, rfl, by decide +kernel, rfl, by decide +kernel, by decide +kernel⟩
abbrev s_side_leads : Stmt := (topS 7)
theorem sc_side_leads : FnScope ["rules", "pair", "n", "k", "a", "b", "band"] ["rules", "pair", "n", "k", "a", "b"] (defScope s_side_leads) := ⟨rfl, rfl, rfl, by decide +kernel, rfl, by decide +kernel, by decide +kernel⟩
abbrev s_row_directions : Stmt := (topS 8)
theorem sc_row_directions : FnScope ["rules", "n", "a", "b", "directions", "numbers", "one", "other"] ["rules", "n", "a", "b"] (defScope s_row_directions) := ⟨rfl, rfl, rfl, by decide +kernel, rfl, by decide +kernel, by decide +kernel⟩
abbrev s_link_leads : Stmt := (topS 9)
theorem sc_link_leads : FnScope ["rules", "pair", "n", "a", "b", "directions"] ["rules", "pair", "n", "a", "b"] (defScope s_link_leads) := ⟨rfl, rfl, rfl, by decide +kernel, rfl, by decide +kernel, by decide +kernel⟩
abbrev s_told_pair : Stmt := (topS 10)
theorem sc_told_pair : FnScope ["rules", "line", "n", "a", "b", "thing"] ["rules", "line"] (defScope s_told_pair) := ⟨rfl, rfl, rfl, by decide +kernel, rfl, by decide +kernel, by decide +kernel⟩
abbrev s_years_pair : Stmt := (topS 11)
theorem sc_years_pair : FnScope ["rules", "line", "n", "m", "a", "b", "one", "other"] ["rules", "line"] (defScope s_years_pair) := ⟨rfl, rfl, rfl, by decide +kernel, rfl, by decide +kernel, by decide +kernel⟩
abbrev s_chain_pair : Stmt := (topS 12)
theorem sc_chain_pair : FnScope ["pairs", "line", "i", "j"] ["pairs", "line"] (defScope s_chain_pair) := ⟨rfl, rfl, rfl, by decide +kernel, rfl, by decide +kernel, by decide +kernel⟩
abbrev s_line_pair : Stmt := (topS 13)
theorem sc_line_pair : FnScope ["rules", "pairs", "line", "pair"] ["rules", "pairs", "line"] (defScope s_line_pair) := ⟨rfl, rfl, rfl, by decide +kernel, rfl, by decide +kernel, by decide +kernel⟩
abbrev s_pairs_of : Stmt := (topS 14)
theorem sc_pairs_of : FnScope ["dossier", "value", "rules", "pairs", "line", "pair"] ["dossier", "value"] (defScope s_pairs_of) := ⟨rfl, rfl, rfl, by decide +kernel, rfl, by decide +kernel, by decide +kernel⟩
abbrev s_derives : Stmt := (topS 15)
theorem sc_derives : FnScope ["dossier", "value", "a", "b", "pairs"] ["dossier", "value", "a", "b"] (defScope s_derives) := ⟨rfl, rfl, rfl, by decide +kernel, rfl, by decide +kernel, by decide +kernel⟩
abbrev s_line_text : Stmt := (topS 17)
theorem sc_line_text : FnScope ["number", "line", "pair", "named", "words", "one"] ["number", "line", "pair"] (defScope s_line_text) := ⟨rfl, rfl, rfl, by decide +kernel, rfl, by decide +kernel, by decide +kernel⟩
abbrev s_print_lines : Stmt := (topS 18)
theorem sc_print_lines : FnScope ["dossier", "lines", "pairs", "number", "line", "pair"] ["dossier", "lines"] (defScope s_print_lines) := ⟨rfl, rfl, rfl, by decide +kernel, rfl, by decide +kernel, by decide +kernel⟩
abbrev s_law_deck : Stmt := (topS 20)
theorem sc_law_deck : FnScope ["script", "cell"] ["script"] (defScope s_law_deck) := ⟨rfl, rfl, rfl, by decide +kernel, rfl, by decide +kernel, by decide +kernel⟩
abbrev s_law_draw : Stmt := (topS 21)
theorem sc_law_draw : FnScope ["deck", "many", "cell", "digit", "once"] ["deck", "many"] (defScope s_law_draw) := ⟨rfl, rfl, rfl, by decide +kernel, rfl, by decide +kernel, by decide +kernel⟩
abbrev s_law_pick : Stmt := (topS 22)
theorem sc_law_pick : FnScope ["deck", "some"] ["deck", "some"] (defScope s_law_pick) := ⟨rfl, rfl, rfl, by decide +kernel, rfl, by decide +kernel, by decide +kernel⟩
abbrev s_law_shuffled : Stmt := (topS 23)
theorem sc_law_shuffled : FnScope ["deck", "some", "left", "k"] ["deck", "some"] (defScope s_law_shuffled) := ⟨rfl, rfl, rfl, by decide +kernel, rfl, by decide +kernel, by decide +kernel⟩
abbrev s_law_is : Stmt := (topS 24)
theorem sc_law_is : FnScope ["found", "due", "k"] ["found", "due"] (defScope s_law_is) := ⟨rfl, rfl, rfl, by decide +kernel, rfl, by decide +kernel, by decide +kernel⟩
abbrev s_law_names : Stmt := (topS 25)
theorem sc_law_names : FnScope ["deck", "many", "signs", "made", "k", "name", "j"] ["deck", "many"] (defScope s_law_names) := ⟨rfl, rfl, rfl, by decide +kernel, rfl, by decide +kernel, by decide +kernel⟩
abbrev s_law_bands : Stmt := (topS 26)
theorem sc_law_bands : FnScope ["thing", "made", "row", "k"] ["thing"] (defScope s_law_bands) := ⟨rfl, rfl, rfl, by decide +kernel, rfl, by decide +kernel, by decide +kernel⟩
abbrev s_law_row_pairs : Stmt := (topS 27)
theorem sc_law_row_pairs : FnScope ["thing", "made", "row", "k", "j", "c", "d"] ["thing"] (defScope s_law_row_pairs) := ⟨rfl, rfl, rfl, by decide +kernel, rfl, by decide +kernel, by decide +kernel⟩
abbrev s_law_thing : Stmt := (topS 28)
theorem sc_law_thing : FnScope ["deck", "finds", "kind", "some", "cut", "rows", "k", "row", "lots", "y"] ["deck", "finds", "kind"] (defScope s_law_thing) := ⟨rfl, rfl, rfl, by decide +kernel, rfl, by decide +kernel, by decide +kernel⟩
abbrev s_law_dossier : Stmt := (topS 29)
theorem sc_law_dossier : FnScope ["deck", "finds", "core", "many", "spots", "things", "k"] ["deck"] (defScope s_law_dossier) := ⟨rfl, rfl, rfl, by decide +kernel, rfl, by decide +kernel, by decide +kernel⟩
abbrev s_law_told : Stmt := (topS 30)
theorem sc_law_told : FnScope ["deck", "things", "spots", "kind", "some", "n", "a", "b", "early", "late", "m"] ["deck", "things", "spots", "kind"] (defScope s_law_told) := ⟨rfl, rfl, rfl, by decide +kernel, rfl, by decide +kernel, by decide +kernel⟩
abbrev s_law_moved : Stmt := (topS 31)
theorem sc_law_moved : FnScope ["deck", "things", "bands", "links", "pairs", "kind", "i", "p", "q", "some", "n", "k", "band", "pair", "along", "c", "d", "j", "one"] ["deck", "things", "bands", "links", "pairs", "kind"] (defScope s_law_moved) := ⟨rfl, rfl, rfl, by decide +kernel, rfl, by decide +kernel, by decide +kernel⟩
abbrev s_law_said : Stmt := (topS 32)
theorem sc_law_said : FnScope ["number", "line", "pair", "numbers", "words", "one"] ["number", "line", "pair"] (defScope s_law_said) := ⟨rfl, rfl, rfl, by decide +kernel, rfl, by decide +kernel, by decide +kernel⟩
abbrev s_law_lines : Stmt := (topS 33)
theorem sc_law_lines : FnScope ["deck", "dossier", "spots", "many", "things", "bands", "links", "n", "here", "lines", "pairs", "turn", "kind", "found", "k"] ["deck", "dossier", "spots", "many"] (defScope s_law_lines) := ⟨rfl, rfl, rfl, by decide +kernel, rfl, by decide +kernel, by decide +kernel⟩
abbrev s_law : Stmt := (topS 34)
theorem sc_law : FnScope ["script", "deck", "dossier", "spots", "many", "lines", "pairs", "due", "turn", "size", "alone", "some", "a", "b", "c", "d", "told", "k"] ["script"] (defScope s_law) := ⟨rfl, rfl, rfl, by decide +kernel, rfl, by decide +kernel, by decide +kernel⟩
/-- what the head has written -/
structure Wd (K : PySem.W.Frag) (mg : Str → Option Value) where
  c_Rules : Addr
  cls_Rules : Cls K c_Rules
  m_Rules : mg "Rules" = some (.ref c_Rules)
  na_Rules_finds : NoAttr K c_Rules "finds"
  na_Rules_things : NoAttr K c_Rules "things"
  na_Rules_bands : NoAttr K c_Rules "bands"
  na_Rules_lots : NoAttr K c_Rules "lots"
  f_is_whole : Addr
  d_is_whole : FuncData
  F_is_whole : Fun K "is_whole" "is_whole" s_is_whole f_is_whole d_is_whole
  b_is_whole : Binds K d_is_whole ["value"] []
  m_is_whole : mg "is_whole" = some (.ref f_is_whole)
  f_bands_of : Addr
  d_bands_of : FuncData
  F_bands_of : Fun K "bands_of" "bands_of" s_bands_of f_bands_of d_bands_of
  b_bands_of : Binds K d_bands_of ["thing"] []
  m_bands_of : mg "bands_of" = some (.ref f_bands_of)
  f_lot_numbers : Addr
  d_lot_numbers : FuncData
  F_lot_numbers : Fun K "lot_numbers" "lot_numbers" s_lot_numbers f_lot_numbers d_lot_numbers
  b_lot_numbers : Binds K d_lot_numbers ["row"] []
  m_lot_numbers : mg "lot_numbers" = some (.ref f_lot_numbers)
  f_Rules_init : Addr
  d_Rules_init : FuncData
  F_Rules_init : Fun K "__init__" "Rules.__init__" s_Rules_init f_Rules_init d_Rules_init
  b_Rules_init : Binds K d_Rules_init ["self", "told"] []
  mk_Rules : Mk K c_Rules f_Rules_init
  f_is_number : Addr
  d_is_number : FuncData
  F_is_number : Fun K "is_number" "is_number" s_is_number f_is_number d_is_number
  b_is_number : Binds K d_is_number ["value", "many"] []
  m_is_number : mg "is_number" = some (.ref f_is_number)
  f_side_leads : Addr
  d_side_leads : FuncData
  F_side_leads : Fun K "side_leads" "side_leads" s_side_leads f_side_leads d_side_leads
  b_side_leads : Binds K d_side_leads ["rules", "pair", "n", "k", "a", "b"] []
  m_side_leads : mg "side_leads" = some (.ref f_side_leads)
  f_row_directions : Addr
  d_row_directions : FuncData
  F_row_directions : Fun K "row_directions" "row_directions" s_row_directions f_row_directions d_row_directions
  b_row_directions : Binds K d_row_directions ["rules", "n", "a", "b"] []
  m_row_directions : mg "row_directions" = some (.ref f_row_directions)
  f_link_leads : Addr
  d_link_leads : FuncData
  cd_link_leads : Addr
  tb_link_leads : Addr
  F_link_leads : FunC K "link_leads" "link_leads" s_link_leads f_link_leads d_link_leads cd_link_leads
  b_link_leads : Binds K d_link_leads ["rules", "pair", "n", "a", "b"] []
  m_link_leads : mg "link_leads" = some (.ref f_link_leads)
  f_told_pair : Addr
  d_told_pair : FuncData
  F_told_pair : Fun K "told_pair" "told_pair" s_told_pair f_told_pair d_told_pair
  b_told_pair : Binds K d_told_pair ["rules", "line"] []
  m_told_pair : mg "told_pair" = some (.ref f_told_pair)
  f_years_pair : Addr
  d_years_pair : FuncData
  F_years_pair : Fun K "years_pair" "years_pair" s_years_pair f_years_pair d_years_pair
  b_years_pair : Binds K d_years_pair ["rules", "line"] []
  m_years_pair : mg "years_pair" = some (.ref f_years_pair)
  f_chain_pair : Addr
  d_chain_pair : FuncData
  F_chain_pair : Fun K "chain_pair" "chain_pair" s_chain_pair f_chain_pair d_chain_pair
  b_chain_pair : Binds K d_chain_pair ["pairs", "line"] []
  m_chain_pair : mg "chain_pair" = some (.ref f_chain_pair)
  f_line_pair : Addr
  d_line_pair : FuncData
  F_line_pair : Fun K "line_pair" "line_pair" s_line_pair f_line_pair d_line_pair
  b_line_pair : Binds K d_line_pair ["rules", "pairs", "line"] []
  m_line_pair : mg "line_pair" = some (.ref f_line_pair)
  f_pairs_of : Addr
  d_pairs_of : FuncData
  F_pairs_of : Fun K "pairs_of" "pairs_of" s_pairs_of f_pairs_of d_pairs_of
  b_pairs_of : Binds K d_pairs_of ["dossier", "value"] []
  m_pairs_of : mg "pairs_of" = some (.ref f_pairs_of)
  f_derives : Addr
  d_derives : FuncData
  F_derives : Fun K "derives" "derives" s_derives f_derives d_derives
  b_derives : Binds K d_derives ["dossier", "value", "a", "b"] []
  m_derives : mg "derives" = some (.ref f_derives)
  f_line_text : Addr
  d_line_text : FuncData
  F_line_text : Fun K "line_text" "line_text" s_line_text f_line_text d_line_text
  b_line_text : Binds K d_line_text ["number", "line", "pair"] []
  m_line_text : mg "line_text" = some (.ref f_line_text)
  f_print_lines : Addr
  d_print_lines : FuncData
  F_print_lines : Fun K "print_lines" "print_lines" s_print_lines f_print_lines d_print_lines
  b_print_lines : Binds K d_print_lines ["dossier", "lines"] []
  m_print_lines : mg "print_lines" = some (.ref f_print_lines)
  f_law_deck : Addr
  d_law_deck : FuncData
  F_law_deck : Fun K "_law_deck" "_law_deck" s_law_deck f_law_deck d_law_deck
  b_law_deck : Binds K d_law_deck ["script"] []
  m_law_deck : mg "_law_deck" = some (.ref f_law_deck)
  f_law_draw : Addr
  d_law_draw : FuncData
  F_law_draw : Fun K "_law_draw" "_law_draw" s_law_draw f_law_draw d_law_draw
  b_law_draw : Binds K d_law_draw ["deck", "many"] []
  m_law_draw : mg "_law_draw" = some (.ref f_law_draw)
  f_law_pick : Addr
  d_law_pick : FuncData
  F_law_pick : Fun K "_law_pick" "_law_pick" s_law_pick f_law_pick d_law_pick
  b_law_pick : Binds K d_law_pick ["deck", "some"] []
  m_law_pick : mg "_law_pick" = some (.ref f_law_pick)
  f_law_shuffled : Addr
  d_law_shuffled : FuncData
  F_law_shuffled : Fun K "_law_shuffled" "_law_shuffled" s_law_shuffled f_law_shuffled d_law_shuffled
  b_law_shuffled : Binds K d_law_shuffled ["deck", "some"] []
  m_law_shuffled : mg "_law_shuffled" = some (.ref f_law_shuffled)
  f_law_is : Addr
  d_law_is : FuncData
  F_law_is : Fun K "_law_is" "_law_is" s_law_is f_law_is d_law_is
  b_law_is : Binds K d_law_is ["found", "due"] []
  m_law_is : mg "_law_is" = some (.ref f_law_is)
  f_law_names : Addr
  d_law_names : FuncData
  F_law_names : Fun K "_law_names" "_law_names" s_law_names f_law_names d_law_names
  b_law_names : Binds K d_law_names ["deck", "many"] []
  m_law_names : mg "_law_names" = some (.ref f_law_names)
  f_law_bands : Addr
  d_law_bands : FuncData
  F_law_bands : Fun K "_law_bands" "_law_bands" s_law_bands f_law_bands d_law_bands
  b_law_bands : Binds K d_law_bands ["thing"] []
  m_law_bands : mg "_law_bands" = some (.ref f_law_bands)
  f_law_row_pairs : Addr
  d_law_row_pairs : FuncData
  F_law_row_pairs : Fun K "_law_row_pairs" "_law_row_pairs" s_law_row_pairs f_law_row_pairs d_law_row_pairs
  b_law_row_pairs : Binds K d_law_row_pairs ["thing"] []
  m_law_row_pairs : mg "_law_row_pairs" = some (.ref f_law_row_pairs)
  f_law_thing : Addr
  d_law_thing : FuncData
  F_law_thing : Fun K "_law_thing" "_law_thing" s_law_thing f_law_thing d_law_thing
  b_law_thing : Binds K d_law_thing ["deck", "finds", "kind"] []
  m_law_thing : mg "_law_thing" = some (.ref f_law_thing)
  f_law_dossier : Addr
  d_law_dossier : FuncData
  F_law_dossier : Fun K "_law_dossier" "_law_dossier" s_law_dossier f_law_dossier d_law_dossier
  b_law_dossier : Binds K d_law_dossier ["deck"] []
  m_law_dossier : mg "_law_dossier" = some (.ref f_law_dossier)
  f_law_told : Addr
  d_law_told : FuncData
  F_law_told : Fun K "_law_told" "_law_told" s_law_told f_law_told d_law_told
  b_law_told : Binds K d_law_told ["deck", "things", "spots", "kind"] []
  m_law_told : mg "_law_told" = some (.ref f_law_told)
  f_law_moved : Addr
  d_law_moved : FuncData
  F_law_moved : Fun K "_law_moved" "_law_moved" s_law_moved f_law_moved d_law_moved
  b_law_moved : Binds K d_law_moved ["deck", "things", "bands", "links", "pairs", "kind"] []
  m_law_moved : mg "_law_moved" = some (.ref f_law_moved)
  f_law_said : Addr
  d_law_said : FuncData
  F_law_said : Fun K "_law_said" "_law_said" s_law_said f_law_said d_law_said
  b_law_said : Binds K d_law_said ["number", "line", "pair"] []
  m_law_said : mg "_law_said" = some (.ref f_law_said)
  f_law_lines : Addr
  d_law_lines : FuncData
  F_law_lines : Fun K "_law_lines" "_law_lines" s_law_lines f_law_lines d_law_lines
  b_law_lines : Binds K d_law_lines ["deck", "dossier", "spots", "many"] []
  m_law_lines : mg "_law_lines" = some (.ref f_law_lines)
  f_law : Addr
  d_law : FuncData
  F_law : Fun K "law" "law" s_law f_law d_law
  b_law : Binds K d_law ["script"] []
  m_law : mg "law" = some (.ref f_law)
  z_abs : mg "abs" = none
  z_any : mg "any" = none
  z_bool : mg "bool" = none
  z_enumerate : mg "enumerate" = none
  z_int : mg "int" = none
  z_isinstance : mg "isinstance" = none
  z_len : mg "len" = none
  z_list : mg "list" = none
  z_max : mg "max" = none
  z_range : mg "range" = none
  z_sorted : mg "sorted" = none
  z_str : mg "str" = none
  z_tuple : mg "tuple" = none
  z_zip : mg "zip" = none
abbrev gg {K : PySem.W.Frag} {mg : Str → Option Value} (W : Wd K mg) : Gn := ⟨K, fun _ => W.c_Rules, fun P => P = W.tb_link_leads⟩
structure Tbs {K : PySem.W.Frag} {mg : Str → Option Value} (W : Wd K mg) (base : Heap) : Prop where
  tab_link_leads : GxR.TabB base mg W.cd_link_leads W.tb_link_leads
section
variable {P : Program} {w : World} {K : PySem.W.Frag} {mg : Str → Option Value} {base : Heap}
abbrev kk_is_whole : Nat := 1
theorem ok_is_whole (W : Wd K mg) (ht : Tbs W base) : FnOk P w K mg base CX0 1 W.f_is_whole W.d_is_whole ["value"] (spM (gg W) 1 fm_is_whole) := fn_M W.F_is_whole sc_is_whole fun cdv A outer s H E hr => (ss_one (s_ret (f_and (f_isi (by decide) W.z_isinstance (v_nm (pv 0)) (pe_bltn (by rfl) W.z_int (by decide +kernel) rfl)) (f_one (f_not (f_isi (by decide) W.z_isinstance (v_nm (pv 0)) (pe_bltn (by rfl) W.z_bool (by decide +kernel) rfl)))))))
abbrev kk_bands_of : Nat := 1
theorem ok_bands_of (W : Wd K mg) (ht : Tbs W base) : FnOk P w K mg base CX0 1 W.f_bands_of W.d_bands_of ["thing"] (spM (gg W) 1 fm_bands_of) := fn_M W.F_bands_of sc_bands_of fun cdv A outer s H E hr => (ss_cons (s_if (t_cmp (o_eq (uu64 hr)) (v_of (f_ix o_ix (v_nm (pv 0)) (v_of (f_int pe_int)) (fun _ _ => rfl))) (v_of (f_str pe_str)) rfl) (ss_one (s_ret (f_tup (a_cons (e_of (f_ix o_ix (v_nm (pv 0)) (v_of (f_int pe_int)) (fun _ _ => rfl))) a_nil)))) ss_nil)
    (ss_cons (s_if (t_cmp (o_ne (uu64 hr)) (v_of (f_ix o_ix (v_nm (pv 0)) (v_of (f_int pe_int)) (fun _ _ => rfl))) (v_of (f_str pe_str)) rfl) (ss_one (s_ret (f_tup a_nil))) ss_nil)
    (ss_cons (s_set (i := 1) sc_bands_of.nd rfl (.inl rfl) (f_lst a_nil))
    (ss_cons (s_for (vs := [2]) PassesOwn.never rfl (i_sq (e_of (f_ix o_ix (v_nm (pv 0)) (v_of (f_int pe_int)) (fun _ _ => rfl)))) (g_nm (i := 2) (by decide) sc_bands_of.nd rfl (.inl rfl)) (ss_cons (s_expr (f_extend (pv 1) (v_nm (pv 2))))
    (ss_one (s_for (vs := [3]) PassesOwn.never rfl (i_rng1 W.z_range (v_of (f_op o_sub (v_of (f_len W.z_len (v_nm (pv 2)))) (v_of (f_int pe_int))))) (g_nm (i := 3) (by decide) sc_bands_of.nd rfl (.inl rfl)) (ss_one (s_expr (f_append (pv 1) (e_of (f_tuple W.z_tuple (v_of (f_sorted (uu hr) W.z_sorted (v_of (f_op o_add (v_of (f_ix o_ix (v_nm (pv 2)) (v_nm (pv 3)) (fun _ _ => rfl))) (v_of (f_ix o_ix (v_nm (pv 2)) (v_of (f_op o_add (v_nm (pv 3)) (v_of (f_int pe_int)))) (fun _ _ => rfl))))))))))))))))
    (ss_one (s_ret (f_tuple W.z_tuple (v_nm (pv 1)))))))))
abbrev kk_lot_numbers : Nat := 1
theorem ok_lot_numbers (W : Wd K mg) (ht : Tbs W base) : FnOk P w K mg base CX0 1 W.f_lot_numbers W.d_lot_numbers ["row"] (spM (gg W) 1 fm_lot_numbers) := fn_M W.F_lot_numbers sc_lot_numbers fun cdv A outer s H E hr => (ss_one (s_ret (f_dc2 (vs1 := [3]) rfl sc_lot_numbers.nd (i_enum W.z_enumerate (e_nm (pv 0))) (blkOk_by (own := [("k", 1), ("lot", 2), ("name", 3)]) (by kernel_rfl)) (by decide) (fun _ _ _ _ _ => (g_tup rfl (gs_cons (g_nm (i := 1) (by decide) sc_lot_numbers.nd rfl (.inl rfl)) (gs_cons (g_nm (i := 2) (by decide) sc_lot_numbers.nd rfl (.inl rfl)) gs_nil)))) (fun _ _ _ _ _ => ts_nil) (fun _ _ _ _ _ => (i_sq (e_nm (pv 2)))) (fun _ _ _ _ _ => (g_nm (i := 3) (by decide) sc_lot_numbers.nd rfl (.inl rfl))) (fun _ _ _ _ _ => ts_nil) (fun _ _ _ _ _ => (e_nm (pv 3))) (fun _ _ _ _ _ => (e_nm (pv 1))))))
abbrev kk_Rules_init : Nat := 2
theorem ok_Rules_init (W : Wd K mg) (ht : Tbs W base) : FnOk P w K mg base CX0 2 W.f_Rules_init W.d_Rules_init ["self", "told"] (spM (gg W) 2 fm_Rules_init) := fn_M W.F_Rules_init sc_Rules_init fun cdv A outer s H E hr => (ss_cons (s_fld (i := 0) (cn := "Rules") W.cls_Rules W.na_Rules_finds (pv 0) (e_of (f_ix o_ix (v_nm (pv 1)) (v_of (f_int pe_int)) (fun _ _ => rfl))))
    (ss_cons (s_fld (i := 0) (cn := "Rules") W.cls_Rules W.na_Rules_things (pv 0) (e_of (f_ix o_ix (v_nm (pv 1)) (v_of (f_int pe_int)) (fun _ _ => rfl))))
    (ss_cons (s_fld (i := 0) (cn := "Rules") W.cls_Rules W.na_Rules_bands (pv 0) (e_of (f_lc rfl sc_Rules_init.nd (i_sq (e_of (f_ix o_ix (v_nm (pv 1)) (v_of (f_int pe_int)) (fun _ _ => rfl)))) (blkOk_by (own := [("thing", 2)]) (by kernel_rfl)) (fun _ _ _ _ _ => (g_nm (i := 2) (by decide) sc_Rules_init.nd rfl (.inl rfl))) (fun _ _ _ _ _ => ts_nil) (fun _ _ _ _ _ => (e_of (f_call ((ok_bands_of W ht).mono (by decide)) hr (by rfl) W.m_bands_of W.F_bands_of.kp W.b_bands_of (av_cons (v_e (e_nm (pv 2))) av_nil) (mA_len (fun _ _ _ => mA_len0))))))))
    (ss_one (s_fld (i := 0) (cn := "Rules") W.cls_Rules W.na_Rules_lots (pv 0) (e_of (f_lc rfl sc_Rules_init.nd (i_sq (e_of (f_ix o_ix (v_nm (pv 1)) (v_of (f_int pe_int)) (fun _ _ => rfl)))) (blkOk_by (own := [("thing", 2)]) (by kernel_rfl)) (fun _ _ _ _ _ => (g_nm (i := 2) (by decide) sc_Rules_init.nd rfl (.inl rfl))) (fun _ _ _ _ _ => ts_nil) (fun _ _ _ _ _ => (e_of (f_if (t_cmp (o_eq (uu64 hr)) (v_of (f_ix o_ix (v_nm (pv 2)) (v_of (f_int pe_int)) (fun _ _ => rfl))) (v_of (f_str pe_str)) rfl) (f_lc rfl sc_Rules_init.nd (i_sq (e_of (f_ix o_ix (v_nm (pv 2)) (v_of (f_int pe_int)) (fun _ _ => rfl)))) (blkOk_by (own := [("row", 3)]) (by kernel_rfl)) (fun _ _ _ _ _ => (g_nm (i := 3) (by decide) sc_Rules_init.nd rfl (.inl rfl))) (fun _ _ _ _ _ => ts_nil) (fun _ _ _ _ _ => (e_of (f_call ((ok_lot_numbers W ht).mono (by decide)) hr (by rfl) W.m_lot_numbers W.F_lot_numbers.kp W.b_lot_numbers (av_cons (v_e (e_nm (pv 3))) av_nil) (mA_len (fun _ _ _ => mA_len0)))))) (f_lst a_nil)))))))))))
abbrev kk_is_number : Nat := 2
theorem ok_is_number (W : Wd K mg) (ht : Tbs W base) : FnOk P w K mg base CX0 2 W.f_is_number W.d_is_number ["value", "many"] (spM (gg W) 2 fm_is_number) := fn_M W.F_is_number sc_is_number fun cdv A outer s H E hr => (ss_one (s_ret (f_and (f_call ((ok_is_whole W ht).mono (by decide)) hr (by rfl) W.m_is_whole W.F_is_whole.kp W.b_is_whole (av_cons (v_e (e_nm (pv 0))) av_nil) (mA_len (fun _ _ _ => mA_len0))) (f_one (f_chain o_le o_lt (v_of (f_int pe_int)) (v_nm (pv 0)) (v_nm (pv 1)))))))
abbrev kk_side_leads : Nat := 3
theorem ok_side_leads (W : Wd K mg) (ht : Tbs W base) : FnOk P w K mg base CX0 3 W.f_side_leads W.d_side_leads ["rules", "pair", "n", "k", "a", "b"] (spM (gg W) 6 fm_side_leads) := fn_M W.F_side_leads sc_side_leads fun cdv A outer s H E hr => (ss_cons (s_if (w_or (t_not (t_val (f_call ((ok_is_number W ht).mono (by decide)) hr (by rfl) W.m_is_number W.F_is_number.kp W.b_is_number (av_cons (v_e (e_nm (pv 2))) (av_cons (v_e (e_of (f_len W.z_len (v_of (f_fld (cn := "Rules") W.cls_Rules W.na_Rules_things (v_nm (pv 0))))))) av_nil)) (mA_len (mA_len (fun _ _ _ => mA_len0)))))) (w_or1 (t_not (t_val (f_call ((ok_is_number W ht).mono (by decide)) hr (by rfl) W.m_is_number W.F_is_number.kp W.b_is_number (av_cons (v_e (e_nm (pv 3))) (av_cons (v_e (e_of (f_len W.z_len (v_of (f_ix o_ix (v_of (f_fld (cn := "Rules") W.cls_Rules W.na_Rules_bands (v_nm (pv 0)))) (v_nm (pv 2)) (fun _ _ => rfl)))))) av_nil)) (mA_len (mA_len (fun _ _ _ => mA_len0)))))))).pt (ss_one (s_ret (f_bl pe_bl))) ss_nil)
    (ss_cons (s_set (i := 6) sc_side_leads.nd rfl (.inl rfl) (f_ix o_ix (v_of (f_ix o_ix (v_of (f_fld (cn := "Rules") W.cls_Rules W.na_Rules_bands (v_nm (pv 0)))) (v_nm (pv 2)) (fun _ _ => rfl))) (v_nm (pv 3)) (fun _ _ => rfl)))
    (ss_cons (s_if (w_and (t_cmp (o_eq (uu64 hr)) (v_of (f_ix o_ix (v_nm (pv 1)) (v_of (f_int pe_int)) (fun _ _ => rfl))) (v_nm (pv 5)) rfl) (w_and (t_cmp (o_in (uu hr)) (v_of (f_ix o_ix (v_nm (pv 1)) (v_of (f_int pe_int)) (fun _ _ => rfl))) (v_nm (pv 6)) rfl) (w_and (t_cmp (o_in (uu hr)) (v_nm (pv 4)) (v_nm (pv 6)) rfl) (w_and1 (t_cmp (o_notIn (uu hr)) (v_nm (pv 5)) (v_nm (pv 6)) rfl))))).pt (ss_one (s_ret (f_bl pe_bl))) ss_nil)
    (ss_one (s_ret (f_and (f_cmp (o_eq (uu64 hr)) (v_of (f_ix o_ix (v_nm (pv 1)) (v_of (f_int pe_int)) (fun _ _ => rfl))) (v_nm (pv 4)) rfl) (f_and (f_cmp (o_in (uu hr)) (v_of (f_ix o_ix (v_nm (pv 1)) (v_of (f_int pe_int)) (fun _ _ => rfl))) (v_nm (pv 6)) rfl) (f_and (f_cmp (o_in (uu hr)) (v_nm (pv 5)) (v_nm (pv 6)) rfl) (f_one (f_cmp (o_notIn (uu hr)) (v_nm (pv 4)) (v_nm (pv 6)) rfl))))))))))
abbrev kk_row_directions : Nat := 1
theorem ok_row_directions (W : Wd K mg) (ht : Tbs W base) : FnOk P w K mg base CX0 1 W.f_row_directions W.d_row_directions ["rules", "n", "a", "b"] (spM (gg W) 4 fm_row_directions) := fn_M W.F_row_directions sc_row_directions fun cdv A outer s H E hr => (ss_cons (s_set (i := 4) sc_row_directions.nd rfl (.inl rfl) (f_lst a_nil))
    (ss_cons (s_for (vs := [5]) PassesOwn.never rfl (i_sq (e_of (f_ix o_ix (v_of (f_fld (cn := "Rules") W.cls_Rules W.na_Rules_lots (v_nm (pv 0)))) (v_nm (pv 1)) (fun _ _ => rfl)))) (g_nm (i := 5) (by decide) sc_row_directions.nd rfl (.inl rfl)) (ss_cons (s_set (i := 6) sc_row_directions.nd rfl (.inl rfl) (f_dget (uu1 hr) (e_nm (pv 5)) (v_nm (pv 2)) ⟨rfl, rfl, rfl, rfl⟩))
    (ss_cons (s_set (i := 7) sc_row_directions.nd rfl (.inl rfl) (f_dget (uu1 hr) (e_nm (pv 5)) (v_nm (pv 3)) ⟨rfl, rfl, rfl, rfl⟩))
    (ss_one (s_if (w_and (t_cmp o_notN (v_nm (pv 6)) (v_of (f_non pe_non)) rfl) (w_and (t_cmp o_notN (v_nm (pv 7)) (v_of (f_non pe_non)) rfl) (w_and1 (t_cmp (o_ne (uu64 hr)) (v_nm (pv 6)) (v_nm (pv 7)) rfl)))).pt (ss_one (s_expr (f_append (pv 4) (e_of (f_cmp o_lt (v_nm (pv 6)) (v_nm (pv 7)) rfl))))) ss_nil)))))
    (ss_one (s_ret (f_nm (pv 4))))))
abbrev kk_link_leads : Nat := 3
theorem ok_link_leads (W : Wd K mg) (ht : Tbs W base) : FnOk P w K mg base CX0 3 W.f_link_leads W.d_link_leads ["rules", "pair", "n", "a", "b"] (spM (gg W) 5 fm_link_leads) := fn_Mc W.F_link_leads sc_link_leads fun A outer s H E hr => (ss_cons (s_if (t_not (t_val (f_call ((ok_is_number W ht).mono (by decide)) hr (by rfl) W.m_is_number W.F_is_number.kp W.b_is_number (av_cons (v_e (e_nm (pv 2))) (av_cons (v_e (e_of (f_len W.z_len (v_of (f_fld (cn := "Rules") W.cls_Rules W.na_Rules_things (v_nm (pv 0))))))) av_nil)) (mA_len (mA_len (fun _ _ _ => mA_len0)))))) (ss_one (s_ret (f_bl pe_bl))) ss_nil)
    (ss_cons (s_set (i := 5) sc_link_leads.nd rfl (.inr rfl) (f_call ((ok_row_directions W ht).mono (by decide)) hr (by rfl) W.m_row_directions W.F_row_directions.kp W.b_row_directions (av_cons (v_e (e_nm (pv 0))) (av_cons (v_e (e_nm (pv 2))) (av_cons (v_e (e_of (f_ix o_ix (v_nm (pv 1)) (v_of (f_int pe_int)) (fun _ _ => rfl)))) (av_cons (v_e (e_of (f_ix o_ix (v_nm (pv 1)) (v_of (f_int pe_int)) (fun _ _ => rfl)))) av_nil)))) (mA_len (mA_len (mA_len (mA_len (fun _ _ _ => mA_len0)))))))
    (ss_one (s_ret (f_anyIn (i := 5) hr W.z_any ht.tab_link_leads rfl rfl (genC_by (by kernel_rfl)) (e_of (f_call ((ok_row_directions W ht).mono (by decide)) hr (by rfl) W.m_row_directions W.F_row_directions.kp W.b_row_directions (av_cons (v_e (e_nm (pv 0))) (av_cons (v_e (e_nm (pv 2))) (av_cons (v_e (e_nm (pv 3))) (av_cons (v_e (e_nm (pv 4))) av_nil)))) (mA_len (mA_len (mA_len (mA_len (fun _ _ _ => mA_len0))))))) rfl rfl rfl)))))
abbrev kk_told_pair : Nat := 3
theorem ok_told_pair (W : Wd K mg) (ht : Tbs W base) : FnOk P w K mg base CX0 3 W.f_told_pair W.d_told_pair ["rules", "line"] (spM (gg W) 2 fm_told_pair) := fn_M W.F_told_pair sc_told_pair fun cdv A outer s H E hr => (ss_cons (s_asg (vs := [2, 3, 4]) (e_of (f_sl (ha := (v_nm (pv 1))) (hl := (o_some (v_of (f_int pe_int)))) (hh := o_none))) (g_tup rfl (gs_cons (g_nm (i := 2) (by decide) sc_told_pair.nd rfl (.inl rfl)) (gs_cons (g_nm (i := 3) (by decide) sc_told_pair.nd rfl (.inl rfl)) (gs_cons (g_nm (i := 4) (by decide) sc_told_pair.nd rfl (.inl rfl)) gs_nil)))))
    (ss_cons (s_if (t_not (t_val (f_call ((ok_is_number W ht).mono (by decide)) hr (by rfl) W.m_is_number W.F_is_number.kp W.b_is_number (av_cons (v_e (e_nm (pv 2))) (av_cons (v_e (e_of (f_len W.z_len (v_of (f_fld (cn := "Rules") W.cls_Rules W.na_Rules_things (v_nm (pv 0))))))) av_nil)) (mA_len (mA_len (fun _ _ _ => mA_len0)))))) (ss_one (s_ret (f_non pe_non))) ss_nil)
    (ss_cons (s_set (i := 5) sc_told_pair.nd rfl (.inl rfl) (f_ix o_ix (v_of (f_fld (cn := "Rules") W.cls_Rules W.na_Rules_things (v_nm (pv 0)))) (v_nm (pv 2)) (fun _ _ => rfl)))
    (ss_cons (s_if (w_and (t_cmp (o_eq (uu64 hr)) (v_of (f_ix o_ix (v_nm (pv 5)) (v_of (f_int pe_int)) (fun _ _ => rfl))) (v_of (f_str pe_str)) rfl) (w_and (t_cmp (o_in (uu hr)) (v_nm (pv 3)) (v_of (f_ix o_ix (v_nm (pv 5)) (v_of (f_int pe_int)) (fun _ _ => rfl))) rfl) (w_and1 (t_cmp (o_in (uu hr)) (v_nm (pv 4)) (v_of (f_ix o_ix (v_nm (pv 5)) (v_of (f_int pe_int)) (fun _ _ => rfl))) rfl)))).pt (ss_one (s_ret (f_tup (a_cons (e_nm (pv 3)) (a_cons (e_nm (pv 4)) a_nil))))) ss_nil)
    (ss_one (s_ret (f_non pe_non)))))))
abbrev kk_years_pair : Nat := 3
theorem ok_years_pair (W : Wd K mg) (ht : Tbs W base) : FnOk P w K mg base CX0 3 W.f_years_pair W.d_years_pair ["rules", "line"] (spM (gg W) 2 fm_years_pair) := fn_M W.F_years_pair sc_years_pair fun cdv A outer s H E hr => (ss_cons (s_asg (vs := [2, 3, 4, 5]) (e_of (f_sl (ha := (v_nm (pv 1))) (hl := (o_some (v_of (f_int pe_int)))) (hh := o_none))) (g_tup rfl (gs_cons (g_nm (i := 2) (by decide) sc_years_pair.nd rfl (.inl rfl)) (gs_cons (g_nm (i := 3) (by decide) sc_years_pair.nd rfl (.inl rfl)) (gs_cons (g_nm (i := 4) (by decide) sc_years_pair.nd rfl (.inl rfl)) (gs_cons (g_nm (i := 5) (by decide) sc_years_pair.nd rfl (.inl rfl)) gs_nil))))))
    (ss_cons (s_if (w_or (t_not (t_val (f_call ((ok_is_number W ht).mono (by decide)) hr (by rfl) W.m_is_number W.F_is_number.kp W.b_is_number (av_cons (v_e (e_nm (pv 2))) (av_cons (v_e (e_of (f_len W.z_len (v_of (f_fld (cn := "Rules") W.cls_Rules W.na_Rules_things (v_nm (pv 0))))))) av_nil)) (mA_len (mA_len (fun _ _ _ => mA_len0)))))) (w_or1 (t_not (t_val (f_call ((ok_is_number W ht).mono (by decide)) hr (by rfl) W.m_is_number W.F_is_number.kp W.b_is_number (av_cons (v_e (e_nm (pv 3))) (av_cons (v_e (e_of (f_len W.z_len (v_of (f_fld (cn := "Rules") W.cls_Rules W.na_Rules_things (v_nm (pv 0))))))) av_nil)) (mA_len (mA_len (fun _ _ _ => mA_len0)))))))).pt (ss_one (s_ret (f_non pe_non))) ss_nil)
    (ss_cons (s_set (i := 6) sc_years_pair.nd rfl (.inl rfl) (f_ix o_ix (v_of (f_fld (cn := "Rules") W.cls_Rules W.na_Rules_things (v_nm (pv 0)))) (v_nm (pv 2)) (fun _ _ => rfl)))
    (ss_cons (s_set (i := 7) sc_years_pair.nd rfl (.inl rfl) (f_ix o_ix (v_of (f_fld (cn := "Rules") W.cls_Rules W.na_Rules_things (v_nm (pv 0)))) (v_nm (pv 3)) (fun _ _ => rfl)))
    (ss_cons (s_if (w_or (t_cmp (o_ne (uu64 hr)) (v_of (f_ix o_ix (v_nm (pv 6)) (v_of (f_int pe_int)) (fun _ _ => rfl))) (v_of (f_str pe_str)) rfl) (w_or (t_cmp (o_ne (uu64 hr)) (v_of (f_ix o_ix (v_nm (pv 7)) (v_of (f_int pe_int)) (fun _ _ => rfl))) (v_of (f_str pe_str)) rfl) (w_or (t_cmp (o_notIn (uu hr)) (v_nm (pv 4)) (v_of (f_ix o_ix (v_nm (pv 6)) (v_of (f_int pe_int)) (fun _ _ => rfl))) rfl) (w_or1 (t_cmp (o_notIn (uu hr)) (v_nm (pv 5)) (v_of (f_ix o_ix (v_nm (pv 7)) (v_of (f_int pe_int)) (fun _ _ => rfl))) rfl))))).pt (ss_one (s_ret (f_non pe_non))) ss_nil)
    (ss_cons (s_if (w_or (t_cmp o_isN (v_of (f_ix o_ix (v_nm (pv 6)) (v_of (f_int pe_int)) (fun _ _ => rfl))) (v_of (f_non pe_non)) rfl) (w_or (t_cmp o_isN (v_of (f_ix o_ix (v_nm (pv 7)) (v_of (f_int pe_int)) (fun _ _ => rfl))) (v_of (f_non pe_non)) rfl) (w_or1 (t_cmp o_ge (v_of (f_ix o_ix (v_nm (pv 6)) (v_of (f_int pe_int)) (fun _ _ => rfl))) (v_of (f_ix o_ix (v_nm (pv 7)) (v_of (f_int pe_int)) (fun _ _ => rfl))) rfl)))).pt (ss_one (s_ret (f_non pe_non))) ss_nil)
    (ss_one (s_ret (f_tup (a_cons (e_nm (pv 4)) (a_cons (e_nm (pv 5)) a_nil)))))))))))
abbrev kk_chain_pair : Nat := 3
theorem ok_chain_pair (W : Wd K mg) (ht : Tbs W base) : FnOk P w K mg base CX0 3 W.f_chain_pair W.d_chain_pair ["pairs", "line"] (spM (gg W) 2 fm_chain_pair) := fn_M W.F_chain_pair sc_chain_pair fun cdv A outer s H E hr => (ss_cons (s_asg (vs := [2, 3]) (e_of (f_sl (ha := (v_nm (pv 1))) (hl := (o_some (v_of (f_int pe_int)))) (hh := o_none))) (g_tup rfl (gs_cons (g_nm (i := 2) (by decide) sc_chain_pair.nd rfl (.inl rfl)) (gs_cons (g_nm (i := 3) (by decide) sc_chain_pair.nd rfl (.inl rfl)) gs_nil))))
    (ss_cons (s_if (w_or (t_not (t_val (f_call ((ok_is_number W ht).mono (by decide)) hr (by rfl) W.m_is_number W.F_is_number.kp W.b_is_number (av_cons (v_e (e_nm (pv 2))) (av_cons (v_e (e_of (f_len W.z_len (v_nm (pv 0))))) av_nil)) (mA_len (mA_len (fun _ _ _ => mA_len0)))))) (w_or (t_not (t_val (f_call ((ok_is_number W ht).mono (by decide)) hr (by rfl) W.m_is_number W.F_is_number.kp W.b_is_number (av_cons (v_e (e_nm (pv 3))) (av_cons (v_e (e_of (f_len W.z_len (v_nm (pv 0))))) av_nil)) (mA_len (mA_len (fun _ _ _ => mA_len0)))))) (w_or1 (t_cmp (o_ne (uu64 hr)) (v_of (f_ix o_ix (v_of (f_ix o_ix (v_nm (pv 0)) (v_nm (pv 2)) (fun _ _ => rfl))) (v_of (f_int pe_int)) (fun _ _ => rfl))) (v_of (f_ix o_ix (v_of (f_ix o_ix (v_nm (pv 0)) (v_nm (pv 3)) (fun _ _ => rfl))) (v_of (f_int pe_int)) (fun _ _ => rfl))) rfl)))).pt (ss_one (s_ret (f_non pe_non))) ss_nil)
    (ss_one (s_ret (f_tup (a_cons (e_of (f_ix o_ix (v_of (f_ix o_ix (v_nm (pv 0)) (v_nm (pv 2)) (fun _ _ => rfl))) (v_of (f_int pe_int)) (fun _ _ => rfl))) (a_cons (e_of (f_ix o_ix (v_of (f_ix o_ix (v_nm (pv 0)) (v_nm (pv 3)) (fun _ _ => rfl))) (v_of (f_int pe_int)) (fun _ _ => rfl))) a_nil)))))))
abbrev kk_line_pair : Nat := 4
theorem ok_line_pair (W : Wd K mg) (ht : Tbs W base) : FnOk P w K mg base CX0 4 W.f_line_pair W.d_line_pair ["rules", "pairs", "line"] (spM (gg W) 3 fm_line_pair) := fn_M W.F_line_pair sc_line_pair fun cdv A outer s H E hr => (ss_cons (s_if (w_or (t_not (t_val (f_isi (by decide) W.z_isinstance (v_nm (pv 2)) (pe_bltn (by rfl) W.z_tuple (by decide +kernel) rfl)))) (w_or1 (t_cmp o_lt (v_of (f_len W.z_len (v_nm (pv 2)))) (v_of (f_int pe_int)) rfl))).pt (ss_one (s_ret (f_non pe_non))) ss_nil)
    (ss_cons (s_if (w_and (t_cmp (o_eq (uu64 hr)) (v_of (f_ix o_ix (v_nm (pv 2)) (v_of (f_int pe_int)) (fun _ _ => rfl))) (v_of (f_str pe_str)) rfl) (w_and1 (t_cmp (o_eq (uu64 hr)) (v_of (f_len W.z_len (v_nm (pv 2)))) (v_of (f_int pe_int)) rfl))).pt (ss_one (s_ret (f_call ((ok_told_pair W ht).mono (by decide)) hr (by rfl) W.m_told_pair W.F_told_pair.kp W.b_told_pair (av_cons (v_e (e_nm (pv 0))) (av_cons (v_e (e_nm (pv 2))) av_nil)) (mA_len (mA_len (fun _ _ _ => mA_len0)))))) ss_nil)
    (ss_cons (s_if (w_and (t_cmp (o_eq (uu64 hr)) (v_of (f_ix o_ix (v_nm (pv 2)) (v_of (f_int pe_int)) (fun _ _ => rfl))) (v_of (f_str pe_str)) rfl) (w_and1 (t_cmp (o_eq (uu64 hr)) (v_of (f_len W.z_len (v_nm (pv 2)))) (v_of (f_int pe_int)) rfl))).pt (ss_one (s_ret (f_call ((ok_years_pair W ht).mono (by decide)) hr (by rfl) W.m_years_pair W.F_years_pair.kp W.b_years_pair (av_cons (v_e (e_nm (pv 0))) (av_cons (v_e (e_nm (pv 2))) av_nil)) (mA_len (mA_len (fun _ _ _ => mA_len0)))))) ss_nil)
    (ss_cons (s_if (w_and (t_cmp (o_eq (uu64 hr)) (v_of (f_ix o_ix (v_nm (pv 2)) (v_of (f_int pe_int)) (fun _ _ => rfl))) (v_of (f_str pe_str)) rfl) (w_and1 (t_cmp (o_eq (uu64 hr)) (v_of (f_len W.z_len (v_nm (pv 2)))) (v_of (f_int pe_int)) rfl))).pt (ss_one (s_ret (f_call ((ok_chain_pair W ht).mono (by decide)) hr (by rfl) W.m_chain_pair W.F_chain_pair.kp W.b_chain_pair (av_cons (v_nm (pv 1)) (av_cons (v_e (e_nm (pv 2))) av_nil)) (mA_len (mA_len (fun _ _ _ => mA_len0)))))) ss_nil)
    (ss_cons (s_if (t_not (t_val (f_call ((ok_is_number W ht).mono (by decide)) hr (by rfl) W.m_is_number W.F_is_number.kp W.b_is_number (av_cons (v_e (e_of (f_ix o_ix (v_nm (pv 2)) (v_of (f_int pe_int)) (fun _ _ => rfl)))) (av_cons (v_e (e_of (f_len W.z_len (v_nm (pv 1))))) av_nil)) (mA_len (mA_len (fun _ _ _ => mA_len0)))))) (ss_one (s_ret (f_non pe_non))) ss_nil)
    (ss_cons (s_set (i := 3) sc_line_pair.nd rfl (.inl rfl) (f_ix o_ix (v_nm (pv 1)) (v_of (f_ix o_ix (v_nm (pv 2)) (v_of (f_int pe_int)) (fun _ _ => rfl))) (fun _ _ => rfl)))
    (ss_cons (s_if (w_and (t_cmp (o_eq (uu64 hr)) (v_of (f_ix o_ix (v_nm (pv 2)) (v_of (f_int pe_int)) (fun _ _ => rfl))) (v_of (f_str pe_str)) rfl) (w_and (t_cmp (o_eq (uu64 hr)) (v_of (f_len W.z_len (v_nm (pv 2)))) (v_of (f_int pe_int)) rfl) (w_and1 (t_val (f_call ((ok_side_leads W ht).mono (by decide)) hr (by rfl) W.m_side_leads W.F_side_leads.kp W.b_side_leads (av_cons (v_e (e_nm (pv 0))) (av_cons (v_e (e_nm (pv 3))) (av_cons (v_e (e_of (f_ix o_ix (v_nm (pv 2)) (v_of (f_int pe_int)) (fun _ _ => rfl)))) (av_cons (v_e (e_of (f_ix o_ix (v_nm (pv 2)) (v_of (f_int pe_int)) (fun _ _ => rfl)))) (av_cons (v_e (e_of (f_ix o_ix (v_nm (pv 2)) (v_of (f_int pe_int)) (fun _ _ => rfl)))) (av_cons (v_e (e_of (f_ix o_ix (v_nm (pv 2)) (v_of (f_int pe_int)) (fun _ _ => rfl)))) av_nil)))))) (mA_len (mA_len (mA_len (mA_len (mA_len (mA_len (fun _ _ _ => mA_len0)))))))))))).pt (ss_one (s_ret (f_tup (a_cons (e_of (f_ix o_ix (v_nm (pv 2)) (v_of (f_int pe_int)) (fun _ _ => rfl))) (a_cons (e_of (f_ix o_ix (v_nm (pv 2)) (v_of (f_int pe_int)) (fun _ _ => rfl))) a_nil))))) ss_nil)
    (ss_cons (s_if (w_and (t_cmp (o_eq (uu64 hr)) (v_of (f_ix o_ix (v_nm (pv 2)) (v_of (f_int pe_int)) (fun _ _ => rfl))) (v_of (f_str pe_str)) rfl) (w_and (t_cmp (o_eq (uu64 hr)) (v_of (f_len W.z_len (v_nm (pv 2)))) (v_of (f_int pe_int)) rfl) (w_and1 (t_val (f_call ((ok_link_leads W ht).mono (by decide)) hr (by rfl) W.m_link_leads W.F_link_leads.kp W.b_link_leads (av_cons (v_e (e_nm (pv 0))) (av_cons (v_e (e_nm (pv 3))) (av_cons (v_e (e_of (f_ix o_ix (v_nm (pv 2)) (v_of (f_int pe_int)) (fun _ _ => rfl)))) (av_cons (v_e (e_of (f_ix o_ix (v_nm (pv 2)) (v_of (f_int pe_int)) (fun _ _ => rfl)))) (av_cons (v_e (e_of (f_ix o_ix (v_nm (pv 2)) (v_of (f_int pe_int)) (fun _ _ => rfl)))) av_nil))))) (mA_len (mA_len (mA_len (mA_len (mA_len (fun _ _ _ => mA_len0))))))))))).pt (ss_one (s_ret (f_tup (a_cons (e_of (f_ix o_ix (v_nm (pv 2)) (v_of (f_int pe_int)) (fun _ _ => rfl))) (a_cons (e_of (f_ix o_ix (v_nm (pv 2)) (v_of (f_int pe_int)) (fun _ _ => rfl))) a_nil))))) ss_nil)
    (ss_one (s_ret (f_non pe_non)))))))))))
abbrev kk_pairs_of : Nat := 5
theorem ok_pairs_of (W : Wd K mg) (ht : Tbs W base) : FnOk P w K mg base CX0 5 W.f_pairs_of W.d_pairs_of ["dossier", "value"] (spM (gg W) 2 fm_pairs_of) := fn_M W.F_pairs_of sc_pairs_of fun cdv A outer s H E hr => (ss_cons (s_if (t_not (t_val (f_isi (by decide) W.z_isinstance (v_nm (pv 1)) (pe_bltn (by rfl) W.z_tuple (by decide +kernel) rfl)))) (ss_one (s_ret (f_non pe_non))) ss_nil)
    (ss_cons (s_set (i := 2) sc_pairs_of.nd rfl (.inl rfl) (f_make (cn := "Rules") (k := kk_Rules_init) W.mk_Rules rfl ((ok_Rules_init W ht)) (hr.mono (by decide)) (by rfl) W.m_Rules W.b_Rules_init (a_cons (e_nm (pv 0)) a_nil) rfl (arL (fun _ _ _ => arL0))))
    (ss_cons (s_set (i := 3) sc_pairs_of.nd rfl (.inl rfl) (f_lst a_nil))
    (ss_cons (s_for (vs := [4]) PassesOwn.never rfl (i_sq (e_nm (pv 1))) (g_nm (i := 4) (by decide) sc_pairs_of.nd rfl (.inl rfl)) (ss_cons (s_set (i := 5) sc_pairs_of.nd rfl (.inl rfl) (f_call ((ok_line_pair W ht).mono (by decide)) hr (by rfl) W.m_line_pair W.F_line_pair.kp W.b_line_pair (av_cons (v_e (e_nm (pv 2))) (av_cons (v_nm (pv 3)) (av_cons (v_e (e_nm (pv 4))) av_nil))) (mA_len (mA_len (mA_len (fun _ _ _ => mA_len0))))))
    (ss_cons (s_if (t_cmp o_isN (v_nm (pv 5)) (v_of (f_non pe_non)) rfl) (ss_one (s_ret (f_non pe_non))) ss_nil)
    (ss_one (s_expr (f_append (pv 3) (e_nm (pv 5))))))))
    (ss_one (s_ret (f_tuple W.z_tuple (v_nm (pv 3)))))))))
abbrev kk_derives : Nat := 6
theorem ok_derives (W : Wd K mg) (ht : Tbs W base) : FnOk P w K mg base CX0 6 W.f_derives W.d_derives ["dossier", "value", "a", "b"] (spM (gg W) 4 fm_derives) := fn_M W.F_derives sc_derives fun cdv A outer s H E hr => (ss_cons (s_set (i := 4) sc_derives.nd rfl (.inl rfl) (f_call ((ok_pairs_of W ht).mono (by decide)) hr (by rfl) W.m_pairs_of W.F_pairs_of.kp W.b_pairs_of (av_cons (v_e (e_nm (pv 0))) (av_cons (v_e (e_nm (pv 1))) av_nil)) (mA_len (mA_len (fun _ _ _ => mA_len0)))))
    (ss_one (s_ret (f_and (f_cmp o_notN (v_nm (pv 4)) (v_of (f_non pe_non)) rfl) (f_and (f_cmp o_gt (v_of (f_len W.z_len (v_nm (pv 4)))) (v_of (f_int pe_int)) rfl) (f_one (f_cmp (o_eq (uu64 hr)) (v_of (f_ix o_ix (v_nm (pv 4)) (v_of (f_un o_neg (v_of (f_int pe_int)))) (fun _ _ => rfl))) (v_of (f_tup (a_cons (e_nm (pv 2)) (a_cons (e_nm (pv 3)) a_nil)))) rfl)))))))
abbrev kk_line_text : Nat := 1
theorem ok_line_text (W : Wd K mg) (ht : Tbs W base) : FnOk P w K mg base CX0 1 W.f_line_text W.d_line_text ["number", "line", "pair"] (spM (gg W) 3 fm_line_text) := fn_M W.F_line_text sc_line_text fun cdv A outer s H E hr => (ss_cons (s_set (i := 3) sc_line_text.nd rfl (.inl rfl) (f_if (t_cmp (o_eq (uu64 hr)) (v_of (f_ix o_ix (v_nm (pv 1)) (v_of (f_int pe_int)) (fun _ _ => rfl))) (v_of (f_str pe_str)) rfl) (f_sl (ha := (v_nm (pv 1))) (hl := (o_some (v_of (f_int pe_int)))) (hh := (o_some (v_of (f_int pe_int))))) (f_sl (ha := (v_nm (pv 1))) (hl := (o_some (v_of (f_int pe_int)))) (hh := (o_some (v_of (f_int pe_int)))))))
    (ss_cons (s_set (i := 4) sc_line_text.nd rfl (.inl rfl) (f_op o_add (v_of (f_lst (a_cons (e_of (f_toStr W.z_str (v_nm (pv 0)))) (a_cons (e_of (f_ix o_ix (v_nm (pv 1)) (v_of (f_int pe_int)) (fun _ _ => rfl))) a_nil)))) (v_of (f_lc rfl sc_line_text.nd (i_sq (e_nm (pv 3))) (blkOk_by (own := [("one", 5)]) (by kernel_rfl)) (fun _ _ _ _ _ => (g_nm (i := 5) (by decide) sc_line_text.nd rfl (.inl rfl))) (fun _ _ _ _ _ => ts_nil) (fun _ _ _ _ _ => (e_of (f_toStr W.z_str (v_nm (pv 5)))))))))
    (ss_one (s_ret (f_op o_add (v_of (f_join pe_str (v_nm (pv 4)))) (v_of (f_joined (j_cons (f_str pe_str) (j_cons (f_fmt (v_of (f_ix o_ix (v_nm (pv 2)) (v_of (f_int pe_int)) (fun _ _ => rfl)))) (j_cons (f_str pe_str) (j_cons (f_fmt (v_of (f_ix o_ix (v_nm (pv 2)) (v_of (f_int pe_int)) (fun _ _ => rfl)))) j_nil)))))))))))
abbrev kk_print_lines : Nat := 6
theorem ok_print_lines (W : Wd K mg) (ht : Tbs W base) : FnOk P w K mg base CX0 6 W.f_print_lines W.d_print_lines ["dossier", "lines"] (spM (gg W) 2 fm_print_lines) := fn_M W.F_print_lines sc_print_lines fun cdv A outer s H E hr => (ss_cons (s_set (i := 2) sc_print_lines.nd rfl (.inl rfl) (f_call ((ok_pairs_of W ht).mono (by decide)) hr (by rfl) W.m_pairs_of W.F_pairs_of.kp W.b_pairs_of (av_cons (v_e (e_nm (pv 0))) (av_cons (v_e (e_nm (pv 1))) av_nil)) (mA_len (mA_len (fun _ _ _ => mA_len0)))))
    (ss_one (s_ret (f_tuple W.z_tuple (v_of (f_lc rfl sc_print_lines.nd (i_enumZ W.z_enumerate W.z_zip (e_nm (pv 1)) (e_nm (pv 2))) (blkOk_by (own := [("number", 3), ("line", 4), ("pair", 5)]) (by kernel_rfl)) (fun _ _ _ _ _ => (g_tup rfl (gs_cons (g_nm (i := 3) (by decide) sc_print_lines.nd rfl (.inl rfl)) (gs_cons (g_tup rfl (gs_cons (g_nm (i := 4) (by decide) sc_print_lines.nd rfl (.inl rfl)) (gs_cons (g_nm (i := 5) (by decide) sc_print_lines.nd rfl (.inl rfl)) gs_nil))) gs_nil)))) (fun _ _ _ _ _ => ts_nil) (fun _ _ _ _ _ => (e_of (f_call ((ok_line_text W ht).mono (by decide)) hr (by rfl) W.m_line_text W.F_line_text.kp W.b_line_text (av_cons (v_e (e_nm (pv 3))) (av_cons (v_e (e_nm (pv 4))) (av_cons (v_e (e_nm (pv 5))) av_nil))) (mA_len (mA_len (mA_len (fun _ _ _ => mA_len0)))))))))))))
abbrev kk_law_deck : Nat := 1
theorem ok_law_deck (W : Wd K mg) (ht : Tbs W base) : FnOk P w K mg base CX0 1 W.f_law_deck W.d_law_deck ["script"] (spM (gg W) 1 fm_law_deck) := fn_M W.F_law_deck sc_law_deck fun cdv A outer s H E hr => (ss_one (s_ret (f_lst (a_cons (e_of (f_lc rfl sc_law_deck.nd (i_sq (e_of (f_sl (ha := (v_nm (pv 0))) (hl := o_none) (hh := (o_some (v_of (f_int pe_int))))))) (blkOk_by (own := [("cell", 1)]) (by kernel_rfl)) (fun _ _ _ _ _ => (g_nm (i := 1) (by decide) sc_law_deck.nd rfl (.inl rfl))) (fun _ _ _ _ _ => ts_nil) (fun _ _ _ _ _ => (e_of (f_abs W.z_abs (v_of (f_toInt W.z_int (v_nm (pv 1))))))))) (a_cons (e_of (f_int pe_int)) (a_cons (e_of (f_int pe_int)) (a_cons (e_of (f_int pe_int)) (a_cons (e_of (f_int pe_int)) (a_cons (e_of (f_int pe_int)) a_nil)))))))))
abbrev kk_law_draw : Nat := 1
theorem ok_law_draw (W : Wd K mg) (ht : Tbs W base) : FnOk P w K mg base CX0 1 W.f_law_draw W.d_law_draw ["deck", "many"] (spM (gg W) 2 fm_law_draw) := fn_M W.F_law_draw sc_law_draw fun cdv A outer s H E hr => (ss_cons (s_setI (pv 0) (v_of (f_int pe_int)) (e_of (f_op o_add (v_of (f_ix o_ix (v_nm (pv 0)) (v_of (f_int pe_int)) (fun _ _ => rfl))) (v_of (f_int pe_int)))))
    (ss_cons (s_if (w_and (t_cmp o_lt (v_of (f_ix o_ix (v_nm (pv 0)) (v_of (f_int pe_int)) (fun _ _ => rfl))) (v_of (f_int pe_int)) rfl) (w_and1 (t_cmp o_lt (v_of (f_ix o_ix (v_nm (pv 0)) (v_of (f_int pe_int)) (fun _ _ => rfl))) (v_of (f_len W.z_len (v_of (f_ix o_ix (v_nm (pv 0)) (v_of (f_int pe_int)) (fun _ _ => rfl))))) rfl))).pt (ss_cons (s_set (i := 2) sc_law_draw.nd rfl (.inl rfl) (f_ix o_ix (v_of (f_ix o_ix (v_nm (pv 0)) (v_of (f_int pe_int)) (fun _ _ => rfl))) (v_of (f_ix o_ix (v_nm (pv 0)) (v_of (f_int pe_int)) (fun _ _ => rfl))) (fun _ _ => rfl)))
    (ss_cons (s_setI (pv 0) (v_of (f_int pe_int)) (e_of (f_op o_add (v_of (f_ix o_ix (v_nm (pv 0)) (v_of (f_int pe_int)) (fun _ _ => rfl))) (v_of (f_int pe_int)))))
    (ss_cons (s_setI (pv 0) (v_of (f_int pe_int)) (e_of (f_if (t_cmp o_ge (v_nm (pv 2)) (v_of (f_op o_pow (v_of (f_int pe_int)) (v_of (f_int pe_int)))) rfl) (f_nm (pv 2)) (f_int pe_int))))
    (ss_cons (s_setI (pv 0) (v_of (f_int pe_int)) (e_of (f_int pe_int)))
    (ss_one (s_setI (pv 0) (v_of (f_int pe_int)) (e_of (f_op o_mod (v_of (f_toInt W.z_int (v_of (f_op o_add (v_of (f_op o_add (v_of (f_op o_mul (v_of (f_ix o_ix (v_nm (pv 0)) (v_of (f_int pe_int)) (fun _ _ => rfl))) (v_of (f_int pe_int)))) (v_of (f_op o_mod (v_of (f_toInt W.z_int (v_nm (pv 2)))) (v_of (f_int pe_int)))))) (v_of (f_ix o_ix (v_nm (pv 0)) (v_of (f_int pe_int)) (fun _ _ => rfl))))))) (v_of (f_int pe_int)))))))))) ss_nil)
    (ss_cons (s_if (t_cmp o_gt (v_of (f_ix o_ix (v_nm (pv 0)) (v_of (f_int pe_int)) (fun _ _ => rfl))) (v_of (f_int pe_int)) rfl) (ss_cons (s_set (i := 3) sc_law_draw.nd rfl (.inl rfl) (f_op o_mod (v_of (f_toInt W.z_int (v_of (f_ix o_ix (v_nm (pv 0)) (v_of (f_int pe_int)) (fun _ _ => rfl))))) (v_nm (pv 1))))
    (ss_cons (s_setI (pv 0) (v_of (f_int pe_int)) (e_of (f_op o_sub (v_of (f_ix o_ix (v_nm (pv 0)) (v_of (f_int pe_int)) (fun _ _ => rfl))) (v_of (f_int pe_int)))))
    (ss_cons (s_setI (pv 0) (v_of (f_int pe_int)) (e_of (f_if (t_cmp o_gt (v_of (f_ix o_ix (v_nm (pv 0)) (v_of (f_int pe_int)) (fun _ _ => rfl))) (v_of (f_int pe_int)) rfl) (f_op o_div (v_of (f_ix o_ix (v_nm (pv 0)) (v_of (f_int pe_int)) (fun _ _ => rfl))) (v_nm (pv 1))) (f_int pe_int))))
    (ss_one (s_ret (f_nm (pv 3))))))) ss_nil)
    (ss_cons (s_set (i := 4) sc_law_draw.nd rfl (.inl rfl) (f_op o_mod (v_of (f_toInt W.z_int (v_of (f_op o_add (v_of (f_op o_add (v_of (f_op o_mul (v_of (f_ix o_ix (v_nm (pv 0)) (v_of (f_int pe_int)) (fun _ _ => rfl))) (v_of (f_int pe_int)))) (v_of (f_op o_mul (v_of (f_ix o_ix (v_nm (pv 0)) (v_of (f_int pe_int)) (fun _ _ => rfl))) (v_of (f_int pe_int)))))) (v_of (f_int pe_int)))))) (v_of (f_int pe_int))))
    (ss_cons (s_setI (pv 0) (v_of (f_int pe_int)) (e_of (f_op o_mod (v_of (f_toInt W.z_int (v_of (f_op o_add (v_of (f_op o_mul (v_nm (pv 4)) (v_nm (pv 4)))) (v_of (f_ix o_ix (v_nm (pv 0)) (v_of (f_int pe_int)) (fun _ _ => rfl))))))) (v_of (f_int pe_int)))))
    (ss_one (s_ret (f_op o_mod (v_of (f_op o_div (v_of (f_op o_mod (v_of (f_toInt W.z_int (v_of (f_op o_add (v_of (f_op o_mul (v_of (f_ix o_ix (v_nm (pv 0)) (v_of (f_int pe_int)) (fun _ _ => rfl))) (v_of (f_int pe_int)))) (v_of (f_op o_div (v_nm (pv 4)) (v_of (f_int pe_int)))))))) (v_of (f_int pe_int)))) (v_of (f_int pe_int)))) (v_nm (pv 1))))))))))
abbrev kk_law_pick : Nat := 2
theorem ok_law_pick (W : Wd K mg) (ht : Tbs W base) : FnOk P w K mg base CX0 2 W.f_law_pick W.d_law_pick ["deck", "some"] (spM (gg W) 2 fm_law_pick) := fn_M W.F_law_pick sc_law_pick fun cdv A outer s H E hr => (ss_one (s_ret (f_ix o_ix (v_nm (pv 1)) (v_of (f_call ((ok_law_draw W ht).mono (by decide)) hr (by rfl) W.m_law_draw W.F_law_draw.kp W.b_law_draw (av_cons (v_nm (pv 0)) (av_cons (v_e (e_of (f_len W.z_len (v_nm (pv 1))))) av_nil)) (mA_len (mA_len (fun _ _ _ => mA_len0))))) (fun _ _ => rfl))))
abbrev kk_law_shuffled : Nat := 2
theorem ok_law_shuffled (W : Wd K mg) (ht : Tbs W base) : FnOk P w K mg base CX0 2 W.f_law_shuffled W.d_law_shuffled ["deck", "some"] (spM (gg W) 2 fm_law_shuffled) := fn_M W.F_law_shuffled sc_law_shuffled fun cdv A outer s H E hr => (ss_cons (s_set (i := 2) sc_law_shuffled.nd rfl (.inr rfl) (f_list W.z_list (v_nm (pv 1))))
    (ss_one (s_ret (f_lc rfl sc_law_shuffled.nd (i_rng1 W.z_range (v_of (f_len W.z_len (v_nm (pv 1))))) (blkOk_by (own := [("k", 3)]) (by kernel_rfl)) (fun _ _ _ _ _ => (g_nm (i := 3) (by decide) sc_law_shuffled.nd rfl (.inl rfl))) (fun _ _ _ _ _ => ts_nil) (fun _ _ _ _ _ => (e_of (f_pop (pv 2) (v_of (f_call ((ok_law_draw W ht).mono (by decide)) hr (by rfl) W.m_law_draw W.F_law_draw.kp W.b_law_draw (av_cons (v_nm (pv 0)) (av_cons (v_e (e_of (f_len W.z_len (v_nm (pv 2))))) av_nil)) (mA_len (mA_len (fun _ _ _ => mA_len0))))))))))))
abbrev kk_law_is : Nat := 5
theorem ok_law_is (W : Wd K mg) (ht : Tbs W base) : ∀ n : Nat, FnOk P w K mg base CX0 n W.f_law_is W.d_law_is ["found", "due"] (spM (gg W) 2 (fm_law_is n))
  | 0 => fn_none
  | n + 1 => by
    have ih := ok_law_is W ht n
    exact fn_M W.F_law_is sc_law_is fun cdv A outer s H E hr => (ss_cons (s_if (t_cmp o_isN (v_nm (pv 1)) (v_of (f_non pe_non)) rfl) (ss_one (s_ret (f_cmp o_isN (v_nm (pv 0)) (v_of (f_non pe_non)) rfl))) ss_nil)
    (ss_cons (s_if (t_val (f_isi (by decide) W.z_isinstance (v_nm (pv 1)) (pe_bltn (by rfl) W.z_tuple (by decide +kernel) rfl))) (ss_cons (s_if (w_or (t_not (t_val (f_isi (by decide) W.z_isinstance (v_nm (pv 0)) (pe_bltn (by rfl) W.z_tuple (by decide +kernel) rfl)))) (w_or1 (t_cmp (o_ne (uu64 hr)) (v_of (f_len W.z_len (v_nm (pv 0)))) (v_of (f_len W.z_len (v_nm (pv 1)))) rfl))).pt (ss_one (s_ret (f_bl pe_bl))) ss_nil)
    (ss_one (s_ret (f_cmp (o_eq (uu64 hr)) (v_of (f_lc rfl sc_law_is.nd (i_rng1 W.z_range (v_of (f_len W.z_len (v_nm (pv 1))))) (blkOk_by (own := [("k", 2)]) (by kernel_rfl)) (fun _ _ _ _ _ => (g_nm (i := 2) (by decide) sc_law_is.nd rfl (.inl rfl))) (fun _ _ _ _ _ => (ts_one (t_not (t_val (f_call (ih) hr (by rfl) W.m_law_is W.F_law_is.kp W.b_law_is (av_cons (v_e (e_of (f_ix o_ix (v_nm (pv 0)) (v_nm (pv 2)) (fun _ _ => rfl)))) (av_cons (v_e (e_of (f_ix o_ix (v_nm (pv 1)) (v_nm (pv 2)) (fun _ _ => rfl)))) av_nil)) (mA_len (mA_len (fun _ _ _ => mA_len0)))))))) (fun _ _ _ _ _ => (e_nm (pv 2))))) (v_of (f_lst a_nil)) rfl)))) ss_nil)
    (ss_cons (s_if (w_or (t_val (f_isi (by decide) W.z_isinstance (v_nm (pv 1)) (pe_bltn (by rfl) W.z_bool (by decide +kernel) rfl))) (w_or1 (t_val (f_isi (by decide) W.z_isinstance (v_nm (pv 0)) (pe_bltn (by rfl) W.z_bool (by decide +kernel) rfl))))).pt (ss_one (s_ret (f_and (f_isi (by decide) W.z_isinstance (v_nm (pv 1)) (pe_bltn (by rfl) W.z_bool (by decide +kernel) rfl)) (f_and (f_isi (by decide) W.z_isinstance (v_nm (pv 0)) (pe_bltn (by rfl) W.z_bool (by decide +kernel) rfl)) (f_one (f_cmp (o_eq (uu64 hr)) (v_nm (pv 0)) (v_nm (pv 1)) rfl)))))) ss_nil)
    (ss_cons (s_if (t_val (f_isi (by decide) W.z_isinstance (v_nm (pv 1)) (pe_bltn (by rfl) W.z_int (by decide +kernel) rfl))) (ss_one (s_ret (f_and (f_isi (by decide) W.z_isinstance (v_nm (pv 0)) (pe_bltn (by rfl) W.z_int (by decide +kernel) rfl)) (f_one (f_cmp (o_eq (uu64 hr)) (v_nm (pv 0)) (v_nm (pv 1)) rfl))))) ss_nil)
    (ss_one (s_ret (f_and (f_isi (by decide) W.z_isinstance (v_nm (pv 0)) (pe_bltn (by rfl) W.z_str (by decide +kernel) rfl)) (f_one (f_cmp (o_eq (uu64 hr)) (v_nm (pv 0)) (v_nm (pv 1)) rfl)))))))))
abbrev kk_law_names : Nat := 3
theorem ok_law_names (W : Wd K mg) (ht : Tbs W base) : FnOk P w K mg base CX0 3 W.f_law_names W.d_law_names ["deck", "many"] (spM (gg W) 2 fm_law_names) := fn_M W.F_law_names sc_law_names fun cdv A outer s H E hr => (ss_cons (s_set (i := 2) sc_law_names.nd rfl (.inr rfl) (f_str pe_str))
    (ss_cons (s_set (i := 3) sc_law_names.nd rfl (.inl rfl) (f_lst a_nil))
    (ss_cons (s_for (vs := [4]) PassesOwn.never rfl (i_rng1 W.z_range (v_nm (pv 1))) (g_nm (i := 4) (by decide) sc_law_names.nd rfl (.inl rfl)) (ss_cons (s_set (i := 5) sc_law_names.nd rfl (.inl rfl) (f_join pe_str (v_of (f_lc rfl sc_law_names.nd (i_rng1 W.z_range (v_of (f_call ((ok_law_pick W ht).mono (by decide)) hr (by rfl) W.m_law_pick W.F_law_pick.kp W.b_law_pick (av_cons (v_nm (pv 0)) (av_cons (v_e (e_of (f_lst (a_cons (e_of (f_int pe_int)) (a_cons (e_of (f_int pe_int)) (a_cons (e_of (f_int pe_int)) (a_cons (e_of (f_int pe_int)) (a_cons (e_of (f_int pe_int)) (a_cons (e_of (f_int pe_int)) a_nil))))))))) av_nil)) (mA_len (mA_len (fun _ _ _ => mA_len0)))))) (blkOk_by (own := [("j", 6)]) (by kernel_rfl)) (fun _ _ _ _ _ => (g_nm (i := 6) (by decide) sc_law_names.nd rfl (.inl rfl))) (fun _ _ _ _ _ => ts_nil) (fun _ _ _ _ _ => (e_of (f_ix o_ix (v_nm (pv 2)) (v_of (f_call ((ok_law_draw W ht).mono (by decide)) hr (by rfl) W.m_law_draw W.F_law_draw.kp W.b_law_draw (av_cons (v_nm (pv 0)) (av_cons (v_e (e_of (f_int pe_int))) av_nil)) (mA_len (mA_len (fun _ _ _ => mA_len0))))) (fun _ _ => rfl))))))))
    (ss_cons (s_for (vs := [6]) PassesOwn.never rfl (i_rng1 W.z_range (v_of (f_op o_add (v_nm (pv 1)) (v_of (f_int pe_int))))) (g_nm (i := 6) (by decide) sc_law_names.nd rfl (.inl rfl)) (ss_cons (s_if (t_cmp (o_notIn (uu hr)) (v_nm (pv 5)) (v_nm (pv 3)) rfl) (ss_one s_break) ss_nil)
    (ss_one (s_set (i := 5) sc_law_names.nd rfl (.inl rfl) (f_op o_add (v_of (f_str pe_str)) (v_of (f_toStr W.z_str (v_nm (pv 6)))))))))
    (ss_one (s_expr (f_append (pv 3) (e_nm (pv 5))))))))
    (ss_one (s_ret (f_nm (pv 3)))))))
abbrev kk_law_bands : Nat := 1
theorem ok_law_bands (W : Wd K mg) (ht : Tbs W base) : FnOk P w K mg base CX0 1 W.f_law_bands W.d_law_bands ["thing"] (spM (gg W) 1 fm_law_bands) := fn_M W.F_law_bands sc_law_bands fun cdv A outer s H E hr => (ss_cons (s_if (t_cmp (o_eq (uu64 hr)) (v_of (f_ix o_ix (v_nm (pv 0)) (v_of (f_int pe_int)) (fun _ _ => rfl))) (v_of (f_str pe_str)) rfl) (ss_one (s_ret (f_lst (a_cons (e_of (f_ix o_ix (v_nm (pv 0)) (v_of (f_int pe_int)) (fun _ _ => rfl))) a_nil)))) ss_nil)
    (ss_cons (s_set (i := 1) sc_law_bands.nd rfl (.inl rfl) (f_lst a_nil))
    (ss_cons (s_if (t_cmp (o_eq (uu64 hr)) (v_of (f_ix o_ix (v_nm (pv 0)) (v_of (f_int pe_int)) (fun _ _ => rfl))) (v_of (f_str pe_str)) rfl) (ss_one (s_for (vs := [2]) PassesOwn.never rfl (i_sq (e_of (f_ix o_ix (v_nm (pv 0)) (v_of (f_int pe_int)) (fun _ _ => rfl)))) (g_nm (i := 2) (by decide) sc_law_bands.nd rfl (.inr rfl)) (ss_one (s_set (i := 1) sc_law_bands.nd rfl (.inl rfl) (f_op o_add (v_of (f_op o_add (v_nm (pv 1)) (v_of (f_list W.z_list (v_nm (pv 2)))))) (v_of (f_lc rfl sc_law_bands.nd (i_rng1 W.z_range (v_of (f_op o_sub (v_of (f_len W.z_len (v_nm (pv 2)))) (v_of (f_int pe_int))))) (blkOk_by (own := [("k", 3)]) (by kernel_rfl)) (fun _ _ _ _ _ => (g_nm (i := 3) (by decide) sc_law_bands.nd rfl (.inl rfl))) (fun _ _ _ _ _ => ts_nil) (fun _ _ _ _ _ => (e_of (f_tuple W.z_tuple (v_of (f_sorted (uu hr) W.z_sorted (v_of (f_op o_add (v_of (f_ix o_ix (v_nm (pv 2)) (v_nm (pv 3)) (fun _ _ => rfl))) (v_of (f_ix o_ix (v_nm (pv 2)) (v_of (f_op o_add (v_nm (pv 3)) (v_of (f_int pe_int)))) (fun _ _ => rfl))))))))))))))))) ss_nil)
    (ss_one (s_ret (f_nm (pv 1)))))))
abbrev kk_law_row_pairs : Nat := 1
theorem ok_law_row_pairs (W : Wd K mg) (ht : Tbs W base) : FnOk P w K mg base CX0 1 W.f_law_row_pairs W.d_law_row_pairs ["thing"] (spM (gg W) 1 fm_law_row_pairs) := fn_M W.F_law_row_pairs sc_law_row_pairs fun cdv A outer s H E hr => (ss_cons (s_set (i := 1) sc_law_row_pairs.nd rfl (.inl rfl) (f_lst a_nil))
    (ss_cons (s_for (vs := [2]) PassesOwn.never rfl (i_sq (e_of (f_ix o_ix (v_nm (pv 0)) (v_of (f_int pe_int)) (fun _ _ => rfl)))) (g_nm (i := 2) (by decide) sc_law_row_pairs.nd rfl (.inl rfl)) (ss_one (s_for (vs := [3]) PassesOwn.never rfl (i_rng1 W.z_range (v_of (f_len W.z_len (v_nm (pv 2))))) (g_nm (i := 3) (by decide) sc_law_row_pairs.nd rfl (.inl rfl)) (ss_one (s_for (vs := [4]) PassesOwn.never rfl (i_rng1 W.z_range (v_nm (pv 3))) (g_nm (i := 4) (by decide) sc_law_row_pairs.nd rfl (.inl rfl)) (ss_one (s_for (vs := [5]) PassesOwn.never rfl (i_sq (e_of (f_ix o_ix (v_nm (pv 2)) (v_nm (pv 4)) (fun _ _ => rfl)))) (g_nm (i := 5) (by decide) sc_law_row_pairs.nd rfl (.inr rfl)) (ss_one (s_set (i := 1) sc_law_row_pairs.nd rfl (.inl rfl) (f_op o_add (v_nm (pv 1)) (v_of (f_lc rfl sc_law_row_pairs.nd (i_sq (e_of (f_ix o_ix (v_nm (pv 2)) (v_nm (pv 3)) (fun _ _ => rfl)))) (blkOk_by (own := [("d", 6)]) (by kernel_rfl)) (fun _ _ _ _ _ => (g_nm (i := 6) (by decide) sc_law_row_pairs.nd rfl (.inl rfl))) (fun _ _ _ _ _ => ts_nil) (fun _ _ _ _ _ => (e_of (f_tup (a_cons (e_nm (pv 5)) (a_cons (e_nm (pv 6)) a_nil)))))))))))))))))
    (ss_one (s_ret (f_nm (pv 1))))))
abbrev kk_law_thing : Nat := 3
theorem ok_law_thing (W : Wd K mg) (ht : Tbs W base) : FnOk P w K mg base CX0 3 W.f_law_thing W.d_law_thing ["deck", "finds", "kind"] (spM (gg W) 3 fm_law_thing) := fn_M W.F_law_thing sc_law_thing fun cdv A outer s H E hr => (ss_cons (s_set (i := 3) sc_law_thing.nd rfl (.inl rfl) (f_call ((ok_law_shuffled W ht).mono (by decide)) hr (by rfl) W.m_law_shuffled W.F_law_shuffled.kp W.b_law_shuffled (av_cons (v_nm (pv 0)) (av_cons (v_e (e_nm (pv 1))) av_nil)) (mA_len (mA_len (fun _ _ _ => mA_len0)))))
    (ss_cons (s_set (i := 4) sc_law_thing.nd rfl (.inl rfl) (f_op o_add (v_of (f_int pe_int)) (v_of (f_call ((ok_law_draw W ht).mono (by decide)) hr (by rfl) W.m_law_draw W.F_law_draw.kp W.b_law_draw (av_cons (v_nm (pv 0)) (av_cons (v_e (e_of (f_int pe_int))) av_nil)) (mA_len (mA_len (fun _ _ _ => mA_len0)))))))
    (ss_cons (s_if (t_cmp (o_eq (uu64 hr)) (v_nm (pv 2)) (v_of (f_int pe_int)) rfl) (ss_one (s_ret (f_tup (a_cons (e_of (f_str pe_str)) (a_cons (e_of (f_tuple W.z_tuple (v_of (f_sorted (uu hr) W.z_sorted (v_of (f_sl (ha := (v_nm (pv 3))) (hl := o_none) (hh := (o_some (v_nm (pv 4)))))))))) (a_cons (e_of (f_tuple W.z_tuple (v_of (f_sorted (uu hr) W.z_sorted (v_of (f_sl (ha := (v_nm (pv 3))) (hl := (o_some (v_nm (pv 4)))) (hh := (o_some (v_of (f_op o_add (v_of (f_op o_add (v_nm (pv 4)) (v_of (f_int pe_int)))) (v_of (f_call ((ok_law_draw W ht).mono (by decide)) hr (by rfl) W.m_law_draw W.F_law_draw.kp W.b_law_draw (av_cons (v_nm (pv 0)) (av_cons (v_e (e_of (f_int pe_int))) av_nil)) (mA_len (mA_len (fun _ _ _ => mA_len0))))))))))))))) a_nil)))))) ss_nil)
    (ss_cons (s_if (t_cmp (o_eq (uu64 hr)) (v_nm (pv 2)) (v_of (f_int pe_int)) rfl) (ss_one (s_ret (f_tup (a_cons (e_of (f_str pe_str)) (a_cons (e_of (f_tuple W.z_tuple (v_of (f_sorted (uu hr) W.z_sorted (v_of (f_sl (ha := (v_nm (pv 3))) (hl := o_none) (hh := (o_some (v_of (f_op o_add (v_of (f_int pe_int)) (v_of (f_call ((ok_law_draw W ht).mono (by decide)) hr (by rfl) W.m_law_draw W.F_law_draw.kp W.b_law_draw (av_cons (v_nm (pv 0)) (av_cons (v_e (e_of (f_int pe_int))) av_nil)) (mA_len (mA_len (fun _ _ _ => mA_len0))))))))))))))) a_nil))))) ss_nil)
    (ss_cons (s_if (t_cmp (o_eq (uu64 hr)) (v_nm (pv 2)) (v_of (f_int pe_int)) rfl) (ss_cons (s_set (i := 5) sc_law_thing.nd rfl (.inl rfl) (f_lst a_nil))
    (ss_cons (s_for (vs := [6]) PassesOwn.never rfl (i_rng1 W.z_range (v_of (f_op o_add (v_of (f_int pe_int)) (v_of (f_call ((ok_law_draw W ht).mono (by decide)) hr (by rfl) W.m_law_draw W.F_law_draw.kp W.b_law_draw (av_cons (v_nm (pv 0)) (av_cons (v_e (e_of (f_int pe_int))) av_nil)) (mA_len (mA_len (fun _ _ _ => mA_len0)))))))) (g_nm (i := 6) (by decide) sc_law_thing.nd rfl (.inl rfl)) (ss_cons (s_set (i := 7) sc_law_thing.nd rfl (.inl rfl) (f_call ((ok_law_shuffled W ht).mono (by decide)) hr (by rfl) W.m_law_shuffled W.F_law_shuffled.kp W.b_law_shuffled (av_cons (v_nm (pv 0)) (av_cons (v_e (e_nm (pv 1))) av_nil)) (mA_len (mA_len (fun _ _ _ => mA_len0)))))
    (ss_cons (s_set (i := 8) sc_law_thing.nd rfl (.inl rfl) (f_lst (a_cons (e_of (f_tuple W.z_tuple (v_of (f_sorted (uu hr) W.z_sorted (v_of (f_sl (ha := (v_nm (pv 7))) (hl := o_none) (hh := (o_some (v_nm (pv 4)))))))))) (a_cons (e_of (f_tuple W.z_tuple (v_of (f_sorted (uu hr) W.z_sorted (v_of (f_sl (ha := (v_nm (pv 7))) (hl := (o_some (v_nm (pv 4)))) (hh := (o_some (v_of (f_op o_add (v_nm (pv 4)) (v_of (f_int pe_int)))))))))))) (a_cons (e_of (f_tup (a_cons (e_of (f_ix o_ix (v_nm (pv 7)) (v_of (f_int pe_int)) (fun _ _ => rfl))) a_nil))) a_nil)))))
    (ss_one (s_expr (f_append (pv 5) (e_of (f_tuple W.z_tuple (v_of (f_sl (ha := (v_nm (pv 8))) (hl := o_none) (hh := (o_some (v_of (f_op o_add (v_of (f_int pe_int)) (v_of (f_call ((ok_law_draw W ht).mono (by decide)) hr (by rfl) W.m_law_draw W.F_law_draw.kp W.b_law_draw (av_cons (v_nm (pv 0)) (av_cons (v_e (e_of (f_int pe_int))) av_nil)) (mA_len (mA_len (fun _ _ _ => mA_len0)))))))))))))))))))
    (ss_one (s_ret (f_tup (a_cons (e_of (f_str pe_str)) (a_cons (e_of (f_tuple W.z_tuple (v_nm (pv 5)))) a_nil))))))) ss_nil)
    (ss_cons (s_set (i := 9) sc_law_thing.nd rfl (.inl rfl) (f_op o_sub (v_of (f_call ((ok_law_draw W ht).mono (by decide)) hr (by rfl) W.m_law_draw W.F_law_draw.kp W.b_law_draw (av_cons (v_nm (pv 0)) (av_cons (v_e (e_of (f_int pe_int))) av_nil)) (mA_len (mA_len (fun _ _ _ => mA_len0))))) (v_of (f_int pe_int))))
    (ss_one (s_ret (f_tup (a_cons (e_of (f_str pe_str)) (a_cons (e_of (f_tuple W.z_tuple (v_of (f_sorted (uu hr) W.z_sorted (v_of (f_sl (ha := (v_nm (pv 3))) (hl := o_none) (hh := (o_some (v_nm (pv 4)))))))))) (a_cons (e_of (f_call ((ok_law_pick W ht).mono (by decide)) hr (by rfl) W.m_law_pick W.F_law_pick.kp W.b_law_pick (av_cons (v_nm (pv 0)) (av_cons (v_e (e_of (f_lst (a_cons (e_of (f_non pe_non)) (a_cons (e_nm (pv 9)) a_nil))))) av_nil)) (mA_len (mA_len (fun _ _ _ => mA_len0))))) (a_cons (e_of (f_op o_add (v_nm (pv 9)) (v_of (f_call ((ok_law_draw W ht).mono (by decide)) hr (by rfl) W.m_law_draw W.F_law_draw.kp W.b_law_draw (av_cons (v_nm (pv 0)) (av_cons (v_e (e_of (f_int pe_int))) av_nil)) (mA_len (mA_len (fun _ _ _ => mA_len0))))))) a_nil)))))))))))))
abbrev kk_law_dossier : Nat := 4
theorem ok_law_dossier (W : Wd K mg) (ht : Tbs W base) : FnOk P w K mg base CX0 4 W.f_law_dossier W.d_law_dossier ["deck"] (spM (gg W) 1 fm_law_dossier) := fn_M W.F_law_dossier sc_law_dossier fun cdv A outer s H E hr => (ss_cons (s_set (i := 1) sc_law_dossier.nd rfl (.inr rfl) (f_tuple W.z_tuple (v_of (f_sorted (uu hr) W.z_sorted (v_of (f_call ((ok_law_names W ht).mono (by decide)) hr (by rfl) W.m_law_names W.F_law_names.kp W.b_law_names (av_cons (v_nm (pv 0)) (av_cons (v_e (e_of (f_op o_add (v_of (f_int pe_int)) (v_of (f_call ((ok_law_draw W ht).mono (by decide)) hr (by rfl) W.m_law_draw W.F_law_draw.kp W.b_law_draw (av_cons (v_nm (pv 0)) (av_cons (v_e (e_of (f_int pe_int))) av_nil)) (mA_len (mA_len (fun _ _ _ => mA_len0)))))))) av_nil)) (mA_len (mA_len (fun _ _ _ => mA_len0)))))))))
    (ss_cons (s_lc (i := 2) rfl sc_law_dossier.nd rfl rfl (sw_true rfl rfl rfl rfl) (i_rng1 W.z_range (v_of (f_op o_add (v_of (f_int pe_int)) (v_of (f_call ((ok_law_draw W ht).mono (by decide)) hr (by rfl) W.m_law_draw W.F_law_draw.kp W.b_law_draw (av_cons (v_nm (pv 0)) (av_cons (v_e (e_of (f_int pe_int))) av_nil)) (mA_len (mA_len (fun _ _ _ => mA_len0)))))))) (blkOk_by (own := [("k", 6)]) (by kernel_rfl)) (fun _ _ _ _ _ => (g_nm (i := 6) (by decide) sc_law_dossier.nd rfl (.inl rfl))) (fun _ _ _ _ _ => ts_nil) (fun _ _ _ _ _ => (e_of (f_call ((ok_law_thing W ht).mono (by decide)) hr (by rfl) W.m_law_thing W.F_law_thing.kp W.b_law_thing (av_cons (v_nm (pv 0)) (av_cons (v_e (e_nm (pv 1))) (av_cons (v_e (e_of (f_if (t_cmp o_lt (v_nm (pv 6)) (v_of (f_int pe_int)) rfl) (f_nm (pv 6)) (f_call ((ok_law_draw W ht).mono (by decide)) hr (by rfl) W.m_law_draw W.F_law_draw.kp W.b_law_draw (av_cons (v_nm (pv 0)) (av_cons (v_e (e_of (f_int pe_int))) av_nil)) (mA_len (mA_len (fun _ _ _ => mA_len0))))))) av_nil))) (mA_len (mA_len (mA_len (fun _ _ _ => mA_len0))))))))
    (ss_cons (s_set (i := 2) sc_law_dossier.nd rfl (.inl rfl) (f_op o_add (v_nm (pv 2)) (v_of (f_lst (a_cons (e_of (f_tup (a_cons (e_of (f_str pe_str)) (a_cons (e_of (f_tup (a_cons (e_of (f_ix o_ix (v_nm (pv 1)) (v_of (f_int pe_int)) (fun _ _ => rfl))) a_nil))) (a_cons (e_of (f_non pe_non)) (a_cons (e_of (f_un o_neg (v_of (f_int pe_int)))) a_nil)))))) (a_cons (e_of (f_tup (a_cons (e_of (f_str pe_str)) (a_cons (e_of (f_tup (a_cons (e_of (f_ix o_ix (v_nm (pv 1)) (v_of (f_un o_neg (v_of (f_int pe_int)))) (fun _ _ => rfl))) a_nil))) (a_cons (e_of (f_int pe_int)) (a_cons (e_of (f_non pe_non)) a_nil)))))) a_nil))))))
    (ss_cons (s_set (i := 3) sc_law_dossier.nd rfl (.inl rfl) (f_call ((ok_law_pick W ht).mono (by decide)) hr (by rfl) W.m_law_pick W.F_law_pick.kp W.b_law_pick (av_cons (v_nm (pv 0)) (av_cons (v_e (e_of (f_lst (a_cons (e_of (f_len W.z_len (v_nm (pv 2)))) (a_cons (e_of (f_op o_add (v_of (f_len W.z_len (v_nm (pv 2)))) (v_of (f_int pe_int)))) (a_cons (e_of (f_int pe_int)) (a_cons (e_of (f_int pe_int)) (a_cons (e_of (f_int pe_int)) (a_cons (e_of (f_int pe_int)) a_nil))))))))) av_nil)) (mA_len (mA_len (fun _ _ _ => mA_len0)))))
    (ss_cons (s_set (i := 4) sc_law_dossier.nd rfl (.inl rfl) (f_sorted (uu hr) W.z_sorted (v_of (f_sl (ha := (v_of (f_call ((ok_law_shuffled W ht).mono (by decide)) hr (by rfl) W.m_law_shuffled W.F_law_shuffled.kp W.b_law_shuffled (av_cons (v_nm (pv 0)) (av_cons (v_e (e_of (f_listRng1 rfl W.z_list W.z_range (v_of (f_max2 rfl W.z_max (v_nm (pv 3)) (v_of (f_len W.z_len (v_nm (pv 2))))))))) av_nil)) (mA_len (mA_len (fun _ _ _ => mA_len0)))))) (hl := o_none) (hh := (o_some (v_of (f_len W.z_len (v_nm (pv 2))))))))))
    (ss_cons (s_set (i := 2) sc_law_dossier.nd rfl (.inl rfl) (f_call ((ok_law_shuffled W ht).mono (by decide)) hr (by rfl) W.m_law_shuffled W.F_law_shuffled.kp W.b_law_shuffled (av_cons (v_nm (pv 0)) (av_cons (v_e (e_nm (pv 2))) av_nil)) (mA_len (mA_len (fun _ _ _ => mA_len0)))))
    (ss_cons (s_set (i := 5) sc_law_dossier.nd rfl (.inl rfl) (f_lst a_nil))
    (ss_cons (s_for (vs := [6]) PassesOwn.never rfl (i_rng1 W.z_range (v_of (f_max2 rfl W.z_max (v_nm (pv 3)) (v_of (f_len W.z_len (v_nm (pv 2))))))) (g_nm (i := 6) (by decide) sc_law_dossier.nd rfl (.inl rfl)) (ss_one (s_if (t_cmp (o_in (uu hr)) (v_nm (pv 6)) (v_nm (pv 4)) rfl) (ss_one (s_expr (f_append (pv 5) (e_of (f_ix o_ix (v_nm (pv 2)) (v_of (f_index (uu hr) (v_nm (pv 4)) (v_nm (pv 6)))) (fun _ _ => rfl)))))) (ss_one (s_expr (f_append (pv 5) (e_of (f_call ((ok_law_pick W ht).mono (by decide)) hr (by rfl) W.m_law_pick W.F_law_pick.kp W.b_law_pick (av_cons (v_nm (pv 0)) (av_cons (v_e (e_of (f_lst (a_cons (e_of (f_tup (a_cons (e_of (f_str pe_str)) (a_cons (e_of (f_tup (a_cons (e_of (f_ix o_ix (v_nm (pv 1)) (v_of (f_int pe_int)) (fun _ _ => rfl))) a_nil))) a_nil)))) (a_cons (e_of (f_tup (a_cons (e_of (f_str pe_str)) (a_cons (e_of (f_tup (a_cons (e_of (f_ix o_ix (v_nm (pv 1)) (v_of (f_un o_neg (v_of (f_int pe_int)))) (fun _ _ => rfl))) a_nil))) a_nil)))) (a_cons (e_of (f_tup (a_cons (e_of (f_str pe_str)) (a_cons (e_of (f_tup (a_cons (e_of (f_ix o_ix (v_nm (pv 1)) (v_of (f_int pe_int)) (fun _ _ => rfl))) a_nil))) (a_cons (e_of (f_un o_neg (v_of (f_int pe_int)))) (a_cons (e_of (f_non pe_non)) a_nil)))))) a_nil)))))) av_nil)) (mA_len (mA_len (fun _ _ _ => mA_len0)))))))))))
    (ss_one (s_ret (f_tup (a_cons (e_of (f_tup (a_cons (e_nm (pv 1)) (a_cons (e_of (f_tuple W.z_tuple (v_nm (pv 5)))) a_nil)))) (a_cons (e_nm (pv 4)) a_nil)))))))))))))
abbrev kk_law_told : Nat := 3
theorem ok_law_told (W : Wd K mg) (ht : Tbs W base) : FnOk P w K mg base CX0 3 W.f_law_told W.d_law_told ["deck", "things", "spots", "kind"] (spM (gg W) 4 fm_law_told) := fn_M W.F_law_told sc_law_told fun cdv A outer s H E hr => (ss_cons (s_if (t_cmp (o_eq (uu64 hr)) (v_nm (pv 3)) (v_of (f_str pe_str)) rfl) (ss_cons (s_lc (i := 4) rfl sc_law_told.nd rfl rfl (sw_true rfl rfl rfl rfl) (i_sq (e_nm (pv 2))) (blkOk_by (own := [("n", 5)]) (by kernel_rfl)) (fun _ _ _ _ _ => (g_nm (i := 5) (by decide) sc_law_told.nd rfl (.inl rfl))) (fun _ _ _ _ _ => (ts_one (t_cmp (o_eq (uu64 hr)) (v_of (f_ix o_ix (v_of (f_ix o_ix (v_nm (pv 1)) (v_nm (pv 5)) (fun _ _ => rfl))) (v_of (f_int pe_int)) (fun _ _ => rfl))) (v_of (f_str pe_str)) rfl))) (fun _ _ _ _ _ => (e_nm (pv 5))))
    (ss_cons (s_if (t_cmp (o_eq (uu64 hr)) (v_nm (pv 4)) (v_of (f_lst a_nil)) rfl) (ss_one (s_ret (f_non pe_non))) ss_nil)
    (ss_cons (s_set (i := 5) sc_law_told.nd rfl (.inr rfl) (f_call ((ok_law_pick W ht).mono (by decide)) hr (by rfl) W.m_law_pick W.F_law_pick.kp W.b_law_pick (av_cons (v_nm (pv 0)) (av_cons (v_e (e_nm (pv 4))) av_nil)) (mA_len (mA_len (fun _ _ _ => mA_len0)))))
    (ss_cons (s_par (i := 6) (j := 7) rfl sc_law_told.nd rfl rfl (by decide) rfl rfl (f_call ((ok_law_pick W ht).mono (by decide)) hr (by rfl) W.m_law_pick W.F_law_pick.kp W.b_law_pick (av_cons (v_nm (pv 0)) (av_cons (v_e (e_of (f_ix o_ix (v_of (f_ix o_ix (v_nm (pv 1)) (v_nm (pv 5)) (fun _ _ => rfl))) (v_of (f_int pe_int)) (fun _ _ => rfl)))) av_nil)) (mA_len (mA_len (fun _ _ _ => mA_len0)))) (f_call ((ok_law_pick W ht).mono (by decide)) hr (by rfl) W.m_law_pick W.F_law_pick.kp W.b_law_pick (av_cons (v_nm (pv 0)) (av_cons (v_e (e_of (f_ix o_ix (v_of (f_ix o_ix (v_nm (pv 1)) (v_nm (pv 5)) (fun _ _ => rfl))) (v_of (f_int pe_int)) (fun _ _ => rfl)))) av_nil)) (mA_len (mA_len (fun _ _ _ => mA_len0)))) (by rfl))
    (ss_one (s_ret (f_tup (a_cons (e_of (f_tup (a_cons (e_nm (pv 3)) (a_cons (e_nm (pv 5)) (a_cons (e_nm (pv 6)) (a_cons (e_nm (pv 7)) a_nil)))))) (a_cons (e_of (f_tup (a_cons (e_nm (pv 6)) (a_cons (e_nm (pv 7)) a_nil)))) a_nil))))))))) ss_nil)
    (ss_cons (s_lc (i := 8) rfl sc_law_told.nd rfl rfl (sw_true rfl rfl rfl rfl) (i_sq (e_nm (pv 2))) (blkOk_by (own := [("n", 5)]) (by kernel_rfl)) (fun _ _ _ _ _ => (g_nm (i := 5) (by decide) sc_law_told.nd rfl (.inl rfl))) (fun _ _ _ _ _ => (ts_one (w_and (t_cmp (o_eq (uu64 hr)) (v_of (f_ix o_ix (v_of (f_ix o_ix (v_nm (pv 1)) (v_nm (pv 5)) (fun _ _ => rfl))) (v_of (f_int pe_int)) (fun _ _ => rfl))) (v_of (f_str pe_str)) rfl) (w_and1 (t_cmp o_notN (v_of (f_ix o_ix (v_of (f_ix o_ix (v_nm (pv 1)) (v_nm (pv 5)) (fun _ _ => rfl))) (v_of (f_int pe_int)) (fun _ _ => rfl))) (v_of (f_non pe_non)) rfl))).pt)) (fun _ _ _ _ _ => (e_nm (pv 5))))
    (ss_cons (s_set (i := 5) sc_law_told.nd rfl (.inr rfl) (f_call ((ok_law_pick W ht).mono (by decide)) hr (by rfl) W.m_law_pick W.F_law_pick.kp W.b_law_pick (av_cons (v_nm (pv 0)) (av_cons (v_e (e_nm (pv 8))) av_nil)) (mA_len (mA_len (fun _ _ _ => mA_len0)))))
    (ss_cons (s_lc (i := 9) rfl sc_law_told.nd rfl rfl (sw_true rfl rfl rfl rfl) (i_sq (e_nm (pv 2))) (blkOk_by (own := [("m", 10)]) (by kernel_rfl)) (fun _ _ _ _ _ => (g_nm (i := 10) (by decide) sc_law_told.nd rfl (.inl rfl))) (fun _ _ _ _ _ => (ts_one (w_and (t_cmp (o_eq (uu64 hr)) (v_of (f_ix o_ix (v_of (f_ix o_ix (v_nm (pv 1)) (v_nm (pv 10)) (fun _ _ => rfl))) (v_of (f_int pe_int)) (fun _ _ => rfl))) (v_of (f_str pe_str)) rfl) (w_and (t_cmp o_notN (v_of (f_ix o_ix (v_of (f_ix o_ix (v_nm (pv 1)) (v_nm (pv 10)) (fun _ _ => rfl))) (v_of (f_int pe_int)) (fun _ _ => rfl))) (v_of (f_non pe_non)) rfl) (w_and1 (t_cmp o_gt (v_of (f_ix o_ix (v_of (f_ix o_ix (v_nm (pv 1)) (v_nm (pv 10)) (fun _ _ => rfl))) (v_of (f_int pe_int)) (fun _ _ => rfl))) (v_of (f_ix o_ix (v_of (f_ix o_ix (v_nm (pv 1)) (v_nm (pv 5)) (fun _ _ => rfl))) (v_of (f_int pe_int)) (fun _ _ => rfl))) rfl)))).pt)) (fun _ _ _ _ _ => (e_nm (pv 10))))
    (ss_cons (s_if (t_cmp (o_eq (uu64 hr)) (v_nm (pv 9)) (v_of (f_lst a_nil)) rfl) (ss_one (s_ret (f_non pe_non))) ss_nil)
    (ss_cons (s_set (i := 10) sc_law_told.nd rfl (.inl rfl) (f_call ((ok_law_pick W ht).mono (by decide)) hr (by rfl) W.m_law_pick W.F_law_pick.kp W.b_law_pick (av_cons (v_nm (pv 0)) (av_cons (v_e (e_nm (pv 9))) av_nil)) (mA_len (mA_len (fun _ _ _ => mA_len0)))))
    (ss_cons (s_par (i := 6) (j := 7) rfl sc_law_told.nd rfl rfl (by decide) rfl rfl (f_call ((ok_law_pick W ht).mono (by decide)) hr (by rfl) W.m_law_pick W.F_law_pick.kp W.b_law_pick (av_cons (v_nm (pv 0)) (av_cons (v_e (e_of (f_ix o_ix (v_of (f_ix o_ix (v_nm (pv 1)) (v_nm (pv 5)) (fun _ _ => rfl))) (v_of (f_int pe_int)) (fun _ _ => rfl)))) av_nil)) (mA_len (mA_len (fun _ _ _ => mA_len0)))) (f_call ((ok_law_pick W ht).mono (by decide)) hr (by rfl) W.m_law_pick W.F_law_pick.kp W.b_law_pick (av_cons (v_nm (pv 0)) (av_cons (v_e (e_of (f_ix o_ix (v_of (f_ix o_ix (v_nm (pv 1)) (v_nm (pv 10)) (fun _ _ => rfl))) (v_of (f_int pe_int)) (fun _ _ => rfl)))) av_nil)) (mA_len (mA_len (fun _ _ _ => mA_len0)))) (by rfl))
    (ss_one (s_ret (f_tup (a_cons (e_of (f_tup (a_cons (e_nm (pv 3)) (a_cons (e_nm (pv 5)) (a_cons (e_nm (pv 10)) (a_cons (e_nm (pv 6)) (a_cons (e_nm (pv 7)) a_nil))))))) (a_cons (e_of (f_tup (a_cons (e_nm (pv 6)) (a_cons (e_nm (pv 7)) a_nil)))) a_nil))))))))))))
abbrev kk_law_moved : Nat := 3
theorem ok_law_moved (W : Wd K mg) (ht : Tbs W base) : FnOk P w K mg base CX0 3 W.f_law_moved W.d_law_moved ["deck", "things", "bands", "links", "pairs", "kind"] (spM (gg W) 6 fm_law_moved) := fn_M W.F_law_moved sc_law_moved fun cdv A outer s H E hr => (ss_cons (s_set (i := 6) sc_law_moved.nd rfl (.inl rfl) (f_call ((ok_law_pick W ht).mono (by decide)) hr (by rfl) W.m_law_pick W.F_law_pick.kp W.b_law_pick (av_cons (v_nm (pv 0)) (av_cons (v_e (e_of (f_lst (a_cons (e_of (f_call ((ok_law_draw W ht).mono (by decide)) hr (by rfl) W.m_law_draw W.F_law_draw.kp W.b_law_draw (av_cons (v_nm (pv 0)) (av_cons (v_e (e_of (f_len W.z_len (v_nm (pv 4))))) av_nil)) (mA_len (mA_len (fun _ _ _ => mA_len0))))) (a_cons (e_of (f_op o_sub (v_of (f_len W.z_len (v_nm (pv 4)))) (v_of (f_int pe_int)))) a_nil))))) av_nil)) (mA_len (mA_len (fun _ _ _ => mA_len0)))))
    (ss_cons (s_asg (vs := [7, 8]) (e_of (f_ix o_ix (v_nm (pv 4)) (v_nm (pv 6)) (fun _ _ => rfl))) (g_tup rfl (gs_cons (g_nm (i := 7) (by decide) sc_law_moved.nd rfl (.inr rfl)) (gs_cons (g_nm (i := 8) (by decide) sc_law_moved.nd rfl (.inr rfl)) gs_nil))))
    (ss_cons (s_if (t_cmp (o_eq (uu64 hr)) (v_nm (pv 5)) (v_of (f_str pe_str)) rfl) (ss_cons (s_lc (i := 9) rfl sc_law_moved.nd rfl rfl (sw_true rfl rfl rfl rfl) (i_sq (e_nm (pv 2))) (blkOk_by (own := [("one", 18)]) (by kernel_rfl)) (fun _ _ _ _ _ => (g_nm (i := 18) (by decide) sc_law_moved.nd rfl (.inl rfl))) (fun _ _ _ _ _ => (ts_one (t_cmp (o_ne (uu64 hr)) (v_of (f_cmp (o_in (uu hr)) (v_nm (pv 7)) (v_of (f_ix o_ix (v_nm (pv 18)) (v_of (f_int pe_int)) (fun _ _ => rfl))) rfl)) (v_of (f_cmp (o_in (uu hr)) (v_nm (pv 8)) (v_of (f_ix o_ix (v_nm (pv 18)) (v_of (f_int pe_int)) (fun _ _ => rfl))) rfl)) rfl))) (fun _ _ _ _ _ => (e_nm (pv 18))))
    (ss_cons (s_if (t_cmp (o_eq (uu64 hr)) (v_nm (pv 9)) (v_of (f_lst a_nil)) rfl) (ss_one (s_ret (f_non pe_non))) ss_nil)
    (ss_cons (s_asg (vs := [10, 11, 12]) (e_of (f_call ((ok_law_pick W ht).mono (by decide)) hr (by rfl) W.m_law_pick W.F_law_pick.kp W.b_law_pick (av_cons (v_nm (pv 0)) (av_cons (v_e (e_nm (pv 9))) av_nil)) (mA_len (mA_len (fun _ _ _ => mA_len0))))) (g_tup rfl (gs_cons (g_nm (i := 10) (by decide) sc_law_moved.nd rfl (.inl rfl)) (gs_cons (g_nm (i := 11) (by decide) sc_law_moved.nd rfl (.inl rfl)) (gs_cons (g_nm (i := 12) (by decide) sc_law_moved.nd rfl (.inl rfl)) gs_nil)))))
    (ss_cons (s_set (i := 13) sc_law_moved.nd rfl (.inl rfl) (f_if (t_cmp (o_in (uu hr)) (v_nm (pv 7)) (v_nm (pv 12)) rfl) (f_tup (a_cons (e_of (f_call ((ok_law_pick W ht).mono (by decide)) hr (by rfl) W.m_law_pick W.F_law_pick.kp W.b_law_pick (av_cons (v_nm (pv 0)) (av_cons (v_e (e_nm (pv 12))) av_nil)) (mA_len (mA_len (fun _ _ _ => mA_len0))))) (a_cons (e_nm (pv 8)) a_nil))) (f_tup (a_cons (e_nm (pv 7)) (a_cons (e_of (f_call ((ok_law_pick W ht).mono (by decide)) hr (by rfl) W.m_law_pick W.F_law_pick.kp W.b_law_pick (av_cons (v_nm (pv 0)) (av_cons (v_e (e_nm (pv 12))) av_nil)) (mA_len (mA_len (fun _ _ _ => mA_len0))))) a_nil)))))
    (ss_one (s_ret (f_tup (a_cons (e_of (f_op o_add (v_of (f_tup (a_cons (e_nm (pv 5)) (a_cons (e_nm (pv 6)) (a_cons (e_nm (pv 10)) (a_cons (e_nm (pv 11)) a_nil)))))) (v_nm (pv 13)))) (a_cons (e_nm (pv 13)) a_nil))))))))) ss_nil)
    (ss_cons (s_if (t_cmp (o_eq (uu64 hr)) (v_nm (pv 5)) (v_of (f_str pe_str)) rfl) (ss_cons (s_lc (i := 9) rfl sc_law_moved.nd rfl rfl (sw_true rfl rfl rfl rfl) (i_sq (e_nm (pv 3))) (blkOk_by (own := [("one", 18)]) (by kernel_rfl)) (fun _ _ _ _ _ => (g_nm (i := 18) (by decide) sc_law_moved.nd rfl (.inl rfl))) (fun _ _ _ _ _ => (ts_one (w_or (t_cmp (o_in (uu hr)) (v_of (f_tup (a_cons (e_nm (pv 7)) (a_cons (e_nm (pv 8)) a_nil)))) (v_of (f_ix o_ix (v_nm (pv 18)) (v_of (f_int pe_int)) (fun _ _ => rfl))) rfl) (w_or1 (t_cmp (o_in (uu hr)) (v_of (f_tup (a_cons (e_nm (pv 8)) (a_cons (e_nm (pv 7)) a_nil)))) (v_of (f_ix o_ix (v_nm (pv 18)) (v_of (f_int pe_int)) (fun _ _ => rfl))) rfl))).pt)) (fun _ _ _ _ _ => (e_nm (pv 18))))
    (ss_cons (s_if (t_cmp (o_eq (uu64 hr)) (v_nm (pv 9)) (v_of (f_lst a_nil)) rfl) (ss_one (s_ret (f_non pe_non))) ss_nil)
    (ss_cons (s_asg (vs := [10, 14]) (e_of (f_call ((ok_law_pick W ht).mono (by decide)) hr (by rfl) W.m_law_pick W.F_law_pick.kp W.b_law_pick (av_cons (v_nm (pv 0)) (av_cons (v_e (e_nm (pv 9))) av_nil)) (mA_len (mA_len (fun _ _ _ => mA_len0))))) (g_tup rfl (gs_cons (g_nm (i := 10) (by decide) sc_law_moved.nd rfl (.inl rfl)) (gs_cons (g_nm (i := 14) (by decide) sc_law_moved.nd rfl (.inl rfl)) gs_nil))))
    (ss_cons (s_asg (vs := [15, 16]) (e_of (f_call ((ok_law_pick W ht).mono (by decide)) hr (by rfl) W.m_law_pick W.F_law_pick.kp W.b_law_pick (av_cons (v_nm (pv 0)) (av_cons (v_e (e_nm (pv 14))) av_nil)) (mA_len (mA_len (fun _ _ _ => mA_len0))))) (g_tup rfl (gs_cons (g_nm (i := 15) (by decide) sc_law_moved.nd rfl (.inl rfl)) (gs_cons (g_nm (i := 16) (by decide) sc_law_moved.nd rfl (.inl rfl)) gs_nil))))
    (ss_cons (s_set (i := 13) sc_law_moved.nd rfl (.inl rfl) (f_if (t_cmp (o_in (uu hr)) (v_of (f_tup (a_cons (e_nm (pv 7)) (a_cons (e_nm (pv 8)) a_nil)))) (v_nm (pv 14)) rfl) (f_tup (a_cons (e_nm (pv 15)) (a_cons (e_nm (pv 16)) a_nil))) (f_tup (a_cons (e_nm (pv 16)) (a_cons (e_nm (pv 15)) a_nil)))))
    (ss_one (s_ret (f_tup (a_cons (e_of (f_op o_add (v_of (f_tup (a_cons (e_nm (pv 5)) (a_cons (e_nm (pv 6)) (a_cons (e_nm (pv 10)) a_nil))))) (v_nm (pv 13)))) (a_cons (e_nm (pv 13)) a_nil)))))))))) ss_nil)
    (ss_cons (s_lc (i := 9) rfl sc_law_moved.nd rfl rfl (sw_true rfl rfl rfl rfl) (i_rng1 W.z_range (v_of (f_len W.z_len (v_nm (pv 4))))) (blkOk_by (own := [("j", 17)]) (by kernel_rfl)) (fun _ _ _ _ _ => (g_nm (i := 17) (by decide) sc_law_moved.nd rfl (.inl rfl))) (fun _ _ _ _ _ => (ts_one (t_cmp (o_eq (uu64 hr)) (v_of (f_ix o_ix (v_of (f_ix o_ix (v_nm (pv 4)) (v_nm (pv 17)) (fun _ _ => rfl))) (v_of (f_int pe_int)) (fun _ _ => rfl))) (v_nm (pv 8)) rfl))) (fun _ _ _ _ _ => (e_nm (pv 17))))
    (ss_cons (s_if (t_cmp (o_eq (uu64 hr)) (v_nm (pv 9)) (v_of (f_lst a_nil)) rfl) (ss_one (s_ret (f_non pe_non))) ss_nil)
    (ss_cons (s_set (i := 17) sc_law_moved.nd rfl (.inl rfl) (f_call ((ok_law_pick W ht).mono (by decide)) hr (by rfl) W.m_law_pick W.F_law_pick.kp W.b_law_pick (av_cons (v_nm (pv 0)) (av_cons (v_e (e_nm (pv 9))) av_nil)) (mA_len (mA_len (fun _ _ _ => mA_len0)))))
    (ss_one (s_ret (f_tup (a_cons (e_of (f_tup (a_cons (e_nm (pv 5)) (a_cons (e_nm (pv 6)) (a_cons (e_nm (pv 17)) a_nil))))) (a_cons (e_of (f_tup (a_cons (e_nm (pv 7)) (a_cons (e_of (f_ix o_ix (v_of (f_ix o_ix (v_nm (pv 4)) (v_nm (pv 17)) (fun _ _ => rfl))) (v_of (f_int pe_int)) (fun _ _ => rfl))) a_nil)))) a_nil))))))))))))
abbrev kk_law_said : Nat := 1
theorem ok_law_said (W : Wd K mg) (ht : Tbs W base) : FnOk P w K mg base CX0 1 W.f_law_said W.d_law_said ["number", "line", "pair"] (spM (gg W) 3 fm_law_said) := fn_M W.F_law_said sc_law_said fun cdv A outer s H E hr => (ss_cons (s_set (i := 3) sc_law_said.nd rfl (.inl rfl) (f_dict (p_cons (e_of (f_str pe_str)) (e_of (f_sl (ha := (v_nm (pv 1))) (hl := (o_some (v_of (f_int pe_int)))) (hh := (o_some (v_of (f_int pe_int)))))) (p_cons (e_of (f_str pe_str)) (e_of (f_sl (ha := (v_nm (pv 1))) (hl := (o_some (v_of (f_int pe_int)))) (hh := (o_some (v_of (f_int pe_int)))))) (p_cons (e_of (f_str pe_str)) (e_of (f_sl (ha := (v_nm (pv 1))) (hl := (o_some (v_of (f_int pe_int)))) (hh := (o_some (v_of (f_int pe_int)))))) (p_cons (e_of (f_str pe_str)) (e_of (f_sl (ha := (v_nm (pv 1))) (hl := (o_some (v_of (f_int pe_int)))) (hh := (o_some (v_of (f_int pe_int)))))) (p_cons (e_of (f_str pe_str)) (e_of (f_sl (ha := (v_nm (pv 1))) (hl := (o_some (v_of (f_int pe_int)))) (hh := (o_some (v_of (f_int pe_int)))))) p_nil))))) rfl rfl (by simp) (by decide)))
    (ss_cons (s_set (i := 4) sc_law_said.nd rfl (.inl rfl) (f_op o_add (v_of (f_lst (a_cons (e_of (f_toStr W.z_str (v_nm (pv 0)))) (a_cons (e_of (f_ix o_ix (v_nm (pv 1)) (v_of (f_int pe_int)) (fun _ _ => rfl))) a_nil)))) (v_of (f_lc rfl sc_law_said.nd (i_sq (e_of (f_dix (uu1 hr) (v_nm (pv 3)) (v_of (f_ix o_ix (v_nm (pv 1)) (v_of (f_int pe_int)) (fun _ _ => rfl))) (fun _ _ => rfl)))) (blkOk_by (own := [("one", 5)]) (by kernel_rfl)) (fun _ _ _ _ _ => (g_nm (i := 5) (by decide) sc_law_said.nd rfl (.inl rfl))) (fun _ _ _ _ _ => ts_nil) (fun _ _ _ _ _ => (e_of (f_toStr W.z_str (v_nm (pv 5)))))))))
    (ss_one (s_ret (f_op o_add (v_of (f_op o_add (v_of (f_op o_add (v_of (f_op o_add (v_of (f_join pe_str (v_nm (pv 4)))) (v_of (f_str pe_str)))) (v_of (f_ix o_ix (v_nm (pv 2)) (v_of (f_int pe_int)) (fun _ _ => rfl))))) (v_of (f_str pe_str)))) (v_of (f_ix o_ix (v_nm (pv 2)) (v_of (f_int pe_int)) (fun _ _ => rfl))))))))
abbrev kk_law_lines : Nat := 4
theorem ok_law_lines (W : Wd K mg) (ht : Tbs W base) : FnOk P w K mg base CX0 4 W.f_law_lines W.d_law_lines ["deck", "dossier", "spots", "many"] (spM (gg W) 4 fm_law_lines) := fn_M W.F_law_lines sc_law_lines fun cdv A outer s H E hr => (ss_cons (s_set (i := 4) sc_law_lines.nd rfl (.inl rfl) (f_ix o_ix (v_nm (pv 1)) (v_of (f_int pe_int)) (fun _ _ => rfl)))
    (ss_cons (s_par (i := 5) (j := 6) rfl sc_law_lines.nd rfl rfl (by decide) rfl rfl (f_lst a_nil) (f_lst a_nil) (by rfl))
    (ss_cons (s_for (vs := [7]) PassesOwn.never rfl (i_sq (e_nm (pv 2))) (g_nm (i := 7) (by decide) sc_law_lines.nd rfl (.inr rfl)) (ss_cons (s_set (i := 8) sc_law_lines.nd rfl (.inr rfl) (f_call ((ok_law_bands W ht).mono (by decide)) hr (by rfl) W.m_law_bands W.F_law_bands.kp W.b_law_bands (av_cons (v_e (e_of (f_ix o_ix (v_nm (pv 4)) (v_nm (pv 7)) (fun _ _ => rfl)))) av_nil) (mA_len (fun _ _ _ => mA_len0))))
    (ss_cons (s_set (i := 5) sc_law_lines.nd rfl (.inl rfl) (f_op o_add (v_nm (pv 5)) (v_of (f_lc rfl sc_law_lines.nd (i_rng1 W.z_range (v_of (f_len W.z_len (v_nm (pv 8))))) (blkOk_by (own := [("k", 14)]) (by kernel_rfl)) (fun _ _ _ _ _ => (g_nm (i := 14) (by decide) sc_law_lines.nd rfl (.inl rfl))) (fun _ _ _ _ _ => ts_nil) (fun _ _ _ _ _ => (e_of (f_tup (a_cons (e_nm (pv 7)) (a_cons (e_nm (pv 14)) (a_cons (e_of (f_ix o_ix (v_nm (pv 8)) (v_nm (pv 14)) (fun _ _ => rfl))) a_nil))))))))))
    (ss_one (s_if (t_cmp (o_eq (uu64 hr)) (v_of (f_ix o_ix (v_of (f_ix o_ix (v_nm (pv 4)) (v_nm (pv 7)) (fun _ _ => rfl))) (v_of (f_int pe_int)) (fun _ _ => rfl))) (v_of (f_str pe_str)) rfl) (ss_one (s_expr (f_append (pv 6) (e_of (f_tup (a_cons (e_nm (pv 7)) (a_cons (e_of (f_call ((ok_law_row_pairs W ht).mono (by decide)) hr (by rfl) W.m_law_row_pairs W.F_law_row_pairs.kp W.b_law_row_pairs (av_cons (v_e (e_of (f_ix o_ix (v_nm (pv 4)) (v_nm (pv 7)) (fun _ _ => rfl)))) av_nil) (mA_len (fun _ _ _ => mA_len0)))) a_nil))))))) ss_nil)))))
    (ss_cons (s_par (i := 9) (j := 10) rfl sc_law_lines.nd rfl rfl (by decide) rfl rfl (f_lst a_nil) (f_lst a_nil) (by rfl))
    (ss_cons (s_for (vs := [11]) PassesOwn.never rfl (i_rng1 W.z_range (v_of (f_op o_mul (v_of (f_int pe_int)) (v_nm (pv 3))))) (g_nm (i := 11) (by decide) sc_law_lines.nd rfl (.inl rfl)) (ss_cons (s_set (i := 12) sc_law_lines.nd rfl (.inl rfl) (f_call ((ok_law_pick W ht).mono (by decide)) hr (by rfl) W.m_law_pick W.F_law_pick.kp W.b_law_pick (av_cons (v_nm (pv 0)) (av_cons (v_e (e_of (f_lst (a_cons (e_of (f_str pe_str)) (a_cons (e_of (f_str pe_str)) (a_cons (e_of (f_str pe_str)) (a_cons (e_of (f_str pe_str)) (a_cons (e_of (f_str pe_str)) (a_cons (e_of (f_str pe_str)) (a_cons (e_of (f_str pe_str)) (a_cons (e_of (f_str pe_str)) a_nil))))))))))) av_nil)) (mA_len (mA_len (fun _ _ _ => mA_len0)))))
    (ss_cons (s_set (i := 13) sc_law_lines.nd rfl (.inl rfl) (f_non pe_non))
    (ss_cons (s_if (t_cmp (o_in (uu hr)) (v_nm (pv 12)) (v_of (f_lst (a_cons (e_of (f_str pe_str)) (a_cons (e_of (f_str pe_str)) a_nil)))) rfl) (ss_one (s_set (i := 13) sc_law_lines.nd rfl (.inl rfl) (f_call ((ok_law_told W ht).mono (by decide)) hr (by rfl) W.m_law_told W.F_law_told.kp W.b_law_told (av_cons (v_nm (pv 0)) (av_cons (v_e (e_nm (pv 4))) (av_cons (v_e (e_nm (pv 2))) (av_cons (v_e (e_nm (pv 12))) av_nil)))) (mA_len (mA_len (mA_len (mA_len (fun _ _ _ => mA_len0)))))))) (ss_one (s_if (t_cmp (o_ne (uu64 hr)) (v_nm (pv 10)) (v_of (f_lst a_nil)) rfl) (ss_one (s_set (i := 13) sc_law_lines.nd rfl (.inl rfl) (f_call ((ok_law_moved W ht).mono (by decide)) hr (by rfl) W.m_law_moved W.F_law_moved.kp W.b_law_moved (av_cons (v_nm (pv 0)) (av_cons (v_e (e_nm (pv 4))) (av_cons (v_e (e_nm (pv 5))) (av_cons (v_e (e_nm (pv 6))) (av_cons (v_nm (pv 10)) (av_cons (v_e (e_nm (pv 12))) av_nil)))))) (mA_len (mA_len (mA_len (mA_len (mA_len (mA_len (fun _ _ _ => mA_len0)))))))))) ss_nil)))
    (ss_one (s_if (w_and (t_cmp o_notN (v_nm (pv 13)) (v_of (f_non pe_non)) rfl) (w_and1 (t_cmp o_lt (v_of (f_len W.z_len (v_nm (pv 9)))) (v_nm (pv 3)) rfl))).pt (ss_cons (s_expr (f_append (pv 9) (e_of (f_ix o_ix (v_nm (pv 13)) (v_of (f_int pe_int)) (fun _ _ => rfl)))))
    (ss_one (s_expr (f_append (pv 10) (e_of (f_ix o_ix (v_nm (pv 13)) (v_of (f_int pe_int)) (fun _ _ => rfl))))))) ss_nil))))))
    (ss_one (s_ret (f_tup (a_cons (e_nm (pv 9)) (a_cons (e_nm (pv 10)) a_nil))))))))))
abbrev kk_law : Nat := 7
theorem ok_law (W : Wd K mg) (ht : Tbs W base) : FnOk P w K mg base CX0 7 W.f_law W.d_law ["script"] (spM (gg W) 1 fm_law) := fn_M W.F_law sc_law fun cdv A outer s H E hr => (ss_cons (s_set (i := 1) sc_law.nd rfl (.inl rfl) (f_call ((ok_law_deck W ht).mono (by decide)) hr (by rfl) W.m_law_deck W.F_law_deck.kp W.b_law_deck (av_cons (v_e (e_nm (pv 0))) av_nil) (mA_len (fun _ _ _ => mA_len0))))
    (ss_cons (s_asg (vs := [2, 3]) (e_of (f_call ((ok_law_dossier W ht).mono (by decide)) hr (by rfl) W.m_law_dossier W.F_law_dossier.kp W.b_law_dossier (av_cons (v_nm (pv 1)) av_nil) (mA_len (fun _ _ _ => mA_len0)))) (g_tup rfl (gs_cons (g_nm (i := 2) (by decide) sc_law.nd rfl (.inl rfl)) (gs_cons (g_nm (i := 3) (by decide) sc_law.nd rfl (.inl rfl)) gs_nil))))
    (ss_cons (s_set (i := 4) sc_law.nd rfl (.inl rfl) (f_if (t_cmp (o_eq (uu64 hr)) (v_of (f_call ((ok_law_draw W ht).mono (by decide)) hr (by rfl) W.m_law_draw W.F_law_draw.kp W.b_law_draw (av_cons (v_nm (pv 1)) (av_cons (v_e (e_of (f_int pe_int))) av_nil)) (mA_len (mA_len (fun _ _ _ => mA_len0))))) (v_of (f_int pe_int)) rfl) (f_op o_add (v_of (f_int pe_int)) (v_of (f_call ((ok_law_draw W ht).mono (by decide)) hr (by rfl) W.m_law_draw W.F_law_draw.kp W.b_law_draw (av_cons (v_nm (pv 1)) (av_cons (v_e (e_of (f_int pe_int))) av_nil)) (mA_len (mA_len (fun _ _ _ => mA_len0)))))) (f_op o_add (v_of (f_int pe_int)) (v_of (f_call ((ok_law_draw W ht).mono (by decide)) hr (by rfl) W.m_law_draw W.F_law_draw.kp W.b_law_draw (av_cons (v_nm (pv 1)) (av_cons (v_e (e_of (f_int pe_int))) av_nil)) (mA_len (mA_len (fun _ _ _ => mA_len0))))))))
    (ss_cons (s_asg (vs := [5, 6]) (e_of (f_call ((ok_law_lines W ht).mono (by decide)) hr (by rfl) W.m_law_lines W.F_law_lines.kp W.b_law_lines (av_cons (v_nm (pv 1)) (av_cons (v_e (e_nm (pv 2))) (av_cons (v_e (e_nm (pv 3))) (av_cons (v_e (e_nm (pv 4))) av_nil)))) (mA_len (mA_len (mA_len (mA_len (fun _ _ _ => mA_len0))))))) (g_tup rfl (gs_cons (g_nm (i := 5) (by decide) sc_law.nd rfl (.inr rfl)) (gs_cons (g_nm (i := 6) (by decide) sc_law.nd rfl (.inr rfl)) gs_nil))))
    (ss_cons (s_set (i := 7) sc_law.nd rfl (.inl rfl) (f_tuple W.z_tuple (v_of (f_lc rfl sc_law.nd (i_rng1 W.z_range (v_of (f_len W.z_len (v_nm (pv 5))))) (blkOk_by (own := [("k", 17)]) (by kernel_rfl)) (fun _ _ _ _ _ => (g_nm (i := 17) (by decide) sc_law.nd rfl (.inl rfl))) (fun _ _ _ _ _ => ts_nil) (fun _ _ _ _ _ => (e_of (f_call ((ok_law_said W ht).mono (by decide)) hr (by rfl) W.m_law_said W.F_law_said.kp W.b_law_said (av_cons (v_e (e_nm (pv 17))) (av_cons (v_e (e_of (f_ix o_ix (v_nm (pv 5)) (v_nm (pv 17)) (fun _ _ => rfl)))) (av_cons (v_e (e_of (f_ix o_ix (v_nm (pv 6)) (v_nm (pv 17)) (fun _ _ => rfl)))) av_nil))) (mA_len (mA_len (mA_len (fun _ _ _ => mA_len0)))))))))))
    (ss_cons (s_if (t_not (t_val (f_call ((ok_law_is W ht 5).mono (by decide)) hr (by rfl) W.m_law_is W.F_law_is.kp W.b_law_is (av_cons (v_e (e_of (f_tup (a_cons (e_of (f_call ((ok_print_lines W ht).mono (by decide)) hr (by rfl) W.m_print_lines W.F_print_lines.kp W.b_print_lines (av_cons (v_e (e_nm (pv 2))) (av_cons (v_e (e_of (f_tuple W.z_tuple (v_nm (pv 5))))) av_nil)) (mA_len (mA_len (fun _ _ _ => mA_len0))))) (a_cons (e_of (f_call ((ok_pairs_of W ht).mono (by decide)) hr (by rfl) W.m_pairs_of W.F_pairs_of.kp W.b_pairs_of (av_cons (v_e (e_nm (pv 2))) (av_cons (v_e (e_of (f_tuple W.z_tuple (v_nm (pv 5))))) av_nil)) (mA_len (mA_len (fun _ _ _ => mA_len0))))) a_nil))))) (av_cons (v_e (e_of (f_tup (a_cons (e_nm (pv 7)) (a_cons (e_of (f_tuple W.z_tuple (v_nm (pv 6)))) a_nil))))) av_nil)) (mA_len (mA_len (fun _ _ _ => mA_len0)))))) (ss_one (s_ret (f_bl pe_bl))) ss_nil)
    (ss_cons (s_for (vs := [8]) PassesOwn.never rfl (i_rng1 W.z_range (v_of (f_int pe_int))) (g_nm (i := 8) (by decide) sc_law.nd rfl (.inl rfl)) (ss_cons (s_set (i := 9) sc_law.nd rfl (.inl rfl) (f_call ((ok_law_draw W ht).mono (by decide)) hr (by rfl) W.m_law_draw W.F_law_draw.kp W.b_law_draw (av_cons (v_nm (pv 1)) (av_cons (v_e (e_of (f_op o_add (v_of (f_len W.z_len (v_nm (pv 5)))) (v_of (f_int pe_int))))) av_nil)) (mA_len (mA_len (fun _ _ _ => mA_len0)))))
    (ss_one (s_if (t_not (t_val (f_call ((ok_law_is W ht 5).mono (by decide)) hr (by rfl) W.m_law_is W.F_law_is.kp W.b_law_is (av_cons (v_e (e_of (f_call ((ok_print_lines W ht).mono (by decide)) hr (by rfl) W.m_print_lines W.F_print_lines.kp W.b_print_lines (av_cons (v_e (e_nm (pv 2))) (av_cons (v_e (e_of (f_tuple W.z_tuple (v_of (f_sl (ha := (v_nm (pv 5))) (hl := o_none) (hh := (o_some (v_nm (pv 9))))))))) av_nil)) (mA_len (mA_len (fun _ _ _ => mA_len0)))))) (av_cons (v_e (e_of (f_sl (ha := (v_nm (pv 7))) (hl := o_none) (hh := (o_some (v_nm (pv 9))))))) av_nil)) (mA_len (mA_len (fun _ _ _ => mA_len0)))))) (ss_one (s_ret (f_bl pe_bl))) ss_nil))))
    (ss_cons (s_set (i := 10) sc_law.nd rfl (.inr rfl) (f_lc rfl sc_law.nd (i_rng1 W.z_range (v_of (f_len W.z_len (v_nm (pv 5))))) (blkOk_by (own := [("k", 17)]) (by kernel_rfl)) (fun _ _ _ _ _ => (g_nm (i := 17) (by decide) sc_law.nd rfl (.inl rfl))) (fun _ _ _ _ _ => (ts_one (t_cmp (o_in (uu hr)) (v_of (f_ix o_ix (v_of (f_ix o_ix (v_nm (pv 5)) (v_nm (pv 17)) (fun _ _ => rfl))) (v_of (f_int pe_int)) (fun _ _ => rfl))) (v_of (f_lst (a_cons (e_of (f_str pe_str)) (a_cons (e_of (f_str pe_str)) a_nil)))) rfl))) (fun _ _ _ _ _ => (e_nm (pv 17)))))
    (ss_cons (s_set (i := 11) sc_law.nd rfl (.inr rfl) (f_tuple W.z_tuple (v_of (f_lc rfl sc_law.nd (i_sq (e_nm (pv 10))) (blkOk_by (own := [("k", 17)]) (by kernel_rfl)) (fun _ _ _ _ _ => (g_nm (i := 17) (by decide) sc_law.nd rfl (.inl rfl))) (fun _ _ _ _ _ => ts_nil) (fun _ _ _ _ _ => (e_of (f_ix o_ix (v_nm (pv 5)) (v_nm (pv 17)) (fun _ _ => rfl))))))))
    (ss_cons (s_if (t_not (t_val (f_call ((ok_law_is W ht 5).mono (by decide)) hr (by rfl) W.m_law_is W.F_law_is.kp W.b_law_is (av_cons (v_e (e_of (f_call ((ok_print_lines W ht).mono (by decide)) hr (by rfl) W.m_print_lines W.F_print_lines.kp W.b_print_lines (av_cons (v_e (e_nm (pv 2))) (av_cons (v_e (e_nm (pv 11))) av_nil)) (mA_len (mA_len (fun _ _ _ => mA_len0)))))) (av_cons (v_e (e_of (f_tuple W.z_tuple (v_of (f_lc rfl sc_law.nd (i_rng1 W.z_range (v_of (f_len W.z_len (v_nm (pv 11))))) (blkOk_by (own := [("k", 17)]) (by kernel_rfl)) (fun _ _ _ _ _ => (g_nm (i := 17) (by decide) sc_law.nd rfl (.inl rfl))) (fun _ _ _ _ _ => ts_nil) (fun _ _ _ _ _ => (e_of (f_call ((ok_law_said W ht).mono (by decide)) hr (by rfl) W.m_law_said W.F_law_said.kp W.b_law_said (av_cons (v_e (e_nm (pv 17))) (av_cons (v_e (e_of (f_ix o_ix (v_nm (pv 11)) (v_nm (pv 17)) (fun _ _ => rfl)))) (av_cons (v_e (e_of (f_ix o_ix (v_nm (pv 6)) (v_of (f_ix o_ix (v_nm (pv 10)) (v_nm (pv 17)) (fun _ _ => rfl))) (fun _ _ => rfl)))) av_nil))) (mA_len (mA_len (mA_len (fun _ _ _ => mA_len0)))))))))))) av_nil)) (mA_len (mA_len (fun _ _ _ => mA_len0)))))) (ss_one (s_ret (f_bl pe_bl))) ss_nil)
    (ss_cons (s_if (t_cmp (o_eq (uu64 hr)) (v_nm (pv 5)) (v_of (f_lst a_nil)) rfl) (ss_one (s_ret (f_bl pe_bl))) ss_nil)
    (ss_cons (s_asg (vs := [12, 13]) (e_of (f_ix o_ix (v_nm (pv 6)) (v_of (f_un o_neg (v_of (f_int pe_int)))) (fun _ _ => rfl))) (g_tup rfl (gs_cons (g_nm (i := 12) (by decide) sc_law.nd rfl (.inl rfl)) (gs_cons (g_nm (i := 13) (by decide) sc_law.nd rfl (.inl rfl)) gs_nil))))
    (ss_cons (s_par (i := 14) (j := 15) rfl sc_law.nd rfl rfl (by decide) rfl rfl (f_call ((ok_law_pick W ht).mono (by decide)) hr (by rfl) W.m_law_pick W.F_law_pick.kp W.b_law_pick (av_cons (v_nm (pv 1)) (av_cons (v_e (e_of (f_ix o_ix (v_nm (pv 2)) (v_of (f_int pe_int)) (fun _ _ => rfl)))) av_nil)) (mA_len (mA_len (fun _ _ _ => mA_len0)))) (f_call ((ok_law_pick W ht).mono (by decide)) hr (by rfl) W.m_law_pick W.F_law_pick.kp W.b_law_pick (av_cons (v_nm (pv 1)) (av_cons (v_e (e_of (f_ix o_ix (v_nm (pv 2)) (v_of (f_int pe_int)) (fun _ _ => rfl)))) av_nil)) (mA_len (mA_len (fun _ _ _ => mA_len0)))) (by rfl))
    (ss_cons (s_set (i := 16) sc_law.nd rfl (.inl rfl) (f_tup (a_cons (e_of (f_call ((ok_derives W ht).mono (by decide)) hr (by rfl) W.m_derives W.F_derives.kp W.b_derives (av_cons (v_e (e_nm (pv 2))) (av_cons (v_e (e_of (f_tuple W.z_tuple (v_nm (pv 5))))) (av_cons (v_e (e_nm (pv 12))) (av_cons (v_e (e_nm (pv 13))) av_nil)))) (mA_len (mA_len (mA_len (mA_len (fun _ _ _ => mA_len0))))))) (a_cons (e_of (f_call ((ok_derives W ht).mono (by decide)) hr (by rfl) W.m_derives W.F_derives.kp W.b_derives (av_cons (v_e (e_nm (pv 2))) (av_cons (v_e (e_of (f_tuple W.z_tuple (v_nm (pv 5))))) (av_cons (v_e (e_nm (pv 14))) (av_cons (v_e (e_nm (pv 15))) av_nil)))) (mA_len (mA_len (mA_len (mA_len (fun _ _ _ => mA_len0))))))) a_nil))))
    (ss_one (s_ret (f_call ((ok_law_is W ht 5).mono (by decide)) hr (by rfl) W.m_law_is W.F_law_is.kp W.b_law_is (av_cons (v_e (e_nm (pv 16))) (av_cons (v_e (e_of (f_tup (a_cons (e_of (f_bl pe_bl)) (a_cons (e_of (f_cmp (o_eq (uu64 hr)) (v_of (f_tup (a_cons (e_nm (pv 14)) (a_cons (e_nm (pv 15)) a_nil)))) (v_of (f_tup (a_cons (e_nm (pv 12)) (a_cons (e_nm (pv 13)) a_nil)))) rfl)) a_nil))))) av_nil)) (mA_len (mA_len (fun _ _ _ => mA_len0))))))))))))))))))))
end
end K91
end L2.My

end
section
set_option Elab.async false
set_option linter.all false
set_option maxRecDepth 100000
set_option maxHeartbeats 0
/-! K91h: the head (printed by gen.py). -/
namespace L2.My
open PySem PySem.Spec PyProof.Rows
namespace K91
def dd_is_whole : He.DefD := ⟨("is_whole", none), "is_whole", "is_whole", defArgs s_is_whole, defBody s_is_whole, defScope s_is_whole, [], []⟩
def dd_bands_of : He.DefD := ⟨("bands_of", none), "bands_of", "bands_of", defArgs s_bands_of, defBody s_bands_of, defScope s_bands_of, [], []⟩
def dd_lot_numbers : He.DefD := ⟨("lot_numbers", none), "lot_numbers", "lot_numbers", defArgs s_lot_numbers, defBody s_lot_numbers, defScope s_lot_numbers, [], []⟩
def dd_Rules_init : He.DefD := ⟨("Rules", some "__init__"), "__init__", "Rules.__init__", defArgs s_Rules_init, defBody s_Rules_init, defScope s_Rules_init, [], []⟩
def dd_is_number : He.DefD := ⟨("is_number", none), "is_number", "is_number", defArgs s_is_number, defBody s_is_number, defScope s_is_number, [], []⟩
def dd_side_leads : He.DefD := ⟨("side_leads", none), "side_leads", "side_leads", defArgs s_side_leads, defBody s_side_leads, defScope s_side_leads, [], []⟩
def dd_row_directions : He.DefD := ⟨("row_directions", none), "row_directions", "row_directions", defArgs s_row_directions, defBody s_row_directions, defScope s_row_directions, [], []⟩
def dd_link_leads : He.DefD := ⟨("link_leads", none), "link_leads", "link_leads", defArgs s_link_leads, defBody s_link_leads, defScope s_link_leads, [], []⟩
def dd_told_pair : He.DefD := ⟨("told_pair", none), "told_pair", "told_pair", defArgs s_told_pair, defBody s_told_pair, defScope s_told_pair, [], []⟩
def dd_years_pair : He.DefD := ⟨("years_pair", none), "years_pair", "years_pair", defArgs s_years_pair, defBody s_years_pair, defScope s_years_pair, [], []⟩
def dd_chain_pair : He.DefD := ⟨("chain_pair", none), "chain_pair", "chain_pair", defArgs s_chain_pair, defBody s_chain_pair, defScope s_chain_pair, [], []⟩
def dd_line_pair : He.DefD := ⟨("line_pair", none), "line_pair", "line_pair", defArgs s_line_pair, defBody s_line_pair, defScope s_line_pair, [], []⟩
def dd_pairs_of : He.DefD := ⟨("pairs_of", none), "pairs_of", "pairs_of", defArgs s_pairs_of, defBody s_pairs_of, defScope s_pairs_of, [], []⟩
def dd_derives : He.DefD := ⟨("derives", none), "derives", "derives", defArgs s_derives, defBody s_derives, defScope s_derives, [], []⟩
def dd_line_text : He.DefD := ⟨("line_text", none), "line_text", "line_text", defArgs s_line_text, defBody s_line_text, defScope s_line_text, [], []⟩
def dd_print_lines : He.DefD := ⟨("print_lines", none), "print_lines", "print_lines", defArgs s_print_lines, defBody s_print_lines, defScope s_print_lines, [], []⟩
def dd_law_deck : He.DefD := ⟨("_law_deck", none), "_law_deck", "_law_deck", defArgs s_law_deck, defBody s_law_deck, defScope s_law_deck, [], []⟩
def dd_law_draw : He.DefD := ⟨("_law_draw", none), "_law_draw", "_law_draw", defArgs s_law_draw, defBody s_law_draw, defScope s_law_draw, [], []⟩
def dd_law_pick : He.DefD := ⟨("_law_pick", none), "_law_pick", "_law_pick", defArgs s_law_pick, defBody s_law_pick, defScope s_law_pick, [], []⟩
def dd_law_shuffled : He.DefD := ⟨("_law_shuffled", none), "_law_shuffled", "_law_shuffled", defArgs s_law_shuffled, defBody s_law_shuffled, defScope s_law_shuffled, [], []⟩
def dd_law_is : He.DefD := ⟨("_law_is", none), "_law_is", "_law_is", defArgs s_law_is, defBody s_law_is, defScope s_law_is, [], []⟩
def dd_law_names : He.DefD := ⟨("_law_names", none), "_law_names", "_law_names", defArgs s_law_names, defBody s_law_names, defScope s_law_names, [], []⟩
def dd_law_bands : He.DefD := ⟨("_law_bands", none), "_law_bands", "_law_bands", defArgs s_law_bands, defBody s_law_bands, defScope s_law_bands, [], []⟩
def dd_law_row_pairs : He.DefD := ⟨("_law_row_pairs", none), "_law_row_pairs", "_law_row_pairs", defArgs s_law_row_pairs, defBody s_law_row_pairs, defScope s_law_row_pairs, [], []⟩
def dd_law_thing : He.DefD := ⟨("_law_thing", none), "_law_thing", "_law_thing", defArgs s_law_thing, defBody s_law_thing, defScope s_law_thing, [], []⟩
def dd_law_dossier : He.DefD := ⟨("_law_dossier", none), "_law_dossier", "_law_dossier", defArgs s_law_dossier, defBody s_law_dossier, defScope s_law_dossier, [], []⟩
def dd_law_told : He.DefD := ⟨("_law_told", none), "_law_told", "_law_told", defArgs s_law_told, defBody s_law_told, defScope s_law_told, [], []⟩
def dd_law_moved : He.DefD := ⟨("_law_moved", none), "_law_moved", "_law_moved", defArgs s_law_moved, defBody s_law_moved, defScope s_law_moved, [], []⟩
def dd_law_said : He.DefD := ⟨("_law_said", none), "_law_said", "_law_said", defArgs s_law_said, defBody s_law_said, defScope s_law_said, [], []⟩
def dd_law_lines : He.DefD := ⟨("_law_lines", none), "_law_lines", "_law_lines", defArgs s_law_lines, defBody s_law_lines, defScope s_law_lines, [], []⟩
def dd_law : He.DefD := ⟨("law", none), "law", "law", defArgs s_law, defBody s_law, defScope s_law, [], []⟩
def hfn : List He.DefD := [dd_is_whole, dd_bands_of, dd_lot_numbers, dd_Rules_init, dd_is_number, dd_side_leads, dd_row_directions, dd_link_leads, dd_told_pair, dd_years_pair, dd_chain_pair, dd_line_pair, dd_pairs_of, dd_derives, dd_line_text, dd_print_lines, dd_law_deck, dd_law_draw, dd_law_pick, dd_law_shuffled, dd_law_is, dd_law_names, dd_law_bands, dd_law_row_pairs, dd_law_thing, dd_law_dossier, dd_law_told, dd_law_moved, dd_law_said, dd_law_lines, dd_law]
def hfa : List He.Fa := [.glo "is_whole", .glo "bands_of", .glo "lot_numbers", .glo "is_number", .glo "side_leads", .glo "row_directions", .glo "link_leads", .glo "told_pair", .glo "years_pair", .glo "chain_pair", .glo "line_pair", .glo "pairs_of", .glo "derives", .glo "line_text", .glo "print_lines", .glo "_law_deck", .glo "_law_draw", .glo "_law_pick", .glo "_law_shuffled", .glo "_law_is", .glo "_law_names", .glo "_law_bands", .glo "_law_row_pairs", .glo "_law_thing", .glo "_law_dossier", .glo "_law_told", .glo "_law_moved", .glo "_law_said", .glo "_law_lines", .glo "law", .glo "Rules", .cls "Rules", .mkr "Rules", .noat "Rules" "finds", .noat "Rules" "things", .noat "Rules" "bands", .noat "Rules" "lots", .free "abs", .free "any", .free "bool", .free "enumerate", .free "int", .free "isinstance", .free "len", .free "list", .free "max", .free "range", .free "sorted", .free "str", .free "tuple", .free "zip"]
def htf : List He.Defn := [("link_leads", none)]
def hex (_ : PySem.W.Frag) : Bool := true
abbrev hR : PySem.W.OpenRow := PySem.W.OpenLaw.row PySem.Challenge.rw_surelyelder_k91_long_print_lines
abbrev hk : PySem.W.Hook := He.hookX 6 hfa hfn [] htf hex
def hob (s : PySem.W.SharedT) : He.AlX := He.obsX 6 hfa hfn [] htf hex (HandSHeadRun.getT s)
theorem hob_eq (s : PySem.W.SharedT) : hob s = hk.obs s.abs := He.obsX_eq (HandSHeadRun.getT_eq s)
def hloose : List PySem.Str := ["is_whole", "bands_of", "lot_numbers", "Rules", "is_number", "side_leads", "row_directions", "link_leads", "told_pair", "years_pair", "chain_pair", "line_pair", "pairs_of", "derives", "line_text", "print_lines", "_law_deck", "_law_draw", "_law_pick", "_law_shuffled", "_law_is", "_law_names", "_law_bands", "_law_row_pairs", "_law_thing", "_law_dossier", "_law_told", "_law_moved", "_law_said", "_law_lines"]
theorem hrun (w : World) : HandSHeadRun.RunEq hR (PySem.W.view hR.prog [34]) hk hob 2000 hloose w := by
  intro os
  kernel_rfl
theorem fun_ofD {K : PySem.W.Frag} {x qual : Str} {st : Stmt} {f : Addr} {fd : FuncData} (F : FunD K x qual (defArgs st) (defBody st) (defScope st) [] [] f fd) : Fun K x qual st f fd := by
  obtain ⟨oc, od, dV, kV, doc, pm, an, cdv, ct, osl, e, lk, hcd, hD, _⟩ := F.ex
  rcases hD with ⟨_, rfl⟩ | ⟨z, _⟩
  · exact ⟨⟨oc, od, kV, doc, pm, an, cdv, ct, osl, e, lk, hcd⟩, F.kp⟩
  · exact absurd rfl z
theorem funC_ofD {K : PySem.W.Frag} {x qual : Str} {st : Stmt} {p : He.Defn} {fd : FuncData} (F : FunD K x qual (defArgs st) (defBody st) (defScope st) [] [] (He.fAd K p) fd) : FunC K x qual st (He.fAd K p) fd (He.codeOf K p) := by
  obtain ⟨oc, od, dV, kV, doc, pm, an, cdv, ct, osl, e, lk, hcd, hD, _⟩ := F.ex
  rcases hD with ⟨_, rfl⟩ | ⟨z, _⟩
  · obtain ⟨c, rfl⟩ := He.codeIn_ref hcd
    have ec : He.codeOf K p = c := He.codeOf_eq lk (by rw [e])
    rw [ec]
    exact ⟨⟨oc, od, kV, doc, pm, an, ct, osl, e, lk, hcd⟩, F.kp⟩
  · exact absurd rfl z
theorem wd_of {K : PySem.W.Frag} {h : Heap} {mg : Str → Option Value} (X : K.In h) (G : h.Ns mainGlobals mg) (c : He.SaysD hfa hfn K) : ∃ W : Wd K mg, mg "law" = some (.ref W.f_law)
    ∧ W.cd_link_leads = (He.cT K ("link_leads", none)).1 ∧ W.tb_link_leads = (He.cT K ("link_leads", none)).2
    := by
  obtain ⟨fd_is_whole, F_is_whole⟩ := c.defs (d := dd_is_whole) (by simp [hfn])
  obtain ⟨fd_bands_of, F_bands_of⟩ := c.defs (d := dd_bands_of) (by simp [hfn])
  obtain ⟨fd_lot_numbers, F_lot_numbers⟩ := c.defs (d := dd_lot_numbers) (by simp [hfn])
  obtain ⟨fd_Rules_init, F_Rules_init⟩ := c.defs (d := dd_Rules_init) (by simp [hfn])
  obtain ⟨fd_is_number, F_is_number⟩ := c.defs (d := dd_is_number) (by simp [hfn])
  obtain ⟨fd_side_leads, F_side_leads⟩ := c.defs (d := dd_side_leads) (by simp [hfn])
  obtain ⟨fd_row_directions, F_row_directions⟩ := c.defs (d := dd_row_directions) (by simp [hfn])
  obtain ⟨fd_link_leads, F_link_leads⟩ := c.defs (d := dd_link_leads) (by simp [hfn])
  obtain ⟨fd_told_pair, F_told_pair⟩ := c.defs (d := dd_told_pair) (by simp [hfn])
  obtain ⟨fd_years_pair, F_years_pair⟩ := c.defs (d := dd_years_pair) (by simp [hfn])
  obtain ⟨fd_chain_pair, F_chain_pair⟩ := c.defs (d := dd_chain_pair) (by simp [hfn])
  obtain ⟨fd_line_pair, F_line_pair⟩ := c.defs (d := dd_line_pair) (by simp [hfn])
  obtain ⟨fd_pairs_of, F_pairs_of⟩ := c.defs (d := dd_pairs_of) (by simp [hfn])
  obtain ⟨fd_derives, F_derives⟩ := c.defs (d := dd_derives) (by simp [hfn])
  obtain ⟨fd_line_text, F_line_text⟩ := c.defs (d := dd_line_text) (by simp [hfn])
  obtain ⟨fd_print_lines, F_print_lines⟩ := c.defs (d := dd_print_lines) (by simp [hfn])
  obtain ⟨fd_law_deck, F_law_deck⟩ := c.defs (d := dd_law_deck) (by simp [hfn])
  obtain ⟨fd_law_draw, F_law_draw⟩ := c.defs (d := dd_law_draw) (by simp [hfn])
  obtain ⟨fd_law_pick, F_law_pick⟩ := c.defs (d := dd_law_pick) (by simp [hfn])
  obtain ⟨fd_law_shuffled, F_law_shuffled⟩ := c.defs (d := dd_law_shuffled) (by simp [hfn])
  obtain ⟨fd_law_is, F_law_is⟩ := c.defs (d := dd_law_is) (by simp [hfn])
  obtain ⟨fd_law_names, F_law_names⟩ := c.defs (d := dd_law_names) (by simp [hfn])
  obtain ⟨fd_law_bands, F_law_bands⟩ := c.defs (d := dd_law_bands) (by simp [hfn])
  obtain ⟨fd_law_row_pairs, F_law_row_pairs⟩ := c.defs (d := dd_law_row_pairs) (by simp [hfn])
  obtain ⟨fd_law_thing, F_law_thing⟩ := c.defs (d := dd_law_thing) (by simp [hfn])
  obtain ⟨fd_law_dossier, F_law_dossier⟩ := c.defs (d := dd_law_dossier) (by simp [hfn])
  obtain ⟨fd_law_told, F_law_told⟩ := c.defs (d := dd_law_told) (by simp [hfn])
  obtain ⟨fd_law_moved, F_law_moved⟩ := c.defs (d := dd_law_moved) (by simp [hfn])
  obtain ⟨fd_law_said, F_law_said⟩ := c.defs (d := dd_law_said) (by simp [hfn])
  obtain ⟨fd_law_lines, F_law_lines⟩ := c.defs (d := dd_law_lines) (by simp [hfn])
  obtain ⟨fd_law, F_law⟩ := c.defs (d := dd_law) (by simp [hfn])
  refine ⟨{
    c_Rules := He.ga K "Rules",
    cls_Rules := He.cls_ok (c.facts (f := .cls "Rules") (by simp [hfa])),
    m_Rules := He.glo_ok X G (c.facts (f := .glo "Rules") (by simp [hfa])),
    na_Rules_finds := He.noat_ok (c.facts (f := .noat "Rules" "finds") (by simp [hfa])),
    na_Rules_things := He.noat_ok (c.facts (f := .noat "Rules" "things") (by simp [hfa])),
    na_Rules_bands := He.noat_ok (c.facts (f := .noat "Rules" "bands") (by simp [hfa])),
    na_Rules_lots := He.noat_ok (c.facts (f := .noat "Rules" "lots") (by simp [hfa])),
    f_is_whole := He.fAd K ("is_whole", none),
    d_is_whole := fd_is_whole,
    F_is_whole := fun_ofD F_is_whole,
    b_is_whole := (fun_ofD (st := s_is_whole) F_is_whole).binds fun _ _ _ _ _ _ us hl => match us, hl with | [_], _ => rfl,
    m_is_whole := He.glo_ok X G (c.facts (f := .glo "is_whole") (by simp [hfa])),
    f_bands_of := He.fAd K ("bands_of", none),
    d_bands_of := fd_bands_of,
    F_bands_of := fun_ofD F_bands_of,
    b_bands_of := (fun_ofD (st := s_bands_of) F_bands_of).binds fun _ _ _ _ _ _ us hl => match us, hl with | [_], _ => rfl,
    m_bands_of := He.glo_ok X G (c.facts (f := .glo "bands_of") (by simp [hfa])),
    f_lot_numbers := He.fAd K ("lot_numbers", none),
    d_lot_numbers := fd_lot_numbers,
    F_lot_numbers := fun_ofD F_lot_numbers,
    b_lot_numbers := (fun_ofD (st := s_lot_numbers) F_lot_numbers).binds fun _ _ _ _ _ _ us hl => match us, hl with | [_], _ => rfl,
    m_lot_numbers := He.glo_ok X G (c.facts (f := .glo "lot_numbers") (by simp [hfa])),
    f_Rules_init := He.fAd K ("Rules", some "__init__"),
    d_Rules_init := fd_Rules_init,
    F_Rules_init := fun_ofD F_Rules_init,
    b_Rules_init := (fun_ofD (st := s_Rules_init) F_Rules_init).binds fun _ _ _ _ _ _ us hl => match us, hl with | [_, _], _ => rfl,
    mk_Rules := He.mkr_ok (c.facts (f := .mkr "Rules") (by simp [hfa])),
    f_is_number := He.fAd K ("is_number", none),
    d_is_number := fd_is_number,
    F_is_number := fun_ofD F_is_number,
    b_is_number := (fun_ofD (st := s_is_number) F_is_number).binds fun _ _ _ _ _ _ us hl => match us, hl with | [_, _], _ => rfl,
    m_is_number := He.glo_ok X G (c.facts (f := .glo "is_number") (by simp [hfa])),
    f_side_leads := He.fAd K ("side_leads", none),
    d_side_leads := fd_side_leads,
    F_side_leads := fun_ofD F_side_leads,
    b_side_leads := (fun_ofD (st := s_side_leads) F_side_leads).binds fun _ _ _ _ _ _ us hl => match us, hl with | [_, _, _, _, _, _], _ => rfl,
    m_side_leads := He.glo_ok X G (c.facts (f := .glo "side_leads") (by simp [hfa])),
    f_row_directions := He.fAd K ("row_directions", none),
    d_row_directions := fd_row_directions,
    F_row_directions := fun_ofD F_row_directions,
    b_row_directions := (fun_ofD (st := s_row_directions) F_row_directions).binds fun _ _ _ _ _ _ us hl => match us, hl with | [_, _, _, _], _ => rfl,
    m_row_directions := He.glo_ok X G (c.facts (f := .glo "row_directions") (by simp [hfa])),
    f_link_leads := He.fAd K ("link_leads", none),
    d_link_leads := fd_link_leads,
    cd_link_leads := (He.cT K ("link_leads", none)).1,
    tb_link_leads := (He.cT K ("link_leads", none)).2,
    F_link_leads := funC_ofD (p := ("link_leads", none)) F_link_leads,
    b_link_leads := (fun_ofD (st := s_link_leads) F_link_leads).binds fun _ _ _ _ _ _ us hl => match us, hl with | [_, _, _, _, _], _ => rfl,
    m_link_leads := He.glo_ok X G (c.facts (f := .glo "link_leads") (by simp [hfa])),
    f_told_pair := He.fAd K ("told_pair", none),
    d_told_pair := fd_told_pair,
    F_told_pair := fun_ofD F_told_pair,
    b_told_pair := (fun_ofD (st := s_told_pair) F_told_pair).binds fun _ _ _ _ _ _ us hl => match us, hl with | [_, _], _ => rfl,
    m_told_pair := He.glo_ok X G (c.facts (f := .glo "told_pair") (by simp [hfa])),
    f_years_pair := He.fAd K ("years_pair", none),
    d_years_pair := fd_years_pair,
    F_years_pair := fun_ofD F_years_pair,
    b_years_pair := (fun_ofD (st := s_years_pair) F_years_pair).binds fun _ _ _ _ _ _ us hl => match us, hl with | [_, _], _ => rfl,
    m_years_pair := He.glo_ok X G (c.facts (f := .glo "years_pair") (by simp [hfa])),
    f_chain_pair := He.fAd K ("chain_pair", none),
    d_chain_pair := fd_chain_pair,
    F_chain_pair := fun_ofD F_chain_pair,
    b_chain_pair := (fun_ofD (st := s_chain_pair) F_chain_pair).binds fun _ _ _ _ _ _ us hl => match us, hl with | [_, _], _ => rfl,
    m_chain_pair := He.glo_ok X G (c.facts (f := .glo "chain_pair") (by simp [hfa])),
    f_line_pair := He.fAd K ("line_pair", none),
    d_line_pair := fd_line_pair,
    F_line_pair := fun_ofD F_line_pair,
    b_line_pair := (fun_ofD (st := s_line_pair) F_line_pair).binds fun _ _ _ _ _ _ us hl => match us, hl with | [_, _, _], _ => rfl,
    m_line_pair := He.glo_ok X G (c.facts (f := .glo "line_pair") (by simp [hfa])),
    f_pairs_of := He.fAd K ("pairs_of", none),
    d_pairs_of := fd_pairs_of,
    F_pairs_of := fun_ofD F_pairs_of,
    b_pairs_of := (fun_ofD (st := s_pairs_of) F_pairs_of).binds fun _ _ _ _ _ _ us hl => match us, hl with | [_, _], _ => rfl,
    m_pairs_of := He.glo_ok X G (c.facts (f := .glo "pairs_of") (by simp [hfa])),
    f_derives := He.fAd K ("derives", none),
    d_derives := fd_derives,
    F_derives := fun_ofD F_derives,
    b_derives := (fun_ofD (st := s_derives) F_derives).binds fun _ _ _ _ _ _ us hl => match us, hl with | [_, _, _, _], _ => rfl,
    m_derives := He.glo_ok X G (c.facts (f := .glo "derives") (by simp [hfa])),
    f_line_text := He.fAd K ("line_text", none),
    d_line_text := fd_line_text,
    F_line_text := fun_ofD F_line_text,
    b_line_text := (fun_ofD (st := s_line_text) F_line_text).binds fun _ _ _ _ _ _ us hl => match us, hl with | [_, _, _], _ => rfl,
    m_line_text := He.glo_ok X G (c.facts (f := .glo "line_text") (by simp [hfa])),
    f_print_lines := He.fAd K ("print_lines", none),
    d_print_lines := fd_print_lines,
    F_print_lines := fun_ofD F_print_lines,
    b_print_lines := (fun_ofD (st := s_print_lines) F_print_lines).binds fun _ _ _ _ _ _ us hl => match us, hl with | [_, _], _ => rfl,
    m_print_lines := He.glo_ok X G (c.facts (f := .glo "print_lines") (by simp [hfa])),
    f_law_deck := He.fAd K ("_law_deck", none),
    d_law_deck := fd_law_deck,
    F_law_deck := fun_ofD F_law_deck,
    b_law_deck := (fun_ofD (st := s_law_deck) F_law_deck).binds fun _ _ _ _ _ _ us hl => match us, hl with | [_], _ => rfl,
    m_law_deck := He.glo_ok X G (c.facts (f := .glo "_law_deck") (by simp [hfa])),
    f_law_draw := He.fAd K ("_law_draw", none),
    d_law_draw := fd_law_draw,
    F_law_draw := fun_ofD F_law_draw,
    b_law_draw := (fun_ofD (st := s_law_draw) F_law_draw).binds fun _ _ _ _ _ _ us hl => match us, hl with | [_, _], _ => rfl,
    m_law_draw := He.glo_ok X G (c.facts (f := .glo "_law_draw") (by simp [hfa])),
    f_law_pick := He.fAd K ("_law_pick", none),
    d_law_pick := fd_law_pick,
    F_law_pick := fun_ofD F_law_pick,
    b_law_pick := (fun_ofD (st := s_law_pick) F_law_pick).binds fun _ _ _ _ _ _ us hl => match us, hl with | [_, _], _ => rfl,
    m_law_pick := He.glo_ok X G (c.facts (f := .glo "_law_pick") (by simp [hfa])),
    f_law_shuffled := He.fAd K ("_law_shuffled", none),
    d_law_shuffled := fd_law_shuffled,
    F_law_shuffled := fun_ofD F_law_shuffled,
    b_law_shuffled := (fun_ofD (st := s_law_shuffled) F_law_shuffled).binds fun _ _ _ _ _ _ us hl => match us, hl with | [_, _], _ => rfl,
    m_law_shuffled := He.glo_ok X G (c.facts (f := .glo "_law_shuffled") (by simp [hfa])),
    f_law_is := He.fAd K ("_law_is", none),
    d_law_is := fd_law_is,
    F_law_is := fun_ofD F_law_is,
    b_law_is := (fun_ofD (st := s_law_is) F_law_is).binds fun _ _ _ _ _ _ us hl => match us, hl with | [_, _], _ => rfl,
    m_law_is := He.glo_ok X G (c.facts (f := .glo "_law_is") (by simp [hfa])),
    f_law_names := He.fAd K ("_law_names", none),
    d_law_names := fd_law_names,
    F_law_names := fun_ofD F_law_names,
    b_law_names := (fun_ofD (st := s_law_names) F_law_names).binds fun _ _ _ _ _ _ us hl => match us, hl with | [_, _], _ => rfl,
    m_law_names := He.glo_ok X G (c.facts (f := .glo "_law_names") (by simp [hfa])),
    f_law_bands := He.fAd K ("_law_bands", none),
    d_law_bands := fd_law_bands,
    F_law_bands := fun_ofD F_law_bands,
    b_law_bands := (fun_ofD (st := s_law_bands) F_law_bands).binds fun _ _ _ _ _ _ us hl => match us, hl with | [_], _ => rfl,
    m_law_bands := He.glo_ok X G (c.facts (f := .glo "_law_bands") (by simp [hfa])),
    f_law_row_pairs := He.fAd K ("_law_row_pairs", none),
    d_law_row_pairs := fd_law_row_pairs,
    F_law_row_pairs := fun_ofD F_law_row_pairs,
    b_law_row_pairs := (fun_ofD (st := s_law_row_pairs) F_law_row_pairs).binds fun _ _ _ _ _ _ us hl => match us, hl with | [_], _ => rfl,
    m_law_row_pairs := He.glo_ok X G (c.facts (f := .glo "_law_row_pairs") (by simp [hfa])),
    f_law_thing := He.fAd K ("_law_thing", none),
    d_law_thing := fd_law_thing,
    F_law_thing := fun_ofD F_law_thing,
    b_law_thing := (fun_ofD (st := s_law_thing) F_law_thing).binds fun _ _ _ _ _ _ us hl => match us, hl with | [_, _, _], _ => rfl,
    m_law_thing := He.glo_ok X G (c.facts (f := .glo "_law_thing") (by simp [hfa])),
    f_law_dossier := He.fAd K ("_law_dossier", none),
    d_law_dossier := fd_law_dossier,
    F_law_dossier := fun_ofD F_law_dossier,
    b_law_dossier := (fun_ofD (st := s_law_dossier) F_law_dossier).binds fun _ _ _ _ _ _ us hl => match us, hl with | [_], _ => rfl,
    m_law_dossier := He.glo_ok X G (c.facts (f := .glo "_law_dossier") (by simp [hfa])),
    f_law_told := He.fAd K ("_law_told", none),
    d_law_told := fd_law_told,
    F_law_told := fun_ofD F_law_told,
    b_law_told := (fun_ofD (st := s_law_told) F_law_told).binds fun _ _ _ _ _ _ us hl => match us, hl with | [_, _, _, _], _ => rfl,
    m_law_told := He.glo_ok X G (c.facts (f := .glo "_law_told") (by simp [hfa])),
    f_law_moved := He.fAd K ("_law_moved", none),
    d_law_moved := fd_law_moved,
    F_law_moved := fun_ofD F_law_moved,
    b_law_moved := (fun_ofD (st := s_law_moved) F_law_moved).binds fun _ _ _ _ _ _ us hl => match us, hl with | [_, _, _, _, _, _], _ => rfl,
    m_law_moved := He.glo_ok X G (c.facts (f := .glo "_law_moved") (by simp [hfa])),
    f_law_said := He.fAd K ("_law_said", none),
    d_law_said := fd_law_said,
    F_law_said := fun_ofD F_law_said,
    b_law_said := (fun_ofD (st := s_law_said) F_law_said).binds fun _ _ _ _ _ _ us hl => match us, hl with | [_, _, _], _ => rfl,
    m_law_said := He.glo_ok X G (c.facts (f := .glo "_law_said") (by simp [hfa])),
    f_law_lines := He.fAd K ("_law_lines", none),
    d_law_lines := fd_law_lines,
    F_law_lines := fun_ofD F_law_lines,
    b_law_lines := (fun_ofD (st := s_law_lines) F_law_lines).binds fun _ _ _ _ _ _ us hl => match us, hl with | [_, _, _, _], _ => rfl,
    m_law_lines := He.glo_ok X G (c.facts (f := .glo "_law_lines") (by simp [hfa])),
    f_law := He.fAd K ("law", none),
    d_law := fd_law,
    F_law := fun_ofD F_law,
    b_law := (fun_ofD (st := s_law) F_law).binds fun _ _ _ _ _ _ us hl => match us, hl with | [_], _ => rfl,
    m_law := He.glo_ok X G (c.facts (f := .glo "law") (by simp [hfa])),
    z_abs := He.free_ok X G (c.facts (f := .free "abs") (by simp [hfa])),
    z_any := He.free_ok X G (c.facts (f := .free "any") (by simp [hfa])),
    z_bool := He.free_ok X G (c.facts (f := .free "bool") (by simp [hfa])),
    z_enumerate := He.free_ok X G (c.facts (f := .free "enumerate") (by simp [hfa])),
    z_int := He.free_ok X G (c.facts (f := .free "int") (by simp [hfa])),
    z_isinstance := He.free_ok X G (c.facts (f := .free "isinstance") (by simp [hfa])),
    z_len := He.free_ok X G (c.facts (f := .free "len") (by simp [hfa])),
    z_list := He.free_ok X G (c.facts (f := .free "list") (by simp [hfa])),
    z_max := He.free_ok X G (c.facts (f := .free "max") (by simp [hfa])),
    z_range := He.free_ok X G (c.facts (f := .free "range") (by simp [hfa])),
    z_sorted := He.free_ok X G (c.facts (f := .free "sorted") (by simp [hfa])),
    z_str := He.free_ok X G (c.facts (f := .free "str") (by simp [hfa])),
    z_tuple := He.free_ok X G (c.facts (f := .free "tuple") (by simp [hfa])),
    z_zip := He.free_ok X G (c.facts (f := .free "zip") (by simp [hfa])) }, ?_, rfl, rfl⟩
  exact He.glo_ok X G (c.facts (f := .glo "law") (by simp [hfa]))
end K91
end L2.My

end
section
set_option Elab.async false
set_option linter.all false
set_option maxRecDepth 100000
set_option maxHeartbeats 0
namespace L2.My
open PySem PySem.Spec PyProof.Rows
namespace K91
theorem spM_law {g : Gn} {fm : FM} {H : Hp} {a : Addr} {ns : List Int} {E : XK} (hT : ∀ P, g.T P → H P = some (.tbl #[])) (hS : SqL g.K H a (ns.map V.int)) (hm : fm [.sh (.scr ns)] = some (.sh (.bl true), [])) : spM g 1 fm [.ref a] H (fun v _ => v = .bl true) E := by
  have mk : ∀ G : Hp, Same G H → (∀ P, g.T P → G P = none) → SqL g.K G a (ns.map V.int) → spM g 1 fm [.ref a] H (fun v _ => v = .bl true) E := fun G sG nT hG =>
    ⟨G, [.sh (.scr ns)], [], _, [], rfl, sG, fun P hP => ⟨#[], hT P hP, trivial⟩, nT, .sh (.scr hG) .nil, List.nodup_nil, hm, fun G' H' v _ _ _ _ _ _ hr => by
      have hr : Rp g G' v (.bl true) := hr
      cases hr
      rfl⟩
  rcases hS with hS | hS
  · refine mk (fun b => if b = a then H a else none) (fun b u e => ?_) (fun P hP => ?_) ?_
    · have e : (if b = a then H a else none) = some u := e
      split at e
      · rename_i hb; rw [hb]; exact e
      · cases e
    · show (if P = a then H a else none) = none
      split
      · rename_i hb
        have := hT P hP
        rw [hb] at this
        rcases hS with hS | ⟨o, hS⟩
        · rw [hS] at this; cases this
        · rw [hS] at this; cases this
      · rfl
    · have ea : (fun b => if b = a then H a else none : Hp) a = H a := if_pos rfl
      rcases hS with hS | ⟨o, hS⟩
      · exact .inl (.inl (ea.trans hS))
      · exact .inl (.inr ⟨o, ea.trans hS⟩)
  · exact mk (fun _ => none) (fun b u e => by cases e) (fun P hP => rfl) (.inr hS)
theorem law_at {w : World} {K : PySem.W.Frag} {h : Heap} {mg : Str → Option Value} {fa : Addr} (math : ∀ ns : List Int, ns.length ≤ 63 → fm_law [.sh (.scr ns)] = some (.sh (.bl true), [])) (KX : K.In h) (G : h.Ns mainGlobals mg) (hmg : mg ("law" : PySem.Str) = some (.ref fa)) (c : He.SaysX hfa hfn [] htf hex w h K) :
    LamX.LawAtS PySem.Challenge.rw_surelyelder_k91_long_print_lines w K CX0 kk_law 63 "script" mg fa h := by
  obtain ⟨W, e1, e2, e3⟩ := wd_of KX G c.t.d
  have ef : fa = W.f_law := by rw [e1] at hmg; cases hmg; rfl
  subst ef
  have m0 : (("link_leads", none) : He.Defn) ∈ htf := by simp [htf]
  refine ⟨W.d_law, [He.cT K ("link_leads", none)], spM (gg W) 1 fm_law, ?_, ?_, ?_, ?_, ?_, ?_⟩
  · intro p hp
    rw [List.mem_singleton.mp hp]
    exact c.empty _ m0
  · intro p hp
    rw [List.mem_singleton.mp hp]
    exact c.out _ m0
  · intro p hp
    rw [List.mem_singleton.mp hp]
    exact PySem.W.codeHd_of_K KX (c.hd _ m0)
  · obtain ⟨oc, od, kV, doc, pm, an, cdv, ct, osl, e, lk, hcd⟩ := W.F_law.ex
    intro s u
    rw [e]
    exact .of_eq rfl
  · intro H a ns hl _ hT hS
    refine spM_law (fun P hP => ?_) hS (math ns hl)
    have hP : P = W.tb_link_leads := hP
    rw [hP, e3]
    exact hT _ (List.mem_singleton.mpr rfl)
  · intro base hb hn hTB
    have ht : Tbs W base := ⟨by rw [e2, e3]; exact ⟨(hTB _ (List.mem_singleton.mpr rfl)).code, (hTB _ (List.mem_singleton.mpr rfl)).bm, (hTB _ (List.mem_singleton.mpr rfl)).gP⟩⟩
    exact ok_law W ht
end K91
end L2.My
open PySem PySem.W PySem.Calls PyProof.Rows
theorem k91_of (math : ∀ ns : List Int, ns.length ≤ 63 → L2.My.K91.fm_law [.sh (.scr ns)] = some (.sh (.bl true), [])) : PySem.Challenge.rw_surelyelder_k91_long_print_lines.Holds := by
  w_on; o_law
  refine HandSHeadRun.head_any (r := OpenLaw.row PySem.Challenge.rw_surelyelder_k91_long_print_lines) (q := view (OpenLaw.row PySem.Challenge.rw_surelyelder_k91_long_print_lines).prog [34]) (H := L2.My.K91.hk) (ob := L2.My.K91.hob) (M := 2000) (loose := L2.My.K91.hloose) (d := HandSHeadRun.topDef (OpenLaw.row PySem.Challenge.rw_surelyelder_k91_long_print_lines).prog 34) (kwd := []) L2.My.K91.hob_eq
    (by kernel_rfl) (fun s => by kernel_rfl) L2.My.K91.hrun (by kernel_rfl) (by kernel_rfl) (by kernel_rfl) (by rfl) (by first | assumption | decide +kernel) (by decide +kernel) ⟨rfl, rfl, rfl, rfl, rfl, by decide +kernel⟩ ?hw ?hc
  case hw => w_witness2
  case hc =>
    refine LamX.walk_ofTsE (l := PySem.Challenge.rw_surelyelder_k91_long_print_lines) (n := 63) (k := L2.My.K91.kk_law) (x := "script") (CX := fun _ => L2.CX0) rfl (by decide) (by kernel_rfl) ⟨rfl, by decide, by decide⟩ ?F (fun _ _ _ _ _ z => z)
    intro w mg fa h Y G hmg0
    obtain ⟨K, KX, c⟩ := Y
    have hmg : mg ("law" : PySem.Str) = some (.ref fa) := by
      have e : (HandSHeadRun.topDef (OpenLaw.row PySem.Challenge.rw_surelyelder_k91_long_print_lines).prog 34).name = ("law" : PySem.Str) := by kernel_rfl
      rw [← e]
      exact hmg0
    exact ⟨K, KX, L2.My.K91.law_at math KX G hmg c⟩

end
section
set_option Elab.async false
set_option linter.all false
set_option autoImplicit false
set_option maxRecDepth 100000
set_option maxHeartbeats 400000
namespace L2.My
open PySem PySem.Spec PyProof.Rows
local macro_rules | `(tactic| and_intros) => `(tactic| simp only [↓ok_some, ↓ok_bind, ↓ok_ite, it_true, it_false, ↓k_mV, ↓k_mE, ↓k_mF, ↓k_mVar, ↓k_mC, ↓k_mNm, ↓k_m1, ↓k_m2, ↓k_mT, ↓k_mAndT, ↓k_mOrT, ↓k_mNotT, ↓k_mIf, ↓k_mAndV, ↓k_mOrV, ↓k_mNotV, ↓k_mIsi, ↓k_mNil, ↓k_mCons, ↓k_mTup, ↓k_mLst, ↓k_mANil, ↓k_mACons, ↓k_mVE, ↓k_mCall, ↓k_args0, ↓k_args1, ↓k_sSeq, ↓k_then1, ↓k_then2, ↓k_then3, ↓k_then4, ↓k_sNil, ↓k_sSet, ↓k_sExpr, ↓k_sRet, ↓k_sIf, ↓k_sBreak, ↓k_sCont, ↓k_gNm, ↓k_gsNil, ↓k_gsCons, ↓k_gTp, ↓k_sAsg, ↓k_sPar, ↓k_mSo, ↓k_mNo, ↓k_mSl, ↓k_mApp, ↓k_mExt, ↓k_mPop, ↓k_sSetI, ↓k_mIndex, ↓k_mGet, ↓k_mLR1, ↓k_mRng1, ↓k_mItems, ↓k_mEnum, ↓k_mEnumZ, ↓k_sFor, ↓k_fLc, ↓k_mYes, ↓k_mMake, ↓k_sFldI, ↓k_mAnyIn, ↓k_mJoined, ↓k_jNil, ↓k_jCons, ↓k_mDict, ↓k_pNil, ↓k_pCons, ↓k_mChain, ↓k_chain1, ↓k_chain2, ↓k_fnM, ↓k_end1, ↓k_end2, ↓k_outs0, ↓k_outs1, ↓k_outs2, q_mVarS1, q_mVarS2, q_look1, q_look2, q_lookS1, q_lookS2, q_d1, q_d2, q_od1, q_od2, q_od3, q_boolR, q_arg1, q_arg2, q_argS, q_slots0, q_slots1, q_slots2, q_put0, q_put1, q_put2, q_putS, q_slotOf1, q_slotOf2, q_intOf, q_lstS, q_items1, q_items2, q_tupD, q_insS, q_strD, q_outS, p_ix1, p_ix2, p_ix3, p_atI, p_ixN, p_add, p_addS, p_addT, p_addL, p_sub, p_mul, p_div, p_mod, p_pow, p_neg, p_lt, p_le, p_gt, p_ge, p_len1, p_len2, p_len3, p_int, p_abs, p_str, p_max, p_list1, p_list2, p_tuple1, p_tuple2, p_isN, p_notN, p_non1, p_non2, p_non3, p_non4, p_non5, p_isi, p_ty1, p_ty2, p_ty3, p_ty4, p_ty5, p_ty6, p_isi_NoneType_bool, p_isi_NoneType_int, p_isi_NoneType_str, p_isi_NoneType_tuple, p_isi_bool_bool, p_isi_bool_int, p_isi_bool_str, p_isi_bool_tuple, p_isi_int_bool, p_isi_int_int, p_isi_int_str, p_isi_int_tuple, p_isi_str_bool, p_isi_str_int, p_isi_str_str, p_isi_str_tuple, p_isi_tuple_bool, p_isi_tuple_int, p_isi_tuple_str, p_isi_tuple_tuple, p_isi_list_bool, p_isi_list_int, p_isi_list_str, p_isi_list_tuple, p_in, p_notIn, p_eqI, p_neI, p_eqB, p_neB, p_fmt1, p_fmt2, p_fld, p_sl1, p_sl2, p_sl3, q_makeR, q_clean0, q_clean1, q_cleanS1, q_cleanS2, q_wipe0, q_wipe1, q_back0, q_back1, q_join1, q_and1, q_outP1, q_outP2, q_outP3, q_outP4, List.map_cons, List.map_nil, List.cons_append, List.nil_append, List.append_nil, List.length_cons, List.length_nil, List.getElem?_cons_zero, List.getElem?_cons_succ, List.getElem?_nil, List.set_cons_zero, List.set_cons_succ, Nat.reduceAdd, Nat.reduceSub, List.replicate_succ, List.replicate_zero, Nat.zero_add, reduceIte, Nat.reduceLeDiff, Nat.reduceLT, List.nodup_cons, List.nodup_nil, List.not_mem_nil, not_false_eq_true, and_true, and_self, List.mem_cons, or_false, Nat.reduceEqDiff, Bool.not_true, Bool.not_false, Bool.false_eq_true, true_and, and_false, false_and, reduceCtorEq, if_true, if_false, Int.reduceLE, Int.reduceLT, Int.reduceToNat, Int.reduceNeg, Int.reduceAdd, Int.reduceSub, Int.reduceMul, Int.reduceEq, Nat.reduceMul, decide_eq_true_eq, List.length_set, decide_true, decide_false, Int.toNat_natCast, Bool.not_eq_true, ne_eq])
local macro_rules | `(tactic| subst_eqs) => `(tactic| simp only [↓ok_some, ↓ok_bind, ↓ok_ite, it_true, it_false, ↓k_mV, ↓k_mE, ↓k_mF, ↓k_mVar, ↓k_mC, ↓k_mNm, ↓k_m1, ↓k_m2, ↓k_mT, ↓k_mAndT, ↓k_mOrT, ↓k_mNotT, ↓k_mIf, ↓k_mAndV, ↓k_mOrV, ↓k_mNotV, ↓k_mIsi, ↓k_mNil, ↓k_mCons, ↓k_mTup, ↓k_mLst, ↓k_mANil, ↓k_mACons, ↓k_mVE, ↓k_mCall, ↓k_args0, ↓k_args1, ↓k_sSeq, ↓k_then1, ↓k_then2, ↓k_then3, ↓k_then4, ↓k_sNil, ↓k_sSet, ↓k_sExpr, ↓k_sRet, ↓k_sIf, ↓k_sBreak, ↓k_sCont, ↓k_gNm, ↓k_gsNil, ↓k_gsCons, ↓k_gTp, ↓k_sAsg, ↓k_sPar, ↓k_mSo, ↓k_mNo, ↓k_mSl, ↓k_mApp, ↓k_mExt, ↓k_mPop, ↓k_sSetI, ↓k_mIndex, ↓k_mGet, ↓k_mLR1, ↓k_mRng1, ↓k_mItems, ↓k_mEnum, ↓k_mEnumZ, ↓k_sFor, ↓k_fLc, ↓k_mYes, ↓k_mMake, ↓k_sFldI, ↓k_mAnyIn, ↓k_mJoined, ↓k_jNil, ↓k_jCons, ↓k_mDict, ↓k_pNil, ↓k_pCons, ↓k_mChain, ↓k_chain1, ↓k_chain2, ↓k_fnM, ↓k_end1, ↓k_end2, ↓k_outs0, ↓k_outs1, ↓k_outs2, q_mVarS1, q_mVarS2, q_look1, q_look2, q_lookS1, q_lookS2, q_d1, q_d2, q_od1, q_od2, q_od3, q_boolR, q_arg1, q_arg2, q_argS, q_slots0, q_slots1, q_slots2, q_put0, q_put1, q_put2, q_putS, q_slotOf1, q_slotOf2, q_intOf, q_lstS, q_items1, q_items2, q_tupD, q_insS, q_strD, q_outS, p_ix1, p_ix2, p_ix3, p_atI, p_ixN, p_add, p_addS, p_addT, p_addL, p_sub, p_mul, p_div, p_mod, p_pow, p_neg, p_lt, p_le, p_gt, p_ge, p_len1, p_len2, p_len3, p_int, p_abs, p_str, p_max, p_list1, p_list2, p_tuple1, p_tuple2, p_isN, p_notN, p_non1, p_non2, p_non3, p_non4, p_non5, p_isi, p_ty1, p_ty2, p_ty3, p_ty4, p_ty5, p_ty6, p_isi_NoneType_bool, p_isi_NoneType_int, p_isi_NoneType_str, p_isi_NoneType_tuple, p_isi_bool_bool, p_isi_bool_int, p_isi_bool_str, p_isi_bool_tuple, p_isi_int_bool, p_isi_int_int, p_isi_int_str, p_isi_int_tuple, p_isi_str_bool, p_isi_str_int, p_isi_str_str, p_isi_str_tuple, p_isi_tuple_bool, p_isi_tuple_int, p_isi_tuple_str, p_isi_tuple_tuple, p_isi_list_bool, p_isi_list_int, p_isi_list_str, p_isi_list_tuple, p_in, p_notIn, p_eqI, p_neI, p_eqB, p_neB, p_fmt1, p_fmt2, p_fld, p_sl1, p_sl2, p_sl3, q_makeR, q_clean0, q_clean1, q_cleanS1, q_cleanS2, q_wipe0, q_wipe1, q_back0, q_back1, q_join1, q_and1, q_outP1, q_outP2, q_outP3, q_outP4, List.map_cons, List.map_nil, List.cons_append, List.nil_append, List.append_nil, List.length_cons, List.length_nil, List.getElem?_cons_zero, List.getElem?_cons_succ, List.getElem?_nil, List.set_cons_zero, List.set_cons_succ, Nat.reduceAdd, Nat.reduceSub, List.replicate_succ, List.replicate_zero, Nat.zero_add, reduceIte, Nat.reduceLeDiff, Nat.reduceLT, List.nodup_cons, List.nodup_nil, List.not_mem_nil, not_false_eq_true, and_true, and_self, List.mem_cons, or_false, Nat.reduceEqDiff, Bool.not_true, Bool.not_false, Bool.false_eq_true, true_and, and_false, false_and, reduceCtorEq, if_true, if_false, Int.reduceLE, Int.reduceLT, Int.reduceToNat, Int.reduceNeg, Int.reduceAdd, Int.reduceSub, Int.reduceMul, Int.reduceEq, Nat.reduceMul, decide_eq_true_eq, List.length_set, decide_true, decide_false, Int.toNat_natCast, Bool.not_eq_true, ne_eq, List.length_map, List.length_append])
namespace K91
/-- the deck behind n draws at most -/
def Dk (n : Nat) (o : MO) : Prop := ∃ (cs : List Int) (a b c d e : Int), o = .lst [.lst (cs.map .int), .int a, .int b, .int c, .int d, .int e] ∧ 0 ≤ a ∧ 0 ≤ d ∧ d < 2147483647 ∧ 0 ≤ e ∧ e ≤ n
theorem lg {i : Nat} (h : i < 1267650600228229401496703205376) : i.log2 < 100 := by
  by_cases hz : i = 0
  · rw [hz]; decide
  · rw [Nat.log2_lt hz]; exact h
theorem mul_g {i j : Int} (hi : i.natAbs < 1267650600228229401496703205376) (hj : j.natAbs < 1267650600228229401496703205376) : i.natAbs.log2 + j.natAbs.log2 < 1000000 := by
  have := lg hi
  have := lg hj
  omega
theorem div_g {j : Int} (h : 0 < j) (hj : j.natAbs < 1267650600228229401496703205376) : 0 < j ∧ j.natAbs.log2 < 9000 := ⟨h, by have := lg hj; omega⟩
theorem dk_mk {n : Nat} {cs : List Int} {a b c d e : Int} (ha : 0 ≤ a) (hd : 0 ≤ d) (hd2 : d < 2147483647) (he : 0 ≤ e) (hen : e ≤ n) : Dk n (.lst [.lst (cs.map .int), .int a, .int b, .int c, .int d, .int e]) := ⟨cs, a, b, c, d, e, rfl, ha, hd, hd2, he, hen⟩
theorem draw_ok {n : Nat} {o : MO} {m : Int} (h : Dk n o) (hn : n ≤ 1000000) (hm : 0 < m) (hm2 : m < 1000000) {k : Ct (RV × List MO)} (q : ∀ (o' : MO) (r : Int), Dk (n + 1) o' → 0 ≤ r → r < m → k.run (.sh (.int r), [o'])) : @Ok _ (fm_law_draw [.mu true o, .sh (.int m)]) k := by
  obtain ⟨cs, a, b, c, d, e, rfl, ha, hd, hd2, he, hen⟩ := h
  have hn' : (n : Int) ≤ 1000000 := by omega
  unfold fm_law_draw mx_law_draw
  and_intros
  refine it_of (fun h1 => ?_) (fun h1 => ?_)
  · and_intros
    refine it_of (fun h2 => ?_) (fun h2 => ?_)
    · and_intros
      refine it_pos ha ?_
      and_intros
      rw [List.length_map] at h2
      refine it_pos (by rw [List.length_map]; omega) ?_
      and_intros
      obtain ⟨v, hv⟩ : ∃ v, cs[a.toNat]? = some v := ⟨_, List.getElem?_eq_getElem (by omega)⟩
      refine .of (a := D.int v) (by rw [List.getElem?_map, hv]; rfl) ?_
      and_intros
      refine it_pos (by decide) ?_
      and_intros
      refine it_of (fun h5 => ?_) (fun h5 => ?_)
      · and_intros
        refine it_pos (mul_g (i := d) (j := 48271) (by omega) (by omega)) ?_
        and_intros
        refine it_pos (by omega) ?_
        and_intros
        refine it_pos hm ?_
        and_intros
        refine it_pos (div_g (j := m) hm (by omega)) ?_
        and_intros
        exact q _ _ (dk_mk (by omega) (by omega) (by omega) (by omega) (by omega)) (Int.emod_nonneg _ (by omega)) (Int.emod_lt_of_pos _ hm)
      · and_intros
        refine it_pos (mul_g (i := d) (j := 48271) (by omega) (by omega)) ?_
        and_intros
        refine it_pos (mul_g (i := ((d * 48271 + v % 2147483629 + (a + 1)) % 2147483647)) (j := 69621) (by omega) (by omega)) ?_
        and_intros
        refine it_pos (mul_g (i := e + 1) (j := 40692) (by omega) (by omega)) ?_
        and_intros
        refine it_pos (mul_g (i := (((d * 48271 + v % 2147483629 + (a + 1)) % 2147483647) * 69621 + (e + 1) * 40692 + 11) % 2147483647) (j := (((d * 48271 + v % 2147483629 + (a + 1)) % 2147483647) * 69621 + (e + 1) * 40692 + 11) % 2147483647) (by omega) (by omega)) ?_
        and_intros
        refine it_pos (mul_g (i := ((((d * 48271 + v % 2147483629 + (a + 1)) % 2147483647) * 69621 + (e + 1) * 40692 + 11) % 2147483647 * ((((d * 48271 + v % 2147483629 + (a + 1)) % 2147483647) * 69621 + (e + 1) * 40692 + 11) % 2147483647) + (e + 1)) % 2147483629) (j := 16807) (by omega) (by omega)) ?_
        and_intros
        refine it_pos (div_g (j := 7) (by omega) (by omega)).2 ?_
        and_intros
        refine it_pos (div_g (j := 16) (by omega) (by omega)).2 ?_
        and_intros
        refine it_pos hm ?_
        and_intros
        exact q _ _ (dk_mk (by omega) (by omega) (by omega) (by omega) (by omega)) (Int.emod_nonneg _ (by omega)) (Int.emod_lt_of_pos _ hm)
    · and_intros
      refine it_of (fun h3 => ?_) (fun h3 => ?_)
      · and_intros
        refine it_pos hm ?_
        and_intros
        refine it_of (fun h4 => ?_) (fun h4 => ?_)
        · and_intros
          refine it_pos (div_g (j := m) hm (by omega)) ?_
          and_intros
          exact q _ _ (dk_mk (by omega) (by omega) (by omega) (by omega) (by omega)) (Int.emod_nonneg _ (by omega)) (Int.emod_lt_of_pos _ hm)
        · and_intros
          exact q _ _ (dk_mk (by omega) (by omega) (by omega) (by omega) (by omega)) (Int.emod_nonneg _ (by omega)) (Int.emod_lt_of_pos _ hm)
      · and_intros
        refine it_pos (mul_g (i := d) (j := 69621) (by omega) (by omega)) ?_
        and_intros
        refine it_pos (mul_g (i := e + 1) (j := 40692) (by omega) (by omega)) ?_
        and_intros
        refine it_pos (mul_g (i := (d * 69621 + (e + 1) * 40692 + 11) % 2147483647) (j := (d * 69621 + (e + 1) * 40692 + 11) % 2147483647) (by omega) (by omega)) ?_
        and_intros
        refine it_pos (mul_g (i := ((d * 69621 + (e + 1) * 40692 + 11) % 2147483647 * ((d * 69621 + (e + 1) * 40692 + 11) % 2147483647) + (e + 1)) % 2147483629) (j := 16807) (by omega) (by omega)) ?_
        and_intros
        refine it_pos (div_g (j := 7) (by omega) (by omega)).2 ?_
        and_intros
        refine it_pos (div_g (j := 16) (by omega) (by omega)).2 ?_
        and_intros
        refine it_pos hm ?_
        and_intros
        exact q _ _ (dk_mk (by omega) (by omega) (by omega) (by omega) (by omega)) (Int.emod_nonneg _ (by omega)) (Int.emod_lt_of_pos _ hm)
  · and_intros
    refine it_of (fun h3 => ?_) (fun h3 => ?_)
    · and_intros
      refine it_pos hm ?_
      and_intros
      refine it_of (fun h4 => ?_) (fun h4 => ?_)
      · and_intros
        refine it_pos (div_g (j := m) hm (by omega)) ?_
        and_intros
        exact q _ _ (dk_mk (by omega) (by omega) (by omega) (by omega) (by omega)) (Int.emod_nonneg _ (by omega)) (Int.emod_lt_of_pos _ hm)
      · and_intros
        exact q _ _ (dk_mk (by omega) (by omega) (by omega) (by omega) (by omega)) (Int.emod_nonneg _ (by omega)) (Int.emod_lt_of_pos _ hm)
    · and_intros
      refine it_pos (mul_g (i := d) (j := 69621) (by omega) (by omega)) ?_
      and_intros
      refine it_pos (mul_g (i := e + 1) (j := 40692) (by omega) (by omega)) ?_
      and_intros
      refine it_pos (mul_g (i := (d * 69621 + (e + 1) * 40692 + 11) % 2147483647) (j := (d * 69621 + (e + 1) * 40692 + 11) % 2147483647) (by omega) (by omega)) ?_
      and_intros
      refine it_pos (mul_g (i := ((d * 69621 + (e + 1) * 40692 + 11) % 2147483647 * ((d * 69621 + (e + 1) * 40692 + 11) % 2147483647) + (e + 1)) % 2147483629) (j := 16807) (by omega) (by omega)) ?_
      and_intros
      refine it_pos (div_g (j := 7) (by omega) (by omega)).2 ?_
      and_intros
      refine it_pos (div_g (j := 16) (by omega) (by omega)).2 ?_
      and_intros
      refine it_pos hm ?_
      and_intros
      exact q _ _ (dk_mk (by omega) (by omega) (by omega) (by omega) (by omega)) (Int.emod_nonneg _ (by omega)) (Int.emod_lt_of_pos _ hm)
end K91
end L2.My

end
section
set_option Elab.async false
set_option linter.all false
set_option autoImplicit false
set_option maxRecDepth 100000
set_option maxHeartbeats 400000
namespace L2.My
open PySem PySem.Spec PyProof.Rows
local macro_rules | `(tactic| and_intros) => `(tactic| simp only [↓ok_some, ↓ok_bind, ↓ok_ite, it_true, it_false, ↓k_mV, ↓k_mE, ↓k_mF, ↓k_mVar, ↓k_mC, ↓k_mNm, ↓k_m1, ↓k_m2, ↓k_mT, ↓k_mAndT, ↓k_mOrT, ↓k_mNotT, ↓k_mIf, ↓k_mAndV, ↓k_mOrV, ↓k_mNotV, ↓k_mIsi, ↓k_mNil, ↓k_mCons, ↓k_mTup, ↓k_mLst, ↓k_mANil, ↓k_mACons, ↓k_mVE, ↓k_mCall, ↓k_args0, ↓k_args1, ↓k_sSeq, ↓k_then1, ↓k_then2, ↓k_then3, ↓k_then4, ↓k_sNil, ↓k_sSet, ↓k_sExpr, ↓k_sRet, ↓k_sIf, ↓k_sBreak, ↓k_sCont, ↓k_gNm, ↓k_gsNil, ↓k_gsCons, ↓k_gTp, ↓k_sAsg, ↓k_sPar, ↓k_mSo, ↓k_mNo, ↓k_mSl, ↓k_mApp, ↓k_mExt, ↓k_mPop, ↓k_sSetI, ↓k_mIndex, ↓k_mGet, ↓k_mLR1, ↓k_mRng1, ↓k_mItems, ↓k_mEnum, ↓k_mEnumZ, ↓k_sFor, ↓k_fLc, ↓k_mYes, ↓k_mMake, ↓k_sFldI, ↓k_mAnyIn, ↓k_mJoined, ↓k_jNil, ↓k_jCons, ↓k_mDict, ↓k_pNil, ↓k_pCons, ↓k_mChain, ↓k_chain1, ↓k_chain2, ↓k_fnM, ↓k_end1, ↓k_end2, ↓k_outs0, ↓k_outs1, ↓k_outs2, q_mVarS1, q_mVarS2, q_look1, q_look2, q_lookS1, q_lookS2, q_d1, q_d2, q_od1, q_od2, q_od3, q_boolR, q_arg1, q_arg2, q_argS, q_slots0, q_slots1, q_slots2, q_put0, q_put1, q_put2, q_putS, q_slotOf1, q_slotOf2, q_intOf, q_lstS, q_items1, q_items2, q_tupD, q_insS, q_strD, q_outS, p_ix1, p_ix2, p_ix3, p_atI, p_ixN, p_add, p_addS, p_addT, p_addL, p_sub, p_mul, p_div, p_mod, p_pow, p_neg, p_lt, p_le, p_gt, p_ge, p_len1, p_len2, p_len3, p_int, p_abs, p_str, p_max, p_list1, p_list2, p_tuple1, p_tuple2, p_isN, p_notN, p_non1, p_non2, p_non3, p_non4, p_non5, p_isi, p_ty1, p_ty2, p_ty3, p_ty4, p_ty5, p_ty6, p_isi_NoneType_bool, p_isi_NoneType_int, p_isi_NoneType_str, p_isi_NoneType_tuple, p_isi_bool_bool, p_isi_bool_int, p_isi_bool_str, p_isi_bool_tuple, p_isi_int_bool, p_isi_int_int, p_isi_int_str, p_isi_int_tuple, p_isi_str_bool, p_isi_str_int, p_isi_str_str, p_isi_str_tuple, p_isi_tuple_bool, p_isi_tuple_int, p_isi_tuple_str, p_isi_tuple_tuple, p_isi_list_bool, p_isi_list_int, p_isi_list_str, p_isi_list_tuple, p_in, p_notIn, p_eqI, p_neI, p_eqB, p_neB, p_fmt1, p_fmt2, p_fld, p_sl1, p_sl2, p_sl3, q_makeR, q_clean0, q_clean1, q_cleanS1, q_cleanS2, q_wipe0, q_wipe1, q_back0, q_back1, q_join1, q_and1, q_outP1, q_outP2, q_outP3, q_outP4, List.map_cons, List.map_nil, List.cons_append, List.nil_append, List.append_nil, List.length_cons, List.length_nil, List.getElem?_cons_zero, List.getElem?_cons_succ, List.getElem?_nil, List.set_cons_zero, List.set_cons_succ, Nat.reduceAdd, Nat.reduceSub, List.replicate_succ, List.replicate_zero, Nat.zero_add, reduceIte, Nat.reduceLeDiff, Nat.reduceLT, List.nodup_cons, List.nodup_nil, List.not_mem_nil, not_false_eq_true, and_true, and_self, List.mem_cons, or_false, Nat.reduceEqDiff, Bool.not_true, Bool.not_false, Bool.false_eq_true, true_and, and_false, false_and, reduceCtorEq, if_true, if_false, Int.reduceLE, Int.reduceLT, Int.reduceToNat, Int.reduceNeg, Int.reduceAdd, Int.reduceSub, Int.reduceMul, Int.reduceEq, Nat.reduceMul, decide_eq_true_eq, List.length_set, decide_true, decide_false, Int.toNat_natCast, Bool.not_eq_true, ne_eq])
local macro_rules | `(tactic| subst_eqs) => `(tactic| simp only [↓ok_some, ↓ok_bind, ↓ok_ite, it_true, it_false, ↓k_mV, ↓k_mE, ↓k_mF, ↓k_mVar, ↓k_mC, ↓k_mNm, ↓k_m1, ↓k_m2, ↓k_mT, ↓k_mAndT, ↓k_mOrT, ↓k_mNotT, ↓k_mIf, ↓k_mAndV, ↓k_mOrV, ↓k_mNotV, ↓k_mIsi, ↓k_mNil, ↓k_mCons, ↓k_mTup, ↓k_mLst, ↓k_mANil, ↓k_mACons, ↓k_mVE, ↓k_mCall, ↓k_args0, ↓k_args1, ↓k_sSeq, ↓k_then1, ↓k_then2, ↓k_then3, ↓k_then4, ↓k_sNil, ↓k_sSet, ↓k_sExpr, ↓k_sRet, ↓k_sIf, ↓k_sBreak, ↓k_sCont, ↓k_gNm, ↓k_gsNil, ↓k_gsCons, ↓k_gTp, ↓k_sAsg, ↓k_sPar, ↓k_mSo, ↓k_mNo, ↓k_mSl, ↓k_mApp, ↓k_mExt, ↓k_mPop, ↓k_sSetI, ↓k_mIndex, ↓k_mGet, ↓k_mLR1, ↓k_mRng1, ↓k_mItems, ↓k_mEnum, ↓k_mEnumZ, ↓k_sFor, ↓k_fLc, ↓k_mYes, ↓k_mMake, ↓k_sFldI, ↓k_mAnyIn, ↓k_mJoined, ↓k_jNil, ↓k_jCons, ↓k_mDict, ↓k_pNil, ↓k_pCons, ↓k_mChain, ↓k_chain1, ↓k_chain2, ↓k_fnM, ↓k_end1, ↓k_end2, ↓k_outs0, ↓k_outs1, ↓k_outs2, q_mVarS1, q_mVarS2, q_look1, q_look2, q_lookS1, q_lookS2, q_d1, q_d2, q_od1, q_od2, q_od3, q_boolR, q_arg1, q_arg2, q_argS, q_slots0, q_slots1, q_slots2, q_put0, q_put1, q_put2, q_putS, q_slotOf1, q_slotOf2, q_intOf, q_lstS, q_items1, q_items2, q_tupD, q_insS, q_strD, q_outS, p_ix1, p_ix2, p_ix3, p_atI, p_ixN, p_add, p_addS, p_addT, p_addL, p_sub, p_mul, p_div, p_mod, p_pow, p_neg, p_lt, p_le, p_gt, p_ge, p_len1, p_len2, p_len3, p_int, p_abs, p_str, p_max, p_list1, p_list2, p_tuple1, p_tuple2, p_isN, p_notN, p_non1, p_non2, p_non3, p_non4, p_non5, p_isi, p_ty1, p_ty2, p_ty3, p_ty4, p_ty5, p_ty6, p_isi_NoneType_bool, p_isi_NoneType_int, p_isi_NoneType_str, p_isi_NoneType_tuple, p_isi_bool_bool, p_isi_bool_int, p_isi_bool_str, p_isi_bool_tuple, p_isi_int_bool, p_isi_int_int, p_isi_int_str, p_isi_int_tuple, p_isi_str_bool, p_isi_str_int, p_isi_str_str, p_isi_str_tuple, p_isi_tuple_bool, p_isi_tuple_int, p_isi_tuple_str, p_isi_tuple_tuple, p_isi_list_bool, p_isi_list_int, p_isi_list_str, p_isi_list_tuple, p_in, p_notIn, p_eqI, p_neI, p_eqB, p_neB, p_fmt1, p_fmt2, p_fld, p_sl1, p_sl2, p_sl3, q_makeR, q_clean0, q_clean1, q_cleanS1, q_cleanS2, q_wipe0, q_wipe1, q_back0, q_back1, q_join1, q_and1, q_outP1, q_outP2, q_outP3, q_outP4, List.map_cons, List.map_nil, List.cons_append, List.nil_append, List.append_nil, List.length_cons, List.length_nil, List.getElem?_cons_zero, List.getElem?_cons_succ, List.getElem?_nil, List.set_cons_zero, List.set_cons_succ, Nat.reduceAdd, Nat.reduceSub, List.replicate_succ, List.replicate_zero, Nat.zero_add, reduceIte, Nat.reduceLeDiff, Nat.reduceLT, List.nodup_cons, List.nodup_nil, List.not_mem_nil, not_false_eq_true, and_true, and_self, List.mem_cons, or_false, Nat.reduceEqDiff, Bool.not_true, Bool.not_false, Bool.false_eq_true, true_and, and_false, false_and, reduceCtorEq, if_true, if_false, Int.reduceLE, Int.reduceLT, Int.reduceToNat, Int.reduceNeg, Int.reduceAdd, Int.reduceSub, Int.reduceMul, Int.reduceEq, Nat.reduceMul, decide_eq_true_eq, List.length_set, decide_true, decide_false, Int.toNat_natCast, Bool.not_eq_true, ne_eq, List.length_map, List.length_append])
namespace K91
theorem erase_perm {xs : List D} {i : Nat} (h : i < xs.length) : ([xs[i]] ++ xs.eraseIdx i).Perm xs := by
  have e : xs.take i ++ xs[i] :: xs.drop (i + 1) = xs := by
    rw [← List.drop_eq_getElem_cons h, List.take_append_drop]
  rw [List.eraseIdx_eq_take_drop_succ]
  refine List.Perm.trans ?_ (List.Perm.of_eq e)
  show (xs[i] :: (xs.take i ++ xs.drop (i + 1))).Perm _
  exact List.perm_middle.symm
theorem Dk.mono {n m : Nat} {o : MO} (h : Dk n o) (hm : n ≤ m) : Dk m o := by
  obtain ⟨cs, a, b, c, d, e, rfl, ha, hd, hd2, he, hen⟩ := h
  exact ⟨cs, a, b, c, d, e, rfl, ha, hd, hd2, he, by omega⟩
theorem pickT_ok {n : Nat} {o : MO} {xs : List D} (h : Dk n o) (hn : n ≤ 1000000) (hx : 0 < xs.length) (hx2 : xs.length < 1000000) {k : Ct (RV × List MO)} (q : ∀ (o' : MO) (d : D), Dk (n + 1) o' → d ∈ xs → k.run (.sh d, [o'])) : @Ok _ (fm_law_pick [.mu true o, .sh (.tup xs)]) k := by
  unfold fm_law_pick mx_law_pick
  and_intros
  refine draw_ok h hn (by omega) (by omega) fun o' r h' r0 r1 => ?_
  and_intros
  refine it_pos r0 ?_
  and_intros
  have hlt : r.toNat < xs.length := by omega
  refine it_pos hlt ?_
  and_intros
  refine .of (List.getElem?_eq_getElem hlt) ?_
  and_intros
  exact q _ _ h' (List.getElem_mem hlt)
theorem pickL_ok {n : Nat} {o : MO} {xs : List D} (h : Dk n o) (hn : n ≤ 1000000) (hx : 0 < xs.length) (hx2 : xs.length < 1000000) {k : Ct (RV × List MO)} (q : ∀ (o' : MO) (d : D), Dk (n + 1) o' → d ∈ xs → k.run (.sh d, [o'])) : @Ok _ (fm_law_pick [.mu true o, .sh (.lst xs)]) k := by
  unfold fm_law_pick mx_law_pick
  and_intros
  refine draw_ok h hn (by omega) (by omega) fun o' r h' r0 r1 => ?_
  and_intros
  refine it_pos r0 ?_
  and_intros
  have hlt : r.toNat < xs.length := by omega
  refine it_pos hlt ?_
  and_intros
  refine .of (List.getElem?_eq_getElem hlt) ?_
  and_intros
  exact q _ _ h' (List.getElem_mem hlt)
/-- what shuffled does with the items xs (its own list is some) -/
theorem shuf_ok {n : Nat} {o : MO} {s : D} {xs : List D} (hs : oList s = some (.fr (.lst xs))) (hs2 : oLen' s = some (.sh (.int xs.length))) (h : Dk n o) (hx2 : xs.length < 1000000) (hn : n + xs.length ≤ 1000000) {k : Ct (RV × List MO)}
    (q : ∀ (o' : MO) (ys : List D), Dk (n + xs.length) o' → ys.Perm xs → k.run (.fr (.lst ys), [o'])) : @Ok _ (fm_law_shuffled [.mu true o, .sh s]) k := by
  unfold fm_law_shuffled mx_law_shuffled
  and_intros
  refine .of hs ?_
  and_intros
  refine .of hs2 ?_
  and_intros
  refine it_pos ⟨by omega, by omega⟩ ?_
  and_intros
  rw [Int.toNat_natCast]
  refine lcL_inv (fun i acc ρ => ∃ o left, Dk (n + i) o ∧ left.length + i = xs.length ∧ (acc ++ left).Perm xs ∧ ρ = [some (.mu true o), some (.sh s), some (.mu false (.lst left)), none]) (by rw [rng_len, sizeLine_v]; omega) ⟨o, xs, h, by omega, by simp, rfl⟩ (fun i d acc ρ hd ha ⟨o1, left, h1, h2, h3, e⟩ => ?_) fun out ρ' hl ⟨o1, left, h1, h2, h3, e⟩ => ?_
  · obtain ⟨hi, rfl⟩ := rng_at hd
    subst e
    and_intros
    refine draw_ok h1 (by omega) (by omega) (by omega) fun o' r h' r0 r1 => ?_
    and_intros
    have hlt : r.toNat < left.length := by omega
    refine it_pos ⟨r0, by omega⟩ ?_
    and_intros
    refine .of (List.getElem?_eq_getElem hlt) ?_
    and_intros
    refine ⟨o', left.eraseIdx r.toNat, by rw [← Nat.add_assoc]; exact h', ?_, ?_, rfl⟩
    · rw [List.length_eraseIdx, if_pos hlt]; omega
    · refine List.Perm.trans ?_ h3
      rw [List.append_assoc]
      refine List.Perm.append_left acc ?_
      exact erase_perm hlt
  · subst e
    and_intros
    rw [rng_len] at h1 h2
    have e : left = [] := List.eq_nil_of_length_eq_zero (by omega)
    rw [e, List.append_nil] at h3
    exact q _ _ h1 h3
end K91
end L2.My

end
section
set_option Elab.async false
set_option linter.all false
set_option autoImplicit false
set_option maxRecDepth 100000
set_option maxHeartbeats 400000
/-! Mk3: plain data: ints, texts that can be laid, tuples of such. -/
namespace L2.My
open PySem PySem.Spec PyProof.Rows
namespace K91
/-- plain data, at most n tuples deep -/
def Pn : Nat → D → Prop
  | 0, d => (∃ i, d = .int i) ∨ ∃ s, d = .str s ∧ PyData.strOk s = true
  | n + 1, d => Pn n d ∨ ∃ xs, d = .tup xs ∧ ∀ x ∈ xs, Pn n x
theorem Pn.up {n : Nat} {d : D} (h : Pn n d) : Pn (n + 1) d := .inl h
theorem Pn.le {n m : Nat} {d : D} (h : Pn n d) (hm : n ≤ m) : Pn m d := by
  induction m with
  | zero => have e : n = 0 := by omega
            subst e; exact h
  | succ m ih =>
    by_cases e : n = m + 1
    · subst e; exact h
    · exact (ih (by omega)).up
theorem Pn.int (n : Nat) (i : Int) : Pn n (.int i) := Pn.le (n := 0) (.inl ⟨i, rfl⟩) (Nat.zero_le _)
theorem Pn.str (n : Nat) {s : Str} (h : PyData.strOk s = true) : Pn n (.str s) := Pn.le (n := 0) (.inr ⟨s, rfl, h⟩) (Nat.zero_le _)
theorem Pn.tup {n : Nat} {xs : List D} (h : ∀ x ∈ xs, Pn n x) : Pn (n + 1) (.tup xs) := .inr ⟨xs, rfl, h⟩
theorem pls_all : ∀ {xs : List D}, (∀ x ∈ xs, x.pl = true) → D.pls xs = true
  | [], _ => by rw [D.pls]
  | x :: xs, h => by rw [D.pls, h x (by simp), pls_all fun y hy => h y (by simp [hy])]; rfl
theorem lay_all : ∀ {xs : List D}, (∀ x ∈ xs, x.py.canLay0 = true) → PyData.canLayAll0 (D.pys xs) = true
  | [], _ => by rw [D.pys, PyData.canLayAll0]
  | x :: xs, h => by rw [D.pys, PyData.canLayAll0, h x (by simp), lay_all fun y hy => h y (by simp [hy])]; rfl
theorem dep_all {n : Nat} : ∀ {xs : List D}, (∀ x ∈ xs, x.py.depth ≤ n) → PyData.depthAll (D.pys xs) ≤ n
  | [], _ => by rw [D.pys, PyData.depthAll]; omega
  | x :: xs, h => by
    rw [D.pys, PyData.depthAll]
    have h1 := h x (by simp)
    have h2 := dep_all (xs := xs) fun y hy => h y (by simp [hy])
    omega
theorem Pn.facts : ∀ {n : Nat} {d : D}, Pn n d → d.pl = true ∧ d.py.canLay0 = true ∧ d.py.depth ≤ n + 1
  | 0, _, .inl ⟨i, e⟩ => by subst e; simp [D.pl, D.py, PyData.canLay0, PyData.depth]
  | 0, _, .inr ⟨s, e, h⟩ => by subst e; simp [D.pl, D.py, PyData.canLay0, PyData.depth, h]
  | n + 1, d, .inl h => by obtain ⟨a, b, c⟩ := Pn.facts h; exact ⟨a, b, by omega⟩
  | n + 1, _, .inr ⟨xs, e, h⟩ => by
    subst e
    refine ⟨?_, ?_, ?_⟩
    · rw [D.pl]; exact pls_all fun x hx => (Pn.facts (h x hx)).1
    · rw [D.py, PyData.canLay0]; exact lay_all fun x hx => (Pn.facts (h x hx)).2.1
    · rw [D.py, PyData.depth]
      have := dep_all fun x hx => (Pn.facts (h x hx)).2.2
      omega
theorem eqv_all {xs ys : List D} (h : ∀ x ∈ xs, ∀ y ∈ ys, (PyData.eqv x.py y.py = true ↔ x = y)) : PyData.eqvAll (D.pys xs) (D.pys ys) = true ↔ xs = ys := by
  induction xs generalizing ys with
  | nil => cases ys with
    | nil => simp [D.pys, PyData.eqvAll]
    | cons y ys => simp [D.pys, PyData.eqvAll]
  | cons x xs ih => cases ys with
    | nil => simp [D.pys, PyData.eqvAll]
    | cons y ys =>
      rw [D.pys, D.pys, PyData.eqvAll, Bool.and_eq_true, h x (by simp) y (by simp), ih fun a ha b hb => h a (by simp [ha]) b (by simp [hb]), List.cons.injEq]
theorem Pn.cases {n : Nat} {d : D} (h : Pn n d) : (∃ i, d = .int i) ∨ (∃ s, d = .str s ∧ PyData.strOk s = true) ∨ ∃ m xs, m < n ∧ d = .tup xs ∧ ∀ x ∈ xs, Pn m x := by
  induction n with
  | zero => rcases h with h | h
            · exact .inl h
            · exact .inr (.inl h)
  | succ n ih =>
    rcases h with h | ⟨xs, e, h⟩
    · rcases ih h with h | h | ⟨m, xs, hm, e, h⟩
      · exact .inl h
      · exact .inr (.inl h)
      · exact .inr (.inr ⟨m, xs, by omega, e, h⟩)
    · exact .inr (.inr ⟨n, xs, by omega, e, h⟩)
theorem Pn.eqv {n : Nat} : ∀ {m : Nat} {d e : D}, Pn n d → Pn m e → (PyData.eqv d.py e.py = true ↔ d = e) := by
  induction n using Nat.strongRecOn with
  | ind n ih =>
    intro m d e hd he
    rcases hd.cases with ⟨i, rfl⟩ | ⟨s, rfl, _⟩ | ⟨n', xs, hn, rfl, hx⟩ <;> rcases he.cases with ⟨j, rfl⟩ | ⟨t, rfl, _⟩ | ⟨m', ys, hm, rfl, hy⟩ <;> simp only [D.py, PyData.eqv, D.int.injEq, D.str.injEq, D.tup.injEq, beq_iff_eq, reduceCtorEq, Bool.false_eq_true]
    exact eqv_all fun x h1 y h2 => ih n' hn (hx x h1) (hy y h2)
theorem eqOk_pn {n m : Nat} {d e : D} (hd : Pn n d) (he : Pn m e) (hn : n ≤ 60) (hm : m ≤ 60) : eqOk d e = true := by
  obtain ⟨a, b, c⟩ := hd.facts
  obtain ⟨a', b', c'⟩ := he.facts
  unfold eqOk SeqAt.shaped
  rw [a, a', b, b', decide_eq_true (by omega), decide_eq_true (by omega)]; rfl
open Classical in
theorem eqv_pn {n m : Nat} {d e : D} (hd : Pn n d) (he : Pn m e) : PyData.eqv d.py e.py = decide (d = e) :=
  Bool.eq_iff_iff.mpr ((Pn.eqv hd he).trans decide_eq_true_iff.symm)
open Classical in
theorem eq_pn {n m : Nat} {d e : D} (hd : Pn n d) (he : Pn m e) (hn : n ≤ 60) (hm : m ≤ 60) : oEq d e = some (.sh (.bl (decide (d = e)))) := by
  unfold oEq
  rw [if_pos (eqOk_pn hd he hn hm), eqv_pn hd he]
open Classical in
theorem ne_pn {n m : Nat} {d e : D} (hd : Pn n d) (he : Pn m e) (hn : n ≤ 60) (hm : m ≤ 60) : oNe d e = some (.sh (.bl (!decide (d = e)))) := by
  unfold oNe
  rw [if_pos (eqOk_pn hd he hn hm), eqv_pn hd he]
theorem any_mem {d : D} {n m : Nat} (hd : Pn n d) : ∀ {ys : List D}, (∀ y ∈ ys, Pn m y) → ((ys.any fun z => PyData.eqv z.py d.py) = true ↔ d ∈ ys) := by
  intro ys h
  rw [List.any_eq_true]
  constructor
  · rintro ⟨z, hz, e⟩
    rw [(Pn.eqv (h z hz) hd).mp e] at hz
    exact hz
  · intro hz
    exact ⟨d, hz, (Pn.eqv (h d hz) hd).mpr rfl⟩
theorem eqOk_lst {n m : Nat} {d : D} {ys : List D} (hd : Pn n d) (h : ∀ y ∈ ys, Pn m y) (hn : n ≤ 60) (hm : m ≤ 60) : eqOk d (.lst ys) = true := by
  obtain ⟨a, b, c⟩ := hd.facts
  have a' : (D.lst ys).pl = true := by rw [D.pl]; exact pls_all fun x hx => (h x hx).facts.1
  have b' : (D.lst ys).py.canLay0 = true := by rw [D.py, PyData.canLay0]; exact lay_all fun x hx => (h x hx).facts.2.1
  have c' : (D.lst ys).py.depth ≤ m + 2 := by
    rw [D.py, PyData.depth]
    have := dep_all fun x hx => (h x hx).facts.2.2
    omega
  unfold eqOk SeqAt.shaped
  rw [a, a', b, b', decide_eq_true (by omega), decide_eq_true (by omega)]; rfl
theorem eqOk_lsts {n m : Nat} {xs ys : List D} (hd : ∀ x ∈ xs, Pn n x) (h : ∀ y ∈ ys, Pn m y) (hn : n ≤ 60) (hm : m ≤ 60) : eqOk (.lst xs) (.lst ys) = true := by
  have a : ∀ {n : Nat} {ys : List D}, n ≤ 60 → (∀ y ∈ ys, Pn n y) → (D.lst ys).pl = true ∧ SeqAt.shaped (D.lst ys).py = true := by
    intro n ys hn h
    have a' : (D.lst ys).pl = true := by rw [D.pl]; exact pls_all fun x hx => (h x hx).facts.1
    have b' : (D.lst ys).py.canLay0 = true := by rw [D.py, PyData.canLay0]; exact lay_all fun x hx => (h x hx).facts.2.1
    have c' : (D.lst ys).py.depth ≤ n + 2 := by
      rw [D.py, PyData.depth]
      have := dep_all fun x hx => (h x hx).facts.2.2
      omega
    refine ⟨a', ?_⟩
    unfold SeqAt.shaped
    rw [b', decide_eq_true (by omega)]; rfl
  unfold eqOk
  rw [(a hn hd).1, (a hn hd).2, (a hm h).1, (a hm h).2]; rfl
open Classical in
theorem in_lst {n m : Nat} {d : D} {ys : List D} (hd : Pn n d) (h : ∀ y ∈ ys, Pn m y) (hn : n ≤ 60) (hm : m ≤ 60) : inD d (.lst ys) = some (decide (d ∈ ys)) := by
  show (if eqOk d (.lst ys) = true then some (ys.any fun z => PyData.eqv z.py d.py) else none) = _
  rw [if_pos (eqOk_lst hd h hn hm), Bool.eq_iff_iff.mpr ((any_mem hd h).trans decide_eq_true_iff.symm)]
theorem Pn.flat {d : D} (h : Pn 0 d) : flatD d = true := by
  rcases h with ⟨i, rfl⟩ | ⟨s, rfl, _⟩ <;> rfl
open Classical in
theorem in_tup {d : D} {ys : List D} (hd : Pn 0 d) (h : ∀ y ∈ ys, Pn 0 y) : inD d (.tup ys) = some (decide (d ∈ ys)) := by
  show (if flatD d = true ∧ ys.all flatD = true then some (ys.any fun z => PyData.eqv z.py d.py) else none) = _
  rw [if_pos ⟨hd.flat, List.all_eq_true.mpr fun y hy => (h y hy).flat⟩, Bool.eq_iff_iff.mpr ((any_mem hd h).trans decide_eq_true_iff.symm)]
open Classical in
/-- xs == [] -/
theorem eq_nil {n : Nat} {xs : List D} (h : ∀ x ∈ xs, Pn n x) (hn : n ≤ 60) : oEq (.lst xs) (.lst []) = some (.sh (.bl (decide (xs = [])))) := by
  unfold oEq
  rw [if_pos (eqOk_lsts h (ys := []) (m := 0) (fun _ z => absurd z (by simp)) hn (by omega))]
  cases xs <;> simp [D.py, D.pys, PyData.eqv, PyData.eqvAll]
open Classical in
theorem ne_nil {n : Nat} {xs : List D} (h : ∀ x ∈ xs, Pn n x) (hn : n ≤ 60) : oNe (.lst xs) (.lst []) = some (.sh (.bl (!decide (xs = [])))) := by
  unfold oNe
  rw [if_pos (eqOk_lsts h (ys := []) (m := 0) (fun _ z => absurd z (by simp)) hn (by omega))]
  cases xs <;> simp [D.py, D.pys, PyData.eqv, PyData.eqvAll]
/-- a name -/
def Nm (d : D) : Prop := ∃ s : Str, d = .str s ∧ PyData.strOk s = true ∧ s.length ≤ 100
theorem Nm.pn {d : D} (h : Nm d) (n : Nat := 0) : Pn n d := by
  obtain ⟨s, rfl, h, _⟩ := h
  exact Pn.str n h
theorem sort_ok {xs : List D} (h : ∀ x ∈ xs, Nm x) : sortOk xs = true := by
  unfold sortOk
  have h1 : xs.all D.pl = true := List.all_eq_true.mpr fun x hx => (h x hx).pn.facts.1
  have h2 : (xs.all fun d => xs.all fun e => PySem.W.alike d.py e.py) = true := List.all_eq_true.mpr fun x hx => List.all_eq_true.mpr fun y hy => by
    obtain ⟨s, rfl, _⟩ := h x hx
    obtain ⟨t, rfl, _⟩ := h y hy
    simp [D.py, PySem.W.alike]
  have h3 : xs.all isFltD = true := List.all_eq_true.mpr fun x hx => by
    obtain ⟨s, rfl, _⟩ := h x hx
    rfl
  have h4 : (xs.all fun d => decide (d.py.depth ≤ 60)) = true := List.all_eq_true.mpr fun x hx => decide_eq_true (by have := (h x hx).pn.facts.2.2; omega)
  rw [h1, h2, h3, h4]
  simp
theorem sort_okI {xs : List D} (h : ∀ x ∈ xs, ∃ i, x = .int i) : sortOk xs = true := by
  unfold sortOk
  have h1 : xs.all D.pl = true := List.all_eq_true.mpr fun x hx => by obtain ⟨i, rfl⟩ := h x hx; rw [D.pl]
  have h2 : (xs.all fun d => xs.all fun e => PySem.W.alike d.py e.py) = true := List.all_eq_true.mpr fun x hx => List.all_eq_true.mpr fun y hy => by
    obtain ⟨s, rfl⟩ := h x hx
    obtain ⟨t, rfl⟩ := h y hy
    simp [D.py, PySem.W.alike]
  have h3 : xs.all isFltD = true := List.all_eq_true.mpr fun x hx => by
    obtain ⟨s, rfl⟩ := h x hx
    rfl
  have h4 : (xs.all fun d => decide (d.py.depth ≤ 60)) = true := List.all_eq_true.mpr fun x hx => decide_eq_true (by obtain ⟨s, rfl⟩ := h x hx; rw [D.py, PyData.depth]; omega)
  rw [h1, h2, h3, h4]
  simp
theorem sort_perm (xs : List D) : (sortD xs).Perm xs := List.mergeSort_perm _ _
theorem sort_mem {xs : List D} {x : D} : x ∈ sortD xs ↔ x ∈ xs := (sort_perm xs).mem_iff
theorem sorted_lst {xs : List D} (h : ∀ x ∈ xs, Nm x) : oSorted (.lst xs) = some (.fr (.lst (sortD xs))) := by
  show (if sortOk xs = true then _ else _) = _
  rw [if_pos (sort_ok h)]
theorem sorted_tup {xs : List D} (h : ∀ x ∈ xs, Nm x) : oSorted (.tup xs) = some (.fr (.lst (sortD xs))) := by
  show (if sortOk xs = true then _ else _) = _
  rw [if_pos (sort_ok h)]
end K91
end L2.My

end
section
set_option Elab.async false
set_option linter.all false
set_option autoImplicit false
set_option maxRecDepth 100000
set_option maxHeartbeats 400000
/-! Mk4: texts, the names. -/
namespace L2.My
open PySem PySem.Spec PyProof.Rows
namespace K91
theorem sok_app {x y : Str} (hx : PyData.strOk x = true) (hy : PyData.strOk y = true) : PyData.strOk (x ++ y) = true := by
  unfold PyData.strOk at *
  show (x.cps ++ y.cps).all _ = true
  rw [Array.all_append, hx, hy]; rfl
theorem sok_join {a : Str} (ha : PyData.strOk a = true) : ∀ {ys : List Str}, (∀ y ∈ ys, PyData.strOk y = true) → PyData.strOk (Str.join a ys) = true
  | [], _ => by unfold Str.join; decide +kernel
  | [y], h => by unfold Str.join; exact h y (by simp)
  | y :: z :: ys, h => by
    unfold Str.join
    exact sok_app (sok_app (h y (by simp)) ha) (sok_join ha fun w hw => h w (by simp at hw ⊢; exact .inr hw))
theorem len_app (x y : Str) : (x ++ y).length = x.length + y.length := by
  show (x.cps ++ y.cps).size = _
  rw [Array.size_append]; rfl
theorem len_join (a : Str) : ∀ (ys : List Str), (Str.join a ys).length ≤ (ys.map (·.length)).sum + ys.length * a.length
  | [] => by unfold Str.join; exact Nat.zero_le _
  | [y] => by unfold Str.join; simp
  | y :: z :: ys => by
    unfold Str.join
    have h := len_join a (z :: ys)
    rw [len_app, len_app]
    simp only [List.map_cons, List.sum_cons, List.length_cons] at h ⊢
    rw [Nat.succ_mul, Nat.succ_mul] at *
    omega
theorem sub_len {α : Type} : ∀ {xs ys : List α}, xs.Nodup → (∀ x ∈ xs, x ∈ ys) → xs.length ≤ ys.length
  | [], _, _, _ => Nat.zero_le _
  | x :: xs, ys, hn, h => by
    obtain ⟨s, t, e⟩ := List.append_of_mem (h x (by simp))
    rw [List.nodup_cons] at hn
    have := sub_len (xs := xs) (ys := s ++ t) hn.2 fun z hz => by
      have h1 := h z (by simp [hz])
      rw [e] at h1
      simp only [List.mem_append, List.mem_cons] at h1 ⊢
      rcases h1 with h1 | h1 | h1
      · exact .inl h1
      · subst h1; exact absurd hz hn.1
      · exact .inr h1
    rw [e]
    simp only [List.length_append, List.length_cons] at this ⊢
    omega
/-- the text of a small number -/
def tx (j : Nat) : Str := toString (j : Int)
theorem tx_ok : ∀ j : Fin 320, PyData.strOk (tx j) = true ∧ (tx j).length ≤ 3 := by decide +kernel
theorem tx_inj : ∀ j k : Fin 20, ("n" : Str) ++ tx j = ("n" : Str) ++ tx k → j = k := by decide +kernel
theorem join_v {a : Str} {ys : List Str} (h : (ys.map (·.length)).sum + ys.length * a.length ≤ 16777216) : oJoin a (.lst (ys.map .str)) = some (.sh (.str (Str.join a ys))) := by
  have e : ∀ ys : List Str, strsOf (ys.map D.str) = some ys := by
    intro ys
    induction ys with
    | nil => rfl
    | cons y ys ih => show (strsOf (ys.map D.str)).bind _ = _; rw [ih]; rfl
  show (strsOf (ys.map D.str)).bind _ = _
  rw [e]
  show (if _ then _ else none) = _
  rw [if_pos h, TL.join_eq]
def sgn : Str := "abcdefghijklmnopqrstuvwxyz0123456789."
theorem sgn_len : sgn.length = 37 := by decide +kernel
theorem sgn_ok : ∀ c ∈ sgn.cps.toList, PyData.strOk ⟨#[c]⟩ = true := by
  have h : (sgn.cps.toList.all fun c => PyData.strOk ⟨#[c]⟩) = true := by decide +kernel
  exact List.all_eq_true.mp h
def ones : List D → Prop := fun acc => ∃ ys : List Str, acc = ys.map .str ∧ ∀ y ∈ ys, PyData.strOk y = true ∧ y.length = 1
theorem ones_sum : ∀ {ys : List Str}, (∀ y ∈ ys, PyData.strOk y = true ∧ y.length = 1) → (ys.map (·.length)).sum = ys.length
  | [], _ => rfl
  | y :: ys, h => by
    simp only [List.map_cons, List.sum_cons, List.length_cons]
    rw [(h y (by simp)).2, ones_sum fun z hz => h z (by simp [hz])]
    omega
end K91
end L2.My

end
section
set_option Elab.async false
set_option linter.all false
set_option autoImplicit false
set_option maxRecDepth 100000
set_option maxHeartbeats 4000000
/-! Mk5: the names. -/
namespace L2.My
open PySem PySem.Spec PyProof.Rows
local macro_rules | `(tactic| and_intros) => `(tactic| simp only [↓ok_some, ↓ok_bind, ↓ok_ite, it_true, it_false, ↓k_mV, ↓k_mE, ↓k_mF, ↓k_mVar, ↓k_mC, ↓k_mNm, ↓k_m1, ↓k_m2, ↓k_mT, ↓k_mAndT, ↓k_mOrT, ↓k_mNotT, ↓k_mIf, ↓k_mAndV, ↓k_mOrV, ↓k_mNotV, ↓k_mIsi, ↓k_mNil, ↓k_mCons, ↓k_mTup, ↓k_mLst, ↓k_mANil, ↓k_mACons, ↓k_mVE, ↓k_mCall, ↓k_args0, ↓k_args1, ↓k_sSeq, ↓k_then1, ↓k_then2, ↓k_then3, ↓k_then4, ↓k_sNil, ↓k_sSet, ↓k_sExpr, ↓k_sRet, ↓k_sIf, ↓k_sBreak, ↓k_sCont, ↓k_gNm, ↓k_gsNil, ↓k_gsCons, ↓k_gTp, ↓k_sAsg, ↓k_sPar, ↓k_mSo, ↓k_mNo, ↓k_mSl, ↓k_mApp, ↓k_mExt, ↓k_mPop, ↓k_sSetI, ↓k_mIndex, ↓k_mGet, ↓k_mLR1, ↓k_mRng1, ↓k_mItems, ↓k_mEnum, ↓k_mEnumZ, ↓k_sFor, ↓k_fLc, ↓k_mYes, ↓k_mMake, ↓k_sFldI, ↓k_mAnyIn, ↓k_mJoined, ↓k_jNil, ↓k_jCons, ↓k_mDict, ↓k_pNil, ↓k_pCons, ↓k_mChain, ↓k_chain1, ↓k_chain2, ↓k_fnM, ↓k_end1, ↓k_end2, ↓k_outs0, ↓k_outs1, ↓k_outs2, q_mVarS1, q_mVarS2, q_look1, q_look2, q_lookS1, q_lookS2, q_d1, q_d2, q_od1, q_od2, q_od3, q_boolR, q_arg1, q_arg2, q_argS, q_slots0, q_slots1, q_slots2, q_put0, q_put1, q_put2, q_putS, q_slotOf1, q_slotOf2, q_intOf, q_lstS, q_items1, q_items2, q_tupD, q_insS, q_strD, q_outS, p_ix1, p_ix2, p_ix3, p_atI, p_ixN, p_add, p_addS, p_addT, p_addL, p_sub, p_mul, p_div, p_mod, p_pow, p_neg, p_lt, p_le, p_gt, p_ge, p_len1, p_len2, p_len3, p_int, p_abs, p_str, p_max, p_list1, p_list2, p_tuple1, p_tuple2, p_isN, p_notN, p_non1, p_non2, p_non3, p_non4, p_non5, p_isi, p_ty1, p_ty2, p_ty3, p_ty4, p_ty5, p_ty6, p_isi_NoneType_bool, p_isi_NoneType_int, p_isi_NoneType_str, p_isi_NoneType_tuple, p_isi_bool_bool, p_isi_bool_int, p_isi_bool_str, p_isi_bool_tuple, p_isi_int_bool, p_isi_int_int, p_isi_int_str, p_isi_int_tuple, p_isi_str_bool, p_isi_str_int, p_isi_str_str, p_isi_str_tuple, p_isi_tuple_bool, p_isi_tuple_int, p_isi_tuple_str, p_isi_tuple_tuple, p_isi_list_bool, p_isi_list_int, p_isi_list_str, p_isi_list_tuple, p_in, p_notIn, p_eqI, p_neI, p_eqB, p_neB, p_fmt1, p_fmt2, p_fld, p_sl1, p_sl2, p_sl3, q_makeR, q_clean0, q_clean1, q_cleanS1, q_cleanS2, q_wipe0, q_wipe1, q_back0, q_back1, q_join1, q_and1, q_outP1, q_outP2, q_outP3, q_outP4, List.map_cons, List.map_nil, List.cons_append, List.nil_append, List.append_nil, List.length_cons, List.length_nil, List.getElem?_cons_zero, List.getElem?_cons_succ, List.getElem?_nil, List.set_cons_zero, List.set_cons_succ, Nat.reduceAdd, Nat.reduceSub, List.replicate_succ, List.replicate_zero, Nat.zero_add, reduceIte, Nat.reduceLeDiff, Nat.reduceLT, List.nodup_cons, List.nodup_nil, List.not_mem_nil, not_false_eq_true, and_true, and_self, List.mem_cons, or_false, Nat.reduceEqDiff, Bool.not_true, Bool.not_false, Bool.false_eq_true, true_and, and_false, false_and, reduceCtorEq, if_true, if_false, Int.reduceLE, Int.reduceLT, Int.reduceToNat, Int.reduceNeg, Int.reduceAdd, Int.reduceSub, Int.reduceMul, Int.reduceEq, Nat.reduceMul, decide_eq_true_eq, List.length_set, decide_true, decide_false, Int.toNat_natCast, Bool.not_eq_true, ne_eq])
local macro_rules | `(tactic| subst_eqs) => `(tactic| simp only [↓ok_some, ↓ok_bind, ↓ok_ite, it_true, it_false, ↓k_mV, ↓k_mE, ↓k_mF, ↓k_mVar, ↓k_mC, ↓k_mNm, ↓k_m1, ↓k_m2, ↓k_mT, ↓k_mAndT, ↓k_mOrT, ↓k_mNotT, ↓k_mIf, ↓k_mAndV, ↓k_mOrV, ↓k_mNotV, ↓k_mIsi, ↓k_mNil, ↓k_mCons, ↓k_mTup, ↓k_mLst, ↓k_mANil, ↓k_mACons, ↓k_mVE, ↓k_mCall, ↓k_args0, ↓k_args1, ↓k_sSeq, ↓k_then1, ↓k_then2, ↓k_then3, ↓k_then4, ↓k_sNil, ↓k_sSet, ↓k_sExpr, ↓k_sRet, ↓k_sIf, ↓k_sBreak, ↓k_sCont, ↓k_gNm, ↓k_gsNil, ↓k_gsCons, ↓k_gTp, ↓k_sAsg, ↓k_sPar, ↓k_mSo, ↓k_mNo, ↓k_mSl, ↓k_mApp, ↓k_mExt, ↓k_mPop, ↓k_sSetI, ↓k_mIndex, ↓k_mGet, ↓k_mLR1, ↓k_mRng1, ↓k_mItems, ↓k_mEnum, ↓k_mEnumZ, ↓k_sFor, ↓k_fLc, ↓k_mYes, ↓k_mMake, ↓k_sFldI, ↓k_mAnyIn, ↓k_mJoined, ↓k_jNil, ↓k_jCons, ↓k_mDict, ↓k_pNil, ↓k_pCons, ↓k_mChain, ↓k_chain1, ↓k_chain2, ↓k_fnM, ↓k_end1, ↓k_end2, ↓k_outs0, ↓k_outs1, ↓k_outs2, q_mVarS1, q_mVarS2, q_look1, q_look2, q_lookS1, q_lookS2, q_d1, q_d2, q_od1, q_od2, q_od3, q_boolR, q_arg1, q_arg2, q_argS, q_slots0, q_slots1, q_slots2, q_put0, q_put1, q_put2, q_putS, q_slotOf1, q_slotOf2, q_intOf, q_lstS, q_items1, q_items2, q_tupD, q_insS, q_strD, q_outS, p_ix1, p_ix2, p_ix3, p_atI, p_ixN, p_add, p_addS, p_addT, p_addL, p_sub, p_mul, p_div, p_mod, p_pow, p_neg, p_lt, p_le, p_gt, p_ge, p_len1, p_len2, p_len3, p_int, p_abs, p_str, p_max, p_list1, p_list2, p_tuple1, p_tuple2, p_isN, p_notN, p_non1, p_non2, p_non3, p_non4, p_non5, p_isi, p_ty1, p_ty2, p_ty3, p_ty4, p_ty5, p_ty6, p_isi_NoneType_bool, p_isi_NoneType_int, p_isi_NoneType_str, p_isi_NoneType_tuple, p_isi_bool_bool, p_isi_bool_int, p_isi_bool_str, p_isi_bool_tuple, p_isi_int_bool, p_isi_int_int, p_isi_int_str, p_isi_int_tuple, p_isi_str_bool, p_isi_str_int, p_isi_str_str, p_isi_str_tuple, p_isi_tuple_bool, p_isi_tuple_int, p_isi_tuple_str, p_isi_tuple_tuple, p_isi_list_bool, p_isi_list_int, p_isi_list_str, p_isi_list_tuple, p_in, p_notIn, p_eqI, p_neI, p_eqB, p_neB, p_fmt1, p_fmt2, p_fld, p_sl1, p_sl2, p_sl3, q_makeR, q_clean0, q_clean1, q_cleanS1, q_cleanS2, q_wipe0, q_wipe1, q_back0, q_back1, q_join1, q_and1, q_outP1, q_outP2, q_outP3, q_outP4, List.map_cons, List.map_nil, List.cons_append, List.nil_append, List.append_nil, List.length_cons, List.length_nil, List.getElem?_cons_zero, List.getElem?_cons_succ, List.getElem?_nil, List.set_cons_zero, List.set_cons_succ, Nat.reduceAdd, Nat.reduceSub, List.replicate_succ, List.replicate_zero, Nat.zero_add, reduceIte, Nat.reduceLeDiff, Nat.reduceLT, List.nodup_cons, List.nodup_nil, List.not_mem_nil, not_false_eq_true, and_true, and_self, List.mem_cons, or_false, Nat.reduceEqDiff, Bool.not_true, Bool.not_false, Bool.false_eq_true, true_and, and_false, false_and, reduceCtorEq, if_true, if_false, Int.reduceLE, Int.reduceLT, Int.reduceToNat, Int.reduceNeg, Int.reduceAdd, Int.reduceSub, Int.reduceMul, Int.reduceEq, Nat.reduceMul, decide_eq_true_eq, List.length_set, decide_true, decide_false, Int.toNat_natCast, Bool.not_eq_true, ne_eq, List.length_map, List.length_append])
namespace K91
theorem emp_len : (Str.ofString "").length = 0 := by decide +kernel
theorem emp_ok : PyData.strOk (Str.ofString "") = true := by decide +kernel
theorem n_len : (Str.ofString "n").length = 1 := by decide +kernel
theorem n_ok : PyData.strOk (Str.ofString "n") = true := by decide +kernel
theorem nN_nodup {k : Nat} (h : k ≤ 20) : ((List.range k).map fun m => D.str (Str.ofString "n" ++ tx m)).Nodup := by
  rw [List.nodup_iff_pairwise_ne, List.pairwise_map]
  refine List.Pairwise.imp_of_mem (fun {a b} ha hb hab => ?_) List.nodup_range
  rw [List.mem_range] at ha hb
  intro e
  rw [D.str.injEq] at e
  have := tx_inj ⟨a, by omega⟩ ⟨b, by omega⟩ e
  rw [Fin.mk.injEq] at this
  exact hab this
theorem len_tab {d : D} (h : d ∈ [D.int 1, .int 2, .int 2, .int 3, .int 4, .int 10]) : ∃ t : Nat, d = .int t ∧ t ≤ 10 := by
  simp only [List.mem_cons, List.not_mem_nil, or_false] at h
  have e : ∃ t : Int, d = .int t ∧ 0 ≤ t ∧ t ≤ 10 := by
    rcases h with h | h | h | h | h | h <;> exact ⟨_, h, by decide, by decide⟩
  obtain ⟨t, e, h0, h1⟩ := e
  exact ⟨t.toNat, by rw [e, Int.toNat_of_nonneg h0], by omega⟩
theorem names_ok {n : Nat} {o : MO} {many : Nat} (h : Dk n o) (hn : n + 11 * many ≤ 1000000) (hm : many ≤ 18) {k : Ct (RV × List MO)}
    (q : ∀ (o' : MO) (ys : List D), Dk (n + 11 * many) o' → ys.length = many → ys.Nodup → (∀ y ∈ ys, Nm y) → k.run (.sh (.lst ys), [o'])) : @Ok _ (fm_law_names [.mu true o, .sh (.int many)]) k := by
  unfold fm_law_names mx_law_names
  and_intros
  rw [show (Str.ofString "abcdefghijklmnopqrstuvwxyz0123456789." : Str) = sgn from rfl]
  refine it_pos ⟨by omega, by omega⟩ ?_
  and_intros
  refine sForL_inv (fun i ρ => ∃ o made x4 x5 x6, Dk (n + 11 * i) o ∧ made.length = i ∧ made.Nodup ∧ (∀ y ∈ made, Nm y) ∧ cleanS (some x6) = true ∧ ρ = [some (.mu true o), some (.sh (.int many)), some (.sh (.str sgn)), some (.mu false (.lst made)), x4, x5, x6]) (fun _ => False) (fun _ _ => False) ⟨o, [], none, none, none, h, rfl, .nil, by simp, rfl, rfl⟩ (fun i d ρ hd ⟨o1, made, x4, x5, x6, h1, h2, h3, h4, h6, e⟩ => ?_) (fun ρ' ⟨o1, made, x4, x5, x6, h1, h2, h3, h4, h6, e⟩ => ?_) (fun _ z => z.elim) (fun _ _ z => z.elim)
  · obtain ⟨hi, rfl⟩ := rng_at hd
    subst e
    and_intros
    refine pickL_ok h1 (by omega) (by simp) (by simp) fun o2 d h5 hd2 => ?_
    obtain ⟨t, rfl, ht⟩ := len_tab hd2
    and_intros
    refine it_pos ⟨by omega, by omega⟩ ?_
    and_intros
    refine it_pos (by rw [h6]; rfl) ?_
    and_intros
    refine lcL_inv (fun j acc ρ => ∃ o ys, Dk (n + 11 * i + 1 + j) o ∧ ys.length = j ∧ acc = ys.map D.str ∧ (∀ y ∈ ys, PyData.strOk y = true ∧ y.length = 1) ∧ ρ = [some (.mu true o), some (.sh (.int many)), some (.sh (.str sgn)), some (.mu false (.lst made)), some (.sh (.int i)), x5, none]) (by rw [rng_len, sizeLine_v]; omega) ⟨o2, [], h5, rfl, rfl, by simp, rfl⟩ (fun j d acc ρ hd ha ⟨o3, ys, g1, g2, g3, g4, e⟩ => ?_) fun out ρ' hl ⟨o3, ys, g1, g2, g3, g4, e⟩ => ?_
    · obtain ⟨hj, rfl⟩ := rng_at hd
      subst e
      and_intros
      refine draw_ok g1 (by omega) (by omega) (by omega) fun o4 r g5 r0 r1 => ?_
      and_intros
      refine it_pos (by rw [sgn_len, sizeLine_v]; omega) ?_
      and_intros
      have hlt : r.toNat < sgn.cps.toList.length := by
        have e : sgn.cps.toList.length = 37 := sgn_len
        omega
      refine it_pos r0 ?_
      and_intros
      refine it_pos hlt ?_
      and_intros
      refine .of (List.getElem?_eq_getElem hlt) ?_
      and_intros
      refine ⟨o4, ys ++ [⟨#[sgn.cps.toList[r.toNat]]⟩], by rw [← Nat.add_assoc]; exact g5, by simp [g2], by rw [g3, List.map_append]; rfl, ?_, rfl⟩
      intro y hy
      rcases List.mem_append.mp hy with hy | hy
      · exact g4 y hy
      · rw [List.mem_singleton.mp hy]
        exact ⟨sgn_ok _ (List.getElem_mem hlt), rfl⟩
    · subst e g3
      and_intros
      rw [rng_len] at g1 g2
      refine .of (join_v (by rw [ones_sum g4, emp_len]; omega)) ?_
      and_intros
      refine it_pos ⟨by omega, by omega⟩ ?_
      and_intros
      have eN : (↑many + 2 : Int).toNat = many + 2 := by omega
      rw [eN]
      have hw0 : Nm (.str ((Str.ofString "").join ys)) := ⟨_, rfl, sok_join emp_ok fun y hy => (g4 y hy).1, by have := len_join (Str.ofString "") ys; rw [ones_sum g4, emp_len] at this; omega⟩
      refine sForL_inv (fun j ρ => ∃ w x6, Nm (.str w) ∧ (0 < j → w = Str.ofString "n" ++ tx (j - 1)) ∧ (∀ m, m + 1 < j → D.str (Str.ofString "n" ++ tx m) ∈ made) ∧ cleanS (some x6) = true ∧ ρ = [some (.mu true o3), some (.sh (.int many)), some (.sh (.str sgn)), some (.mu false (.lst made)), some (.sh (.int i)), some (.sh (.str w)), x6])
        (fun ρ => ∃ w x6, Nm (.str w) ∧ D.str w ∉ made ∧ cleanS (some x6) = true ∧ ρ = [some (.mu true o3), some (.sh (.int many)), some (.sh (.str sgn)), some (.mu false (.lst made)), some (.sh (.int i)), some (.sh (.str w)), x6])
        (fun _ _ => False) ⟨_, x6, hw0, fun z => absurd z (by omega), fun m z => absurd z (by omega), h6, rfl⟩ (fun j d ρ hd ⟨w, x6, w1, w2, w3, w4, e⟩ => ?_) (fun ρ' ⟨w, x6, w1, w2, w3, w4, e⟩ => ?_) (fun ρ' ⟨w, x6, w1, w2, w3, e⟩ => ?_) (fun _ _ z => z.elim)
      · obtain ⟨hj, rfl⟩ := rng_at hd
        subst e
        and_intros
        refine .of (in_lst (n := 0) (m := 0) w1.pn (fun y hy => (h4 y hy).pn) (by omega) (by omega)) ?_
        and_intros
        refine it_of (fun b1 => ?_) (fun b1 => ?_)
        · and_intros
          exact ⟨w, _, w1, by simpa using b1, rfl, rfl⟩
        · and_intros
          have hwm : D.str w ∈ made := by simpa using b1
          have hlg := lg (i := j) (by omega)
          have htx := tx_ok ⟨j, by omega⟩
          refine it_pos (by rw [Int.natAbs_natCast]; omega) ?_
          and_intros
          rw [show (toString (j : Int) : Str) = tx j from rfl]
          refine it_pos (by rw [sizeLine_v, n_len]; have := htx.2; simp only at this; omega) ?_
          and_intros
          refine ⟨_, _, ⟨_, rfl, sok_app n_ok htx.1, by rw [len_app, n_len]; have := htx.2; simp only at this; omega⟩, fun _ => rfl, fun m hm => ?_, rfl, rfl⟩
          rcases Nat.lt_or_ge (m + 1) j with z | z
          · exact w3 m z
          · have e : m = j - 1 := by omega
            rw [e, ← w2 (by omega)]
            exact hwm
      · exfalso
        rw [rng_len] at w2 w3
        have hs := sub_len (xs := (List.range (many + 1)).map fun m => D.str (Str.ofString "n" ++ tx m)) (ys := made) (nN_nodup (by omega)) (fun x hx => by
          obtain ⟨m, hm, rfl⟩ := List.mem_map.mp hx
          exact w3 m (by have := List.mem_range.mp hm; omega))
        rw [List.length_map, List.length_range] at hs
        omega
      · subst e
        and_intros
        refine it_pos (by rw [sizeLine_v]; omega) ?_
        and_intros
        refine ⟨o3, made ++ [D.str w], _, _, _, g1.mono (by omega), by simp [h2], ?_, ?_, w3, rfl⟩
        · rw [List.nodup_append]
          refine ⟨h3, by simp, fun a ha b hb => ?_⟩
          rw [List.mem_singleton.mp hb]
          intro e
          rw [e] at ha
          exact w2 ha
        · intro y hy
          rcases List.mem_append.mp hy with hy | hy
          · exact h4 y hy
          · rw [List.mem_singleton.mp hy]; exact w1
  · subst e
    and_intros
    rw [rng_len] at h1 h2
    exact q _ _ h1 h2 h3 h4
end K91
end L2.My

end
section
set_option Elab.async false
set_option linter.all false
set_option autoImplicit false
set_option maxRecDepth 100000
set_option maxHeartbeats 4000000
/-! Mk6: things and their bands. -/
namespace L2.My
open PySem PySem.Spec PyProof.Rows
local macro_rules | `(tactic| and_intros) => `(tactic| simp only [↓ok_some, ↓ok_bind, ↓ok_ite, it_true, it_false, ↓k_mV, ↓k_mE, ↓k_mF, ↓k_mVar, ↓k_mC, ↓k_mNm, ↓k_m1, ↓k_m2, ↓k_mT, ↓k_mAndT, ↓k_mOrT, ↓k_mNotT, ↓k_mIf, ↓k_mAndV, ↓k_mOrV, ↓k_mNotV, ↓k_mIsi, ↓k_mNil, ↓k_mCons, ↓k_mTup, ↓k_mLst, ↓k_mANil, ↓k_mACons, ↓k_mVE, ↓k_mCall, ↓k_args0, ↓k_args1, ↓k_sSeq, ↓k_then1, ↓k_then2, ↓k_then3, ↓k_then4, ↓k_sNil, ↓k_sSet, ↓k_sExpr, ↓k_sRet, ↓k_sIf, ↓k_sBreak, ↓k_sCont, ↓k_gNm, ↓k_gsNil, ↓k_gsCons, ↓k_gTp, ↓k_sAsg, ↓k_sPar, ↓k_mSo, ↓k_mNo, ↓k_mSl, ↓k_mApp, ↓k_mExt, ↓k_mPop, ↓k_sSetI, ↓k_mIndex, ↓k_mGet, ↓k_mLR1, ↓k_mRng1, ↓k_mItems, ↓k_mEnum, ↓k_mEnumZ, ↓k_sFor, ↓k_fLc, ↓k_mYes, ↓k_mMake, ↓k_sFldI, ↓k_mAnyIn, ↓k_mJoined, ↓k_jNil, ↓k_jCons, ↓k_mDict, ↓k_pNil, ↓k_pCons, ↓k_mChain, ↓k_chain1, ↓k_chain2, ↓k_fnM, ↓k_end1, ↓k_end2, ↓k_outs0, ↓k_outs1, ↓k_outs2, q_mVarS1, q_mVarS2, q_look1, q_look2, q_lookS1, q_lookS2, q_d1, q_d2, q_od1, q_od2, q_od3, q_boolR, q_arg1, q_arg2, q_argS, q_slots0, q_slots1, q_slots2, q_put0, q_put1, q_put2, q_putS, q_slotOf1, q_slotOf2, q_intOf, q_lstS, q_items1, q_items2, q_tupD, q_insS, q_strD, q_outS, p_ix1, p_ix2, p_ix3, p_atI, p_ixN, p_add, p_addS, p_addT, p_addL, p_sub, p_mul, p_div, p_mod, p_pow, p_neg, p_lt, p_le, p_gt, p_ge, p_len1, p_len2, p_len3, p_int, p_abs, p_str, p_max, p_list1, p_list2, p_tuple1, p_tuple2, p_isN, p_notN, p_non1, p_non2, p_non3, p_non4, p_non5, p_isi, p_ty1, p_ty2, p_ty3, p_ty4, p_ty5, p_ty6, p_isi_NoneType_bool, p_isi_NoneType_int, p_isi_NoneType_str, p_isi_NoneType_tuple, p_isi_bool_bool, p_isi_bool_int, p_isi_bool_str, p_isi_bool_tuple, p_isi_int_bool, p_isi_int_int, p_isi_int_str, p_isi_int_tuple, p_isi_str_bool, p_isi_str_int, p_isi_str_str, p_isi_str_tuple, p_isi_tuple_bool, p_isi_tuple_int, p_isi_tuple_str, p_isi_tuple_tuple, p_isi_list_bool, p_isi_list_int, p_isi_list_str, p_isi_list_tuple, p_in, p_notIn, p_eqI, p_neI, p_eqB, p_neB, p_fmt1, p_fmt2, p_fld, p_sl1, p_sl2, p_sl3, q_makeR, q_clean0, q_clean1, q_cleanS1, q_cleanS2, q_wipe0, q_wipe1, q_back0, q_back1, q_join1, q_and1, q_outP1, q_outP2, q_outP3, q_outP4, List.map_cons, List.map_nil, List.cons_append, List.nil_append, List.append_nil, List.length_cons, List.length_nil, List.getElem?_cons_zero, List.getElem?_cons_succ, List.getElem?_nil, List.set_cons_zero, List.set_cons_succ, Nat.reduceAdd, Nat.reduceSub, List.replicate_succ, List.replicate_zero, Nat.zero_add, reduceIte, Nat.reduceLeDiff, Nat.reduceLT, List.nodup_cons, List.nodup_nil, List.not_mem_nil, not_false_eq_true, and_true, and_self, List.mem_cons, or_false, Nat.reduceEqDiff, Bool.not_true, Bool.not_false, Bool.false_eq_true, true_and, and_false, false_and, reduceCtorEq, if_true, if_false, Int.reduceLE, Int.reduceLT, Int.reduceToNat, Int.reduceNeg, Int.reduceAdd, Int.reduceSub, Int.reduceMul, Int.reduceEq, Nat.reduceMul, decide_eq_true_eq, List.length_set, decide_true, decide_false, Int.toNat_natCast, Bool.not_eq_true, ne_eq])
local macro_rules | `(tactic| subst_eqs) => `(tactic| simp only [↓ok_some, ↓ok_bind, ↓ok_ite, it_true, it_false, ↓k_mV, ↓k_mE, ↓k_mF, ↓k_mVar, ↓k_mC, ↓k_mNm, ↓k_m1, ↓k_m2, ↓k_mT, ↓k_mAndT, ↓k_mOrT, ↓k_mNotT, ↓k_mIf, ↓k_mAndV, ↓k_mOrV, ↓k_mNotV, ↓k_mIsi, ↓k_mNil, ↓k_mCons, ↓k_mTup, ↓k_mLst, ↓k_mANil, ↓k_mACons, ↓k_mVE, ↓k_mCall, ↓k_args0, ↓k_args1, ↓k_sSeq, ↓k_then1, ↓k_then2, ↓k_then3, ↓k_then4, ↓k_sNil, ↓k_sSet, ↓k_sExpr, ↓k_sRet, ↓k_sIf, ↓k_sBreak, ↓k_sCont, ↓k_gNm, ↓k_gsNil, ↓k_gsCons, ↓k_gTp, ↓k_sAsg, ↓k_sPar, ↓k_mSo, ↓k_mNo, ↓k_mSl, ↓k_mApp, ↓k_mExt, ↓k_mPop, ↓k_sSetI, ↓k_mIndex, ↓k_mGet, ↓k_mLR1, ↓k_mRng1, ↓k_mItems, ↓k_mEnum, ↓k_mEnumZ, ↓k_sFor, ↓k_fLc, ↓k_mYes, ↓k_mMake, ↓k_sFldI, ↓k_mAnyIn, ↓k_mJoined, ↓k_jNil, ↓k_jCons, ↓k_mDict, ↓k_pNil, ↓k_pCons, ↓k_mChain, ↓k_chain1, ↓k_chain2, ↓k_fnM, ↓k_end1, ↓k_end2, ↓k_outs0, ↓k_outs1, ↓k_outs2, q_mVarS1, q_mVarS2, q_look1, q_look2, q_lookS1, q_lookS2, q_d1, q_d2, q_od1, q_od2, q_od3, q_boolR, q_arg1, q_arg2, q_argS, q_slots0, q_slots1, q_slots2, q_put0, q_put1, q_put2, q_putS, q_slotOf1, q_slotOf2, q_intOf, q_lstS, q_items1, q_items2, q_tupD, q_insS, q_strD, q_outS, p_ix1, p_ix2, p_ix3, p_atI, p_ixN, p_add, p_addS, p_addT, p_addL, p_sub, p_mul, p_div, p_mod, p_pow, p_neg, p_lt, p_le, p_gt, p_ge, p_len1, p_len2, p_len3, p_int, p_abs, p_str, p_max, p_list1, p_list2, p_tuple1, p_tuple2, p_isN, p_notN, p_non1, p_non2, p_non3, p_non4, p_non5, p_isi, p_ty1, p_ty2, p_ty3, p_ty4, p_ty5, p_ty6, p_isi_NoneType_bool, p_isi_NoneType_int, p_isi_NoneType_str, p_isi_NoneType_tuple, p_isi_bool_bool, p_isi_bool_int, p_isi_bool_str, p_isi_bool_tuple, p_isi_int_bool, p_isi_int_int, p_isi_int_str, p_isi_int_tuple, p_isi_str_bool, p_isi_str_int, p_isi_str_str, p_isi_str_tuple, p_isi_tuple_bool, p_isi_tuple_int, p_isi_tuple_str, p_isi_tuple_tuple, p_isi_list_bool, p_isi_list_int, p_isi_list_str, p_isi_list_tuple, p_in, p_notIn, p_eqI, p_neI, p_eqB, p_neB, p_fmt1, p_fmt2, p_fld, p_sl1, p_sl2, p_sl3, q_makeR, q_clean0, q_clean1, q_cleanS1, q_cleanS2, q_wipe0, q_wipe1, q_back0, q_back1, q_join1, q_and1, q_outP1, q_outP2, q_outP3, q_outP4, List.map_cons, List.map_nil, List.cons_append, List.nil_append, List.append_nil, List.length_cons, List.length_nil, List.getElem?_cons_zero, List.getElem?_cons_succ, List.getElem?_nil, List.set_cons_zero, List.set_cons_succ, Nat.reduceAdd, Nat.reduceSub, List.replicate_succ, List.replicate_zero, Nat.zero_add, reduceIte, Nat.reduceLeDiff, Nat.reduceLT, List.nodup_cons, List.nodup_nil, List.not_mem_nil, not_false_eq_true, and_true, and_self, List.mem_cons, or_false, Nat.reduceEqDiff, Bool.not_true, Bool.not_false, Bool.false_eq_true, true_and, and_false, false_and, reduceCtorEq, if_true, if_false, Int.reduceLE, Int.reduceLT, Int.reduceToNat, Int.reduceNeg, Int.reduceAdd, Int.reduceSub, Int.reduceMul, Int.reduceEq, Nat.reduceMul, decide_eq_true_eq, List.length_set, decide_true, decide_false, Int.toNat_natCast, Bool.not_eq_true, ne_eq, List.length_map, List.length_append])
namespace K91
inductive Th where
  | eld (A B : List D)
  | war (A : List D)
  | ser (rows : List (List (List D)))
  | yrs (A : List D) (lo hi : Option Int)
def optD : Option Int → D
  | none => .non
  | some i => .int i
def rowD (row : List (List D)) : D := .tup (row.map .tup)
def tg (s : String) : D := .str (Str.ofString s)
def Th.d : Th → D
  | .eld A B => .tup [tg "elder", .tup A, .tup B]
  | .war A => .tup [tg "ware", .tup A]
  | .ser rows => .tup [tg "series", .tup (rows.map rowD)]
  | .yrs A lo hi => .tup [tg "years", .tup A, optD lo, optD hi]
noncomputable def rowBands (row : List (List D)) : List (List D) := row ++ (List.range (row.length - 1)).map fun k => sortD (row.getD k [] ++ row.getD (k + 1) [])
noncomputable def Th.bands : Th → List (List D)
  | .eld _ _ => []
  | .war A => [A]
  | .ser rows => rows.flatMap rowBands
  | .yrs _ _ _ => []
/-- a lot of finds -/
def Lot (F : List D) (xs : List D) : Prop := 0 < xs.length ∧ xs.length ≤ 12 ∧ ∀ x ∈ xs, x ∈ F
structure Row (F : List D) (row : List (List D)) : Prop where
  l2 : 2 ≤ row.length
  l3 : row.length ≤ 3
  lot : ∀ l ∈ row, Lot F l
  nd : row.flatten.Nodup
def YOk (o : Option Int) : Prop := ∀ i, o = some i → -100000 ≤ i ∧ i ≤ 100000
def Th.ok (F : List D) : Th → Prop
  | .eld A B => Lot F A ∧ Lot F B
  | .war A => Lot F A
  | .ser rows => rows.length ≤ 3 ∧ ∀ r ∈ rows, Row F r
  | .yrs A lo hi => Lot F A ∧ YOk lo ∧ YOk hi
structure Finds (F : List D) : Prop where
  l6 : 6 ≤ F.length
  l18 : F.length ≤ 18
  nd : F.Nodup
  nm : ∀ x ∈ F, Nm x
variable {F : List D}
theorem row_at {row : List (List D)} {k : Nat} (h : k < row.length) : (row.map D.tup)[k]? = some (.tup (row.getD k [])) := by
  rw [List.getElem?_map, List.getD_eq_getElem?_getD, List.getElem?_eq_getElem h]
  rfl
theorem getD_mem {row : List (List D)} {k : Nat} (h : k < row.length) : row.getD k [] ∈ row := by
  rw [List.getD_eq_getElem?_getD, List.getElem?_eq_getElem h]
  exact List.getElem_mem h
theorem tgo {s : String} (h : PyData.strOk (Str.ofString s) = true) : PyData.strOk (Str.ofString s) = true := h
theorem ok_elder : PyData.strOk (Str.ofString "elder") = true := by decide +kernel
theorem ok_ware : PyData.strOk (Str.ofString "ware") = true := by decide +kernel
theorem ok_series : PyData.strOk (Str.ofString "series") = true := by decide +kernel
theorem ok_years : PyData.strOk (Str.ofString "years") = true := by decide +kernel
theorem ok_told : PyData.strOk (Str.ofString "told") = true := by decide +kernel
theorem ok_side : PyData.strOk (Str.ofString "side") = true := by decide +kernel
theorem ok_link : PyData.strOk (Str.ofString "link") = true := by decide +kernel
theorem ok_chain : PyData.strOk (Str.ofString "chain") = true := by decide +kernel
/-- all tags -/
def tags : List String := ["elder", "ware", "series", "years", "told", "side", "link", "chain"]
theorem tags_eq : (tags.all fun a => tags.all fun b => decide (decide (Str.ofString a = Str.ofString b) = decide (a = b))) = true := by decide +kernel
theorem tags_ok : (tags.all fun a => PyData.strOk (Str.ofString a)) = true := by decide +kernel
theorem tag_eq {a b : String} (ha : a ∈ tags) (hb : b ∈ tags) : oEq (.str (Str.ofString a)) (.str (Str.ofString b)) = some (.sh (.bl (decide (a = b)))) := by
  have h1 := List.all_eq_true.mp tags_ok a ha
  have h2 := List.all_eq_true.mp tags_ok b hb
  rw [eq_str h1 h2, of_decide_eq_true (List.all_eq_true.mp (List.all_eq_true.mp tags_eq a ha) b hb)]
theorem tag_ne {a b : String} (ha : a ∈ tags) (hb : b ∈ tags) : oNe (.str (Str.ofString a)) (.str (Str.ofString b)) = some (.sh (.bl (!decide (a = b)))) := by
  have h1 := List.all_eq_true.mp tags_ok a ha
  have h2 := List.all_eq_true.mp tags_ok b hb
  rw [ne_str h1 h2, of_decide_eq_true (List.all_eq_true.mp (List.all_eq_true.mp tags_eq a ha) b hb)]
theorem Lot.nm {xs : List D} (hF : Finds F) (h : Lot F xs) : ∀ x ∈ xs, Nm x := fun x hx => hF.nm x (h.2.2 x hx)
/-- the head of a thing, compared -/
def Th.tag : Th → String
  | .eld _ _ => "elder"
  | .war _ => "ware"
  | .ser _ => "series"
  | .yrs _ _ _ => "years"
theorem Th.tag_mem (t : Th) : t.tag ∈ tags := by cases t <;> simp [Th.tag, tags]
theorem rb_len {row : List (List D)} (h : row.length ≤ 3) : (rowBands row).length ≤ 5 := by
  unfold rowBands
  rw [List.length_append, List.length_map, List.length_range]; omega
theorem fb_len : ∀ {rows : List (List (List D))}, (∀ r ∈ rows, Row F r) → (rows.flatMap rowBands).length ≤ 5 * rows.length
  | [], _ => by simp
  | r :: rows, h => by
    rw [List.flatMap_cons, List.length_append, List.length_cons]
    have := rb_len (h r (by simp)).l3
    have := fb_len (rows := rows) fun r hr => h r (by simp [hr])
    omega
theorem map_at {α β : Type} {f : α → β} {xs : List α} {i : Nat} {d : β} (h : (xs.map f)[i]? = some d) : ∃ hi : i < xs.length, d = f xs[i] := by
  rw [List.getElem?_map] at h
  cases e : xs[i]? with
  | none => rw [e] at h; cases h
  | some x =>
    rw [e] at h
    cases h
    obtain ⟨h1, h2⟩ := List.getElem?_eq_some_iff.mp e
    exact ⟨h1, by rw [h2]⟩
theorem take_one {α : Type} {xs : List α} {i : Nat} (h : i < xs.length) : xs.take (i + 1) = xs.take i ++ [xs[i]] := by
  rw [List.take_add_one, List.getElem?_eq_getElem h]; rfl
theorem bands_of_ok (hF : Finds F) {t : Th} (ht : t.ok F) {k : Ct (RV × List MO)} (q : k.run (.sh (.tup (t.bands.map .tup)), [])) : @Ok _ (fm_bands_of [.sh t.d]) k := by
  unfold fm_bands_of mx_bands_of
  cases t with
  | eld A B =>
    simp only [Th.d, tg]
    and_intros
    refine .of (tag_eq (by simp [tags]) (by simp [tags])) ?_
    and_intros
    refine it_neg (by decide) ?_
    and_intros
    refine .of (tag_ne (by simp [tags]) (by simp [tags])) ?_
    and_intros
    refine it_pos (by decide) ?_
    and_intros
    exact q
  | war A =>
    simp only [Th.d, tg]
    and_intros
    refine .of (tag_eq (by simp [tags]) (by simp [tags])) ?_
    and_intros
    exact q
  | ser rows =>
    simp only [Th.d, tg]
    and_intros
    refine .of (tag_eq (by simp [tags]) (by simp [tags])) ?_
    and_intros
    refine it_neg (by decide) ?_
    and_intros
    refine .of (tag_ne (by simp [tags]) (by simp [tags])) ?_
    and_intros
    obtain ⟨hl, hr⟩ := ht
    have hfl : ∀ i, ((rows.take i).flatMap rowBands).length ≤ 15 := fun i => by
      have := fb_len (rows := rows.take i) fun r h => hr r (List.mem_of_mem_take h)
      have := List.length_take_le i rows
      have : (rows.take i).length ≤ rows.length := by rw [List.length_take]; omega
      omega
    refine sForL_inv (fun i ρ => ∃ x2 x3, ρ = [some (.sh (.tup [.str (Str.ofString "series"), .tup (rows.map rowD)])), some (.mu false (.lst (((rows.take i).flatMap rowBands).map .tup))), x2, x3]) (fun _ => False) (fun _ _ => False) ⟨none, none, rfl⟩ (fun i d ρ hd ⟨x2, x3, e⟩ => ?_) (fun ρ' ⟨x2, x3, e⟩ => ?_) (fun _ z => z.elim) (fun _ _ z => z.elim)
    · obtain ⟨hi, rfl⟩ := map_at hd
      have R := hr _ (List.getElem_mem hi)
      have hfi := hfl i
      rw [take_one hi, List.flatMap_append, List.flatMap_cons, List.flatMap_nil, List.append_nil]
      generalize hB : (rows.take i).flatMap rowBands = B at *
      generalize hw : rows[i] = row at *
      subst e
      have R2 := R.l2
      have R3 := R.l3
      simp only [rowD]
      and_intros
      refine .of (a := row.map .tup) rfl ?_
      subst_eqs
      refine it_pos (by rw [sizeLine_v]; omega) ?_
      subst_eqs
      refine it_pos ⟨by omega, by omega⟩ ?_
      and_intros
      rw [show ((row.length : Int) - 1).toNat = row.length - 1 by omega]
      refine sForL_inv (fun j ρ => ∃ x3, ρ = [some (.sh (.tup [.str (Str.ofString "series"), .tup (rows.map rowD)])), some (.mu false (.lst (B.map .tup ++ row.map .tup ++ ((List.range j).map fun k => sortD (row.getD k [] ++ row.getD (k + 1) [])).map .tup))), some (.sh (.tup (row.map .tup))), x3]) (fun _ => False) (fun _ _ => False) ⟨x3, by simp⟩ (fun j d ρ hd ⟨x3, e⟩ => ?_) (fun ρ' ⟨x3, e⟩ => ?_) (fun _ z => z.elim) (fun _ _ z => z.elim)
      · obtain ⟨hj, rfl⟩ := rng_at hd
        subst e
        have hlot : ∀ k, k < row.length → Lot F (row.getD k []) := fun k hk => R.lot _ (getD_mem hk)
        subst_eqs
        refine it_pos (by omega) ?_
        subst_eqs
        refine it_pos (by omega) ?_
        subst_eqs
        refine .of (row_at (by omega)) ?_
        subst_eqs
        refine it_pos (by omega) ?_
        subst_eqs
        refine it_pos (by omega) ?_
        subst_eqs
        rw [show ((j : Int) + 1).toNat = j + 1 by omega]
        refine .of (row_at (by omega)) ?_
        subst_eqs
        have a1 := hlot j (by omega)
        have a2 := hlot (j + 1) (by omega)
        refine it_pos (by have := a1.2.1; have := a2.2.1; rw [sizeLine_v]; omega) ?_
        subst_eqs
        refine .of (sorted_tup fun x hx => ?_) ?_
        · rcases List.mem_append.mp hx with hx | hx
          · exact a1.nm hF x hx
          · exact a2.nm hF x hx
        subst_eqs
        refine it_pos (by rw [List.length_range, sizeLine_v]; omega) ?_
        subst_eqs
        refine ⟨some (.sh (.int j)), ?_⟩
        rw [List.range_succ, List.map_append, List.map_append]
        simp only [List.append_assoc, List.map_cons, List.map_nil]
      · subst e
        and_intros
        refine ⟨some (.sh (.tup (row.map .tup))), x3, ?_⟩
        rw [rng_len]
        simp only [rowBands, List.map_append, List.append_assoc]
    · subst e
      and_intros
      rw [List.length_map, List.take_length]
      exact q
  | yrs A lo hi =>
    simp only [Th.d, tg]
    and_intros
    refine .of (tag_eq (by simp [tags]) (by simp [tags])) ?_
    and_intros
    refine it_neg (by decide) ?_
    and_intros
    refine .of (tag_ne (by simp [tags]) (by simp [tags])) ?_
    and_intros
    refine it_pos (by decide) ?_
    and_intros
    exact q
end K91
end L2.My

end
section
set_option Elab.async false
set_option linter.all false
set_option autoImplicit false
set_option maxRecDepth 100000
set_option maxHeartbeats 4000000
/-! Mk7: the law's bands and pairs of rows. -/
namespace L2.My
open PySem PySem.Spec PyProof.Rows
local macro_rules | `(tactic| and_intros) => `(tactic| simp only [↓ok_some, ↓ok_bind, ↓ok_ite, it_true, it_false, ↓k_mV, ↓k_mE, ↓k_mF, ↓k_mVar, ↓k_mC, ↓k_mNm, ↓k_m1, ↓k_m2, ↓k_mT, ↓k_mAndT, ↓k_mOrT, ↓k_mNotT, ↓k_mIf, ↓k_mAndV, ↓k_mOrV, ↓k_mNotV, ↓k_mIsi, ↓k_mNil, ↓k_mCons, ↓k_mTup, ↓k_mLst, ↓k_mANil, ↓k_mACons, ↓k_mVE, ↓k_mCall, ↓k_args0, ↓k_args1, ↓k_sSeq, ↓k_then1, ↓k_then2, ↓k_then3, ↓k_then4, ↓k_sNil, ↓k_sSet, ↓k_sExpr, ↓k_sRet, ↓k_sIf, ↓k_sBreak, ↓k_sCont, ↓k_gNm, ↓k_gsNil, ↓k_gsCons, ↓k_gTp, ↓k_sAsg, ↓k_sPar, ↓k_mSo, ↓k_mNo, ↓k_mSl, ↓k_mApp, ↓k_mExt, ↓k_mPop, ↓k_sSetI, ↓k_mIndex, ↓k_mGet, ↓k_mLR1, ↓k_mRng1, ↓k_mItems, ↓k_mEnum, ↓k_mEnumZ, ↓k_sFor, ↓k_fLc, ↓k_mYes, ↓k_mMake, ↓k_sFldI, ↓k_mAnyIn, ↓k_mJoined, ↓k_jNil, ↓k_jCons, ↓k_mDict, ↓k_pNil, ↓k_pCons, ↓k_mChain, ↓k_chain1, ↓k_chain2, ↓k_fnM, ↓k_end1, ↓k_end2, ↓k_outs0, ↓k_outs1, ↓k_outs2, q_mVarS1, q_mVarS2, q_look1, q_look2, q_lookS1, q_lookS2, q_d1, q_d2, q_od1, q_od2, q_od3, q_boolR, q_arg1, q_arg2, q_argS, q_slots0, q_slots1, q_slots2, q_put0, q_put1, q_put2, q_putS, q_slotOf1, q_slotOf2, q_intOf, q_lstS, q_items1, q_items2, q_tupD, q_insS, q_strD, q_outS, p_ix1, p_ix2, p_ix3, p_atI, p_ixN, p_add, p_addS, p_addT, p_addL, p_sub, p_mul, p_div, p_mod, p_pow, p_neg, p_lt, p_le, p_gt, p_ge, p_len1, p_len2, p_len3, p_int, p_abs, p_str, p_max, p_list1, p_list2, p_tuple1, p_tuple2, p_isN, p_notN, p_non1, p_non2, p_non3, p_non4, p_non5, p_isi, p_ty1, p_ty2, p_ty3, p_ty4, p_ty5, p_ty6, p_isi_NoneType_bool, p_isi_NoneType_int, p_isi_NoneType_str, p_isi_NoneType_tuple, p_isi_bool_bool, p_isi_bool_int, p_isi_bool_str, p_isi_bool_tuple, p_isi_int_bool, p_isi_int_int, p_isi_int_str, p_isi_int_tuple, p_isi_str_bool, p_isi_str_int, p_isi_str_str, p_isi_str_tuple, p_isi_tuple_bool, p_isi_tuple_int, p_isi_tuple_str, p_isi_tuple_tuple, p_isi_list_bool, p_isi_list_int, p_isi_list_str, p_isi_list_tuple, p_in, p_notIn, p_eqI, p_neI, p_eqB, p_neB, p_fmt1, p_fmt2, p_fld, p_sl1, p_sl2, p_sl3, q_makeR, q_clean0, q_clean1, q_cleanS1, q_cleanS2, q_wipe0, q_wipe1, q_back0, q_back1, q_join1, q_and1, q_outP1, q_outP2, q_outP3, q_outP4, List.map_cons, List.map_nil, List.cons_append, List.nil_append, List.append_nil, List.length_cons, List.length_nil, List.getElem?_cons_zero, List.getElem?_cons_succ, List.getElem?_nil, List.set_cons_zero, List.set_cons_succ, Nat.reduceAdd, Nat.reduceSub, List.replicate_succ, List.replicate_zero, Nat.zero_add, reduceIte, Nat.reduceLeDiff, Nat.reduceLT, List.nodup_cons, List.nodup_nil, List.not_mem_nil, not_false_eq_true, and_true, and_self, List.mem_cons, or_false, Nat.reduceEqDiff, Bool.not_true, Bool.not_false, Bool.false_eq_true, true_and, and_false, false_and, reduceCtorEq, if_true, if_false, Int.reduceLE, Int.reduceLT, Int.reduceToNat, Int.reduceNeg, Int.reduceAdd, Int.reduceSub, Int.reduceMul, Int.reduceEq, Nat.reduceMul, decide_eq_true_eq, List.length_set, decide_true, decide_false, Int.toNat_natCast, Bool.not_eq_true, ne_eq])
local macro_rules | `(tactic| subst_eqs) => `(tactic| simp only [↓ok_some, ↓ok_bind, ↓ok_ite, it_true, it_false, ↓k_mV, ↓k_mE, ↓k_mF, ↓k_mVar, ↓k_mC, ↓k_mNm, ↓k_m1, ↓k_m2, ↓k_mT, ↓k_mAndT, ↓k_mOrT, ↓k_mNotT, ↓k_mIf, ↓k_mAndV, ↓k_mOrV, ↓k_mNotV, ↓k_mIsi, ↓k_mNil, ↓k_mCons, ↓k_mTup, ↓k_mLst, ↓k_mANil, ↓k_mACons, ↓k_mVE, ↓k_mCall, ↓k_args0, ↓k_args1, ↓k_sSeq, ↓k_then1, ↓k_then2, ↓k_then3, ↓k_then4, ↓k_sNil, ↓k_sSet, ↓k_sExpr, ↓k_sRet, ↓k_sIf, ↓k_sBreak, ↓k_sCont, ↓k_gNm, ↓k_gsNil, ↓k_gsCons, ↓k_gTp, ↓k_sAsg, ↓k_sPar, ↓k_mSo, ↓k_mNo, ↓k_mSl, ↓k_mApp, ↓k_mExt, ↓k_mPop, ↓k_sSetI, ↓k_mIndex, ↓k_mGet, ↓k_mLR1, ↓k_mRng1, ↓k_mItems, ↓k_mEnum, ↓k_mEnumZ, ↓k_sFor, ↓k_fLc, ↓k_mYes, ↓k_mMake, ↓k_sFldI, ↓k_mAnyIn, ↓k_mJoined, ↓k_jNil, ↓k_jCons, ↓k_mDict, ↓k_pNil, ↓k_pCons, ↓k_mChain, ↓k_chain1, ↓k_chain2, ↓k_fnM, ↓k_end1, ↓k_end2, ↓k_outs0, ↓k_outs1, ↓k_outs2, q_mVarS1, q_mVarS2, q_look1, q_look2, q_lookS1, q_lookS2, q_d1, q_d2, q_od1, q_od2, q_od3, q_boolR, q_arg1, q_arg2, q_argS, q_slots0, q_slots1, q_slots2, q_put0, q_put1, q_put2, q_putS, q_slotOf1, q_slotOf2, q_intOf, q_lstS, q_items1, q_items2, q_tupD, q_insS, q_strD, q_outS, p_ix1, p_ix2, p_ix3, p_atI, p_ixN, p_add, p_addS, p_addT, p_addL, p_sub, p_mul, p_div, p_mod, p_pow, p_neg, p_lt, p_le, p_gt, p_ge, p_len1, p_len2, p_len3, p_int, p_abs, p_str, p_max, p_list1, p_list2, p_tuple1, p_tuple2, p_isN, p_notN, p_non1, p_non2, p_non3, p_non4, p_non5, p_isi, p_ty1, p_ty2, p_ty3, p_ty4, p_ty5, p_ty6, p_isi_NoneType_bool, p_isi_NoneType_int, p_isi_NoneType_str, p_isi_NoneType_tuple, p_isi_bool_bool, p_isi_bool_int, p_isi_bool_str, p_isi_bool_tuple, p_isi_int_bool, p_isi_int_int, p_isi_int_str, p_isi_int_tuple, p_isi_str_bool, p_isi_str_int, p_isi_str_str, p_isi_str_tuple, p_isi_tuple_bool, p_isi_tuple_int, p_isi_tuple_str, p_isi_tuple_tuple, p_isi_list_bool, p_isi_list_int, p_isi_list_str, p_isi_list_tuple, p_in, p_notIn, p_eqI, p_neI, p_eqB, p_neB, p_fmt1, p_fmt2, p_fld, p_sl1, p_sl2, p_sl3, q_makeR, q_clean0, q_clean1, q_cleanS1, q_cleanS2, q_wipe0, q_wipe1, q_back0, q_back1, q_join1, q_and1, q_outP1, q_outP2, q_outP3, q_outP4, List.map_cons, List.map_nil, List.cons_append, List.nil_append, List.append_nil, List.length_cons, List.length_nil, List.getElem?_cons_zero, List.getElem?_cons_succ, List.getElem?_nil, List.set_cons_zero, List.set_cons_succ, Nat.reduceAdd, Nat.reduceSub, List.replicate_succ, List.replicate_zero, Nat.zero_add, reduceIte, Nat.reduceLeDiff, Nat.reduceLT, List.nodup_cons, List.nodup_nil, List.not_mem_nil, not_false_eq_true, and_true, and_self, List.mem_cons, or_false, Nat.reduceEqDiff, Bool.not_true, Bool.not_false, Bool.false_eq_true, true_and, and_false, false_and, reduceCtorEq, if_true, if_false, Int.reduceLE, Int.reduceLT, Int.reduceToNat, Int.reduceNeg, Int.reduceAdd, Int.reduceSub, Int.reduceMul, Int.reduceEq, Nat.reduceMul, decide_eq_true_eq, List.length_set, decide_true, decide_false, Int.toNat_natCast, Bool.not_eq_true, ne_eq, List.length_map, List.length_append])
namespace K91
variable {F : List D}
theorem law_bands_ok (hF : Finds F) {t : Th} (ht : t.ok F) {k : Ct (RV × List MO)} (q : k.run (.sh (.lst (t.bands.map .tup)), [])) (q2 : k.run (.fr (.lst (t.bands.map .tup)), [])) : @Ok _ (fm_law_bands [.sh t.d]) k := by
  unfold fm_law_bands mx_law_bands
  cases t with
  | eld A B =>
    simp only [Th.d, tg]
    and_intros
    refine .of (tag_eq (by simp [tags]) (by simp [tags])) ?_
    and_intros
    refine it_neg (by decide) ?_
    and_intros
    refine .of (tag_eq (by simp [tags]) (by simp [tags])) ?_
    and_intros
    refine it_neg (by decide) ?_
    and_intros
    exact q
  | war A =>
    simp only [Th.d, tg]
    and_intros
    refine .of (tag_eq (by simp [tags]) (by simp [tags])) ?_
    and_intros
    exact q2
  | ser rows =>
    simp only [Th.d, tg]
    and_intros
    refine .of (tag_eq (by simp [tags]) (by simp [tags])) ?_
    and_intros
    refine it_neg (by decide) ?_
    and_intros
    refine .of (tag_eq (by simp [tags]) (by simp [tags])) ?_
    and_intros
    obtain ⟨hl, hr⟩ := ht
    have hfl : ∀ i, ((rows.take i).flatMap rowBands).length ≤ 15 := fun i => by
      have := fb_len (rows := rows.take i) fun r h => hr r (List.mem_of_mem_take h)
      have : (rows.take i).length ≤ rows.length := by rw [List.length_take]; omega
      omega
    refine sForL_inv (fun i ρ => ∃ x2 x3, cleanS (some x3) = true ∧ ρ = [some (.sh (.tup [.str (Str.ofString "series"), .tup (rows.map rowD)])), some (.mu false (.lst (((rows.take i).flatMap rowBands).map .tup))), x2, x3]) (fun _ => False) (fun _ _ => False) ⟨none, none, rfl, rfl⟩ (fun i d ρ hd ⟨x2, x3, h3, e⟩ => ?_) (fun ρ' ⟨x2, x3, h3, e⟩ => ?_) (fun _ z => z.elim) (fun _ _ z => z.elim)
    · obtain ⟨hi, rfl⟩ := map_at hd
      have R := hr _ (List.getElem_mem hi)
      have hfi := hfl i
      rw [take_one hi, List.flatMap_append, List.flatMap_cons, List.flatMap_nil, List.append_nil]
      generalize hB : (rows.take i).flatMap rowBands = B at *
      generalize hw : rows[i] = row at *
      subst e
      have R2 := R.l2
      have R3 := R.l3
      simp only [rowD]
      subst_eqs
      refine it_pos (by rw [sizeLine_v]; omega) ?_
      subst_eqs
      refine it_pos ⟨by omega, by omega⟩ ?_
      subst_eqs
      refine it_pos (by rw [h3]; rfl) ?_
      subst_eqs
      rw [show ((row.length : Int) - 1).toNat = row.length - 1 by omega]
      refine lcL_inv (fun j acc ρ => acc = ((List.range j).map fun k => sortD (row.getD k [] ++ row.getD (k + 1) [])).map .tup ∧ ρ = [some (.sh (.tup [.str (Str.ofString "series"), .tup (rows.map rowD)])), some (.mu false (.lst (B.map .tup))), some (.sh (.tup (row.map .tup))), none]) (by rw [rng_len, sizeLine_v]; omega) ⟨rfl, rfl⟩ (fun j d acc ρ hd ha ⟨g1, e⟩ => ?_) fun out ρ' hl ⟨g1, e⟩ => ?_
      · obtain ⟨hj, rfl⟩ := rng_at hd
        subst e
        have hlot : ∀ k, k < row.length → Lot F (row.getD k []) := fun k hk => R.lot _ (getD_mem hk)
        subst_eqs
        refine it_pos (by omega) ?_
        subst_eqs
        refine it_pos (by omega) ?_
        subst_eqs
        refine .of (row_at (by omega)) ?_
        subst_eqs
        refine it_pos (by omega) ?_
        subst_eqs
        refine it_pos (by omega) ?_
        subst_eqs
        rw [show ((j : Int) + 1).toNat = j + 1 by omega]
        refine .of (row_at (by omega)) ?_
        subst_eqs
        have a1 := hlot j (by omega)
        have a2 := hlot (j + 1) (by omega)
        refine it_pos (by have := a1.2.1; have := a2.2.1; rw [sizeLine_v]; omega) ?_
        subst_eqs
        refine .of (sorted_tup fun x hx => ?_) ?_
        · rcases List.mem_append.mp hx with hx | hx
          · exact a1.nm hF x hx
          · exact a2.nm hF x hx
        subst_eqs
        rw [g1, List.range_succ, List.map_append, List.map_append]
        rfl
      · subst e g1
        rw [rng_len]
        subst_eqs
        refine it_pos (by rw [List.length_range, sizeLine_v]; omega) ?_
        subst_eqs
        refine ⟨some (.sh (.tup (row.map .tup))), x3, h3, ?_⟩
        simp only [rowBands, List.map_append, List.append_assoc]
    · subst e
      and_intros
      rw [List.length_map, List.take_length]
      exact q
  | yrs A lo hi =>
    simp only [Th.d, tg]
    and_intros
    refine .of (tag_eq (by simp [tags]) (by simp [tags])) ?_
    and_intros
    refine it_neg (by decide) ?_
    and_intros
    refine .of (tag_eq (by simp [tags]) (by simp [tags])) ?_
    and_intros
    refine it_neg (by decide) ?_
    and_intros
    exact q
def Far (row : List (List D)) (c d : D) : Prop := ∃ j k, j < k ∧ k < row.length ∧ c ∈ row.getD j [] ∧ d ∈ row.getD k []
def FarT (rows : List (List (List D))) (x : D) : Prop := ∃ row ∈ rows, ∃ c d, Far row c d ∧ x = .tup [c, d]
theorem row_pairs_ok {rows : List (List (List D))} (ht : (Th.ser rows).ok F) {k : Ct (RV × List MO)} (q : ∀ al : List D, al.length ≤ 10000 → (∀ x ∈ al, FarT rows x) → k.run (.sh (.lst al), [])) : @Ok _ (fm_law_row_pairs [.sh (Th.ser rows).d]) k := by
  unfold fm_law_row_pairs mx_law_row_pairs
  simp only [Th.d, tg]
  and_intros
  obtain ⟨hl, hr⟩ := ht
  have hT : ∃ T, T = D.tup [.str (Str.ofString "series"), .tup (rows.map rowD)] := ⟨_, rfl⟩
  obtain ⟨T, eT⟩ := hT
  rw [← eT]
  refine sForL_inv (fun i ρ => ∃ al x2 x3 x4 x5 x6, al.length ≤ 1296 * i ∧ (∀ x ∈ al, FarT rows x) ∧ cleanS (some x6) = true ∧ ρ = [some (.sh T), some (.mu false (.lst al)), x2, x3, x4, x5, x6]) (fun _ => False) (fun _ _ => False) ⟨[], none, none, none, none, none, by simp, by simp, rfl, rfl⟩ (fun i d ρ hd ⟨al, x2, x3, x4, x5, x6, b1, b2, b3, e⟩ => ?_) (fun ρ' ⟨al, x2, x3, x4, x5, x6, b1, b2, b3, e⟩ => ?_) (fun _ z => z.elim) (fun _ _ z => z.elim)
  · obtain ⟨hi, rfl⟩ := map_at hd
    have hm := List.getElem_mem hi
    have R := hr _ hm
    generalize hw : rows[i] = row at *
    subst e
    have R2 := R.l2
    have R3 := R.l3
    have hlot : ∀ k, k < row.length → Lot F (row.getD k []) := fun k hk => R.lot _ (getD_mem hk)
    simp only [rowD]
    subst_eqs
    refine it_pos ⟨by omega, by omega⟩ ?_
    subst_eqs
    refine sForL_inv (fun k ρ => ∃ al x3 x4 x5 x6, al.length ≤ 1296 * i + 432 * k ∧ (∀ x ∈ al, FarT rows x) ∧ cleanS (some x6) = true ∧ ρ = [some (.sh T), some (.mu false (.lst al)), some (.sh (.tup (row.map .tup))), x3, x4, x5, x6]) (fun _ => False) (fun _ _ => False) ⟨al, x3, x4, x5, x6, by omega, b2, b3, rfl⟩ (fun k d ρ hd ⟨al, x3, x4, x5, x6, b1, b2, b3, e⟩ => ?_) (fun ρ' ⟨al, x3, x4, x5, x6, b1, b2, b3, e⟩ => ?_) (fun _ z => z.elim) (fun _ _ z => z.elim)
    · obtain ⟨hk, rfl⟩ := rng_at hd
      subst e
      subst_eqs
      refine it_pos ⟨by omega, by omega⟩ ?_
      subst_eqs
      refine sForL_inv (fun j ρ => ∃ al x4 x5 x6, al.length ≤ 1296 * i + 432 * k + 144 * j ∧ (∀ x ∈ al, FarT rows x) ∧ cleanS (some x6) = true ∧ ρ = [some (.sh T), some (.mu false (.lst al)), some (.sh (.tup (row.map .tup))), some (.sh (.int k)), x4, x5, x6]) (fun _ => False) (fun _ _ => False) ⟨al, x4, x5, x6, by omega, b2, b3, rfl⟩ (fun j d ρ hd ⟨al, x4, x5, x6, b1, b2, b3, e⟩ => ?_) (fun ρ' ⟨al, x4, x5, x6, b1, b2, b3, e⟩ => ?_) (fun _ z => z.elim) (fun _ _ z => z.elim)
      · obtain ⟨hj, rfl⟩ := rng_at hd
        subst e
        subst_eqs
        refine it_pos (by omega) ?_
        subst_eqs
        refine it_pos (by omega) ?_
        subst_eqs
        refine .of (row_at (by omega)) ?_
        subst_eqs
        have a1 := hlot j (by omega)
        have a2 := hlot k (by omega)
        refine sForL_inv (fun c ρ => ∃ al x5 x6, al.length ≤ 1296 * i + 432 * k + 144 * j + 12 * c ∧ (∀ x ∈ al, FarT rows x) ∧ cleanS (some x6) = true ∧ ρ = [some (.sh T), some (.mu false (.lst al)), some (.sh (.tup (row.map .tup))), some (.sh (.int k)), some (.sh (.int j)), x5, x6]) (fun _ => False) (fun _ _ => False) ⟨al, x5, x6, by omega, b2, b3, rfl⟩ (fun c d ρ hd ⟨al, x5, x6, b1, b2, b3, e⟩ => ?_) (fun ρ' ⟨al, x5, x6, b1, b2, b3, e⟩ => ?_) (fun _ z => z.elim) (fun _ _ z => z.elim)
        · have hdm : d ∈ row.getD j [] := List.mem_of_getElem? hd
          have hc : c < (row.getD j []).length := (List.getElem?_eq_some_iff.mp hd).1
          have hc2 := a1.2.1
          subst e
          subst_eqs
          refine it_pos (by omega) ?_
          subst_eqs
          refine it_pos (by omega) ?_
          subst_eqs
          refine .of (row_at (by omega)) ?_
          subst_eqs
          refine it_pos (by rw [b3]; rfl) ?_
          subst_eqs
          refine lcL_inv (fun m acc ρ => (∀ x ∈ acc, FarT rows x) ∧ ρ = [some (.sh T), some (.mu false (.lst al)), some (.sh (.tup (row.map .tup))), some (.sh (.int k)), some (.sh (.int j)), some (.sh d), none]) (by have := a2.2.1; rw [sizeLine_v]; omega) ⟨by simp, rfl⟩ (fun m e acc ρ he ha ⟨g1, e2⟩ => ?_) fun out ρ' hl2 ⟨g1, e2⟩ => ?_
          · have hem : e ∈ row.getD k [] := List.mem_of_getElem? he
            subst e2
            subst_eqs
            intro x hx
            rcases List.mem_append.mp hx with hx | hx
            · exact g1 x hx
            · rw [List.mem_singleton.mp hx]
              exact ⟨row, hm, d, e, ⟨j, k, hj, hk, hdm, hem⟩, rfl⟩
          · subst e2
            subst_eqs
            have := a2.2.1
            refine it_pos (by rw [sizeLine_v]; omega) ?_
            subst_eqs
            refine ⟨_, _, x6, ?_, ?_, b3, rfl⟩
            · rw [List.length_append]; omega
            · intro x hx
              rcases List.mem_append.mp hx with hx | hx
              · exact b2 x hx
              · exact g1 x hx
        · subst e
          subst_eqs
          have := a1.2.1
          exact ⟨al, _, _, _, by omega, b2, b3, rfl⟩
      · subst e
        subst_eqs
        rw [rng_len] at b1
        exact ⟨al, _, _, _, _, by omega, b2, b3, rfl⟩
    · subst e
      subst_eqs
      rw [rng_len] at b1
      exact ⟨al, _, _, _, _, _, by omega, b2, b3, rfl⟩
  · subst e
    subst_eqs
    rw [List.length_map] at b1
    exact q al (by omega) b2
end K91
end L2.My

end
section
set_option Elab.async false
set_option linter.all false
set_option autoImplicit false
set_option maxRecDepth 100000
set_option maxHeartbeats 4000000
/-! Mk8: cuts, one thing. -/
namespace L2.My
open PySem PySem.Spec PyProof.Rows
local macro_rules | `(tactic| and_intros) => `(tactic| simp only [↓ok_some, ↓ok_bind, ↓ok_ite, it_true, it_false, ↓k_mV, ↓k_mE, ↓k_mF, ↓k_mVar, ↓k_mC, ↓k_mNm, ↓k_m1, ↓k_m2, ↓k_mT, ↓k_mAndT, ↓k_mOrT, ↓k_mNotT, ↓k_mIf, ↓k_mAndV, ↓k_mOrV, ↓k_mNotV, ↓k_mIsi, ↓k_mNil, ↓k_mCons, ↓k_mTup, ↓k_mLst, ↓k_mANil, ↓k_mACons, ↓k_mVE, ↓k_mCall, ↓k_args0, ↓k_args1, ↓k_sSeq, ↓k_then1, ↓k_then2, ↓k_then3, ↓k_then4, ↓k_sNil, ↓k_sSet, ↓k_sExpr, ↓k_sRet, ↓k_sIf, ↓k_sBreak, ↓k_sCont, ↓k_gNm, ↓k_gsNil, ↓k_gsCons, ↓k_gTp, ↓k_sAsg, ↓k_sPar, ↓k_mSo, ↓k_mNo, ↓k_mSl, ↓k_mApp, ↓k_mExt, ↓k_mPop, ↓k_sSetI, ↓k_mIndex, ↓k_mGet, ↓k_mLR1, ↓k_mRng1, ↓k_mItems, ↓k_mEnum, ↓k_mEnumZ, ↓k_sFor, ↓k_fLc, ↓k_mYes, ↓k_mMake, ↓k_sFldI, ↓k_mAnyIn, ↓k_mJoined, ↓k_jNil, ↓k_jCons, ↓k_mDict, ↓k_pNil, ↓k_pCons, ↓k_mChain, ↓k_chain1, ↓k_chain2, ↓k_fnM, ↓k_end1, ↓k_end2, ↓k_outs0, ↓k_outs1, ↓k_outs2, q_mVarS1, q_mVarS2, q_look1, q_look2, q_lookS1, q_lookS2, q_d1, q_d2, q_od1, q_od2, q_od3, q_boolR, q_arg1, q_arg2, q_argS, q_slots0, q_slots1, q_slots2, q_put0, q_put1, q_put2, q_putS, q_slotOf1, q_slotOf2, q_intOf, q_lstS, q_items1, q_items2, q_tupD, q_insS, q_strD, q_outS, p_ix1, p_ix2, p_ix3, p_atI, p_ixN, p_add, p_addS, p_addT, p_addL, p_sub, p_mul, p_div, p_mod, p_pow, p_neg, p_lt, p_le, p_gt, p_ge, p_len1, p_len2, p_len3, p_int, p_abs, p_str, p_max, p_list1, p_list2, p_tuple1, p_tuple2, p_isN, p_notN, p_non1, p_non2, p_non3, p_non4, p_non5, p_isi, p_ty1, p_ty2, p_ty3, p_ty4, p_ty5, p_ty6, p_isi_NoneType_bool, p_isi_NoneType_int, p_isi_NoneType_str, p_isi_NoneType_tuple, p_isi_bool_bool, p_isi_bool_int, p_isi_bool_str, p_isi_bool_tuple, p_isi_int_bool, p_isi_int_int, p_isi_int_str, p_isi_int_tuple, p_isi_str_bool, p_isi_str_int, p_isi_str_str, p_isi_str_tuple, p_isi_tuple_bool, p_isi_tuple_int, p_isi_tuple_str, p_isi_tuple_tuple, p_isi_list_bool, p_isi_list_int, p_isi_list_str, p_isi_list_tuple, p_in, p_notIn, p_eqI, p_neI, p_eqB, p_neB, p_fmt1, p_fmt2, p_fld, p_sl1, p_sl2, p_sl3, q_makeR, q_clean0, q_clean1, q_cleanS1, q_cleanS2, q_wipe0, q_wipe1, q_back0, q_back1, q_join1, q_and1, q_outP1, q_outP2, q_outP3, q_outP4, List.map_cons, List.map_nil, List.cons_append, List.nil_append, List.append_nil, List.length_cons, List.length_nil, List.getElem?_cons_zero, List.getElem?_cons_succ, List.getElem?_nil, List.set_cons_zero, List.set_cons_succ, Nat.reduceAdd, Nat.reduceSub, List.replicate_succ, List.replicate_zero, Nat.zero_add, reduceIte, Nat.reduceLeDiff, Nat.reduceLT, List.nodup_cons, List.nodup_nil, List.not_mem_nil, not_false_eq_true, and_true, and_self, List.mem_cons, or_false, Nat.reduceEqDiff, Bool.not_true, Bool.not_false, Bool.false_eq_true, true_and, and_false, false_and, reduceCtorEq, if_true, if_false, Int.reduceLE, Int.reduceLT, Int.reduceToNat, Int.reduceNeg, Int.reduceAdd, Int.reduceSub, Int.reduceMul, Int.reduceEq, Nat.reduceMul, decide_eq_true_eq, List.length_set, decide_true, decide_false, Int.toNat_natCast, Bool.not_eq_true, ne_eq])
local macro_rules | `(tactic| subst_eqs) => `(tactic| simp only [↓ok_some, ↓ok_bind, ↓ok_ite, it_true, it_false, ↓k_mV, ↓k_mE, ↓k_mF, ↓k_mVar, ↓k_mC, ↓k_mNm, ↓k_m1, ↓k_m2, ↓k_mT, ↓k_mAndT, ↓k_mOrT, ↓k_mNotT, ↓k_mIf, ↓k_mAndV, ↓k_mOrV, ↓k_mNotV, ↓k_mIsi, ↓k_mNil, ↓k_mCons, ↓k_mTup, ↓k_mLst, ↓k_mANil, ↓k_mACons, ↓k_mVE, ↓k_mCall, ↓k_args0, ↓k_args1, ↓k_sSeq, ↓k_then1, ↓k_then2, ↓k_then3, ↓k_then4, ↓k_sNil, ↓k_sSet, ↓k_sExpr, ↓k_sRet, ↓k_sIf, ↓k_sBreak, ↓k_sCont, ↓k_gNm, ↓k_gsNil, ↓k_gsCons, ↓k_gTp, ↓k_sAsg, ↓k_sPar, ↓k_mSo, ↓k_mNo, ↓k_mSl, ↓k_mApp, ↓k_mExt, ↓k_mPop, ↓k_sSetI, ↓k_mIndex, ↓k_mGet, ↓k_mLR1, ↓k_mRng1, ↓k_mItems, ↓k_mEnum, ↓k_mEnumZ, ↓k_sFor, ↓k_fLc, ↓k_mYes, ↓k_mMake, ↓k_sFldI, ↓k_mAnyIn, ↓k_mJoined, ↓k_jNil, ↓k_jCons, ↓k_mDict, ↓k_pNil, ↓k_pCons, ↓k_mChain, ↓k_chain1, ↓k_chain2, ↓k_fnM, ↓k_end1, ↓k_end2, ↓k_outs0, ↓k_outs1, ↓k_outs2, q_mVarS1, q_mVarS2, q_look1, q_look2, q_lookS1, q_lookS2, q_d1, q_d2, q_od1, q_od2, q_od3, q_boolR, q_arg1, q_arg2, q_argS, q_slots0, q_slots1, q_slots2, q_put0, q_put1, q_put2, q_putS, q_slotOf1, q_slotOf2, q_intOf, q_lstS, q_items1, q_items2, q_tupD, q_insS, q_strD, q_outS, p_ix1, p_ix2, p_ix3, p_atI, p_ixN, p_add, p_addS, p_addT, p_addL, p_sub, p_mul, p_div, p_mod, p_pow, p_neg, p_lt, p_le, p_gt, p_ge, p_len1, p_len2, p_len3, p_int, p_abs, p_str, p_max, p_list1, p_list2, p_tuple1, p_tuple2, p_isN, p_notN, p_non1, p_non2, p_non3, p_non4, p_non5, p_isi, p_ty1, p_ty2, p_ty3, p_ty4, p_ty5, p_ty6, p_isi_NoneType_bool, p_isi_NoneType_int, p_isi_NoneType_str, p_isi_NoneType_tuple, p_isi_bool_bool, p_isi_bool_int, p_isi_bool_str, p_isi_bool_tuple, p_isi_int_bool, p_isi_int_int, p_isi_int_str, p_isi_int_tuple, p_isi_str_bool, p_isi_str_int, p_isi_str_str, p_isi_str_tuple, p_isi_tuple_bool, p_isi_tuple_int, p_isi_tuple_str, p_isi_tuple_tuple, p_isi_list_bool, p_isi_list_int, p_isi_list_str, p_isi_list_tuple, p_in, p_notIn, p_eqI, p_neI, p_eqB, p_neB, p_fmt1, p_fmt2, p_fld, p_sl1, p_sl2, p_sl3, q_makeR, q_clean0, q_clean1, q_cleanS1, q_cleanS2, q_wipe0, q_wipe1, q_back0, q_back1, q_join1, q_and1, q_outP1, q_outP2, q_outP3, q_outP4, List.map_cons, List.map_nil, List.cons_append, List.nil_append, List.append_nil, List.length_cons, List.length_nil, List.getElem?_cons_zero, List.getElem?_cons_succ, List.getElem?_nil, List.set_cons_zero, List.set_cons_succ, Nat.reduceAdd, Nat.reduceSub, List.replicate_succ, List.replicate_zero, Nat.zero_add, reduceIte, Nat.reduceLeDiff, Nat.reduceLT, List.nodup_cons, List.nodup_nil, List.not_mem_nil, not_false_eq_true, and_true, and_self, List.mem_cons, or_false, Nat.reduceEqDiff, Bool.not_true, Bool.not_false, Bool.false_eq_true, true_and, and_false, false_and, reduceCtorEq, if_true, if_false, Int.reduceLE, Int.reduceLT, Int.reduceToNat, Int.reduceNeg, Int.reduceAdd, Int.reduceSub, Int.reduceMul, Int.reduceEq, Nat.reduceMul, decide_eq_true_eq, List.length_set, decide_true, decide_false, Int.toNat_natCast, Bool.not_eq_true, ne_eq, List.length_map, List.length_append])
namespace K91
variable {F : List D}
theorem cut_to {α : Type} {xs : List α} {c : Nat} : cutD xs none (some (c : Int)) = xs.take c := by
  unfold cutD
  rw [HT.sIx_none, HT.sIx_nat, List.drop_zero, Nat.sub_zero, List.take_eq_take_iff]
  omega
theorem cut_mid {α : Type} {xs : List α} {a b : Nat} : cutD xs (some (a : Int)) (some (b : Int)) = (xs.drop a).take (b - a) := by
  unfold cutD
  rw [HT.sIx_nat, HT.sIx_nat]
  rcases Nat.le_total a xs.length with h | h
  · rw [Nat.min_eq_left h, List.take_eq_take_iff, List.length_drop]
    omega
  · rw [Nat.min_eq_right h, List.drop_eq_nil_of_le (Nat.le_refl _), List.drop_eq_nil_of_le h]
    simp
theorem lot_of {xs : List D} {a c : Nat} (hF : Finds F) (hp : xs.Perm F) (h : a + c ≤ xs.length) (hc : 0 < c) (hc2 : c ≤ 12) : Lot F (sortD ((xs.drop a).take c)) := by
  have e : (sortD ((xs.drop a).take c)).length = c := by
    rw [(sort_perm _).length_eq, List.length_take, List.length_drop]; omega
  refine ⟨by omega, by omega, fun x hx => ?_⟩
  exact hp.mem_iff.mp (List.mem_of_mem_drop (List.mem_of_mem_take (sort_mem.mp hx)))
theorem part_nm0 {xs : List D} {c : Nat} (hF : Finds F) (hp : xs.Perm F) : ∀ x ∈ xs.take c, Nm x := fun x hx => hF.nm x (hp.mem_iff.mp (List.mem_of_mem_take hx))
theorem lot_of0 {xs : List D} {c : Nat} (hF : Finds F) (hp : xs.Perm F) (h : c ≤ xs.length) (hc : 0 < c) (hc2 : c ≤ 12) : Lot F (sortD (xs.take c)) := by
  have := lot_of (a := 0) hF hp (by omega) hc hc2
  rwa [List.drop_zero] at this
theorem part_nm {xs : List D} {a c : Nat} (hF : Finds F) (hp : xs.Perm F) : ∀ x ∈ (xs.drop a).take c, Nm x := fun x hx => hF.nm x (hp.mem_iff.mp (List.mem_of_mem_drop (List.mem_of_mem_take hx)))
theorem srt0 {xs : List D} {c : Nat} {z : Int} (hF : Finds F) (hp : xs.Perm F) (hz : z = c) : oSorted (.lst (cutD xs none (some z))) = some (.fr (.lst (sortD (xs.take c)))) := by
  rw [hz, cut_to]
  exact sorted_lst (part_nm0 hF hp)
theorem srt {xs : List D} {a c : Nat} {y z : Int} (hF : Finds F) (hp : xs.Perm F) (hy : y = a) (hz : z = c) : oSorted (.lst (cutD xs (some y) (some z))) = some (.fr (.lst (sortD ((xs.drop a).take (c - a))))) := by
  rw [hy, hz, cut_mid]
  exact sorted_lst (part_nm hF hp)
theorem row_of {xs : List D} {c r : Nat} (hF : Finds F) (hp : xs.Perm F) (hc : c ≤ 3) (hc0 : 0 < c) (hr : 2 ≤ r) (hr3 : r ≤ 3) (h5 : 5 < xs.length) : Row F ([sortD (xs.take c), sortD ((xs.drop c).take 2), [xs[5]]].take r) := by
  have hn : xs.Nodup := hp.nodup_iff.mpr hF.nd
  have lA : Lot F (sortD (xs.take c)) := lot_of0 hF hp (by omega) hc0 (by omega)
  have lB : Lot F (sortD ((xs.drop c).take 2)) := lot_of hF hp (by omega) (by omega) (by omega)
  have lC : Lot F [xs[5]] := ⟨by simp, by simp, fun x hx => by rw [List.mem_singleton.mp hx]; exact hp.mem_iff.mp (List.getElem_mem h5)⟩
  have hAB : (xs.take c ++ (xs.drop c).take 2 ++ [xs[5]]).Nodup := by
    refine List.Sublist.nodup (l₂ := xs) ?_ hn
    have e : xs = xs.take c ++ (xs.drop c).take 2 ++ (xs.drop c).drop 2 := by rw [List.append_assoc, List.take_append_drop, List.take_append_drop]
    have h : xs[5] ∈ (xs.drop c).drop 2 := by
      rw [List.drop_drop]
      rw [List.mem_iff_getElem]
      refine ⟨5 - (c + 2), by rw [List.length_drop]; omega, ?_⟩
      rw [List.getElem_drop]
      congr 1
      omega
    conv => rhs; rw [e]
    exact List.Sublist.append_left (List.singleton_sublist.mpr h) _
  have hP : (sortD (xs.take c) ++ sortD ((xs.drop c).take 2) ++ [xs[5]]).Nodup := (((sort_perm _).append (sort_perm _)).append_right _).nodup_iff.mpr hAB
  have e : r = 2 ∨ r = 3 := by omega
  rcases e with rfl | rfl
  · refine ⟨by simp, by simp, fun l hl => ?_, ?_⟩
    · have hl : l = sortD (xs.take c) ∨ l = sortD ((xs.drop c).take 2) := by simpa using hl
      rcases hl with rfl | rfl
      · exact lA
      · exact lB
    · have : ([sortD (xs.take c), sortD ((xs.drop c).take 2), [xs[5]]].take 2).flatten = sortD (xs.take c) ++ sortD ((xs.drop c).take 2) := by simp
      rw [this]
      exact (List.nodup_append.mp hP).1
  · refine ⟨by simp, by simp, fun l hl => ?_, ?_⟩
    · have hl : l = sortD (xs.take c) ∨ l = sortD ((xs.drop c).take 2) ∨ l = [xs[5]] := by simpa using hl
      rcases hl with rfl | rfl | rfl
      · exact lA
      · exact lB
      · exact lC
    · have : ([sortD (xs.take c), sortD ((xs.drop c).take 2), [xs[5]]].take 3).flatten = sortD (xs.take c) ++ sortD ((xs.drop c).take 2) ++ [xs[5]] := by simp
      rw [this]
      exact hP
theorem row3 {A B C : List D} {m : Nat} : D.tup (cutD [.tup A, .tup B, .tup C] none (some (2 + (m : Int)))) = rowD ([A, B, C].take (2 + m)) := by
  rw [show (2 + (m : Int)) = ((2 + m : Nat) : Int) by omega, cut_to]
  simp only [rowD, List.map_take]
  rfl
theorem thing_ok (hF : Finds F) {n : Nat} {o : MO} {kind : Int} (h : Dk n o) (hn : n + 100 ≤ 1000000) (hk : 0 ≤ kind ∧ kind ≤ 3) {k : Ct (RV × List MO)}
    (q : ∀ (o' : MO) (t : Th), Dk (n + 100) o' → t.ok F → k.run (.sh t.d, [o'])) : @Ok _ (fm_law_thing [.mu true o, .sh (.tup F), .sh (.int kind)]) k := by
  have h6 := hF.l6
  have h18 := hF.l18
  unfold fm_law_thing mx_law_thing
  and_intros
  refine shuf_ok (xs := F) rfl rfl h (by omega) (by omega) fun o1 some1 g1 p1 => ?_
  have l1 : some1.length = F.length := p1.length_eq
  and_intros
  refine draw_ok g1 (by omega) (by omega) (by omega) fun o2 r g2 r0 r1 => ?_
  obtain ⟨cut, rfl⟩ := Int.eq_ofNat_of_zero_le r0
  and_intros
  refine it_of (fun hk0 => ?_) (fun hk0 => ?_)
  · and_intros
    refine .of (srt0 (c := 1 + cut) hF p1 (by omega)) ?_
    and_intros
    refine draw_ok g2 (by omega) (by omega) (by omega) fun o3 r g3 r3 r4 => ?_
    and_intros
    refine .of (srt (a := 1 + cut) (c := 1 + cut + 1 + r.toNat) hF p1 (by omega) (by omega)) ?_
    and_intros
    exact q _ (.eld _ _) (g3.mono (by omega)) ⟨lot_of0 hF p1 (by omega) (by omega) (by omega), lot_of hF p1 (by omega) (by omega) (by omega)⟩
  · and_intros
    refine it_of (fun hk1 => ?_) (fun hk1 => ?_)
    · and_intros
      refine draw_ok g2 (by omega) (by omega) (by omega) fun o3 r g3 r3 r4 => ?_
      and_intros
      refine .of (srt0 (c := 2 + r.toNat) hF p1 (by omega)) ?_
      and_intros
      exact q _ (.war _) (g3.mono (by omega)) (lot_of0 hF p1 (by omega) (by omega) (by omega))
    · and_intros
      refine it_of (fun hk2 => ?_) (fun hk2 => ?_)
      · and_intros
        refine draw_ok g2 (by omega) (by omega) (by omega) fun o3 r g3 r3 r4 => ?_
        and_intros
        refine it_pos ⟨by omega, by omega⟩ ?_
        and_intros
        refine sForL_inv (fun i ρ => ∃ o rows x6 x7 x8, Dk (n + 20 + 20 * i) o ∧ rows.length = i ∧ (∀ r ∈ rows, Row F r) ∧ ρ = [some (.mu true o), some (.sh (.tup F)), some (.sh (.int kind)), some (.mu false (.lst some1)), some (.sh (.int (1 + (cut : Int)))), some (.mu false (.lst (rows.map rowD))), x6, x7, x8, none]) (fun _ => False) (fun _ _ => False) ⟨o3, [], none, none, none, g3.mono (by omega), rfl, by simp, rfl⟩ (fun i d ρ hd ⟨o4, rows, x6, x7, x8, b1, b2, b3, e⟩ => ?_) (fun ρ' ⟨o4, rows, x6, x7, x8, b1, b2, b3, e⟩ => ?_) (fun _ z => z.elim) (fun _ _ z => z.elim)
        · obtain ⟨hi, rfl⟩ := rng_at hd
          subst e
          and_intros
          refine shuf_ok (xs := F) rfl rfl b1 (by omega) (by omega) fun o5 row c1 p2 => ?_
          have l2 : row.length = F.length := p2.length_eq
          and_intros
          refine .of (srt0 (c := 1 + cut) hF p2 (by omega)) ?_
          and_intros
          refine .of (srt (a := 1 + cut) (c := 1 + cut + 2) hF p2 (by omega) (by omega)) ?_
          and_intros
          refine it_pos (by omega) ?_
          and_intros
          have h5 : 5 < row.length := by omega
          refine .of (List.getElem?_eq_getElem h5) ?_
          and_intros
          refine draw_ok c1 (by omega) (by omega) (by omega) fun o6 r' c2 c3 c4 => ?_
          and_intros
          refine it_pos (by rw [List.length_map, sizeLine_v]; omega) ?_
          and_intros
          obtain ⟨m, rfl⟩ := Int.eq_ofNat_of_zero_le c3
          rw [show 1 + cut + 2 - (1 + cut) = 2 by omega, row3]
          refine ⟨o6, rows ++ [[sortD (row.take (1 + cut)), sortD ((row.drop (1 + cut)).take 2), [row[5]]].take (2 + m)], _, _, _, c2.mono (by omega), by simp [b2], ?_, by rw [List.map_append]; rfl⟩
          · intro x hx
            rcases List.mem_append.mp hx with hx | hx
            · exact b3 x hx
            · rw [List.mem_singleton.mp hx]
              exact row_of hF p2 (by omega) (by omega) (by omega) (by omega) h5
        · subst e
          and_intros
          exact q _ (.ser rows) (b1.mono (by rw [rng_len]; omega)) ⟨by rw [b2, rng_len]; omega, b3⟩
      · and_intros
        refine draw_ok g2 (by omega) (by omega) (by omega) fun o3 r g3 r3 r4 => ?_
        and_intros
        refine .of (srt0 (c := 1 + cut) hF p1 (by omega)) ?_
        and_intros
        refine pickL_ok g3 (by omega) (by simp) (by simp) fun o4 d g4 hd => ?_
        have hlo : ∃ lo, d = optD lo ∧ YOk lo := by
          simp only [List.mem_cons, List.not_mem_nil, or_false] at hd
          rcases hd with hd | hd
          · exact ⟨none, hd, fun i z => by cases z⟩
          · exact ⟨some (r - 30), hd, fun i z => by cases z; omega⟩
        obtain ⟨lo, e1, e2⟩ := hlo
        subst e1
        and_intros
        refine draw_ok g4 (by omega) (by omega) (by omega) fun o5 r' g5 r5 r6 => ?_
        and_intros
        exact q _ (.yrs _ lo (some (r - 30 + r'))) (g5.mono (by omega)) ⟨lot_of0 hF p1 (by omega) (by omega) (by omega), e2, fun i z => by cases z; omega⟩
end K91
end L2.My

end
section
set_option Elab.async false
set_option linter.all false
set_option autoImplicit false
set_option maxRecDepth 100000
set_option maxHeartbeats 4000000
/-! Mk9: the dossier. -/
namespace L2.My
open PySem PySem.Spec PyProof.Rows
local macro_rules | `(tactic| and_intros) => `(tactic| simp only [↓ok_some, ↓ok_bind, ↓ok_ite, it_true, it_false, ↓k_mV, ↓k_mE, ↓k_mF, ↓k_mVar, ↓k_mC, ↓k_mNm, ↓k_m1, ↓k_m2, ↓k_mT, ↓k_mAndT, ↓k_mOrT, ↓k_mNotT, ↓k_mIf, ↓k_mAndV, ↓k_mOrV, ↓k_mNotV, ↓k_mIsi, ↓k_mNil, ↓k_mCons, ↓k_mTup, ↓k_mLst, ↓k_mANil, ↓k_mACons, ↓k_mVE, ↓k_mCall, ↓k_args0, ↓k_args1, ↓k_sSeq, ↓k_then1, ↓k_then2, ↓k_then3, ↓k_then4, ↓k_sNil, ↓k_sSet, ↓k_sExpr, ↓k_sRet, ↓k_sIf, ↓k_sBreak, ↓k_sCont, ↓k_gNm, ↓k_gsNil, ↓k_gsCons, ↓k_gTp, ↓k_sAsg, ↓k_sPar, ↓k_mSo, ↓k_mNo, ↓k_mSl, ↓k_mApp, ↓k_mExt, ↓k_mPop, ↓k_sSetI, ↓k_mIndex, ↓k_mGet, ↓k_mLR1, ↓k_mRng1, ↓k_mItems, ↓k_mEnum, ↓k_mEnumZ, ↓k_sFor, ↓k_fLc, ↓k_mYes, ↓k_mMake, ↓k_sFldI, ↓k_mAnyIn, ↓k_mJoined, ↓k_jNil, ↓k_jCons, ↓k_mDict, ↓k_pNil, ↓k_pCons, ↓k_mChain, ↓k_chain1, ↓k_chain2, ↓k_fnM, ↓k_end1, ↓k_end2, ↓k_outs0, ↓k_outs1, ↓k_outs2, q_mVarS1, q_mVarS2, q_look1, q_look2, q_lookS1, q_lookS2, q_d1, q_d2, q_od1, q_od2, q_od3, q_boolR, q_arg1, q_arg2, q_argS, q_slots0, q_slots1, q_slots2, q_put0, q_put1, q_put2, q_putS, q_slotOf1, q_slotOf2, q_intOf, q_lstS, q_items1, q_items2, q_tupD, q_insS, q_strD, q_outS, p_ix1, p_ix2, p_ix3, p_atI, p_ixN, p_add, p_addS, p_addT, p_addL, p_sub, p_mul, p_div, p_mod, p_pow, p_neg, p_lt, p_le, p_gt, p_ge, p_len1, p_len2, p_len3, p_int, p_abs, p_str, p_max, p_list1, p_list2, p_tuple1, p_tuple2, p_isN, p_notN, p_non1, p_non2, p_non3, p_non4, p_non5, p_isi, p_ty1, p_ty2, p_ty3, p_ty4, p_ty5, p_ty6, p_isi_NoneType_bool, p_isi_NoneType_int, p_isi_NoneType_str, p_isi_NoneType_tuple, p_isi_bool_bool, p_isi_bool_int, p_isi_bool_str, p_isi_bool_tuple, p_isi_int_bool, p_isi_int_int, p_isi_int_str, p_isi_int_tuple, p_isi_str_bool, p_isi_str_int, p_isi_str_str, p_isi_str_tuple, p_isi_tuple_bool, p_isi_tuple_int, p_isi_tuple_str, p_isi_tuple_tuple, p_isi_list_bool, p_isi_list_int, p_isi_list_str, p_isi_list_tuple, p_in, p_notIn, p_eqI, p_neI, p_eqB, p_neB, p_fmt1, p_fmt2, p_fld, p_sl1, p_sl2, p_sl3, q_makeR, q_clean0, q_clean1, q_cleanS1, q_cleanS2, q_wipe0, q_wipe1, q_back0, q_back1, q_join1, q_and1, q_outP1, q_outP2, q_outP3, q_outP4, List.map_cons, List.map_nil, List.cons_append, List.nil_append, List.append_nil, List.length_cons, List.length_nil, List.getElem?_cons_zero, List.getElem?_cons_succ, List.getElem?_nil, List.set_cons_zero, List.set_cons_succ, Nat.reduceAdd, Nat.reduceSub, List.replicate_succ, List.replicate_zero, Nat.zero_add, reduceIte, Nat.reduceLeDiff, Nat.reduceLT, List.nodup_cons, List.nodup_nil, List.not_mem_nil, not_false_eq_true, and_true, and_self, List.mem_cons, or_false, Nat.reduceEqDiff, Bool.not_true, Bool.not_false, Bool.false_eq_true, true_and, and_false, false_and, reduceCtorEq, if_true, if_false, Int.reduceLE, Int.reduceLT, Int.reduceToNat, Int.reduceNeg, Int.reduceAdd, Int.reduceSub, Int.reduceMul, Int.reduceEq, Nat.reduceMul, decide_eq_true_eq, List.length_set, decide_true, decide_false, Int.toNat_natCast, Bool.not_eq_true, ne_eq])
local macro_rules | `(tactic| subst_eqs) => `(tactic| simp only [↓ok_some, ↓ok_bind, ↓ok_ite, it_true, it_false, ↓k_mV, ↓k_mE, ↓k_mF, ↓k_mVar, ↓k_mC, ↓k_mNm, ↓k_m1, ↓k_m2, ↓k_mT, ↓k_mAndT, ↓k_mOrT, ↓k_mNotT, ↓k_mIf, ↓k_mAndV, ↓k_mOrV, ↓k_mNotV, ↓k_mIsi, ↓k_mNil, ↓k_mCons, ↓k_mTup, ↓k_mLst, ↓k_mANil, ↓k_mACons, ↓k_mVE, ↓k_mCall, ↓k_args0, ↓k_args1, ↓k_sSeq, ↓k_then1, ↓k_then2, ↓k_then3, ↓k_then4, ↓k_sNil, ↓k_sSet, ↓k_sExpr, ↓k_sRet, ↓k_sIf, ↓k_sBreak, ↓k_sCont, ↓k_gNm, ↓k_gsNil, ↓k_gsCons, ↓k_gTp, ↓k_sAsg, ↓k_sPar, ↓k_mSo, ↓k_mNo, ↓k_mSl, ↓k_mApp, ↓k_mExt, ↓k_mPop, ↓k_sSetI, ↓k_mIndex, ↓k_mGet, ↓k_mLR1, ↓k_mRng1, ↓k_mItems, ↓k_mEnum, ↓k_mEnumZ, ↓k_sFor, ↓k_fLc, ↓k_mYes, ↓k_mMake, ↓k_sFldI, ↓k_mAnyIn, ↓k_mJoined, ↓k_jNil, ↓k_jCons, ↓k_mDict, ↓k_pNil, ↓k_pCons, ↓k_mChain, ↓k_chain1, ↓k_chain2, ↓k_fnM, ↓k_end1, ↓k_end2, ↓k_outs0, ↓k_outs1, ↓k_outs2, q_mVarS1, q_mVarS2, q_look1, q_look2, q_lookS1, q_lookS2, q_d1, q_d2, q_od1, q_od2, q_od3, q_boolR, q_arg1, q_arg2, q_argS, q_slots0, q_slots1, q_slots2, q_put0, q_put1, q_put2, q_putS, q_slotOf1, q_slotOf2, q_intOf, q_lstS, q_items1, q_items2, q_tupD, q_insS, q_strD, q_outS, p_ix1, p_ix2, p_ix3, p_atI, p_ixN, p_add, p_addS, p_addT, p_addL, p_sub, p_mul, p_div, p_mod, p_pow, p_neg, p_lt, p_le, p_gt, p_ge, p_len1, p_len2, p_len3, p_int, p_abs, p_str, p_max, p_list1, p_list2, p_tuple1, p_tuple2, p_isN, p_notN, p_non1, p_non2, p_non3, p_non4, p_non5, p_isi, p_ty1, p_ty2, p_ty3, p_ty4, p_ty5, p_ty6, p_isi_NoneType_bool, p_isi_NoneType_int, p_isi_NoneType_str, p_isi_NoneType_tuple, p_isi_bool_bool, p_isi_bool_int, p_isi_bool_str, p_isi_bool_tuple, p_isi_int_bool, p_isi_int_int, p_isi_int_str, p_isi_int_tuple, p_isi_str_bool, p_isi_str_int, p_isi_str_str, p_isi_str_tuple, p_isi_tuple_bool, p_isi_tuple_int, p_isi_tuple_str, p_isi_tuple_tuple, p_isi_list_bool, p_isi_list_int, p_isi_list_str, p_isi_list_tuple, p_in, p_notIn, p_eqI, p_neI, p_eqB, p_neB, p_fmt1, p_fmt2, p_fld, p_sl1, p_sl2, p_sl3, q_makeR, q_clean0, q_clean1, q_cleanS1, q_cleanS2, q_wipe0, q_wipe1, q_back0, q_back1, q_join1, q_and1, q_outP1, q_outP2, q_outP3, q_outP4, List.map_cons, List.map_nil, List.cons_append, List.nil_append, List.append_nil, List.length_cons, List.length_nil, List.getElem?_cons_zero, List.getElem?_cons_succ, List.getElem?_nil, List.set_cons_zero, List.set_cons_succ, Nat.reduceAdd, Nat.reduceSub, List.replicate_succ, List.replicate_zero, Nat.zero_add, reduceIte, Nat.reduceLeDiff, Nat.reduceLT, List.nodup_cons, List.nodup_nil, List.not_mem_nil, not_false_eq_true, and_true, and_self, List.mem_cons, or_false, Nat.reduceEqDiff, Bool.not_true, Bool.not_false, Bool.false_eq_true, true_and, and_false, false_and, reduceCtorEq, if_true, if_false, Int.reduceLE, Int.reduceLT, Int.reduceToNat, Int.reduceNeg, Int.reduceAdd, Int.reduceSub, Int.reduceMul, Int.reduceEq, Nat.reduceMul, decide_eq_true_eq, List.length_set, decide_true, decide_false, Int.toNat_natCast, Bool.not_eq_true, ne_eq, List.length_map, List.length_append])
namespace K91
variable {F : List D}
def dnat (sp : List Nat) : List D := sp.map fun (n : Nat) => .int n
theorem dnat_mem {sp : List Nat} {n : Nat} : D.int n ∈ dnat sp ↔ n ∈ sp := by
  unfold dnat
  rw [List.mem_map]
  constructor
  · rintro ⟨m, hm, e⟩
    have e : (m : Int) = n := D.int.inj e
    have : m = n := by omega
    rwa [← this]
  · intro h
    exact ⟨n, h, rfl⟩
theorem dnat_pn {sp : List Nat} : ∀ x ∈ dnat sp, Pn 0 x := by
  intro x hx
  have hx_ := List.mem_map.mp hx
  obtain ⟨m, _, er_⟩ := hx_
  subst er_
  exact .int 0 _
theorem dnat_of {N : Nat} : ∀ {S : List D}, (∀ x ∈ S, ∃ m : Nat, m < N ∧ x = .int m) → ∃ sp, S = dnat sp ∧ ∀ n ∈ sp, n < N
  | [], _ => ⟨[], rfl, by simp⟩
  | x :: S, h => by
    have hx_ := h x (by simp)
    obtain ⟨m, hm, e⟩ := hx_
    have hx_ := dnat_of (S := S) fun y hy => h y (by simp [hy])
    obtain ⟨sp, e2, h2⟩ := hx_
    refine ⟨m :: sp, by rw [e, e2]; rfl, fun n hn => ?_⟩
    rcases List.mem_cons.mp hn with hn | hn
    · rw [hn]; exact hm
    · exact h2 n hn
theorem nodup_of_dnat {sp : List Nat} (h : (dnat sp).Nodup) : sp.Nodup := by
  unfold dnat at h
  rw [List.nodup_iff_pairwise_ne, List.pairwise_map] at h
  rw [List.nodup_iff_pairwise_ne]
  exact h.imp fun {a b} hab e => hab (by rw [e])
theorem rng_nodup (N : Nat) : (rngD 0 N).Nodup := by
  unfold rngD
  rw [List.nodup_iff_pairwise_ne, List.pairwise_map]
  refine List.Pairwise.imp (fun {a b} hab e => hab ?_) (List.nodup_iff_pairwise_ne.mp List.nodup_range)
  have := D.int.inj e
  omega
theorem find_at {k : Int} : ∀ {xs : List D} {j : Nat}, (∀ x ∈ xs, Pn 0 x) → xs.Nodup → xs[j]? = some (.int k) → findD (.int k) xs = some j
  | [], j, _, _, h => by simp at h
  | x :: xs, 0, hp, hn, h => by
    have h : x = .int k := by simpa using h
    unfold findD
    rw [if_pos ((Pn.eqv (hp x (by simp)) (.int 0 k)).mpr h)]
  | x :: xs, j + 1, hp, hn, h => by
    have h : xs[j]? = some (.int k) := by simpa using h
    rw [List.nodup_cons] at hn
    unfold findD
    rw [if_neg, find_at (fun y hy => hp y (by simp [hy])) hn.2 h]
    · rfl
    · intro e
      have e := (Pn.eqv (hp x (by simp)) (.int 0 k)).mp e
      exact hn.1 (by rw [e]; exact List.mem_of_getElem? h)
theorem index_ok {xs : List D} {k : Int} {j : Nat} (hp : ∀ x ∈ xs, Pn 0 x) (hn : xs.Nodup) (h : xs[j]? = some (.int k)) : oIndex (.lst xs) (.int k) = some (.sh (.int j)) := by
  have e := eqOk_lst (n := 0) (m := 0) (d := .int k) (ys := xs) (.int 0 k) hp (by omega) (by omega)
  unfold eqOk at e
  simp only [Bool.and_eq_true] at e
  obtain ⟨⟨⟨e1, e2⟩, e3⟩, e4⟩ := e
  show (if _ then _ else _) = _
  rw [D.pl] at e2
  rw [D.py] at e4
  rw [if_pos ⟨e1, e2, e3, e4⟩, find_at hp hn h]
  rfl
theorem perm_map {α β : Type} {f : α → β} : ∀ {ys xs' : List β}, ys.Perm xs' → ∀ {xs : List α}, xs' = xs.map f → ∃ zs : List α, ys = zs.map f ∧ zs.Perm xs := by
  intro ys xs' h
  induction h with
  | nil => intro xs e; exact ⟨[], rfl, by cases xs with | nil => exact .nil | cons a b => cases e⟩
  | cons x p ih =>
    intro xs e
    cases xs with
    | nil => cases e
    | cons a as =>
      rw [List.map_cons] at e
      have hx_ := List.cons.inj e
      obtain ⟨er_, e2⟩ := hx_
      subst er_
      have hx_ := ih e2
      obtain ⟨zs, h1, h2⟩ := hx_
      exact ⟨a :: zs, by rw [h1]; rfl, h2.cons a⟩
  | swap x y l =>
    intro xs e
    cases xs with
    | nil => cases e
    | cons a as =>
      cases as with
      | nil => cases e
      | cons b bs =>
        rw [List.map_cons, List.map_cons] at e
        have hx_ := List.cons.inj e
        obtain ⟨er_, e2⟩ := hx_
        subst er_
        have hx_ := List.cons.inj e2
        obtain ⟨er_, e3⟩ := hx_
        subst er_
        exact ⟨b :: a :: bs, by rw [e3]; rfl, .swap _ _ _⟩
  | trans p1 p2 ih1 ih2 =>
    intro xs e
    have hx_ := ih2 e
    obtain ⟨zs, h1, h2⟩ := hx_
    have hx_ := ih1 h1
    obtain ⟨ws, h3, h4⟩ := hx_
    exact ⟨ws, h3, h4.trans h2⟩
theorem srtI {xs : List D} {c : Nat} (h : ∀ x ∈ xs, ∃ i, x = .int i) : oSorted (.lst (cutD xs none (some (c : Int)))) = some (.fr (.lst (sortD (xs.take c)))) := by
  rw [cut_to]
  show (if sortOk _ = true then _ else _) = _
  rw [if_pos (sort_okI fun x hx => h x (List.mem_of_mem_take hx))]
structure Dos (F : List D) (ts : List Th) (sp : List Nat) : Prop where
  f : Finds F
  ok : ∀ t ∈ ts, t.ok F
  len : ts.length ≤ 302
  sl : sp.length ≤ 19
  sb : ∀ n ∈ sp, n < ts.length
  early : ∃ n ∈ sp, ∃ A lo hi, ts[n]? = some (.yrs A lo (some hi))
theorem lot1 {x : D} (h : x ∈ F) : Lot F [x] := ⟨by simp, by simp, fun y hy => by rw [List.mem_singleton.mp hy]; exact h⟩
theorem yok {i : Int} (h : -100000 ≤ i) (h2 : i ≤ 100000) : YOk (some i) := fun j e => by cases e; exact ⟨h, h2⟩
theorem yok0 : YOk none := fun j e => by cases e
theorem many_of {a b : Int} (ha : 0 ≤ a ∧ a ≤ 20) (hb : 0 ≤ b ∧ b ≤ 22) {d : D} (h : d ∈ [D.int a, .int b, .int 40, .int 101, .int 120, .int 300]) : ∃ m : Int, d = .int m ∧ 0 ≤ m ∧ m ≤ 300 := by
  simp only [List.mem_cons, List.not_mem_nil, or_false] at h
  rcases h with h | h | h | h | h | h
  · exact ⟨a, h, by omega⟩
  · exact ⟨b, h, by omega⟩
  · exact ⟨40, h, by omega⟩
  · exact ⟨101, h, by omega⟩
  · exact ⟨120, h, by omega⟩
  · exact ⟨300, h, by omega⟩
theorem names_ok' {n : Nat} {o : MO} {many : Nat} {z : Int} (hz : z = many) (h : Dk n o) (hn : n + 11 * many ≤ 1000000) (hm : many ≤ 18) {k : Ct (RV × List MO)}
    (q : ∀ (o' : MO) (ys : List D), Dk (n + 11 * many) o' → ys.length = many → ys.Nodup → (∀ y ∈ ys, Nm y) → k.run (.sh (.lst ys), [o'])) : @Ok _ (fm_law_names [.mu true o, .sh (.int z)]) k := by
  subst hz
  exact names_ok h hn hm q
/-- the numbers of the things that say something -/
theorem spots_ok {zs : List D} {N c : Nat} (p : zs.Perm (rngD 0 N)) (hc : c ≤ N) : ∃ sp, (∀ z : Int, z = c → oSorted (.lst (cutD zs none (some z))) = some (.fr (.lst (dnat sp)))) ∧ sp.length = c ∧ (dnat sp).Nodup ∧ ∀ n ∈ sp, n < N := by
  have zi : ∀ x ∈ zs, ∃ m : Nat, m < N ∧ x = .int m := fun x hx => by
    obtain ⟨i, hi⟩ := List.mem_iff_getElem?.mp (p.mem_iff.mp hx)
    obtain ⟨h1, h2⟩ := rng_at hi
    exact ⟨i, h1, h2⟩
  obtain ⟨sp, es, hsp⟩ := dnat_of (S := sortD (zs.take c)) (N := N) fun x hx => zi x (List.mem_of_mem_take (sort_mem.mp hx))
  refine ⟨sp, fun z hz => ?_, ?_, ?_, hsp⟩
  · rw [hz, srtI (c := c) fun x hx => by obtain ⟨m, _, e⟩ := zi x hx; exact ⟨m, e⟩, es]
  · have e1 : (dnat sp).length = sp.length := List.length_map _
    have e2 : zs.length = N := by rw [p.length_eq, rng_len]
    rw [← e1, ← es, (sort_perm _).length_eq, List.length_take]
    omega
  · rw [← es, (sort_perm _).nodup_iff]
    exact (List.take_sublist _ _).nodup (p.nodup_iff.mpr (rng_nodup N))
theorem dossier_ok {n : Nat} {o : MO} (h : Dk n o) (hn : n + 3000 ≤ 1000000) {k : Ct (RV × List MO)}
    (q : ∀ (o' : MO) (F : List D) (ts : List Th) (sp : List Nat), Dk (n + 3000) o' → Dos F ts sp → k.run (.sh (.tup [.tup [.tup F, .tup (ts.map Th.d)], .lst (dnat sp)]), [o'])) : @Ok _ (fm_law_dossier [.mu true o]) k := by
  unfold fm_law_dossier mx_law_dossier
  and_intros
  refine draw_ok h (by omega) (by omega) (by omega) fun o1 r g1 r0 r1 => ?_
  have hx_ := Int.eq_ofNat_of_zero_le r0
  obtain ⟨r, er_⟩ := hx_
  subst er_
  and_intros
  refine names_ok' (many := 6 + r) (by omega) g1 (by omega) (by omega) fun o2 ys g2 l1 n1 m1 => ?_
  and_intros
  have hx_ : ∃ F, oSorted (.lst ys) = some (.fr (.lst F)) ∧ Finds F := ⟨sortD ys, sorted_lst m1, ⟨by rw [(sort_perm _).length_eq]; omega, by rw [(sort_perm _).length_eq]; omega, (sort_perm _).nodup_iff.mpr n1, fun x hx => m1 x (sort_mem.mp hx)⟩⟩
  obtain ⟨F, eF, hF⟩ := hx_
  refine .of eF ?_
  and_intros
  have F6 := hF.l6
  refine draw_ok (g2.mono (m := n + 200) (by omega)) (by omega) (by omega) (by omega) fun o3 r2 g3 r3 r4 => ?_
  have hx_ := Int.eq_ofNat_of_zero_le r3
  obtain ⟨c, er_⟩ := hx_
  subst er_
  and_intros
  refine it_pos ⟨by omega, by omega⟩ ?_
  and_intros
  refine lcL_inv (fun i acc ρ => ∃ (o : MO) (ts : List Th), Dk (n + 201 + 101 * i) o ∧ ts.length = i ∧ (∀ t ∈ ts, t.ok F) ∧ acc = ts.map Th.d ∧ ρ = [some (.mu true o), some (.sh (.tup F)), none, none, none, none, none]) (by rw [rng_len, sizeLine_v]; omega) ⟨o3, [], g3.mono (by omega), rfl, by simp, rfl, rfl⟩ (fun i d acc ρ hd ha ⟨o4, ts, b1, b2, b3, e1, e⟩ => ?_) fun out ρ' hl ⟨o4, ts, b1, b2, b3, e1, e⟩ => ?_
  · have hx_ := rng_at hd
    obtain ⟨hi, er_⟩ := hx_
    subst er_
    subst e
    and_intros
    refine it_of (fun h4 => ?_) (fun h4 => ?_)
    · and_intros
      refine thing_ok hF b1 (by omega) ⟨by omega, by omega⟩ fun o5 t c1 ht => ?_
      and_intros
      refine ⟨o5, ts ++ [t], c1.mono (by omega), by simp [b2], ?_, by rw [e1, List.map_append]; rfl, rfl⟩
      intro x hx
      rcases List.mem_append.mp hx with hx | hx
      · exact b3 x hx
      · rw [List.mem_singleton.mp hx]; exact ht
    · and_intros
      refine draw_ok b1 (by omega) (by omega) (by omega) fun o5 r c1 ra rb => ?_
      and_intros
      refine thing_ok hF c1 (by omega) ⟨by omega, by omega⟩ fun o6 t c2 ht => ?_
      and_intros
      refine ⟨o6, ts ++ [t], c2.mono (by omega), by simp [b2], ?_, by rw [e1, List.map_append]; rfl, rfl⟩
      intro x hx
      rcases List.mem_append.mp hx with hx | hx
      · exact b3 x hx
      · rw [List.mem_singleton.mp hx]; exact ht
  subst e e1
  rw [rng_len] at b1 b2
  and_intros
  refine it_pos (by omega) ?_
  and_intros
  have h0 : 0 < F.length := by omega
  refine .of (List.getElem?_eq_getElem h0) ?_
  and_intros
  refine it_pos (by omega) ?_
  and_intros
  have h9 : F.length - 1 < F.length := by omega
  refine .of (List.getElem?_eq_getElem h9) ?_
  and_intros
  refine it_pos (by rw [List.length_map, sizeLine_v]; omega) ?_
  have hx_ : ∃ cs : List Th, cs = ts ++ [.yrs [F[0]] none (some (-40)), .yrs [F[F.length - 1]] (some 40) none] := ⟨_, rfl⟩
  obtain ⟨cs, ec⟩ := hx_
  have em : ts.map Th.d ++ [D.tup [.str (Str.ofString "years"), .tup [F[0]], .non, .int (-40)], .tup [.str (Str.ofString "years"), .tup [F[F.length - 1]], .int 40, .non]] = cs.map Th.d := by
    rw [ec, List.map_append]; rfl
  have cl0 : cs.length = ts.length + 2 := by rw [ec, List.length_append]; rfl
  have cl : cs.length ≤ 19 := by omega
  have cok : ∀ t ∈ cs, t.ok F := by
    rw [ec]
    intro t ht
    rcases List.mem_append.mp ht with ht | ht
    · exact b3 t ht
    · simp only [List.mem_cons, List.not_mem_nil, or_false] at ht
      rcases ht with ht | ht
      · rw [ht]; exact ⟨lot1 (List.getElem_mem h0), yok0, yok (by omega) (by omega)⟩
      · rw [ht]; exact ⟨lot1 (List.getElem_mem h9), yok (by omega) (by omega), yok0⟩
  have cy : Th.yrs [F[0]] none (some (-40)) ∈ cs := by rw [ec]; simp
  subst_eqs
  refine pickL_ok (b1.mono (m := n + 2000) (by omega)) (by omega) (by simp) (by simp) fun o5 d g5 hd => ?_
  have hx_ := many_of (by omega) (by omega) hd
  obtain ⟨m, er_, hm0, hm⟩ := hx_
  subst er_
  subst_eqs
  have hZ : ((ts.length + 2 : Nat) : Int) ≤ (if ((ts.length + 2 : Nat) : Int) > m then ((ts.length + 2 : Nat) : Int) else m) ∧ (if ((ts.length + 2 : Nat) : Int) > m then ((ts.length + 2 : Nat) : Int) else m) ≤ 300 := by split <;> omega
  refine it_pos ⟨by omega, by omega⟩ ?_
  subst_eqs
  refine shuf_ok rfl rfl g5 (by rw [rng_len]; omega) (by rw [rng_len]; omega) fun o6 zs g6 p6 => ?_
  rw [rng_len] at g6
  have hx_ := spots_ok (c := cs.length) p6 (by omega)
  obtain ⟨sp, es, sl, sn, hsp⟩ := hx_
  subst_eqs
  refine .of (es _ (by omega)) ?_
  subst_eqs
  refine shuf_ok (xs := cs.map Th.d) (by rw [← em]; rfl) (by rw [← em]; rfl) (g6.mono (m := n + 2400) (by omega)) (by rw [List.length_map]; omega) (by rw [List.length_map]; omega) fun o7 ws g7 p7 => ?_
  rw [List.length_map] at g7
  have hx_ := perm_map p7 rfl
  obtain ⟨cs2, er_, p8⟩ := hx_
  subst er_
  have c2l : cs2.length = cs.length := p8.length_eq
  subst_eqs
  have hZ2 : (cs2.length : Int) ≤ (if (cs2.length : Int) > m then (cs2.length : Int) else m) ∧ (if (cs2.length : Int) > m then (cs2.length : Int) else m) ≤ 300 := by split <;> omega
  have eZ : (if ((ts.length + 2 : Nat) : Int) > m then ((ts.length + 2 : Nat) : Int) else m) = (if (cs2.length : Int) > m then (cs2.length : Int) else m) := by rw [c2l, cl0]
  refine it_pos ⟨by omega, by omega⟩ ?_
  and_intros
  have c2ok : ∀ t ∈ cs2, t.ok F := fun t ht => cok t (p8.mem_iff.mp ht)
  refine sForL_inv (fun i ρ => ∃ (o : MO) (ts : List Th) (x6 : Option SV), Dk (n + 2450 + i) o ∧ ts.length = i ∧ (∀ t ∈ ts, t.ok F) ∧ (∀ (j m : Nat) t, sp[j]? = some m → m < i → cs2[j]? = some t → ts[m]? = some t) ∧ ρ = [some (.mu true o), some (.sh (.tup F)), some (.mu false (.lst (cs2.map Th.d))), some (.sh (.int m)), some (.mu false (.lst (dnat sp))), some (.mu false (.lst (ts.map Th.d))), x6]) (fun _ => False) (fun _ _ => False) ⟨o7, [], none, g7.mono (by omega), rfl, by simp, fun j m t _ z => absurd z (by omega), rfl⟩ (fun i d ρ hd ⟨o8, us, x6, b1, b2, b3, b4, e⟩ => ?_) (fun ρ' ⟨o8, us, x6, b1, b2, b3, b4, e⟩ => ?_) (fun _ z => z.elim) (fun _ _ z => z.elim)
  · have hx_ := rng_at hd
    obtain ⟨hi, er_⟩ := hx_
    subst er_
    subst e
    and_intros
    refine .of (in_lst (n := 0) (m := 0) (.int 0 _) dnat_pn (by omega) (by omega)) ?_
    and_intros
    refine it_of (fun b5 => ?_) (fun b5 => ?_)
    · have b5 : i ∈ sp := dnat_mem.mp b5
      have hx_ := List.mem_iff_getElem?.mp b5
      obtain ⟨j, hj⟩ := hx_
      have hj2 : (dnat sp)[j]? = some (.int i) := by unfold dnat; rw [List.getElem?_map, hj]; rfl
      have hjl : j < sp.length := (List.getElem?_eq_some_iff.mp hj).1
      have hjc : j < cs2.length := by omega
      and_intros
      refine it_pos rfl ?_
      and_intros
      refine .of (index_ok dnat_pn sn hj2) ?_
      and_intros
      refine it_pos (by omega) ?_
      and_intros
      refine it_pos (by rw [List.length_map]; exact hjc) ?_
      and_intros
      refine .of (a := (cs2[j]).d) (by rw [List.getElem?_map, List.getElem?_eq_getElem hjc]; rfl) ?_
      and_intros
      refine it_pos (by rw [List.length_map, sizeLine_v]; omega) ?_
      and_intros
      refine ⟨o8, us ++ [cs2[j]], _, b1.mono (by omega), by simp [b2], ?_, ?_, by rw [List.map_append]; rfl⟩
      · intro x hx
        rcases List.mem_append.mp hx with hx | hx
        · exact b3 x hx
        · rw [List.mem_singleton.mp hx]; exact c2ok _ (List.getElem_mem hjc)
      · intro j' m' t' h1 h2 h3
        rcases Nat.lt_or_ge m' i with h4 | h4
        · rw [List.getElem?_append_left (by omega)]
          exact b4 j' m' t' h1 h4 h3
        · have e : m' = i := by omega
          subst e
          have e2 : j' = j := by
            have hn := nodup_of_dnat sn
            have hx_ := List.getElem?_eq_some_iff.mp h1
            obtain ⟨k1, k2⟩ := hx_
            have hx_ := List.getElem?_eq_some_iff.mp hj
            obtain ⟨k3, k4⟩ := hx_
            exact (List.getElem_inj hn).mp (k2.trans k4.symm)
          subst e2
          rw [List.getElem?_append_right (by omega), b2, Nat.sub_self]
          rw [List.getElem?_eq_getElem hjc] at h3
          exact h3
    · have b5 : i ∉ sp := fun z => b5 (dnat_mem.mpr z)
      have hnew : ∀ t : Th, t.ok F → ∀ o9, Dk (n + 2450 + i + 1) o9 → ∃ (o : MO) (ts : List Th) (x6 : Option SV), Dk (n + 2450 + (i + 1)) o ∧ ts.length = i + 1 ∧ (∀ t ∈ ts, t.ok F) ∧ (∀ (j m : Nat) t, sp[j]? = some m → m < i + 1 → cs2[j]? = some t → ts[m]? = some t) ∧ [some (SV.mu true o9), some (.sh (.tup F)), some (.mu false (.lst (cs2.map Th.d))), some (.sh (.int m)), some (.mu false (.lst (dnat sp))), some (.mu false (.lst (us.map Th.d ++ [t.d]))), some (.sh (.int i))] = [some (.mu true o), some (.sh (.tup F)), some (.mu false (.lst (cs2.map Th.d))), some (.sh (.int m)), some (.mu false (.lst (dnat sp))), some (.mu false (.lst (ts.map Th.d))), x6] := fun t ht o9 g9 => by
        refine ⟨o9, us ++ [t], _, g9.mono (by omega), by simp [b2], ?_, ?_, by rw [List.map_append]; rfl⟩
        · intro x hx
          rcases List.mem_append.mp hx with hx | hx
          · exact b3 x hx
          · rw [List.mem_singleton.mp hx]; exact ht
        · intro j' m' t' h1 h2 h3
          rcases Nat.lt_or_ge m' i with h4 | h4
          · rw [List.getElem?_append_left (by omega)]
            exact b4 j' m' t' h1 h4 h3
          · have e : m' = i := by omega
            subst e
            exact absurd (List.mem_of_getElem? h1) b5
      and_intros
      have h1 : 1 < F.length := by omega
      refine it_pos h0 ?_
      and_intros
      refine .of (List.getElem?_eq_getElem h0) ?_
      and_intros
      refine it_pos (by omega) ?_
      and_intros
      refine .of (List.getElem?_eq_getElem h9) ?_
      and_intros
      refine it_pos h1 ?_
      and_intros
      refine .of (List.getElem?_eq_getElem h1) ?_
      and_intros
      refine pickL_ok b1 (by omega) (by simp) (by simp) fun o9 d g9 hd => ?_
      have hx_ : ∃ t : Th, d = t.d ∧ t.ok F := by
        simp only [List.mem_cons, List.not_mem_nil, or_false] at hd
        rcases hd with hd | hd | hd
        · exact ⟨.war [F[0]], hd, lot1 (List.getElem_mem h0)⟩
        · exact ⟨.war [F[F.length - 1]], hd, lot1 (List.getElem_mem h9)⟩
        · exact ⟨.yrs [F[1]] (some (-9999)) none, hd, lot1 (List.getElem_mem h1), yok (by omega) (by omega), yok0⟩
      obtain ⟨t, er_, ht⟩ := hx_
      subst er_
      and_intros
      refine it_pos (by rw [List.length_map, sizeLine_v]; omega) ?_
      and_intros
      exact hnew t ht o9 g9
  · subst e
    rw [rng_len] at b1 b2 b4
    and_intros
    refine q _ _ us sp (b1.mono (by omega)) ⟨hF, b3, by omega, by omega, fun x hx => by rw [b2, ← eZ]; exact hsp x hx, ?_⟩
    have hx_ := List.mem_iff_getElem?.mp (p8.mem_iff.mpr cy)
    obtain ⟨j, hj⟩ := hx_
    have hjl : j < sp.length := by have := (List.getElem?_eq_some_iff.mp hj).1; omega
    have hm := List.getElem_mem hjl
    exact ⟨sp[j], hm, _, _, _, b4 j _ _ (List.getElem?_eq_getElem hjl) (by rw [← eZ]; exact hsp _ hm) hj⟩
end K91
end L2.My

end
section
set_option Elab.async false
set_option linter.all false
set_option autoImplicit false
set_option maxRecDepth 100000
set_option maxHeartbeats 4000000
/-! Mka: lines, what makes them right; told lines. -/
namespace L2.My
open PySem PySem.Spec PyProof.Rows
local macro_rules | `(tactic| and_intros) => `(tactic| simp only [↓ok_some, ↓ok_bind, ↓ok_ite, it_true, it_false, ↓k_mV, ↓k_mE, ↓k_mF, ↓k_mVar, ↓k_mC, ↓k_mNm, ↓k_m1, ↓k_m2, ↓k_mT, ↓k_mAndT, ↓k_mOrT, ↓k_mNotT, ↓k_mIf, ↓k_mAndV, ↓k_mOrV, ↓k_mNotV, ↓k_mIsi, ↓k_mNil, ↓k_mCons, ↓k_mTup, ↓k_mLst, ↓k_mANil, ↓k_mACons, ↓k_mVE, ↓k_mCall, ↓k_args0, ↓k_args1, ↓k_sSeq, ↓k_then1, ↓k_then2, ↓k_then3, ↓k_then4, ↓k_sNil, ↓k_sSet, ↓k_sExpr, ↓k_sRet, ↓k_sIf, ↓k_sBreak, ↓k_sCont, ↓k_gNm, ↓k_gsNil, ↓k_gsCons, ↓k_gTp, ↓k_sAsg, ↓k_sPar, ↓k_mSo, ↓k_mNo, ↓k_mSl, ↓k_mApp, ↓k_mExt, ↓k_mPop, ↓k_sSetI, ↓k_mIndex, ↓k_mGet, ↓k_mLR1, ↓k_mRng1, ↓k_mItems, ↓k_mEnum, ↓k_mEnumZ, ↓k_sFor, ↓k_fLc, ↓k_mYes, ↓k_mMake, ↓k_sFldI, ↓k_mAnyIn, ↓k_mJoined, ↓k_jNil, ↓k_jCons, ↓k_mDict, ↓k_pNil, ↓k_pCons, ↓k_mChain, ↓k_chain1, ↓k_chain2, ↓k_fnM, ↓k_end1, ↓k_end2, ↓k_outs0, ↓k_outs1, ↓k_outs2, q_mVarS1, q_mVarS2, q_look1, q_look2, q_lookS1, q_lookS2, q_d1, q_d2, q_od1, q_od2, q_od3, q_boolR, q_arg1, q_arg2, q_argS, q_slots0, q_slots1, q_slots2, q_put0, q_put1, q_put2, q_putS, q_slotOf1, q_slotOf2, q_intOf, q_lstS, q_items1, q_items2, q_tupD, q_insS, q_strD, q_outS, p_ix1, p_ix2, p_ix3, p_atI, p_ixN, p_add, p_addS, p_addT, p_addL, p_sub, p_mul, p_div, p_mod, p_pow, p_neg, p_lt, p_le, p_gt, p_ge, p_len1, p_len2, p_len3, p_int, p_abs, p_str, p_max, p_list1, p_list2, p_tuple1, p_tuple2, p_isN, p_notN, p_non1, p_non2, p_non3, p_non4, p_non5, p_isi, p_ty1, p_ty2, p_ty3, p_ty4, p_ty5, p_ty6, p_isi_NoneType_bool, p_isi_NoneType_int, p_isi_NoneType_str, p_isi_NoneType_tuple, p_isi_bool_bool, p_isi_bool_int, p_isi_bool_str, p_isi_bool_tuple, p_isi_int_bool, p_isi_int_int, p_isi_int_str, p_isi_int_tuple, p_isi_str_bool, p_isi_str_int, p_isi_str_str, p_isi_str_tuple, p_isi_tuple_bool, p_isi_tuple_int, p_isi_tuple_str, p_isi_tuple_tuple, p_isi_list_bool, p_isi_list_int, p_isi_list_str, p_isi_list_tuple, p_in, p_notIn, p_eqI, p_neI, p_eqB, p_neB, p_fmt1, p_fmt2, p_fld, p_sl1, p_sl2, p_sl3, q_makeR, q_clean0, q_clean1, q_cleanS1, q_cleanS2, q_wipe0, q_wipe1, q_back0, q_back1, q_join1, q_and1, q_outP1, q_outP2, q_outP3, q_outP4, List.map_cons, List.map_nil, List.cons_append, List.nil_append, List.append_nil, List.length_cons, List.length_nil, List.getElem?_cons_zero, List.getElem?_cons_succ, List.getElem?_nil, List.set_cons_zero, List.set_cons_succ, Nat.reduceAdd, Nat.reduceSub, List.replicate_succ, List.replicate_zero, Nat.zero_add, reduceIte, Nat.reduceLeDiff, Nat.reduceLT, List.nodup_cons, List.nodup_nil, List.not_mem_nil, not_false_eq_true, and_true, and_self, List.mem_cons, or_false, Nat.reduceEqDiff, Bool.not_true, Bool.not_false, Bool.false_eq_true, true_and, and_false, false_and, reduceCtorEq, if_true, if_false, Int.reduceLE, Int.reduceLT, Int.reduceToNat, Int.reduceNeg, Int.reduceAdd, Int.reduceSub, Int.reduceMul, Int.reduceEq, Nat.reduceMul, decide_eq_true_eq, List.length_set, decide_true, decide_false, Int.toNat_natCast, Bool.not_eq_true, ne_eq])
local macro_rules | `(tactic| subst_eqs) => `(tactic| simp only [↓ok_some, ↓ok_bind, ↓ok_ite, it_true, it_false, ↓k_mV, ↓k_mE, ↓k_mF, ↓k_mVar, ↓k_mC, ↓k_mNm, ↓k_m1, ↓k_m2, ↓k_mT, ↓k_mAndT, ↓k_mOrT, ↓k_mNotT, ↓k_mIf, ↓k_mAndV, ↓k_mOrV, ↓k_mNotV, ↓k_mIsi, ↓k_mNil, ↓k_mCons, ↓k_mTup, ↓k_mLst, ↓k_mANil, ↓k_mACons, ↓k_mVE, ↓k_mCall, ↓k_args0, ↓k_args1, ↓k_sSeq, ↓k_then1, ↓k_then2, ↓k_then3, ↓k_then4, ↓k_sNil, ↓k_sSet, ↓k_sExpr, ↓k_sRet, ↓k_sIf, ↓k_sBreak, ↓k_sCont, ↓k_gNm, ↓k_gsNil, ↓k_gsCons, ↓k_gTp, ↓k_sAsg, ↓k_sPar, ↓k_mSo, ↓k_mNo, ↓k_mSl, ↓k_mApp, ↓k_mExt, ↓k_mPop, ↓k_sSetI, ↓k_mIndex, ↓k_mGet, ↓k_mLR1, ↓k_mRng1, ↓k_mItems, ↓k_mEnum, ↓k_mEnumZ, ↓k_sFor, ↓k_fLc, ↓k_mYes, ↓k_mMake, ↓k_sFldI, ↓k_mAnyIn, ↓k_mJoined, ↓k_jNil, ↓k_jCons, ↓k_mDict, ↓k_pNil, ↓k_pCons, ↓k_mChain, ↓k_chain1, ↓k_chain2, ↓k_fnM, ↓k_end1, ↓k_end2, ↓k_outs0, ↓k_outs1, ↓k_outs2, q_mVarS1, q_mVarS2, q_look1, q_look2, q_lookS1, q_lookS2, q_d1, q_d2, q_od1, q_od2, q_od3, q_boolR, q_arg1, q_arg2, q_argS, q_slots0, q_slots1, q_slots2, q_put0, q_put1, q_put2, q_putS, q_slotOf1, q_slotOf2, q_intOf, q_lstS, q_items1, q_items2, q_tupD, q_insS, q_strD, q_outS, p_ix1, p_ix2, p_ix3, p_atI, p_ixN, p_add, p_addS, p_addT, p_addL, p_sub, p_mul, p_div, p_mod, p_pow, p_neg, p_lt, p_le, p_gt, p_ge, p_len1, p_len2, p_len3, p_int, p_abs, p_str, p_max, p_list1, p_list2, p_tuple1, p_tuple2, p_isN, p_notN, p_non1, p_non2, p_non3, p_non4, p_non5, p_isi, p_ty1, p_ty2, p_ty3, p_ty4, p_ty5, p_ty6, p_isi_NoneType_bool, p_isi_NoneType_int, p_isi_NoneType_str, p_isi_NoneType_tuple, p_isi_bool_bool, p_isi_bool_int, p_isi_bool_str, p_isi_bool_tuple, p_isi_int_bool, p_isi_int_int, p_isi_int_str, p_isi_int_tuple, p_isi_str_bool, p_isi_str_int, p_isi_str_str, p_isi_str_tuple, p_isi_tuple_bool, p_isi_tuple_int, p_isi_tuple_str, p_isi_tuple_tuple, p_isi_list_bool, p_isi_list_int, p_isi_list_str, p_isi_list_tuple, p_in, p_notIn, p_eqI, p_neI, p_eqB, p_neB, p_fmt1, p_fmt2, p_fld, p_sl1, p_sl2, p_sl3, q_makeR, q_clean0, q_clean1, q_cleanS1, q_cleanS2, q_wipe0, q_wipe1, q_back0, q_back1, q_join1, q_and1, q_outP1, q_outP2, q_outP3, q_outP4, List.map_cons, List.map_nil, List.cons_append, List.nil_append, List.append_nil, List.length_cons, List.length_nil, List.getElem?_cons_zero, List.getElem?_cons_succ, List.getElem?_nil, List.set_cons_zero, List.set_cons_succ, Nat.reduceAdd, Nat.reduceSub, List.replicate_succ, List.replicate_zero, Nat.zero_add, reduceIte, Nat.reduceLeDiff, Nat.reduceLT, List.nodup_cons, List.nodup_nil, List.not_mem_nil, not_false_eq_true, and_true, and_self, List.mem_cons, or_false, Nat.reduceEqDiff, Bool.not_true, Bool.not_false, Bool.false_eq_true, true_and, and_false, false_and, reduceCtorEq, if_true, if_false, Int.reduceLE, Int.reduceLT, Int.reduceToNat, Int.reduceNeg, Int.reduceAdd, Int.reduceSub, Int.reduceMul, Int.reduceEq, Nat.reduceMul, decide_eq_true_eq, List.length_set, decide_true, decide_false, Int.toNat_natCast, Bool.not_eq_true, ne_eq, List.length_map, List.length_append])
namespace K91
variable {F : List D}
inductive Ln where
  | told (n : Nat) (a b : D)
  | yrs (n m : Nat) (a b : D)
  | side (i n k : Nat) (a b : D)
  | link (i n : Nat) (a b : D)
  | chain (i j : Nat)
def nD (n : Nat) : D := .int n
def Ln.d : Ln → D
  | .told n a b => .tup [tg "told", nD n, a, b]
  | .yrs n m a b => .tup [tg "years", nD n, nD m, a, b]
  | .side i n k a b => .tup [tg "side", nD i, nD n, nD k, a, b]
  | .link i n a b => .tup [tg "link", nD i, nD n, a, b]
  | .chain i j => .tup [tg "chain", nD i, nD j]
def prD (p : D × D) : D := .tup [p.1, p.2]
inductive Right (ts : List Th) (ps : List (D × D)) : Ln → D × D → Prop
  | told {n : Nat} {A B : List D} {a b : D} : ts[n]? = some (.eld A B) → a ∈ A → b ∈ B → Right ts ps (.told n a b) (a, b)
  | yrs {n m : Nat} {A A' : List D} {lo hi' : Option Int} {hi lo' : Int} {a b : D} : ts[n]? = some (.yrs A lo (some hi)) → ts[m]? = some (.yrs A' (some lo') hi') → hi < lo' → a ∈ A → b ∈ A' → Right ts ps (.yrs n m a b) (a, b)
  | side1 {i n k : Nat} {p q x : D} {t : Th} {B : List D} : ps[i]? = some (p, q) → ts[n]? = some t → t.bands[k]? = some B → p ∈ B → q ∉ B → x ∈ B → Right ts ps (.side i n k x q) (x, q)
  | side2 {i n k : Nat} {p q x : D} {t : Th} {B : List D} : ps[i]? = some (p, q) → ts[n]? = some t → t.bands[k]? = some B → p ∉ B → q ∈ B → x ∈ B → Right ts ps (.side i n k p x) (p, x)
  | link1 {i n : Nat} {p q c d : D} {rows : List (List (List D))} : ps[i]? = some (p, q) → ts[n]? = some (.ser rows) → FarT rows (.tup [p, q]) → FarT rows (.tup [c, d]) → Right ts ps (.link i n c d) (c, d)
  | link2 {i n : Nat} {p q c d : D} {rows : List (List (List D))} : ps[i]? = some (p, q) → ts[n]? = some (.ser rows) → FarT rows (.tup [q, p]) → FarT rows (.tup [c, d]) → Right ts ps (.link i n d c) (d, c)
  | chain {i j : Nat} {p q r : D} : ps[i]? = some (p, q) → ps[j]? = some (q, r) → Right ts ps (.chain i j) (p, r)
/-- stands alone -/
def Ln.alone : Ln → Bool
  | .told _ _ _ => true
  | .yrs _ _ _ _ => true
  | _ => false
theorem Right.any {ts : List Th} {ps ps' : List (D × D)} {l : Ln} {p : D × D} (h : Right ts ps l p) (ha : l.alone = true) : Right ts ps' l p := by
  cases h with
  | told h1 h2 h3 => exact .told h1 h2 h3
  | yrs h1 h2 h3 h4 h5 => exact .yrs h1 h2 h3 h4 h5
  | _ => cases ha
theorem sort_lots {row : List (List D)} (h : Row F row) : ∀ B ∈ rowBands row, ∀ x ∈ B, x ∈ F := by
  intro B hB x hx
  unfold rowBands at hB
  rcases List.mem_append.mp hB with hB | hB
  · exact (h.lot B hB).2.2 x hx
  · have hx_ := List.mem_map.mp hB
    obtain ⟨k, hk, er_⟩ := hx_
    subst er_
    have hk := List.mem_range.mp hk
    have hx := sort_mem.mp hx
    rcases List.mem_append.mp hx with hx | hx
    · exact (h.lot _ (getD_mem (k := k) (by omega))).2.2 x hx
    · exact (h.lot _ (getD_mem (k := k + 1) (by omega))).2.2 x hx
theorem Th.ok.bands {t : Th} (h : t.ok F) : ∀ B ∈ t.bands, ∀ x ∈ B, x ∈ F := by
  intro B hB x hx
  cases t with
  | eld A B => exact absurd hB (by simp [Th.bands])
  | war A =>
    rw [show B = A by simpa [Th.bands] using hB] at hx
    exact (show Lot F A from h).2.2 x hx
  | ser rows =>
    have hx_ := List.mem_flatMap.mp hB
    obtain ⟨r, hr, hB⟩ := hx_
    exact sort_lots (h.2 r hr) B hB x hx
  | yrs A lo hi => exact absurd hB (by simp [Th.bands])
theorem FarT.mem {rows : List (List (List D))} (h : (Th.ser rows).ok F) {c d : D} (hf : FarT rows (.tup [c, d])) : c ∈ F ∧ d ∈ F := by
  obtain ⟨row, hr, c', d', ⟨j, k, hj, hk, hc, hd⟩, e⟩ := hf
  simp only [D.tup.injEq, List.cons.injEq, and_true] at e
  obtain ⟨rfl, rfl⟩ := e
  have R := h.2 row hr
  exact ⟨(R.lot _ (getD_mem (by omega))).2.2 _ hc, (R.lot _ (getD_mem hk)).2.2 _ hd⟩
theorem Right.mem {ts : List Th} {ps : List (D × D)} {l : Ln} {p : D × D} (hts : ∀ t ∈ ts, t.ok F) (hps : ∀ p ∈ ps, p.1 ∈ F ∧ p.2 ∈ F) (h : Right ts ps l p) : p.1 ∈ F ∧ p.2 ∈ F := by
  cases h with
  | told h1 h2 h3 =>
    have := hts _ (List.mem_of_getElem? h1)
    exact ⟨this.1.2.2 _ h2, this.2.2.2 _ h3⟩
  | yrs h1 h2 h3 h4 h5 => exact ⟨(hts _ (List.mem_of_getElem? h1)).1.2.2 _ h4, (hts _ (List.mem_of_getElem? h2)).1.2.2 _ h5⟩
  | side1 h1 h2 h3 h4 h5 h6 =>
    have := (hts _ (List.mem_of_getElem? h2)).bands _ (List.mem_of_getElem? h3)
    exact ⟨this _ h6, (hps _ (List.mem_of_getElem? h1)).2⟩
  | side2 h1 h2 h3 h4 h5 h6 =>
    have := (hts _ (List.mem_of_getElem? h2)).bands _ (List.mem_of_getElem? h3)
    exact ⟨(hps _ (List.mem_of_getElem? h1)).1, this _ h6⟩
  | link1 h1 h2 h3 h4 => exact FarT.mem (hts _ (List.mem_of_getElem? h2)) h4
  | link2 h1 h2 h3 h4 =>
    have := FarT.mem (hts _ (List.mem_of_getElem? h2)) h4
    exact ⟨this.2, this.1⟩
  | chain h1 h2 => exact ⟨(hps _ (List.mem_of_getElem? h1)).1, (hps _ (List.mem_of_getElem? h2)).2⟩
theorem thing_at {ts : List Th} {n : Nat} {t : Th} (h : ts[n]? = some t) : (ts.map Th.d)[n]? = some t.d := by rw [List.getElem?_map, h]; rfl
theorem head_at {t : Th} : ∃ r, t.d = .tup (tg t.tag :: r) := by
  cases t with
  | eld A B => exact ⟨_, rfl⟩
  | war A => exact ⟨_, rfl⟩
  | ser rows => exact ⟨_, rfl⟩
  | yrs A lo hi => exact ⟨_, rfl⟩
theorem lt_of_get {α : Type} {xs : List α} {n : Nat} {x : α} (h : xs[n]? = some x) : n < xs.length := (List.getElem?_eq_some_iff.mp h).1
/-- the told lines -/
theorem told1_ok {ts : List Th} {sp : List Nat} (dos : Dos F ts sp) {n : Nat} {o : MO} (h : Dk n o) (hn : n + 3 ≤ 1000000) {k : Ct (RV × List MO)}
    (q0 : ∀ o', Dk (n + 3) o' → k.run (.sh .non, [o']))
    (q : ∀ (o' : MO) (l : Ln) (p : D × D), Dk (n + 3) o' → l.alone = true → Right ts [] l p → k.run (.sh (.tup [l.d, prD p]), [o'])) : @Ok _ (fm_law_told [.mu true o, .sh (.tup (ts.map Th.d)), .sh (.lst (dnat sp)), .sh (tg "told")]) k := by
  unfold fm_law_told mx_law_told
  simp only [tg]
  have hs2 := dos.sl
  and_intros
  refine .of (tag_eq (by simp [tags]) (by simp [tags])) ?_
  and_intros
  refine lcL_inv (fun i acc ρ => ∃ l : List Nat, acc = dnat l ∧ (∀ n ∈ l, ∃ A B, ts[n]? = some (.eld A B)) ∧ ρ = [some (.mu true o), some (.sh (.tup (ts.map Th.d))), some (.sh (.lst (dnat sp))), some (.sh (.str (Str.ofString "told"))), none, none, none, none, none, none, none]) (by unfold dnat; rw [List.length_map, sizeLine_v]; omega) ⟨[], rfl, by simp, rfl⟩ (fun i d acc ρ hd ha ⟨l, e1, e2, e⟩ => ?_) fun out ρ' hl ⟨l, e1, e2, e⟩ => ?_
  · have hx_ := map_at hd
    obtain ⟨hi, er_⟩ := hx_
    subst er_
    have hx_ : ∃ m, m = sp[i] := ⟨_, rfl⟩
    obtain ⟨m, em⟩ := hx_
    rw [← em]
    have hm : m < ts.length := by rw [em]; exact dos.sb _ (List.getElem_mem hi)
    have ht : ts[m]? = some ts[m] := List.getElem?_eq_getElem hm
    have hx_ : ∃ t, t = ts[m] := ⟨_, rfl⟩
    obtain ⟨t, et⟩ := hx_
    rw [← et] at ht
    subst e e1
    have hx_ := head_at (t := t)
    obtain ⟨rr, hr⟩ := hx_
    subst_eqs
    refine it_pos (by omega) ?_
    subst_eqs
    refine it_pos hm ?_
    subst_eqs
    refine .of (thing_at ht) ?_
    rw [hr]
    simp only [tg]
    subst_eqs
    refine it_pos (by omega) ?_
    subst_eqs
    refine .of (tag_eq t.tag_mem (by simp [tags])) ?_
    subst_eqs
    refine it_of (fun b1 => ?_) (fun b1 => ?_)
    · subst_eqs
      refine ⟨l ++ [m], by unfold dnat; rw [List.map_append]; rfl, fun x hx => ?_⟩
      rcases List.mem_append.mp hx with hx | hx
      · exact e2 x hx
      · rw [List.mem_singleton.mp hx]
        cases t with
        | eld A B => exact ⟨A, B, ht⟩
        | war A => simp [Th.tag] at b1
        | ser rows => simp [Th.tag] at b1
        | yrs A lo hi => simp [Th.tag] at b1
    · subst_eqs
      exact ⟨l, rfl, e2⟩
  · subst e e1
    and_intros
    refine .of (eq_nil (n := 0) dnat_pn (by omega)) ?_
    and_intros
    refine it_of (fun b1 => ?_) (fun b1 => ?_)
    · and_intros
      exact q0 _ (h.mono (by omega))
    · and_intros
      have lp : 0 < (dnat l).length := by
        rcases hE : dnat l with _ | ⟨x, y⟩
        · exact absurd hE b1
        · simp
      have ll : (dnat l).length ≤ 19 := by unfold dnat at hl ⊢; rw [List.length_map, List.length_map] at hl; rw [List.length_map]; omega
      refine pickL_ok h (by omega) lp (by omega) fun o1 d g1 hd => ?_
      have hx_ := List.mem_map.mp hd
      obtain ⟨m, hm, er_⟩ := hx_
      subst er_
      have hx_ := e2 m hm
      obtain ⟨A, B, ht⟩ := hx_
      have hok := dos.ok _ (List.mem_of_getElem? ht)
      have hlt := lt_of_get ht
      subst_eqs
      refine it_pos (by omega) ?_
      subst_eqs
      refine it_pos hlt ?_
      subst_eqs
      refine .of (thing_at ht) ?_
      simp only [Th.d]
      subst_eqs
      refine pickT_ok g1 (by omega) hok.1.1 (by have := hok.1.2.1; omega) fun o2 a g2 ha => ?_
      subst_eqs
      refine it_pos (by omega) ?_
      subst_eqs
      refine it_pos hlt ?_
      subst_eqs
      refine .of (thing_at ht) ?_
      simp only [Th.d]
      subst_eqs
      refine pickT_ok g2 (by omega) hok.2.1 (by have := hok.2.2.1; omega) fun o3 b g3 hb => ?_
      subst_eqs
      exact q _ (.told m a b) (a, b) g3 rfl (.told ht ha hb)
end K91
end L2.My

end
section
set_option Elab.async false
set_option linter.all false
set_option autoImplicit false
set_option maxRecDepth 100000
set_option maxHeartbeats 4000000
/-! Mkb: lines of years. -/
namespace L2.My
open PySem PySem.Spec PyProof.Rows
local macro_rules | `(tactic| and_intros) => `(tactic| simp only [↓ok_some, ↓ok_bind, ↓ok_ite, it_true, it_false, ↓k_mV, ↓k_mE, ↓k_mF, ↓k_mVar, ↓k_mC, ↓k_mNm, ↓k_m1, ↓k_m2, ↓k_mT, ↓k_mAndT, ↓k_mOrT, ↓k_mNotT, ↓k_mIf, ↓k_mAndV, ↓k_mOrV, ↓k_mNotV, ↓k_mIsi, ↓k_mNil, ↓k_mCons, ↓k_mTup, ↓k_mLst, ↓k_mANil, ↓k_mACons, ↓k_mVE, ↓k_mCall, ↓k_args0, ↓k_args1, ↓k_sSeq, ↓k_then1, ↓k_then2, ↓k_then3, ↓k_then4, ↓k_sNil, ↓k_sSet, ↓k_sExpr, ↓k_sRet, ↓k_sIf, ↓k_sBreak, ↓k_sCont, ↓k_gNm, ↓k_gsNil, ↓k_gsCons, ↓k_gTp, ↓k_sAsg, ↓k_sPar, ↓k_mSo, ↓k_mNo, ↓k_mSl, ↓k_mApp, ↓k_mExt, ↓k_mPop, ↓k_sSetI, ↓k_mIndex, ↓k_mGet, ↓k_mLR1, ↓k_mRng1, ↓k_mItems, ↓k_mEnum, ↓k_mEnumZ, ↓k_sFor, ↓k_fLc, ↓k_mYes, ↓k_mMake, ↓k_sFldI, ↓k_mAnyIn, ↓k_mJoined, ↓k_jNil, ↓k_jCons, ↓k_mDict, ↓k_pNil, ↓k_pCons, ↓k_mChain, ↓k_chain1, ↓k_chain2, ↓k_fnM, ↓k_end1, ↓k_end2, ↓k_outs0, ↓k_outs1, ↓k_outs2, q_mVarS1, q_mVarS2, q_look1, q_look2, q_lookS1, q_lookS2, q_d1, q_d2, q_od1, q_od2, q_od3, q_boolR, q_arg1, q_arg2, q_argS, q_slots0, q_slots1, q_slots2, q_put0, q_put1, q_put2, q_putS, q_slotOf1, q_slotOf2, q_intOf, q_lstS, q_items1, q_items2, q_tupD, q_insS, q_strD, q_outS, p_ix1, p_ix2, p_ix3, p_atI, p_ixN, p_add, p_addS, p_addT, p_addL, p_sub, p_mul, p_div, p_mod, p_pow, p_neg, p_lt, p_le, p_gt, p_ge, p_len1, p_len2, p_len3, p_int, p_abs, p_str, p_max, p_list1, p_list2, p_tuple1, p_tuple2, p_isN, p_notN, p_non1, p_non2, p_non3, p_non4, p_non5, p_isi, p_ty1, p_ty2, p_ty3, p_ty4, p_ty5, p_ty6, p_isi_NoneType_bool, p_isi_NoneType_int, p_isi_NoneType_str, p_isi_NoneType_tuple, p_isi_bool_bool, p_isi_bool_int, p_isi_bool_str, p_isi_bool_tuple, p_isi_int_bool, p_isi_int_int, p_isi_int_str, p_isi_int_tuple, p_isi_str_bool, p_isi_str_int, p_isi_str_str, p_isi_str_tuple, p_isi_tuple_bool, p_isi_tuple_int, p_isi_tuple_str, p_isi_tuple_tuple, p_isi_list_bool, p_isi_list_int, p_isi_list_str, p_isi_list_tuple, p_in, p_notIn, p_eqI, p_neI, p_eqB, p_neB, p_fmt1, p_fmt2, p_fld, p_sl1, p_sl2, p_sl3, q_makeR, q_clean0, q_clean1, q_cleanS1, q_cleanS2, q_wipe0, q_wipe1, q_back0, q_back1, q_join1, q_and1, q_outP1, q_outP2, q_outP3, q_outP4, List.map_cons, List.map_nil, List.cons_append, List.nil_append, List.append_nil, List.length_cons, List.length_nil, List.getElem?_cons_zero, List.getElem?_cons_succ, List.getElem?_nil, List.set_cons_zero, List.set_cons_succ, Nat.reduceAdd, Nat.reduceSub, List.replicate_succ, List.replicate_zero, Nat.zero_add, reduceIte, Nat.reduceLeDiff, Nat.reduceLT, List.nodup_cons, List.nodup_nil, List.not_mem_nil, not_false_eq_true, and_true, and_self, List.mem_cons, or_false, Nat.reduceEqDiff, Bool.not_true, Bool.not_false, Bool.false_eq_true, true_and, and_false, false_and, reduceCtorEq, if_true, if_false, Int.reduceLE, Int.reduceLT, Int.reduceToNat, Int.reduceNeg, Int.reduceAdd, Int.reduceSub, Int.reduceMul, Int.reduceEq, Nat.reduceMul, decide_eq_true_eq, List.length_set, decide_true, decide_false, Int.toNat_natCast, Bool.not_eq_true, ne_eq])
local macro_rules | `(tactic| subst_eqs) => `(tactic| simp only [↓ok_some, ↓ok_bind, ↓ok_ite, it_true, it_false, ↓k_mV, ↓k_mE, ↓k_mF, ↓k_mVar, ↓k_mC, ↓k_mNm, ↓k_m1, ↓k_m2, ↓k_mT, ↓k_mAndT, ↓k_mOrT, ↓k_mNotT, ↓k_mIf, ↓k_mAndV, ↓k_mOrV, ↓k_mNotV, ↓k_mIsi, ↓k_mNil, ↓k_mCons, ↓k_mTup, ↓k_mLst, ↓k_mANil, ↓k_mACons, ↓k_mVE, ↓k_mCall, ↓k_args0, ↓k_args1, ↓k_sSeq, ↓k_then1, ↓k_then2, ↓k_then3, ↓k_then4, ↓k_sNil, ↓k_sSet, ↓k_sExpr, ↓k_sRet, ↓k_sIf, ↓k_sBreak, ↓k_sCont, ↓k_gNm, ↓k_gsNil, ↓k_gsCons, ↓k_gTp, ↓k_sAsg, ↓k_sPar, ↓k_mSo, ↓k_mNo, ↓k_mSl, ↓k_mApp, ↓k_mExt, ↓k_mPop, ↓k_sSetI, ↓k_mIndex, ↓k_mGet, ↓k_mLR1, ↓k_mRng1, ↓k_mItems, ↓k_mEnum, ↓k_mEnumZ, ↓k_sFor, ↓k_fLc, ↓k_mYes, ↓k_mMake, ↓k_sFldI, ↓k_mAnyIn, ↓k_mJoined, ↓k_jNil, ↓k_jCons, ↓k_mDict, ↓k_pNil, ↓k_pCons, ↓k_mChain, ↓k_chain1, ↓k_chain2, ↓k_fnM, ↓k_end1, ↓k_end2, ↓k_outs0, ↓k_outs1, ↓k_outs2, q_mVarS1, q_mVarS2, q_look1, q_look2, q_lookS1, q_lookS2, q_d1, q_d2, q_od1, q_od2, q_od3, q_boolR, q_arg1, q_arg2, q_argS, q_slots0, q_slots1, q_slots2, q_put0, q_put1, q_put2, q_putS, q_slotOf1, q_slotOf2, q_intOf, q_lstS, q_items1, q_items2, q_tupD, q_insS, q_strD, q_outS, p_ix1, p_ix2, p_ix3, p_atI, p_ixN, p_add, p_addS, p_addT, p_addL, p_sub, p_mul, p_div, p_mod, p_pow, p_neg, p_lt, p_le, p_gt, p_ge, p_len1, p_len2, p_len3, p_int, p_abs, p_str, p_max, p_list1, p_list2, p_tuple1, p_tuple2, p_isN, p_notN, p_non1, p_non2, p_non3, p_non4, p_non5, p_isi, p_ty1, p_ty2, p_ty3, p_ty4, p_ty5, p_ty6, p_isi_NoneType_bool, p_isi_NoneType_int, p_isi_NoneType_str, p_isi_NoneType_tuple, p_isi_bool_bool, p_isi_bool_int, p_isi_bool_str, p_isi_bool_tuple, p_isi_int_bool, p_isi_int_int, p_isi_int_str, p_isi_int_tuple, p_isi_str_bool, p_isi_str_int, p_isi_str_str, p_isi_str_tuple, p_isi_tuple_bool, p_isi_tuple_int, p_isi_tuple_str, p_isi_tuple_tuple, p_isi_list_bool, p_isi_list_int, p_isi_list_str, p_isi_list_tuple, p_in, p_notIn, p_eqI, p_neI, p_eqB, p_neB, p_fmt1, p_fmt2, p_fld, p_sl1, p_sl2, p_sl3, q_makeR, q_clean0, q_clean1, q_cleanS1, q_cleanS2, q_wipe0, q_wipe1, q_back0, q_back1, q_join1, q_and1, q_outP1, q_outP2, q_outP3, q_outP4, List.map_cons, List.map_nil, List.cons_append, List.nil_append, List.append_nil, List.length_cons, List.length_nil, List.getElem?_cons_zero, List.getElem?_cons_succ, List.getElem?_nil, List.set_cons_zero, List.set_cons_succ, Nat.reduceAdd, Nat.reduceSub, List.replicate_succ, List.replicate_zero, Nat.zero_add, reduceIte, Nat.reduceLeDiff, Nat.reduceLT, List.nodup_cons, List.nodup_nil, List.not_mem_nil, not_false_eq_true, and_true, and_self, List.mem_cons, or_false, Nat.reduceEqDiff, Bool.not_true, Bool.not_false, Bool.false_eq_true, true_and, and_false, false_and, reduceCtorEq, if_true, if_false, Int.reduceLE, Int.reduceLT, Int.reduceToNat, Int.reduceNeg, Int.reduceAdd, Int.reduceSub, Int.reduceMul, Int.reduceEq, Nat.reduceMul, decide_eq_true_eq, List.length_set, decide_true, decide_false, Int.toNat_natCast, Bool.not_eq_true, ne_eq, List.length_map, List.length_append])
namespace K91
variable {F : List D}
theorem non_opt {o : Option Int} : isNon (optD o) = o.isNone := by cases o <;> rfl
theorem dnat_pos {l : List Nat} {n : Nat} (h : n ∈ l) : 0 < (dnat l).length := by
  cases l with
  | nil => cases h
  | cons a b => simp [dnat]
theorem dnat_len (l : List Nat) : (dnat l).length = l.length := List.length_map _
theorem told2_ok {ts : List Th} {sp : List Nat} (dos : Dos F ts sp) {n : Nat} {o : MO} (h : Dk n o) (hn : n + 4 ≤ 1000000) {k : Ct (RV × List MO)}
    (q0 : ∀ o', Dk (n + 4) o' → k.run (.sh .non, [o']))
    (q : ∀ (o' : MO) (l : Ln) (p : D × D), Dk (n + 4) o' → l.alone = true → Right ts [] l p → k.run (.sh (.tup [l.d, prD p]), [o'])) : @Ok _ (fm_law_told [.mu true o, .sh (.tup (ts.map Th.d)), .sh (.lst (dnat sp)), .sh (tg "years")]) k := by
  unfold fm_law_told mx_law_told
  simp only [tg]
  have hs2 := dos.sl
  and_intros
  refine .of (tag_eq (by simp [tags]) (by simp [tags])) ?_
  and_intros
  refine it_neg (by decide) ?_
  and_intros
  refine lcL_inv (fun i acc ρ => ∃ l : List Nat, acc = dnat l ∧ (∀ n ∈ l, ∃ A lo hi, ts[n]? = some (.yrs A lo (some hi))) ∧ (∀ (j n : Nat), j < i → sp[j]? = some n → (∃ A lo hi, ts[n]? = some (.yrs A lo (some hi))) → n ∈ l) ∧ ρ = [some (.mu true o), some (.sh (.tup (ts.map Th.d))), some (.sh (.lst (dnat sp))), some (.sh (.str (Str.ofString "years"))), none, none, none, none, none, none, none]) (by rw [dnat_len, sizeLine_v]; omega) ⟨[], rfl, by simp, fun j n z => absurd z (by omega), rfl⟩ (fun i d acc ρ hd ha ⟨l, e1, e2, e3, e⟩ => ?_) fun out ρ' hl ⟨l, e1, e2, e3, e⟩ => ?_
  · have hx_ := map_at hd
    obtain ⟨hi, er_⟩ := hx_
    subst er_
    have hspi : sp[i]? = some sp[i] := List.getElem?_eq_getElem hi
    have hx_ : ∃ m, m = sp[i] := ⟨_, rfl⟩
    obtain ⟨m, em⟩ := hx_
    rw [← em] at hspi ⊢
    have hm : m < ts.length := by rw [em]; exact dos.sb _ (List.getElem_mem hi)
    have ht : ts[m]? = some ts[m] := List.getElem?_eq_getElem hm
    have hx_ : ∃ t, t = ts[m] := ⟨_, rfl⟩
    obtain ⟨t, et⟩ := hx_
    rw [← et] at ht
    subst e e1
    have hx_ := head_at (t := t)
    obtain ⟨rr, hr⟩ := hx_
    subst_eqs
    refine it_pos (by omega) ?_
    subst_eqs
    refine it_pos hm ?_
    subst_eqs
    refine .of (thing_at ht) ?_
    rw [hr]
    simp only [tg]
    subst_eqs
    refine it_pos (by omega) ?_
    subst_eqs
    refine .of (tag_eq t.tag_mem (by simp [tags])) ?_
    subst_eqs
    have keep : (¬ ∃ A lo hi, ts[m]? = some (.yrs A lo (some hi))) → ∃ l' : List Nat, dnat l = dnat l' ∧ (∀ n ∈ l', ∃ A lo hi, ts[n]? = some (.yrs A lo (some hi))) ∧ (∀ (j n : Nat), j < i + 1 → sp[j]? = some n → (∃ A lo hi, ts[n]? = some (.yrs A lo (some hi))) → n ∈ l') := fun no => by
      refine ⟨l, rfl, e2, fun j n h1 h2 h3 => ?_⟩
      rcases Nat.lt_or_ge j i with h4 | h4
      · exact e3 j n h4 h2 h3
      · have : j = i := by omega
        subst this
        rw [hspi] at h2
        cases h2
        exact absurd h3 no
    refine it_of (fun b1 => ?_) (fun b1 => ?_)
    · have hx_ : ∃ A lo hi2, t = .yrs A lo hi2 := by
        cases t with
        | eld A B => simp [Th.tag] at b1
        | war A => simp [Th.tag] at b1
        | ser rows => simp [Th.tag] at b1
        | yrs A lo hi => exact ⟨_, _, _, rfl⟩
      obtain ⟨A, lo, hi2, er_⟩ := hx_
      subst er_
      subst_eqs
      refine it_pos (by omega) ?_
      subst_eqs
      refine it_pos hm ?_
      subst_eqs
      refine .of (thing_at ht) ?_
      simp only [Th.d]
      subst_eqs
      cases hi2 with
      | none =>
        simp only [optD]
        subst_eqs
        refine keep fun ⟨A', lo', hi', z⟩ => ?_
        rw [ht] at z
        cases z
      | some hi2 =>
        simp only [optD]
        subst_eqs
        refine ⟨l ++ [m], by unfold dnat; rw [List.map_append]; rfl, fun x hx => ?_, fun j n h1 h2 h3 => ?_⟩
        · rcases List.mem_append.mp hx with hx | hx
          · exact e2 x hx
          · rw [List.mem_singleton.mp hx]; exact ⟨_, _, _, ht⟩
        · rcases Nat.lt_or_ge j i with h4 | h4
          · exact List.mem_append_left _ (e3 j n h4 h2 h3)
          · have : j = i := by omega
            subst this
            rw [hspi] at h2
            cases h2
            exact List.mem_append_right _ (by simp)
    · subst_eqs
      refine keep fun ⟨A', lo', hi', z⟩ => ?_
      rw [ht] at z
      cases z
      exact b1 (by simp [Th.tag])
  · subst e e1
    and_intros
    rw [dnat_len] at e3 hl
    have hx_ := dos.early
    obtain ⟨nn, hnn, hyr⟩ := hx_
    have hx_ := List.mem_iff_getElem?.mp hnn
    obtain ⟨jj, hjj⟩ := hx_
    have lm := e3 jj nn (lt_of_get hjj) hjj hyr
    rw [dnat_len] at hl
    refine pickL_ok h (by omega) (dnat_pos lm) (by rw [dnat_len]; omega) fun o1 d g1 hd => ?_
    have hx_ := List.mem_map.mp hd
    obtain ⟨m, hm, er_⟩ := hx_
    subst er_
    have hx_ := e2 m hm
    obtain ⟨A, lo, hi, ht⟩ := hx_
    have hok := dos.ok _ (List.mem_of_getElem? ht)
    have hlt := lt_of_get ht
    and_intros
    refine lcL_inv (fun i acc ρ => ∃ l' : List Nat, acc = dnat l' ∧ (∀ n ∈ l', ∃ A' lo' hi', ts[n]? = some (.yrs A' (some lo') hi') ∧ hi < lo') ∧ ρ = [some (.mu true o1), some (.sh (.tup (ts.map Th.d))), some (.sh (.lst (dnat sp))), some (.sh (.str (Str.ofString "years"))), none, some (.sh (.int m)), none, none, some (.sh (.lst (dnat l))), none, none]) (by rw [dnat_len, sizeLine_v]; omega) ⟨[], rfl, by simp, rfl⟩ (fun i d acc ρ hd ha ⟨l', f1, f2, e⟩ => ?_) fun out ρ' hl' ⟨l', f1, f2, e⟩ => ?_
    · have hx_ := map_at hd
      obtain ⟨hi2, er_⟩ := hx_
      subst er_
      have hx_ : ∃ m, m = sp[i] := ⟨_, rfl⟩
      obtain ⟨m', em⟩ := hx_
      rw [← em]
      have hm' : m' < ts.length := by rw [em]; exact dos.sb _ (List.getElem_mem hi2)
      have ht' : ts[m']? = some ts[m'] := List.getElem?_eq_getElem hm'
      have hx_ : ∃ t, t = ts[m'] := ⟨_, rfl⟩
      obtain ⟨t, et⟩ := hx_
      rw [← et] at ht'
      subst e f1
      have hx_ := head_at (t := t)
      obtain ⟨rr, hr⟩ := hx_
      subst_eqs
      refine it_pos (by omega) ?_
      subst_eqs
      refine it_pos hm' ?_
      subst_eqs
      refine .of (thing_at ht') ?_
      rw [hr]
      simp only [tg]
      subst_eqs
      refine it_pos (by omega) ?_
      subst_eqs
      refine .of (tag_eq t.tag_mem (by simp [tags])) ?_
      subst_eqs
      refine it_of (fun b1 => ?_) (fun b1 => ?_)
      · have hx_ : ∃ A lo hi2, t = .yrs A lo hi2 := by
          cases t with
          | eld A B => simp [Th.tag] at b1
          | war A => simp [Th.tag] at b1
          | ser rows => simp [Th.tag] at b1
          | yrs A lo hi => exact ⟨_, _, _, rfl⟩
        obtain ⟨A', lo', hi', er_⟩ := hx_
        subst er_
        subst_eqs
        refine it_pos (by omega) ?_
        subst_eqs
        refine it_pos hm' ?_
        subst_eqs
        refine .of (thing_at ht') ?_
        simp only [Th.d]
        subst_eqs
        cases lo' with
        | none =>
          simp only [optD]
          subst_eqs
          exact ⟨l', rfl, f2⟩
        | some lo' =>
          simp only [optD]
          subst_eqs
          refine it_pos (by omega) ?_
          subst_eqs
          refine it_pos hm' ?_
          subst_eqs
          refine .of (thing_at ht') ?_
          simp only [Th.d]
          subst_eqs
          refine it_pos (by omega) ?_
          subst_eqs
          refine it_pos hlt ?_
          subst_eqs
          refine .of (thing_at ht) ?_
          simp only [Th.d, optD]
          subst_eqs
          simp only [optD]
          subst_eqs
          refine it_of (fun b2 => ?_) (fun b2 => ?_)
          · subst_eqs
            refine ⟨l' ++ [m'], by unfold dnat; rw [List.map_append]; rfl, fun x hx => ?_⟩
            rcases List.mem_append.mp hx with hx | hx
            · exact f2 x hx
            · rw [List.mem_singleton.mp hx]; exact ⟨_, _, _, ht', b2⟩
          · subst_eqs
            exact ⟨l', rfl, f2⟩
      · subst_eqs
        exact ⟨l', rfl, f2⟩
    · subst e f1
      and_intros
      refine .of (eq_nil (n := 0) dnat_pn (by omega)) ?_
      and_intros
      refine it_of (fun b1 => ?_) (fun b1 => ?_)
      · and_intros
        exact q0 _ (g1.mono (by omega))
      · and_intros
        have lp : 0 < (dnat l').length := by
          rcases hE : dnat l' with _ | ⟨x, y⟩
          · exact absurd hE b1
          · simp
        have ll : (dnat l').length ≤ 19 := by rw [dnat_len] at hl' ⊢; rw [dnat_len] at hl'; omega
        refine pickL_ok g1 (by omega) lp (by omega) fun o2 d g2 hd => ?_
        have hx_ := List.mem_map.mp hd
        obtain ⟨m', hm', er_⟩ := hx_
        subst er_
        have hx_ := f2 m' hm'
        obtain ⟨A', lo', hi', ht', hlo⟩ := hx_
        have hok' := dos.ok _ (List.mem_of_getElem? ht')
        have hlt' := lt_of_get ht'
        subst_eqs
        refine it_pos (by omega) ?_
        subst_eqs
        refine it_pos hlt ?_
        subst_eqs
        refine .of (thing_at ht) ?_
        simp only [Th.d]
        subst_eqs
        refine pickT_ok g2 (by omega) hok.1.1 (by have := hok.1.2.1; omega) fun o3 a g3 ha => ?_
        subst_eqs
        refine it_pos (by omega) ?_
        subst_eqs
        refine it_pos hlt' ?_
        subst_eqs
        refine .of (thing_at ht') ?_
        simp only [Th.d]
        subst_eqs
        refine pickT_ok g3 (by omega) hok'.1.1 (by have := hok'.1.2.1; omega) fun o4 b g4 hb => ?_
        subst_eqs
        exact q _ (.yrs m m' a b) (a, b) g4 rfl (.yrs ht ht' hlo ha hb)
end K91
end L2.My

end
section
set_option Elab.async false
set_option linter.all false
set_option autoImplicit false
set_option maxRecDepth 100000
set_option maxHeartbeats 4000000
/-! Mkc: lines that rest on lines ahead. -/
namespace L2.My
open PySem PySem.Spec PyProof.Rows
namespace K91
variable {F : List D}
def bandD (b : Nat × Nat × List D) : D := .tup [.int b.1, .int b.2.1, .tup b.2.2]
def lkD (b : Nat × List D) : D := .tup [.int b.1, .lst b.2]
def BandsOk (ts : List Th) (bs : List (Nat × Nat × List D)) : Prop := ∀ b ∈ bs, ∃ t, ts[b.1]? = some t ∧ t.bands[b.2.1]? = some b.2.2
def LinksOk (ts : List Th) (ls : List (Nat × List D)) : Prop := ∀ b ∈ ls, ∃ rows, ts[b.1]? = some (.ser rows) ∧ (∀ x ∈ b.2, FarT rows x) ∧ b.2.length ≤ 10000
def PairsOk (F : List D) (ps : List (D × D)) : Prop := ∀ p ∈ ps, p.1 ∈ F ∧ p.2 ∈ F
theorem rb_lot {row : List (List D)} (h : Row F row) : ∀ B ∈ rowBands row, 0 < B.length ∧ B.length ≤ 24 := by
  intro B hB
  unfold rowBands at hB
  rcases List.mem_append.mp hB with hB | hB
  · have := h.lot B hB
    exact ⟨this.1, by have := this.2.1; omega⟩
  · obtain ⟨k, hk, rfl⟩ := List.mem_map.mp hB
    have hk := List.mem_range.mp hk
    have h1 := h.lot _ (getD_mem (k := k) (by omega))
    have h2 := h.lot _ (getD_mem (k := k + 1) (by omega))
    rw [(sort_perm _).length_eq, List.length_append]
    have := h1.1
    have := h1.2.1
    have := h2.2.1
    omega
theorem Th.ok.lot {t : Th} (h : t.ok F) : ∀ B ∈ t.bands, 0 < B.length ∧ B.length ≤ 24 := by
  intro B hB
  cases t with
  | eld A B => exact absurd hB (by simp [Th.bands])
  | war A =>
    have h : Lot F A := h
    rw [show B = A by simpa [Th.bands] using hB]
    exact ⟨h.1, by have := h.2.1; omega⟩
  | ser rows =>
    obtain ⟨r, hr, hB⟩ := List.mem_flatMap.mp hB
    exact rb_lot (h.2 r hr) B hB
  | yrs A lo hi => exact absurd hB (by simp [Th.bands])
theorem pn_of (hF : Finds F) {x : D} (h : x ∈ F) (n : Nat := 0) : Pn n x := (hF.nm x h).pn n
theorem prD_pn (hF : Finds F) {p q : D} (h : p ∈ F) (h2 : q ∈ F) : Pn 1 (.tup [p, q]) := Pn.tup fun x hx => by
  simp only [List.mem_cons, List.not_mem_nil, or_false] at hx
  rcases hx with rfl | rfl
  · exact pn_of hF h
  · exact pn_of hF h2
theorem far_pn (hF : Finds F) {rows : List (List (List D))} (ht : (Th.ser rows).ok F) {x : D} (h : FarT rows x) : Pn 1 x := by
  obtain ⟨row, hr, c, d, hf, rfl⟩ := h
  have := FarT.mem ht ⟨row, hr, c, d, hf, rfl⟩
  exact prD_pn hF this.1 this.2
theorem band_pn (hF : Finds F) {b : Nat × Nat × List D} (h : ∀ x ∈ b.2.2, x ∈ F) : Pn 2 (bandD b) := Pn.tup fun x hx => by
  simp only [List.mem_cons, List.not_mem_nil, or_false] at hx
  rcases hx with rfl | rfl | rfl
  · exact .int _ _
  · exact .int _ _
  · exact Pn.tup fun y hy => pn_of hF (h y hy)
open Classical in
/-- xs == [] -/
theorem eq_nil' {xs : List D} (h : ∀ x ∈ xs, x.pl = true ∧ x.py.canLay0 = true ∧ x.py.depth ≤ 50) : oEq (.lst xs) (.lst []) = some (.sh (.bl (decide (xs = [])))) := by
  have a : ∀ {ys : List D}, (∀ x ∈ ys, x.pl = true ∧ x.py.canLay0 = true ∧ x.py.depth ≤ 50) → (D.lst ys).pl = true ∧ SeqAt.shaped (D.lst ys).py = true := by
    intro ys h
    have a' : (D.lst ys).pl = true := by rw [D.pl]; exact pls_all fun x hx => (h x hx).1
    have b' : (D.lst ys).py.canLay0 = true := by rw [D.py, PyData.canLay0]; exact lay_all fun x hx => (h x hx).2.1
    have c' : (D.lst ys).py.depth ≤ 51 := by
      rw [D.py, PyData.depth]
      have := dep_all fun x hx => (h x hx).2.2
      omega
    refine ⟨a', ?_⟩
    unfold SeqAt.shaped
    rw [b', decide_eq_true (by omega)]; rfl
  unfold oEq
  have e : eqOk (.lst xs) (.lst []) = true := by
    unfold eqOk
    rw [(a h).1, (a h).2, (a (ys := []) (by simp)).1, (a (ys := []) (by simp)).2]; rfl
  rw [if_pos e]
  cases xs <;> simp [D.py, D.pys, PyData.eqv, PyData.eqvAll]
theorem lk_facts {b : Nat × List D} (h : ∀ x ∈ b.2, Pn 1 x) : (lkD b).pl = true ∧ (lkD b).py.canLay0 = true ∧ (lkD b).py.depth ≤ 50 := by
  have a' : (D.lst b.2).pl = true := by rw [D.pl]; exact pls_all fun x hx => (h x hx).facts.1
  have b' : (D.lst b.2).py.canLay0 = true := by rw [D.py, PyData.canLay0]; exact lay_all fun x hx => (h x hx).facts.2.1
  have c' : (D.lst b.2).py.depth ≤ 3 := by
    rw [D.py, PyData.depth]
    have := dep_all fun x hx => (h x hx).facts.2.2
    omega
  unfold lkD
  refine ⟨?_, ?_, ?_⟩
  · rw [D.pl, D.pls, D.pls, D.pls, a', D.pl]; rfl
  · rw [D.py, D.pys, D.pys, D.pys, PyData.canLay0, PyData.canLayAll0, PyData.canLayAll0, PyData.canLayAll0, b', D.py, PyData.canLay0]; rfl
  · rw [D.py, D.pys, D.pys, D.pys, PyData.depth, PyData.depthAll, PyData.depthAll, PyData.depthAll, D.py, PyData.depth]
    omega
theorem pair_at {ps : List (D × D)} {i : Nat} {p q : D} (h : ps[i]? = some (p, q)) : (ps.map prD)[i]? = some (.tup [p, q]) := by rw [List.getElem?_map, h]; rfl
theorem last_or {r : Int} {N : Nat} (h0 : 0 ≤ r) (h1 : r < N) {d : D} (h : d ∈ [D.int r, .int ((N : Int) - 1)]) : ∃ i : Nat, d = .int i ∧ i < N := by
  simp only [List.mem_cons, List.not_mem_nil, or_false] at h
  rcases h with h | h
  · exact ⟨r.toNat, by rw [h, Int.toNat_of_nonneg h0], by omega⟩
  · exact ⟨N - 1, by rw [h]; congr 1; omega, by omega⟩
end K91
end L2.My

end
section
set_option Elab.async false
set_option linter.all false
set_option autoImplicit false
set_option maxRecDepth 100000
set_option maxHeartbeats 4000000
/-! Mkd: side, link, chain: what moved gives. -/
namespace L2.My
open PySem PySem.Spec PyProof.Rows
local macro_rules | `(tactic| and_intros) => `(tactic| simp only [↓ok_some, ↓ok_bind, ↓ok_ite, it_true, it_false, ↓k_mV, ↓k_mE, ↓k_mF, ↓k_mVar, ↓k_mC, ↓k_mNm, ↓k_m1, ↓k_m2, ↓k_mT, ↓k_mAndT, ↓k_mOrT, ↓k_mNotT, ↓k_mIf, ↓k_mAndV, ↓k_mOrV, ↓k_mNotV, ↓k_mIsi, ↓k_mNil, ↓k_mCons, ↓k_mTup, ↓k_mLst, ↓k_mANil, ↓k_mACons, ↓k_mVE, ↓k_mCall, ↓k_args0, ↓k_args1, ↓k_sSeq, ↓k_then1, ↓k_then2, ↓k_then3, ↓k_then4, ↓k_sNil, ↓k_sSet, ↓k_sExpr, ↓k_sRet, ↓k_sIf, ↓k_sBreak, ↓k_sCont, ↓k_gNm, ↓k_gsNil, ↓k_gsCons, ↓k_gTp, ↓k_sAsg, ↓k_sPar, ↓k_mSo, ↓k_mNo, ↓k_mSl, ↓k_mApp, ↓k_mExt, ↓k_mPop, ↓k_sSetI, ↓k_mIndex, ↓k_mGet, ↓k_mLR1, ↓k_mRng1, ↓k_mItems, ↓k_mEnum, ↓k_mEnumZ, ↓k_sFor, ↓k_fLc, ↓k_mYes, ↓k_mMake, ↓k_sFldI, ↓k_mAnyIn, ↓k_mJoined, ↓k_jNil, ↓k_jCons, ↓k_mDict, ↓k_pNil, ↓k_pCons, ↓k_mChain, ↓k_chain1, ↓k_chain2, ↓k_fnM, ↓k_end1, ↓k_end2, ↓k_outs0, ↓k_outs1, ↓k_outs2, q_mVarS1, q_mVarS2, q_look1, q_look2, q_lookS1, q_lookS2, q_d1, q_d2, q_od1, q_od2, q_od3, q_boolR, q_arg1, q_arg2, q_argS, q_slots0, q_slots1, q_slots2, q_put0, q_put1, q_put2, q_putS, q_slotOf1, q_slotOf2, q_intOf, q_lstS, q_items1, q_items2, q_tupD, q_insS, q_strD, q_outS, p_ix1, p_ix2, p_ix3, p_atI, p_ixN, p_add, p_addS, p_addT, p_addL, p_sub, p_mul, p_div, p_mod, p_pow, p_neg, p_lt, p_le, p_gt, p_ge, p_len1, p_len2, p_len3, p_int, p_abs, p_str, p_max, p_list1, p_list2, p_tuple1, p_tuple2, p_isN, p_notN, p_non1, p_non2, p_non3, p_non4, p_non5, p_isi, p_ty1, p_ty2, p_ty3, p_ty4, p_ty5, p_ty6, p_isi_NoneType_bool, p_isi_NoneType_int, p_isi_NoneType_str, p_isi_NoneType_tuple, p_isi_bool_bool, p_isi_bool_int, p_isi_bool_str, p_isi_bool_tuple, p_isi_int_bool, p_isi_int_int, p_isi_int_str, p_isi_int_tuple, p_isi_str_bool, p_isi_str_int, p_isi_str_str, p_isi_str_tuple, p_isi_tuple_bool, p_isi_tuple_int, p_isi_tuple_str, p_isi_tuple_tuple, p_isi_list_bool, p_isi_list_int, p_isi_list_str, p_isi_list_tuple, p_in, p_notIn, p_eqI, p_neI, p_eqB, p_neB, p_fmt1, p_fmt2, p_fld, p_sl1, p_sl2, p_sl3, q_makeR, q_clean0, q_clean1, q_cleanS1, q_cleanS2, q_wipe0, q_wipe1, q_back0, q_back1, q_join1, q_and1, q_outP1, q_outP2, q_outP3, q_outP4, List.map_cons, List.map_nil, List.cons_append, List.nil_append, List.append_nil, List.length_cons, List.length_nil, List.getElem?_cons_zero, List.getElem?_cons_succ, List.getElem?_nil, List.set_cons_zero, List.set_cons_succ, Nat.reduceAdd, Nat.reduceSub, List.replicate_succ, List.replicate_zero, Nat.zero_add, reduceIte, Nat.reduceLeDiff, Nat.reduceLT, List.nodup_cons, List.nodup_nil, List.not_mem_nil, not_false_eq_true, and_true, and_self, List.mem_cons, or_false, Nat.reduceEqDiff, Bool.not_true, Bool.not_false, Bool.false_eq_true, true_and, and_false, false_and, reduceCtorEq, if_true, if_false, Int.reduceLE, Int.reduceLT, Int.reduceToNat, Int.reduceNeg, Int.reduceAdd, Int.reduceSub, Int.reduceMul, Int.reduceEq, Nat.reduceMul, decide_eq_true_eq, List.length_set, decide_true, decide_false, Int.toNat_natCast, Bool.not_eq_true, ne_eq])
local macro_rules | `(tactic| subst_eqs) => `(tactic| simp only [↓ok_some, ↓ok_bind, ↓ok_ite, it_true, it_false, ↓k_mV, ↓k_mE, ↓k_mF, ↓k_mVar, ↓k_mC, ↓k_mNm, ↓k_m1, ↓k_m2, ↓k_mT, ↓k_mAndT, ↓k_mOrT, ↓k_mNotT, ↓k_mIf, ↓k_mAndV, ↓k_mOrV, ↓k_mNotV, ↓k_mIsi, ↓k_mNil, ↓k_mCons, ↓k_mTup, ↓k_mLst, ↓k_mANil, ↓k_mACons, ↓k_mVE, ↓k_mCall, ↓k_args0, ↓k_args1, ↓k_sSeq, ↓k_then1, ↓k_then2, ↓k_then3, ↓k_then4, ↓k_sNil, ↓k_sSet, ↓k_sExpr, ↓k_sRet, ↓k_sIf, ↓k_sBreak, ↓k_sCont, ↓k_gNm, ↓k_gsNil, ↓k_gsCons, ↓k_gTp, ↓k_sAsg, ↓k_sPar, ↓k_mSo, ↓k_mNo, ↓k_mSl, ↓k_mApp, ↓k_mExt, ↓k_mPop, ↓k_sSetI, ↓k_mIndex, ↓k_mGet, ↓k_mLR1, ↓k_mRng1, ↓k_mItems, ↓k_mEnum, ↓k_mEnumZ, ↓k_sFor, ↓k_fLc, ↓k_mYes, ↓k_mMake, ↓k_sFldI, ↓k_mAnyIn, ↓k_mJoined, ↓k_jNil, ↓k_jCons, ↓k_mDict, ↓k_pNil, ↓k_pCons, ↓k_mChain, ↓k_chain1, ↓k_chain2, ↓k_fnM, ↓k_end1, ↓k_end2, ↓k_outs0, ↓k_outs1, ↓k_outs2, q_mVarS1, q_mVarS2, q_look1, q_look2, q_lookS1, q_lookS2, q_d1, q_d2, q_od1, q_od2, q_od3, q_boolR, q_arg1, q_arg2, q_argS, q_slots0, q_slots1, q_slots2, q_put0, q_put1, q_put2, q_putS, q_slotOf1, q_slotOf2, q_intOf, q_lstS, q_items1, q_items2, q_tupD, q_insS, q_strD, q_outS, p_ix1, p_ix2, p_ix3, p_atI, p_ixN, p_add, p_addS, p_addT, p_addL, p_sub, p_mul, p_div, p_mod, p_pow, p_neg, p_lt, p_le, p_gt, p_ge, p_len1, p_len2, p_len3, p_int, p_abs, p_str, p_max, p_list1, p_list2, p_tuple1, p_tuple2, p_isN, p_notN, p_non1, p_non2, p_non3, p_non4, p_non5, p_isi, p_ty1, p_ty2, p_ty3, p_ty4, p_ty5, p_ty6, p_isi_NoneType_bool, p_isi_NoneType_int, p_isi_NoneType_str, p_isi_NoneType_tuple, p_isi_bool_bool, p_isi_bool_int, p_isi_bool_str, p_isi_bool_tuple, p_isi_int_bool, p_isi_int_int, p_isi_int_str, p_isi_int_tuple, p_isi_str_bool, p_isi_str_int, p_isi_str_str, p_isi_str_tuple, p_isi_tuple_bool, p_isi_tuple_int, p_isi_tuple_str, p_isi_tuple_tuple, p_isi_list_bool, p_isi_list_int, p_isi_list_str, p_isi_list_tuple, p_in, p_notIn, p_eqI, p_neI, p_eqB, p_neB, p_fmt1, p_fmt2, p_fld, p_sl1, p_sl2, p_sl3, q_makeR, q_clean0, q_clean1, q_cleanS1, q_cleanS2, q_wipe0, q_wipe1, q_back0, q_back1, q_join1, q_and1, q_outP1, q_outP2, q_outP3, q_outP4, List.map_cons, List.map_nil, List.cons_append, List.nil_append, List.append_nil, List.length_cons, List.length_nil, List.getElem?_cons_zero, List.getElem?_cons_succ, List.getElem?_nil, List.set_cons_zero, List.set_cons_succ, Nat.reduceAdd, Nat.reduceSub, List.replicate_succ, List.replicate_zero, Nat.zero_add, reduceIte, Nat.reduceLeDiff, Nat.reduceLT, List.nodup_cons, List.nodup_nil, List.not_mem_nil, not_false_eq_true, and_true, and_self, List.mem_cons, or_false, Nat.reduceEqDiff, Bool.not_true, Bool.not_false, Bool.false_eq_true, true_and, and_false, false_and, reduceCtorEq, if_true, if_false, Int.reduceLE, Int.reduceLT, Int.reduceToNat, Int.reduceNeg, Int.reduceAdd, Int.reduceSub, Int.reduceMul, Int.reduceEq, Nat.reduceMul, decide_eq_true_eq, List.length_set, decide_true, decide_false, Int.toNat_natCast, Bool.not_eq_true, ne_eq, List.length_map, List.length_append])
namespace K91
variable {F : List D}
theorem side_ok {ts : List Th} {sp : List Nat} (dos : Dos F ts sp) {bs : List (Nat × Nat × List D)} (hb : BandsOk ts bs) (hbl : bs.length ≤ 10000) {L : D} {ps : List (D × D)} (hp : PairsOk F ps) (p0 : 0 < ps.length) (pl : ps.length ≤ 10000) {n : Nat} {o : MO} (h : Dk n o) (hn : n + 5 ≤ 1000000) {k : Ct (RV × List MO)}
    (q0 : ∀ o', Dk (n + 5) o' → k.run (.sh .non, [o', .lst (ps.map prD)]))
    (q : ∀ (o' : MO) (l : Ln) (p : D × D), Dk (n + 5) o' → Right ts ps l p → k.run (.sh (.tup [l.d, prD p]), [o', .lst (ps.map prD)])) : @Ok _ (fm_law_moved [.mu true o, .sh (.tup (ts.map Th.d)), .sh (.lst (bs.map bandD)), .sh L, .mu true (.lst (ps.map prD)), .sh (tg "side")]) k := by
  unfold fm_law_moved mx_law_moved
  simp only [tg]
  have hF := dos.f
  subst_eqs
  refine draw_ok h (by omega) (by omega) (by omega) fun o1 r g1 r0 r1 => ?_
  subst_eqs
  refine pickL_ok g1 (by omega) (by simp) (by simp) fun o2 d g2 hd => ?_
  have hx_ := last_or r0 r1 hd
  obtain ⟨i, er_, hi⟩ := hx_
  subst er_
  have hpi : ps[i]? = some (ps[i].1, ps[i].2) := List.getElem?_eq_getElem hi
  have hx_ : ∃ a b, ps[i]? = some (a, b) ∧ a ∈ F ∧ b ∈ F := ⟨_, _, hpi, hp _ (List.getElem_mem hi)⟩
  obtain ⟨a, b, hab, ha, hb2⟩ := hx_
  subst_eqs
  refine it_pos (by omega) ?_
  subst_eqs
  refine it_pos hi ?_
  subst_eqs
  refine .of (pair_at hab) ?_
  subst_eqs
  refine .of (tag_eq (by simp [tags]) (by simp [tags])) ?_
  subst_eqs
  refine lcL_inv (fun i' acc ρ => ∃ l : List (Nat × Nat × List D), acc = l.map bandD ∧ (∀ z ∈ l, z ∈ bs ∧ ¬ (a ∈ z.2.2 ↔ b ∈ z.2.2)) ∧ ρ = [some (.mu true o2), some (.sh (.tup (ts.map Th.d))), some (.sh (.lst (bs.map bandD))), some (.sh L), some (.mu true (.lst (ps.map prD))), some (.sh (.str (Str.ofString "side"))), some (.sh (.int i)), some (.sh a), some (.sh b), none, none, none, none, none, none, none, none, none, none]) (by rw [List.length_map, sizeLine_v]; omega) ⟨[], rfl, by simp, rfl⟩ (fun i' d acc ρ hd hacc ⟨l, e1, e2, e⟩ => ?_) fun out ρ' hl ⟨l, e1, e2, e⟩ => ?_
  · have hx_ := map_at hd
    obtain ⟨hi', er_⟩ := hx_
    have hzb : bs[i'] ∈ bs := List.getElem_mem hi'
    have hx_ : ∃ z, z = bs[i'] := ⟨_, rfl⟩
    obtain ⟨z, ez⟩ := hx_
    rw [← ez] at er_ hzb
    subst er_ e e1
    have hx_ := hb z hzb
    obtain ⟨t, t1, t2⟩ := hx_
    have hzF : ∀ x ∈ z.2.2, x ∈ F := (dos.ok _ (List.mem_of_getElem? t1)).bands _ (List.mem_of_getElem? t2)
    simp only [bandD]
    subst_eqs
    refine .of (in_tup (pn_of hF ha) fun x hx => pn_of hF (hzF x hx)) ?_
    subst_eqs
    refine .of (in_tup (pn_of hF hb2) fun x hx => pn_of hF (hzF x hx)) ?_
    subst_eqs
    refine it_of (fun b1 => ?_) (fun b1 => ?_)
    · subst_eqs
      refine ⟨l ++ [z], by rw [List.map_append]; rfl, fun x hx => ?_⟩
      rcases List.mem_append.mp hx with hx | hx
      · exact e2 x hx
      · rw [List.mem_singleton.mp hx]; exact ⟨hzb, by simpa using b1⟩
    · subst_eqs
      exact ⟨l, rfl, e2⟩
  · subst e e1
    and_intros
    refine .of (eq_nil (n := 2) (fun x hx => ?_) (by omega)) ?_
    · obtain ⟨z, hz, rfl⟩ := List.mem_map.mp hx
      obtain ⟨t, t1, t2⟩ := hb z (e2 z hz).1
      exact band_pn hF ((dos.ok _ (List.mem_of_getElem? t1)).bands _ (List.mem_of_getElem? t2))
    and_intros
    refine it_of (fun b1 => ?_) (fun b1 => ?_)
    · and_intros
      exact q0 _ (g2.mono (by omega))
    · and_intros
      have lp : 0 < (l.map bandD).length := by
        cases l with
        | nil => exact absurd rfl b1
        | cons x y => simp
      rw [List.length_map, List.length_map] at hl
      refine pickL_ok g2 (by omega) lp (by rw [List.length_map]; omega) fun o3 d g3 hd => ?_
      have hx_ := List.mem_map.mp hd
      obtain ⟨z, hz, er_⟩ := hx_
      subst er_
      have hz2 := e2 z hz
      have hx_ := hb z hz2.1
      obtain ⟨t, t1, t2⟩ := hx_
      have tok := dos.ok _ (List.mem_of_getElem? t1)
      have hzF : ∀ x ∈ z.2.2, x ∈ F := tok.bands _ (List.mem_of_getElem? t2)
      have hzl := tok.lot _ (List.mem_of_getElem? t2)
      simp only [bandD]
      and_intros
      refine .of (in_tup (pn_of hF ha) fun x hx => pn_of hF (hzF x hx)) ?_
      and_intros
      refine it_of (fun b2 => ?_) (fun b2 => ?_)
      · and_intros
        refine pickT_ok g3 (by omega) hzl.1 (by omega) fun o4 x g4 hx => ?_
        and_intros
        refine it_pos (by rw [sizeLine_v]; omega) ?_
        and_intros
        exact q o4 (.side i z.1 z.2.1 x b) (x, b) (g4.mono (by omega)) (.side1 hab t1 t2 b2 (fun z => hz2.2 ⟨fun _ => z, fun _ => b2⟩) hx)
      · and_intros
        refine pickT_ok g3 (by omega) hzl.1 (by omega) fun o4 x g4 hx => ?_
        and_intros
        refine it_pos (by rw [sizeLine_v]; omega) ?_
        and_intros
        refine q o4 (.side i z.1 z.2.1 a x) (a, x) (g4.mono (by omega)) (.side2 hab t1 t2 b2 ?_ hx)
        refine Classical.byContradiction fun z => hz2.2 ⟨fun y => absurd y b2, fun y => absurd y z⟩
theorem link_ok {ts : List Th} {sp : List Nat} (dos : Dos F ts sp) {ls : List (Nat × List D)} (hb : LinksOk ts ls) (hbl : ls.length ≤ 10000) {L : D} {ps : List (D × D)} (hp : PairsOk F ps) (p0 : 0 < ps.length) (pl : ps.length ≤ 10000) {n : Nat} {o : MO} (h : Dk n o) (hn : n + 5 ≤ 1000000) {k : Ct (RV × List MO)}
    (q0 : ∀ o', Dk (n + 5) o' → k.run (.sh .non, [o', .lst (ps.map prD)]))
    (q : ∀ (o' : MO) (l : Ln) (p : D × D), Dk (n + 5) o' → Right ts ps l p → k.run (.sh (.tup [l.d, prD p]), [o', .lst (ps.map prD)])) : @Ok _ (fm_law_moved [.mu true o, .sh (.tup (ts.map Th.d)), .sh L, .sh (.lst (ls.map lkD)), .mu true (.lst (ps.map prD)), .sh (tg "link")]) k := by
  unfold fm_law_moved mx_law_moved
  simp only [tg]
  have hF := dos.f
  subst_eqs
  refine draw_ok h (by omega) (by omega) (by omega) fun o1 r g1 r0 r1 => ?_
  subst_eqs
  refine pickL_ok g1 (by omega) (by simp) (by simp) fun o2 d g2 hd => ?_
  have hx_ := last_or r0 r1 hd
  obtain ⟨i, er_, hi⟩ := hx_
  subst er_
  have hpi : ps[i]? = some (ps[i].1, ps[i].2) := List.getElem?_eq_getElem hi
  have hx_ : ∃ a b, ps[i]? = some (a, b) ∧ a ∈ F ∧ b ∈ F := ⟨_, _, hpi, hp _ (List.getElem_mem hi)⟩
  obtain ⟨a, b, hab, ha, hb2⟩ := hx_
  subst_eqs
  refine it_pos (by omega) ?_
  subst_eqs
  refine it_pos hi ?_
  subst_eqs
  refine .of (pair_at hab) ?_
  subst_eqs
  refine .of (tag_eq (by simp [tags]) (by simp [tags])) ?_
  subst_eqs
  refine it_neg (by decide) ?_
  subst_eqs
  refine .of (tag_eq (by simp [tags]) (by simp [tags])) ?_
  subst_eqs
  refine lcL_inv (fun i' acc ρ => ∃ l : List (Nat × List D), acc = l.map lkD ∧ (∀ z ∈ l, z ∈ ls ∧ (D.tup [a, b] ∈ z.2 ∨ D.tup [b, a] ∈ z.2)) ∧ ρ = [some (.mu true o2), some (.sh (.tup (ts.map Th.d))), some (.sh L), some (.sh (.lst (ls.map lkD))), some (.mu true (.lst (ps.map prD))), some (.sh (.str (Str.ofString "link"))), some (.sh (.int i)), some (.sh a), some (.sh b), none, none, none, none, none, none, none, none, none, none]) (by rw [List.length_map, sizeLine_v]; omega) ⟨[], rfl, by simp, rfl⟩ (fun i' d acc ρ hd hacc ⟨l, e1, e2, e⟩ => ?_) fun out ρ' hl ⟨l, e1, e2, e⟩ => ?_
  · have hx_ := map_at hd
    obtain ⟨hi', er_⟩ := hx_
    have hzb : ls[i'] ∈ ls := List.getElem_mem hi'
    have hx_ : ∃ z, z = ls[i'] := ⟨_, rfl⟩
    obtain ⟨z, ez⟩ := hx_
    rw [← ez] at er_ hzb
    subst er_ e e1
    have hx_ := hb z hzb
    obtain ⟨rows, t1, t2, t3⟩ := hx_
    have tok := dos.ok _ (List.mem_of_getElem? t1)
    have zp : ∀ x ∈ z.2, Pn 1 x := fun x hx => far_pn hF tok (t2 x hx)
    have keep : (D.tup [a, b] ∈ z.2 ∨ D.tup [b, a] ∈ z.2) → ∃ l' : List (Nat × List D), l.map lkD ++ [D.tup [.int z.1, .lst z.2]] = l'.map lkD ∧ (∀ z ∈ l', z ∈ ls ∧ (D.tup [a, b] ∈ z.2 ∨ D.tup [b, a] ∈ z.2)) := fun hz => by
      refine ⟨l ++ [z], by rw [List.map_append]; rfl, fun x hx => ?_⟩
      rcases List.mem_append.mp hx with hx | hx
      · exact e2 x hx
      · rw [List.mem_singleton.mp hx]; exact ⟨hzb, hz⟩
    simp only [lkD]
    subst_eqs
    refine .of (in_lst (prD_pn hF ha hb2) zp (by omega) (by omega)) ?_
    subst_eqs
    refine it_of (fun b1 => ?_) (fun b1 => ?_)
    · subst_eqs
      exact keep (.inl b1)
    · subst_eqs
      refine .of (in_lst (prD_pn hF hb2 ha) zp (by omega) (by omega)) ?_
      subst_eqs
      refine it_of (fun b2 => ?_) (fun b2 => ?_)
      · subst_eqs
        exact keep (.inr b2)
      · subst_eqs
        exact ⟨l, rfl, e2⟩
  · subst e e1
    and_intros
    refine .of (eq_nil' (fun x hx => ?_)) ?_
    · obtain ⟨z, hz, rfl⟩ := List.mem_map.mp hx
      obtain ⟨t, t1, t2, t3⟩ := hb z (e2 z hz).1
      exact lk_facts fun x hx => far_pn hF (dos.ok _ (List.mem_of_getElem? t1)) (t2 x hx)
    and_intros
    refine it_of (fun b1 => ?_) (fun b1 => ?_)
    · and_intros
      exact q0 _ (g2.mono (by omega))
    · and_intros
      have lp : 0 < (l.map lkD).length := by
        cases l with
        | nil => exact absurd rfl b1
        | cons x y => simp
      rw [List.length_map, List.length_map] at hl
      refine pickL_ok g2 (by omega) lp (by rw [List.length_map]; omega) fun o3 d g3 hd => ?_
      have hx_ := List.mem_map.mp hd
      obtain ⟨z, hz, er_⟩ := hx_
      subst er_
      have hz2 := e2 z hz
      have hx_ := hb z hz2.1
      obtain ⟨rows, t1, t2, t3⟩ := hx_
      have tok := dos.ok _ (List.mem_of_getElem? t1)
      have zp : ∀ x ∈ z.2, Pn 1 x := fun x hx => far_pn hF tok (t2 x hx)
      have z0 : 0 < z.2.length := by
        rcases hz2.2 with hz | hz <;> exact List.length_pos_of_mem hz
      simp only [lkD]
      and_intros
      refine pickL_ok g3 (by omega) z0 (by omega) fun o4 x g4 hx => ?_
      have hfar := t2 x hx
      have hx_ := hfar
      obtain ⟨row, hr, c, d, hf, er_⟩ := hx_
      subst er_
      and_intros
      refine .of (in_lst (prD_pn hF ha hb2) zp (by omega) (by omega)) ?_
      and_intros
      refine it_of (fun b2 => ?_) (fun b2 => ?_)
      · and_intros
        refine it_pos (by rw [sizeLine_v]; omega) ?_
        and_intros
        exact q o4 (.link i z.1 c d) (c, d) (g4.mono (by omega)) (.link1 hab t1 (t2 _ b2) hfar)
      · and_intros
        refine it_pos (by rw [sizeLine_v]; omega) ?_
        and_intros
        exact q o4 (.link i z.1 d c) (d, c) (g4.mono (by omega)) (.link2 hab t1 (t2 _ (hz2.2.resolve_left b2)) hfar)
theorem chain_ok {ts : List Th} {sp : List Nat} (dos : Dos F ts sp) {L L' : D} {ps : List (D × D)} (hp : PairsOk F ps) (p0 : 0 < ps.length) (pl : ps.length ≤ 10000) {n : Nat} {o : MO} (h : Dk n o) (hn : n + 5 ≤ 1000000) {k : Ct (RV × List MO)}
    (q0 : ∀ o', Dk (n + 5) o' → k.run (.sh .non, [o', .lst (ps.map prD)]))
    (q : ∀ (o' : MO) (l : Ln) (p : D × D), Dk (n + 5) o' → Right ts ps l p → k.run (.sh (.tup [l.d, prD p]), [o', .lst (ps.map prD)])) : @Ok _ (fm_law_moved [.mu true o, .sh (.tup (ts.map Th.d)), .sh L, .sh L', .mu true (.lst (ps.map prD)), .sh (tg "chain")]) k := by
  unfold fm_law_moved mx_law_moved
  simp only [tg]
  have hF := dos.f
  subst_eqs
  refine draw_ok h (by omega) (by omega) (by omega) fun o1 r g1 r0 r1 => ?_
  subst_eqs
  refine pickL_ok g1 (by omega) (by simp) (by simp) fun o2 d g2 hd => ?_
  have hx_ := last_or r0 r1 hd
  obtain ⟨i, er_, hi⟩ := hx_
  subst er_
  have hpi : ps[i]? = some (ps[i].1, ps[i].2) := List.getElem?_eq_getElem hi
  have hx_ : ∃ a b, ps[i]? = some (a, b) ∧ a ∈ F ∧ b ∈ F := ⟨_, _, hpi, hp _ (List.getElem_mem hi)⟩
  obtain ⟨a, b, hab, ha, hb2⟩ := hx_
  subst_eqs
  refine it_pos (by omega) ?_
  subst_eqs
  refine it_pos hi ?_
  subst_eqs
  refine .of (pair_at hab) ?_
  subst_eqs
  refine .of (tag_eq (by simp [tags]) (by simp [tags])) ?_
  subst_eqs
  refine it_neg (by decide) ?_
  subst_eqs
  refine .of (tag_eq (by simp [tags]) (by simp [tags])) ?_
  subst_eqs
  refine it_neg (by decide) ?_
  subst_eqs
  refine it_pos ⟨by omega, by omega⟩ ?_
  subst_eqs
  refine lcL_inv (fun i' acc ρ => ∃ l : List Nat, acc = dnat l ∧ (∀ j ∈ l, ∃ c, ps[j]? = some (b, c)) ∧ ρ = [some (.mu true o2), some (.sh (.tup (ts.map Th.d))), some (.sh L), some (.sh L'), some (.mu true (.lst (ps.map prD))), some (.sh (.str (Str.ofString "chain"))), some (.sh (.int i)), some (.sh a), some (.sh b), none, none, none, none, none, none, none, none, none, none]) (by rw [rng_len, sizeLine_v]; omega) ⟨[], rfl, by simp, rfl⟩ (fun i' d acc ρ hd hacc ⟨l, e1, e2, e⟩ => ?_) fun out ρ' hl ⟨l, e1, e2, e⟩ => ?_
  · have hx_ := rng_at hd
    obtain ⟨hi', er_⟩ := hx_
    subst er_ e e1
    have hx_ : ∃ c d, ps[i']? = some (c, d) ∧ c ∈ F ∧ d ∈ F := ⟨_, _, List.getElem?_eq_getElem hi', hp _ (List.getElem_mem hi')⟩
    obtain ⟨c, d, hcd, hc, hd2⟩ := hx_
    subst_eqs
    refine it_pos (by omega) ?_
    subst_eqs
    refine it_pos hi' ?_
    subst_eqs
    refine .of (pair_at hcd) ?_
    subst_eqs
    refine .of (eq_pn (pn_of hF hc) (pn_of hF hb2) (by omega) (by omega)) ?_
    subst_eqs
    refine it_of (fun b1 => ?_) (fun b1 => ?_)
    · subst_eqs
      refine ⟨l ++ [i'], by unfold dnat; rw [List.map_append]; rfl, fun x hx => ?_⟩
      rcases List.mem_append.mp hx with hx | hx
      · exact e2 x hx
      · rw [List.mem_singleton.mp hx, hcd, b1]; exact ⟨_, rfl⟩
    · subst_eqs
      exact ⟨l, rfl, e2⟩
  · subst e e1
    and_intros
    refine .of (eq_nil (n := 0) dnat_pn (by omega)) ?_
    and_intros
    refine it_of (fun b1 => ?_) (fun b1 => ?_)
    · and_intros
      exact q0 _ (g2.mono (by omega))
    · and_intros
      have lp : 0 < (dnat l).length := by
        cases l with
        | nil => exact absurd rfl b1
        | cons x y => simp [dnat]
      rw [rng_len] at hl
      refine pickL_ok g2 (by omega) lp (by omega) fun o3 d g3 hd => ?_
      have hx_ := List.mem_map.mp hd
      obtain ⟨j, hj, er_⟩ := hx_
      subst er_
      have hx_ := e2 j hj
      obtain ⟨c, hjc⟩ := hx_
      have hjl := lt_of_get hjc
      subst_eqs
      refine it_pos (by omega) ?_
      subst_eqs
      refine it_pos hjl ?_
      subst_eqs
      refine .of (pair_at hjc) ?_
      subst_eqs
      exact q o3 (.chain i j) (a, c) (g3.mono (by omega)) (.chain hab hjc)
end K91
end L2.My

end
section
set_option Elab.async false
set_option linter.all false
set_option autoImplicit false
set_option maxRecDepth 100000
set_option maxHeartbeats 4000000
/-! Mke: all lines. -/
namespace L2.My
open PySem PySem.Spec PyProof.Rows
local macro_rules | `(tactic| and_intros) => `(tactic| simp only [↓ok_some, ↓ok_bind, ↓ok_ite, it_true, it_false, ↓k_mV, ↓k_mE, ↓k_mF, ↓k_mVar, ↓k_mC, ↓k_mNm, ↓k_m1, ↓k_m2, ↓k_mT, ↓k_mAndT, ↓k_mOrT, ↓k_mNotT, ↓k_mIf, ↓k_mAndV, ↓k_mOrV, ↓k_mNotV, ↓k_mIsi, ↓k_mNil, ↓k_mCons, ↓k_mTup, ↓k_mLst, ↓k_mANil, ↓k_mACons, ↓k_mVE, ↓k_mCall, ↓k_args0, ↓k_args1, ↓k_sSeq, ↓k_then1, ↓k_then2, ↓k_then3, ↓k_then4, ↓k_sNil, ↓k_sSet, ↓k_sExpr, ↓k_sRet, ↓k_sIf, ↓k_sBreak, ↓k_sCont, ↓k_gNm, ↓k_gsNil, ↓k_gsCons, ↓k_gTp, ↓k_sAsg, ↓k_sPar, ↓k_mSo, ↓k_mNo, ↓k_mSl, ↓k_mApp, ↓k_mExt, ↓k_mPop, ↓k_sSetI, ↓k_mIndex, ↓k_mGet, ↓k_mLR1, ↓k_mRng1, ↓k_mItems, ↓k_mEnum, ↓k_mEnumZ, ↓k_sFor, ↓k_fLc, ↓k_mYes, ↓k_mMake, ↓k_sFldI, ↓k_mAnyIn, ↓k_mJoined, ↓k_jNil, ↓k_jCons, ↓k_mDict, ↓k_pNil, ↓k_pCons, ↓k_mChain, ↓k_chain1, ↓k_chain2, ↓k_fnM, ↓k_end1, ↓k_end2, ↓k_outs0, ↓k_outs1, ↓k_outs2, q_mVarS1, q_mVarS2, q_look1, q_look2, q_lookS1, q_lookS2, q_d1, q_d2, q_od1, q_od2, q_od3, q_boolR, q_arg1, q_arg2, q_argS, q_slots0, q_slots1, q_slots2, q_put0, q_put1, q_put2, q_putS, q_slotOf1, q_slotOf2, q_intOf, q_lstS, q_items1, q_items2, q_tupD, q_insS, q_strD, q_outS, p_ix1, p_ix2, p_ix3, p_atI, p_ixN, p_add, p_addS, p_addT, p_addL, p_sub, p_mul, p_div, p_mod, p_pow, p_neg, p_lt, p_le, p_gt, p_ge, p_len1, p_len2, p_len3, p_int, p_abs, p_str, p_max, p_list1, p_list2, p_tuple1, p_tuple2, p_isN, p_notN, p_non1, p_non2, p_non3, p_non4, p_non5, p_isi, p_ty1, p_ty2, p_ty3, p_ty4, p_ty5, p_ty6, p_isi_NoneType_bool, p_isi_NoneType_int, p_isi_NoneType_str, p_isi_NoneType_tuple, p_isi_bool_bool, p_isi_bool_int, p_isi_bool_str, p_isi_bool_tuple, p_isi_int_bool, p_isi_int_int, p_isi_int_str, p_isi_int_tuple, p_isi_str_bool, p_isi_str_int, p_isi_str_str, p_isi_str_tuple, p_isi_tuple_bool, p_isi_tuple_int, p_isi_tuple_str, p_isi_tuple_tuple, p_isi_list_bool, p_isi_list_int, p_isi_list_str, p_isi_list_tuple, p_in, p_notIn, p_eqI, p_neI, p_eqB, p_neB, p_fmt1, p_fmt2, p_fld, p_sl1, p_sl2, p_sl3, q_makeR, q_clean0, q_clean1, q_cleanS1, q_cleanS2, q_wipe0, q_wipe1, q_back0, q_back1, q_join1, q_and1, q_outP1, q_outP2, q_outP3, q_outP4, List.map_cons, List.map_nil, List.cons_append, List.nil_append, List.append_nil, List.length_cons, List.length_nil, List.getElem?_cons_zero, List.getElem?_cons_succ, List.getElem?_nil, List.set_cons_zero, List.set_cons_succ, Nat.reduceAdd, Nat.reduceSub, List.replicate_succ, List.replicate_zero, Nat.zero_add, reduceIte, Nat.reduceLeDiff, Nat.reduceLT, List.nodup_cons, List.nodup_nil, List.not_mem_nil, not_false_eq_true, and_true, and_self, List.mem_cons, or_false, Nat.reduceEqDiff, Bool.not_true, Bool.not_false, Bool.false_eq_true, true_and, and_false, false_and, reduceCtorEq, if_true, if_false, Int.reduceLE, Int.reduceLT, Int.reduceToNat, Int.reduceNeg, Int.reduceAdd, Int.reduceSub, Int.reduceMul, Int.reduceEq, Nat.reduceMul, decide_eq_true_eq, List.length_set, decide_true, decide_false, Int.toNat_natCast, Bool.not_eq_true, ne_eq])
local macro_rules | `(tactic| subst_eqs) => `(tactic| simp only [↓ok_some, ↓ok_bind, ↓ok_ite, it_true, it_false, ↓k_mV, ↓k_mE, ↓k_mF, ↓k_mVar, ↓k_mC, ↓k_mNm, ↓k_m1, ↓k_m2, ↓k_mT, ↓k_mAndT, ↓k_mOrT, ↓k_mNotT, ↓k_mIf, ↓k_mAndV, ↓k_mOrV, ↓k_mNotV, ↓k_mIsi, ↓k_mNil, ↓k_mCons, ↓k_mTup, ↓k_mLst, ↓k_mANil, ↓k_mACons, ↓k_mVE, ↓k_mCall, ↓k_args0, ↓k_args1, ↓k_sSeq, ↓k_then1, ↓k_then2, ↓k_then3, ↓k_then4, ↓k_sNil, ↓k_sSet, ↓k_sExpr, ↓k_sRet, ↓k_sIf, ↓k_sBreak, ↓k_sCont, ↓k_gNm, ↓k_gsNil, ↓k_gsCons, ↓k_gTp, ↓k_sAsg, ↓k_sPar, ↓k_mSo, ↓k_mNo, ↓k_mSl, ↓k_mApp, ↓k_mExt, ↓k_mPop, ↓k_sSetI, ↓k_mIndex, ↓k_mGet, ↓k_mLR1, ↓k_mRng1, ↓k_mItems, ↓k_mEnum, ↓k_mEnumZ, ↓k_sFor, ↓k_fLc, ↓k_mYes, ↓k_mMake, ↓k_sFldI, ↓k_mAnyIn, ↓k_mJoined, ↓k_jNil, ↓k_jCons, ↓k_mDict, ↓k_pNil, ↓k_pCons, ↓k_mChain, ↓k_chain1, ↓k_chain2, ↓k_fnM, ↓k_end1, ↓k_end2, ↓k_outs0, ↓k_outs1, ↓k_outs2, q_mVarS1, q_mVarS2, q_look1, q_look2, q_lookS1, q_lookS2, q_d1, q_d2, q_od1, q_od2, q_od3, q_boolR, q_arg1, q_arg2, q_argS, q_slots0, q_slots1, q_slots2, q_put0, q_put1, q_put2, q_putS, q_slotOf1, q_slotOf2, q_intOf, q_lstS, q_items1, q_items2, q_tupD, q_insS, q_strD, q_outS, p_ix1, p_ix2, p_ix3, p_atI, p_ixN, p_add, p_addS, p_addT, p_addL, p_sub, p_mul, p_div, p_mod, p_pow, p_neg, p_lt, p_le, p_gt, p_ge, p_len1, p_len2, p_len3, p_int, p_abs, p_str, p_max, p_list1, p_list2, p_tuple1, p_tuple2, p_isN, p_notN, p_non1, p_non2, p_non3, p_non4, p_non5, p_isi, p_ty1, p_ty2, p_ty3, p_ty4, p_ty5, p_ty6, p_isi_NoneType_bool, p_isi_NoneType_int, p_isi_NoneType_str, p_isi_NoneType_tuple, p_isi_bool_bool, p_isi_bool_int, p_isi_bool_str, p_isi_bool_tuple, p_isi_int_bool, p_isi_int_int, p_isi_int_str, p_isi_int_tuple, p_isi_str_bool, p_isi_str_int, p_isi_str_str, p_isi_str_tuple, p_isi_tuple_bool, p_isi_tuple_int, p_isi_tuple_str, p_isi_tuple_tuple, p_isi_list_bool, p_isi_list_int, p_isi_list_str, p_isi_list_tuple, p_in, p_notIn, p_eqI, p_neI, p_eqB, p_neB, p_fmt1, p_fmt2, p_fld, p_sl1, p_sl2, p_sl3, q_makeR, q_clean0, q_clean1, q_cleanS1, q_cleanS2, q_wipe0, q_wipe1, q_back0, q_back1, q_join1, q_and1, q_outP1, q_outP2, q_outP3, q_outP4, List.map_cons, List.map_nil, List.cons_append, List.nil_append, List.append_nil, List.length_cons, List.length_nil, List.getElem?_cons_zero, List.getElem?_cons_succ, List.getElem?_nil, List.set_cons_zero, List.set_cons_succ, Nat.reduceAdd, Nat.reduceSub, List.replicate_succ, List.replicate_zero, Nat.zero_add, reduceIte, Nat.reduceLeDiff, Nat.reduceLT, List.nodup_cons, List.nodup_nil, List.not_mem_nil, not_false_eq_true, and_true, and_self, List.mem_cons, or_false, Nat.reduceEqDiff, Bool.not_true, Bool.not_false, Bool.false_eq_true, true_and, and_false, false_and, reduceCtorEq, if_true, if_false, Int.reduceLE, Int.reduceLT, Int.reduceToNat, Int.reduceNeg, Int.reduceAdd, Int.reduceSub, Int.reduceMul, Int.reduceEq, Nat.reduceMul, decide_eq_true_eq, List.length_set, decide_true, decide_false, Int.toNat_natCast, Bool.not_eq_true, ne_eq, List.length_map, List.length_append])
namespace K91
variable {F : List D}
def Lines (ts : List Th) (lns : List Ln) (ps : List (D × D)) : Prop := lns.length = ps.length ∧ ∀ i l p, lns[i]? = some l → ps[i]? = some p → Right ts (ps.take i) l p
theorem Lines.snoc {ts : List Th} {lns : List Ln} {ps : List (D × D)} (h : Lines ts lns ps) {l : Ln} {p : D × D} (r : Right ts ps l p) : Lines ts (lns ++ [l]) (ps ++ [p]) := by
  refine ⟨by rw [List.length_append, List.length_append, h.1]; rfl, fun i l' p' h1 h2 => ?_⟩
  rcases Nat.lt_or_ge i ps.length with hi | hi
  · rw [List.getElem?_append_left (by rw [h.1]; exact hi)] at h1
    rw [List.getElem?_append_left hi] at h2
    rw [List.take_append_of_le_length (by omega)]
    exact h.2 i l' p' h1 h2
  · have hi2 : i < ps.length + 1 := by have := lt_of_get h2; rw [List.length_append] at this; exact this
    have e : i = ps.length := by omega
    subst e
    rw [List.getElem?_append_right (by omega), Nat.sub_self] at h2
    rw [List.getElem?_append_right (by rw [h.1]; omega), h.1, Nat.sub_self] at h1
    cases h1
    cases h2
    rw [List.take_append_of_le_length (by omega), List.take_length]
    exact r
theorem PairsOk.snoc {ps : List (D × D)} (h : PairsOk F ps) {p : D × D} (hp : p.1 ∈ F ∧ p.2 ∈ F) : PairsOk F (ps ++ [p]) := fun x hx => by
  rcases List.mem_append.mp hx with hx | hx
  · exact h x hx
  · rw [List.mem_singleton.mp hx]; exact hp
theorem bands_len {t : Th} (h : t.ok F) : t.bands.length ≤ 15 := by
  cases t with
  | eld A B => simp [Th.bands]
  | war A => simp [Th.bands]
  | ser rows =>
    have := fb_len h.2
    have := h.1
    show (rows.flatMap rowBands).length ≤ 15
    omega
  | yrs A lo hi => simp [Th.bands]
theorem kin1 : inD (.str (Str.ofString "told")) (.lst [.str (Str.ofString "told"), .str (Str.ofString "years")]) = some true := by decide +kernel
theorem kin2 : inD (.str (Str.ofString "years")) (.lst [.str (Str.ofString "told"), .str (Str.ofString "years")]) = some true := by decide +kernel
theorem kin3 : inD (.str (Str.ofString "side")) (.lst [.str (Str.ofString "told"), .str (Str.ofString "years")]) = some false := by decide +kernel
theorem kin4 : inD (.str (Str.ofString "link")) (.lst [.str (Str.ofString "told"), .str (Str.ofString "years")]) = some false := by decide +kernel
theorem kin5 : inD (.str (Str.ofString "chain")) (.lst [.str (Str.ofString "told"), .str (Str.ofString "years")]) = some false := by decide +kernel
theorem ps_pn (hF : Finds F) {ps : List (D × D)} (h : PairsOk F ps) : ∀ x ∈ ps.map prD, Pn 1 x := fun x hx => by
  obtain ⟨p, hp, rfl⟩ := List.mem_map.mp hx
  exact prD_pn hF (h p hp).1 (h p hp).2
theorem lines_ok {ts : List Th} {sp : List Nat} (dos : Dos F ts sp) {many : Int} (hm0 : 0 ≤ many) (hm : many ≤ 150) {n : Nat} {o : MO} (h : Dk n o) (hn : n + 3000 ≤ 1000000) {k : Ct (RV × List MO)}
    (q : ∀ (o' : MO) (lns : List Ln) (ps : List (D × D)), Dk (n + 3000) o' → Lines ts lns ps → PairsOk F ps → ps.length ≤ 150 → k.run (.sh (.tup [.lst (lns.map Ln.d), .lst (ps.map prD)]), [o'])) :
    @Ok _ (fm_law_lines [.mu true o, .sh (.tup [.tup F, .tup (ts.map Th.d)]), .sh (.lst (dnat sp)), .sh (.int many)]) k := by
  unfold fm_law_lines mx_law_lines
  have hF := dos.f
  have hs2 := dos.sl
  and_intros
  have hx_ : ∃ W, W = D.tup [.tup F, .tup (ts.map Th.d)] := ⟨_, rfl⟩
  obtain ⟨W, eW⟩ := hx_
  refine sForL_inv (fun i ρ => ∃ (bs : List (Nat × Nat × List D)) (ls : List (Nat × List D)) (x7 x8 : Option SV), BandsOk ts bs ∧ bs.length ≤ 15 * i ∧ LinksOk ts ls ∧ ls.length ≤ i ∧ ρ = [some (.mu true o), some (.sh (.tup [.tup F, .tup (ts.map Th.d)])), some (.sh (.lst (dnat sp))), some (.sh (.int many)), some (.sh (.tup (ts.map Th.d))), some (.mu false (.lst (bs.map bandD))), some (.mu false (.lst (ls.map lkD))), x7, x8, none, none, none, none, none, none]) (fun _ => False) (fun _ _ => False) ⟨[], [], none, none, by simp [BandsOk], by simp, by simp [LinksOk], by simp, rfl⟩ (fun i d ρ hd ⟨bs, ls, x7, x8, b1, b2, b3, b4, e⟩ => ?_) (fun ρ' ⟨bs, ls, x7, x8, b1, b2, b3, b4, e⟩ => ?_) (fun _ z => z.elim) (fun _ _ z => z.elim)
  · have hx_ := map_at hd
    obtain ⟨hi, er_⟩ := hx_
    have hspi : sp[i]? = some sp[i] := List.getElem?_eq_getElem hi
    have hx_ : ∃ m, m = sp[i] := ⟨_, rfl⟩
    obtain ⟨m, em⟩ := hx_
    rw [← em] at hspi er_
    have hm : m < ts.length := by rw [em]; exact dos.sb _ (List.getElem_mem hi)
    have hx_ : ∃ t, ts[m]? = some t := ⟨_, List.getElem?_eq_getElem hm⟩
    obtain ⟨t, ht⟩ := hx_
    have tok := dos.ok _ (List.mem_of_getElem? ht)
    have tbl := bands_len tok
    subst er_ e
    have hx_ := head_at (t := t)
    obtain ⟨rr, hr⟩ := hx_
    have hbs : BandsOk ts (bs ++ (List.range t.bands.length).map fun k => (m, k, t.bands.getD k [])) := fun z hz => by
      rcases List.mem_append.mp hz with hz | hz
      · exact b1 z hz
      · obtain ⟨k, hk, rfl⟩ := List.mem_map.mp hz
        refine ⟨t, ht, ?_⟩
        have hk := List.mem_range.mp hk
        show t.bands[k]? = some (t.bands.getD k [])
        rw [List.getD_eq_getElem?_getD, List.getElem?_eq_getElem hk]
        rfl
    have hbl : (bs ++ (List.range t.bands.length).map fun k => (m, k, t.bands.getD k [])).length ≤ 15 * (i + 1) := by
      rw [List.length_append, List.length_map, List.length_range]
      omega
    subst_eqs
    refine it_pos (by omega) ?_
    subst_eqs
    refine it_pos hm ?_
    subst_eqs
    refine .of (thing_at ht) ?_
    subst_eqs
    refine law_bands_ok hF tok ?_ ?_
    all_goals
      subst_eqs
      refine it_pos ⟨by omega, by omega⟩ ?_
      subst_eqs
      refine lcL_inv (fun j acc ρ => acc = ((List.range j).map fun k => (m, k, t.bands.getD k [])).map bandD ∧ ∃ x8, (x8 = SV.sh (.lst (t.bands.map .tup)) ∨ x8 = SV.mu false (.lst (t.bands.map .tup))) ∧ ρ = [some (.mu true o), some (.sh (.tup [.tup F, .tup (ts.map Th.d)])), some (.sh (.lst (dnat sp))), some (.sh (.int many)), some (.sh (.tup (ts.map Th.d))), some (.mu false (.lst (bs.map bandD))), some (.mu false (.lst (ls.map lkD))), some (.sh (.int m)), some x8, none, none, none, none, none, none]) (by rw [rng_len, sizeLine_v]; omega) ⟨rfl, _, by first | exact .inl rfl | exact .inr rfl, rfl⟩ (fun j d acc ρ hd ha ⟨g1, x8, g2, e⟩ => ?_) fun out ρ' hl ⟨g1, x8, g2, e⟩ => ?_
      · have hx_ := rng_at hd
        obtain ⟨hj, er_⟩ := hx_
        subst er_ e
        rcases g2 with g2 | g2
        all_goals
          subst g2
          subst_eqs
          refine it_pos (by omega) ?_
          subst_eqs
          refine it_pos hj ?_
          subst_eqs
          refine .of (row_at hj) ?_
          subst_eqs
          refine ⟨?_, _, by first | exact .inl rfl | exact .inr rfl, rfl⟩
          rw [g1, List.range_succ, List.map_append, List.map_append]
          rfl
      · subst e g1
        rw [rng_len]
        subst_eqs
        refine it_pos (by rw [List.length_range, sizeLine_v]; omega) ?_
        subst_eqs
        refine it_pos (by omega) ?_
        subst_eqs
        refine it_pos hm ?_
        subst_eqs
        refine .of (a := .tup (.str (Str.ofString t.tag) :: rr)) (by rw [thing_at ht, hr]; rfl) ?_
        subst_eqs
        refine it_pos (by omega) ?_
        subst_eqs
        refine .of (tag_eq t.tag_mem (by simp [tags])) ?_
        subst_eqs
        refine it_of (fun c1 => ?_) (fun c1 => ?_)
        · have hx_ : ∃ rows, t = .ser rows := by
            cases t with
            | eld A B => simp [Th.tag] at c1
            | war A => simp [Th.tag] at c1
            | ser rows => exact ⟨_, rfl⟩
            | yrs A lo hi => simp [Th.tag] at c1
          obtain ⟨rows, er_⟩ := hx_
          subst er_
          subst_eqs
          refine it_pos (by omega) ?_
          subst_eqs
          refine it_pos hm ?_
          subst_eqs
          refine .of (thing_at ht) ?_
          subst_eqs
          refine row_pairs_ok tok fun al a1 a2 => ?_
          subst_eqs
          refine it_pos (by rw [sizeLine_v]; omega) ?_
          subst_eqs
          refine ⟨_, ls ++ [(m, al)], _, _, hbs, hbl, fun z hz => ?_, by rw [List.length_append]; simp; omega, by rw [List.map_append, List.map_append]; rfl⟩
          rcases List.mem_append.mp hz with hz | hz
          · exact b3 z hz
          · rw [List.mem_singleton.mp hz]
            exact ⟨rows, ht, a2, a1⟩
        · subst_eqs
          exact ⟨_, ls, _, _, hbs, hbl, b3, by omega, by rw [List.map_append]⟩
  · subst e
    subst_eqs
    rw [show (dnat sp).length = sp.length from List.length_map _] at b2 b4
    refine it_pos (mul_g (i := 3) (j := many) (by omega) (by omega)) ?_
    subst_eqs
    refine it_pos ⟨by omega, by omega⟩ ?_
    subst_eqs
    refine sForL_inv (fun i ρ => ∃ (o : MO) (x5 x6 : SV) (lns : List Ln) (ps : List (D × D)) (x11 x12 x13 : Option SV), Dk (n + 6 * i) o ∧ (x5 = .mu false (.lst (bs.map bandD)) ∨ x5 = .sh (.lst (bs.map bandD))) ∧ (x6 = .mu false (.lst (ls.map lkD)) ∨ x6 = .sh (.lst (ls.map lkD))) ∧ Lines ts lns ps ∧ PairsOk F ps ∧ ps.length ≤ i ∧ (ps.length : Int) ≤ many ∧ ρ = [some (.mu true o), some (.sh (.tup [.tup F, .tup (ts.map Th.d)])), some (.sh (.lst (dnat sp))), some (.sh (.int many)), some (.sh (.tup (ts.map Th.d))), some x5, some x6, x7, x8, some (.mu false (.lst (lns.map Ln.d))), some (.mu false (.lst (ps.map prD))), x11, x12, x13, none]) (fun _ => False) (fun _ _ => False) ⟨o, _, _, [], [], none, none, none, h, .inl rfl, .inl rfl, ⟨rfl, fun i l p z => by simp at z⟩, by simp [PairsOk], by simp, by simpa using hm0, rfl⟩ (fun i d ρ hd ⟨o1, x5, x6, lns, ps, x11, x12, x13, c1, c2, c3, c4, c5, c6, c7, e⟩ => ?_) (fun ρ' ⟨o1, x5, x6, lns, ps, x11, x12, x13, c1, c2, c3, c4, c5, c6, c7, e⟩ => ?_) (fun _ z => z.elim) (fun _ _ z => z.elim)
    · have hx_ := rng_at hd
      obtain ⟨hi, er_⟩ := hx_
      subst er_ e
      have c8 := c4.1
      subst_eqs
      refine pickL_ok c1 (by omega) (by simp) (by simp) fun o2 d g2 hd => ?_
      simp only [List.mem_cons, List.not_mem_nil, or_false] at hd
      rcases hd with hd | hd | hd | hd | hd | hd | hd | hd <;> subst hd
      · -- told1_ok
        subst_eqs
        refine .of kin1 ?_
        subst_eqs
        refine told1_ok dos g2 (by omega) (fun o3 g3 => ?_) (fun o3 l p g3 hal hR => ?_)
        · subst_eqs
          exact ⟨_, _, _, lns, ps, _, _, _, (g3).mono (by omega), c2, c3, c4, c5, by omega, c7, rfl⟩
        · have hR : Right ts ps l p := hR.any hal
          subst_eqs
          refine it_of (fun d1 => ?_) (fun d1 => ?_)
          · subst_eqs
            refine it_pos (by rw [sizeLine_v]; omega) ?_
            subst_eqs
            refine it_pos (by rw [sizeLine_v]; omega) ?_
            subst_eqs
            exact ⟨_, _, _, lns ++ [l], ps ++ [p], _, _, _, (g3).mono (by omega), c2, c3, c4.snoc hR, c5.snoc (hR.mem dos.ok c5), by rw [List.length_append]; simp; omega, by rw [List.length_append]; simp; omega, by rw [List.map_append, List.map_append]; rfl⟩
          · subst_eqs
            exact ⟨_, _, _, lns, ps, _, _, _, (g3).mono (by omega), c2, c3, c4, c5, by omega, c7, rfl⟩
      · -- told2_ok
        subst_eqs
        refine .of kin2 ?_
        subst_eqs
        refine told2_ok dos g2 (by omega) (fun o3 g3 => ?_) (fun o3 l p g3 hal hR => ?_)
        · subst_eqs
          exact ⟨_, _, _, lns, ps, _, _, _, (g3).mono (by omega), c2, c3, c4, c5, by omega, c7, rfl⟩
        · have hR : Right ts ps l p := hR.any hal
          subst_eqs
          refine it_of (fun d1 => ?_) (fun d1 => ?_)
          · subst_eqs
            refine it_pos (by rw [sizeLine_v]; omega) ?_
            subst_eqs
            refine it_pos (by rw [sizeLine_v]; omega) ?_
            subst_eqs
            exact ⟨_, _, _, lns ++ [l], ps ++ [p], _, _, _, (g3).mono (by omega), c2, c3, c4.snoc hR, c5.snoc (hR.mem dos.ok c5), by rw [List.length_append]; simp; omega, by rw [List.length_append]; simp; omega, by rw [List.map_append, List.map_append]; rfl⟩
          · subst_eqs
            exact ⟨_, _, _, lns, ps, _, _, _, (g3).mono (by omega), c2, c3, c4, c5, by omega, c7, rfl⟩
      · subst_eqs
        refine .of kin3 ?_
        subst_eqs
        refine .of (ne_nil (ps_pn hF c5) (by omega)) ?_
        subst_eqs
        refine it_of (fun d0 => ?_) (fun d0 => ?_)
        · have p0 : 0 < ps.length := by
            cases ps with
            | nil => simp at d0
            | cons x y => simp
          rcases c2 with c2 | c2 <;> rcases c3 with c3 | c3
          all_goals
            subst c2 c3
            subst_eqs
            refine side_ok dos b1 (by omega) c5 p0 (by omega) g2 (by omega) (fun o3 g3 => ?_) (fun o3 l p g3 hR => ?_)
            · subst_eqs
              exact ⟨_, _, _, lns, ps, _, _, _, (g3).mono (by omega), .inr rfl, .inr rfl, c4, c5, by omega, c7, rfl⟩
            · subst_eqs
              refine it_of (fun d1 => ?_) (fun d1 => ?_)
              · subst_eqs
                refine it_pos (by rw [sizeLine_v]; omega) ?_
                subst_eqs
                refine it_pos (by rw [sizeLine_v]; omega) ?_
                subst_eqs
                exact ⟨_, _, _, lns ++ [l], ps ++ [p], _, _, _, (g3).mono (by omega), .inr rfl, .inr rfl, c4.snoc hR, c5.snoc (hR.mem dos.ok c5), by rw [List.length_append]; simp; omega, by rw [List.length_append]; simp; omega, by rw [List.map_append, List.map_append]; rfl⟩
              · subst_eqs
                exact ⟨_, _, _, lns, ps, _, _, _, (g3).mono (by omega), .inr rfl, .inr rfl, c4, c5, by omega, c7, rfl⟩
        · subst_eqs
          exact ⟨_, _, _, lns, ps, _, _, _, (g2).mono (by omega), c2, c3, c4, c5, by omega, c7, rfl⟩
      · subst_eqs
        refine .of kin3 ?_
        subst_eqs
        refine .of (ne_nil (ps_pn hF c5) (by omega)) ?_
        subst_eqs
        refine it_of (fun d0 => ?_) (fun d0 => ?_)
        · have p0 : 0 < ps.length := by
            cases ps with
            | nil => simp at d0
            | cons x y => simp
          rcases c2 with c2 | c2 <;> rcases c3 with c3 | c3
          all_goals
            subst c2 c3
            subst_eqs
            refine side_ok dos b1 (by omega) c5 p0 (by omega) g2 (by omega) (fun o3 g3 => ?_) (fun o3 l p g3 hR => ?_)
            · subst_eqs
              exact ⟨_, _, _, lns, ps, _, _, _, (g3).mono (by omega), .inr rfl, .inr rfl, c4, c5, by omega, c7, rfl⟩
            · subst_eqs
              refine it_of (fun d1 => ?_) (fun d1 => ?_)
              · subst_eqs
                refine it_pos (by rw [sizeLine_v]; omega) ?_
                subst_eqs
                refine it_pos (by rw [sizeLine_v]; omega) ?_
                subst_eqs
                exact ⟨_, _, _, lns ++ [l], ps ++ [p], _, _, _, (g3).mono (by omega), .inr rfl, .inr rfl, c4.snoc hR, c5.snoc (hR.mem dos.ok c5), by rw [List.length_append]; simp; omega, by rw [List.length_append]; simp; omega, by rw [List.map_append, List.map_append]; rfl⟩
              · subst_eqs
                exact ⟨_, _, _, lns, ps, _, _, _, (g3).mono (by omega), .inr rfl, .inr rfl, c4, c5, by omega, c7, rfl⟩
        · subst_eqs
          exact ⟨_, _, _, lns, ps, _, _, _, (g2).mono (by omega), c2, c3, c4, c5, by omega, c7, rfl⟩
      · subst_eqs
        refine .of kin4 ?_
        subst_eqs
        refine .of (ne_nil (ps_pn hF c5) (by omega)) ?_
        subst_eqs
        refine it_of (fun d0 => ?_) (fun d0 => ?_)
        · have p0 : 0 < ps.length := by
            cases ps with
            | nil => simp at d0
            | cons x y => simp
          rcases c2 with c2 | c2 <;> rcases c3 with c3 | c3
          all_goals
            subst c2 c3
            subst_eqs
            refine link_ok dos b3 (by omega) c5 p0 (by omega) g2 (by omega) (fun o3 g3 => ?_) (fun o3 l p g3 hR => ?_)
            · subst_eqs
              exact ⟨_, _, _, lns, ps, _, _, _, (g3).mono (by omega), .inr rfl, .inr rfl, c4, c5, by omega, c7, rfl⟩
            · subst_eqs
              refine it_of (fun d1 => ?_) (fun d1 => ?_)
              · subst_eqs
                refine it_pos (by rw [sizeLine_v]; omega) ?_
                subst_eqs
                refine it_pos (by rw [sizeLine_v]; omega) ?_
                subst_eqs
                exact ⟨_, _, _, lns ++ [l], ps ++ [p], _, _, _, (g3).mono (by omega), .inr rfl, .inr rfl, c4.snoc hR, c5.snoc (hR.mem dos.ok c5), by rw [List.length_append]; simp; omega, by rw [List.length_append]; simp; omega, by rw [List.map_append, List.map_append]; rfl⟩
              · subst_eqs
                exact ⟨_, _, _, lns, ps, _, _, _, (g3).mono (by omega), .inr rfl, .inr rfl, c4, c5, by omega, c7, rfl⟩
        · subst_eqs
          exact ⟨_, _, _, lns, ps, _, _, _, (g2).mono (by omega), c2, c3, c4, c5, by omega, c7, rfl⟩
      · subst_eqs
        refine .of kin4 ?_
        subst_eqs
        refine .of (ne_nil (ps_pn hF c5) (by omega)) ?_
        subst_eqs
        refine it_of (fun d0 => ?_) (fun d0 => ?_)
        · have p0 : 0 < ps.length := by
            cases ps with
            | nil => simp at d0
            | cons x y => simp
          rcases c2 with c2 | c2 <;> rcases c3 with c3 | c3
          all_goals
            subst c2 c3
            subst_eqs
            refine link_ok dos b3 (by omega) c5 p0 (by omega) g2 (by omega) (fun o3 g3 => ?_) (fun o3 l p g3 hR => ?_)
            · subst_eqs
              exact ⟨_, _, _, lns, ps, _, _, _, (g3).mono (by omega), .inr rfl, .inr rfl, c4, c5, by omega, c7, rfl⟩
            · subst_eqs
              refine it_of (fun d1 => ?_) (fun d1 => ?_)
              · subst_eqs
                refine it_pos (by rw [sizeLine_v]; omega) ?_
                subst_eqs
                refine it_pos (by rw [sizeLine_v]; omega) ?_
                subst_eqs
                exact ⟨_, _, _, lns ++ [l], ps ++ [p], _, _, _, (g3).mono (by omega), .inr rfl, .inr rfl, c4.snoc hR, c5.snoc (hR.mem dos.ok c5), by rw [List.length_append]; simp; omega, by rw [List.length_append]; simp; omega, by rw [List.map_append, List.map_append]; rfl⟩
              · subst_eqs
                exact ⟨_, _, _, lns, ps, _, _, _, (g3).mono (by omega), .inr rfl, .inr rfl, c4, c5, by omega, c7, rfl⟩
        · subst_eqs
          exact ⟨_, _, _, lns, ps, _, _, _, (g2).mono (by omega), c2, c3, c4, c5, by omega, c7, rfl⟩
      · subst_eqs
        refine .of kin5 ?_
        subst_eqs
        refine .of (ne_nil (ps_pn hF c5) (by omega)) ?_
        subst_eqs
        refine it_of (fun d0 => ?_) (fun d0 => ?_)
        · have p0 : 0 < ps.length := by
            cases ps with
            | nil => simp at d0
            | cons x y => simp
          rcases c2 with c2 | c2 <;> rcases c3 with c3 | c3
          all_goals
            subst c2 c3
            subst_eqs
            refine chain_ok dos c5 p0 (by omega) g2 (by omega) (fun o3 g3 => ?_) (fun o3 l p g3 hR => ?_)
            · subst_eqs
              exact ⟨_, _, _, lns, ps, _, _, _, (g3).mono (by omega), .inr rfl, .inr rfl, c4, c5, by omega, c7, rfl⟩
            · subst_eqs
              refine it_of (fun d1 => ?_) (fun d1 => ?_)
              · subst_eqs
                refine it_pos (by rw [sizeLine_v]; omega) ?_
                subst_eqs
                refine it_pos (by rw [sizeLine_v]; omega) ?_
                subst_eqs
                exact ⟨_, _, _, lns ++ [l], ps ++ [p], _, _, _, (g3).mono (by omega), .inr rfl, .inr rfl, c4.snoc hR, c5.snoc (hR.mem dos.ok c5), by rw [List.length_append]; simp; omega, by rw [List.length_append]; simp; omega, by rw [List.map_append, List.map_append]; rfl⟩
              · subst_eqs
                exact ⟨_, _, _, lns, ps, _, _, _, (g3).mono (by omega), .inr rfl, .inr rfl, c4, c5, by omega, c7, rfl⟩
        · subst_eqs
          exact ⟨_, _, _, lns, ps, _, _, _, (g2).mono (by omega), c2, c3, c4, c5, by omega, c7, rfl⟩
      · subst_eqs
        refine .of kin5 ?_
        subst_eqs
        refine .of (ne_nil (ps_pn hF c5) (by omega)) ?_
        subst_eqs
        refine it_of (fun d0 => ?_) (fun d0 => ?_)
        · have p0 : 0 < ps.length := by
            cases ps with
            | nil => simp at d0
            | cons x y => simp
          rcases c2 with c2 | c2 <;> rcases c3 with c3 | c3
          all_goals
            subst c2 c3
            subst_eqs
            refine chain_ok dos c5 p0 (by omega) g2 (by omega) (fun o3 g3 => ?_) (fun o3 l p g3 hR => ?_)
            · subst_eqs
              exact ⟨_, _, _, lns, ps, _, _, _, (g3).mono (by omega), .inr rfl, .inr rfl, c4, c5, by omega, c7, rfl⟩
            · subst_eqs
              refine it_of (fun d1 => ?_) (fun d1 => ?_)
              · subst_eqs
                refine it_pos (by rw [sizeLine_v]; omega) ?_
                subst_eqs
                refine it_pos (by rw [sizeLine_v]; omega) ?_
                subst_eqs
                exact ⟨_, _, _, lns ++ [l], ps ++ [p], _, _, _, (g3).mono (by omega), .inr rfl, .inr rfl, c4.snoc hR, c5.snoc (hR.mem dos.ok c5), by rw [List.length_append]; simp; omega, by rw [List.length_append]; simp; omega, by rw [List.map_append, List.map_append]; rfl⟩
              · subst_eqs
                exact ⟨_, _, _, lns, ps, _, _, _, (g3).mono (by omega), .inr rfl, .inr rfl, c4, c5, by omega, c7, rfl⟩
        · subst_eqs
          exact ⟨_, _, _, lns, ps, _, _, _, (g2).mono (by omega), c2, c3, c4, c5, by omega, c7, rfl⟩
    · subst e
      rw [rng_len] at c1
      subst_eqs
      exact q _ lns ps (c1.mono (by omega)) c4 c5 (by omega)
end K91
end L2.My

end
section
set_option Elab.async false
set_option linter.all false
set_option autoImplicit false
set_option maxRecDepth 100000
set_option maxHeartbeats 4000000
/-! Mkf: dict comprehensions of mirrors; the rules. -/
namespace L2.My
open PySem PySem.Spec PyProof.Rows
local macro_rules | `(tactic| and_intros) => `(tactic| simp only [↓ok_some, ↓ok_bind, ↓ok_ite, it_true, it_false, ↓k_mV, ↓k_mE, ↓k_mF, ↓k_mVar, ↓k_mC, ↓k_mNm, ↓k_m1, ↓k_m2, ↓k_mT, ↓k_mAndT, ↓k_mOrT, ↓k_mNotT, ↓k_mIf, ↓k_mAndV, ↓k_mOrV, ↓k_mNotV, ↓k_mIsi, ↓k_mNil, ↓k_mCons, ↓k_mTup, ↓k_mLst, ↓k_mANil, ↓k_mACons, ↓k_mVE, ↓k_mCall, ↓k_args0, ↓k_args1, ↓k_sSeq, ↓k_then1, ↓k_then2, ↓k_then3, ↓k_then4, ↓k_sNil, ↓k_sSet, ↓k_sExpr, ↓k_sRet, ↓k_sIf, ↓k_sBreak, ↓k_sCont, ↓k_gNm, ↓k_gsNil, ↓k_gsCons, ↓k_gTp, ↓k_sAsg, ↓k_sPar, ↓k_mSo, ↓k_mNo, ↓k_mSl, ↓k_mApp, ↓k_mExt, ↓k_mPop, ↓k_sSetI, ↓k_mIndex, ↓k_mGet, ↓k_mLR1, ↓k_mRng1, ↓k_mItems, ↓k_mEnum, ↓k_mEnumZ, ↓k_sFor, ↓k_fLc, ↓k_mYes, ↓k_mMake, ↓k_sFldI, ↓k_mAnyIn, ↓k_mJoined, ↓k_jNil, ↓k_jCons, ↓k_mDict, ↓k_pNil, ↓k_pCons, ↓k_mChain, ↓k_chain1, ↓k_chain2, ↓k_fnM, ↓k_end1, ↓k_end2, ↓k_outs0, ↓k_outs1, ↓k_outs2, q_mVarS1, q_mVarS2, q_look1, q_look2, q_lookS1, q_lookS2, q_d1, q_d2, q_od1, q_od2, q_od3, q_boolR, q_arg1, q_arg2, q_argS, q_slots0, q_slots1, q_slots2, q_put0, q_put1, q_put2, q_putS, q_slotOf1, q_slotOf2, q_intOf, q_lstS, q_items1, q_items2, q_tupD, q_insS, q_strD, q_outS, p_ix1, p_ix2, p_ix3, p_atI, p_ixN, p_add, p_addS, p_addT, p_addL, p_sub, p_mul, p_div, p_mod, p_pow, p_neg, p_lt, p_le, p_gt, p_ge, p_len1, p_len2, p_len3, p_int, p_abs, p_str, p_max, p_list1, p_list2, p_tuple1, p_tuple2, p_isN, p_notN, p_non1, p_non2, p_non3, p_non4, p_non5, p_isi, p_ty1, p_ty2, p_ty3, p_ty4, p_ty5, p_ty6, p_isi_NoneType_bool, p_isi_NoneType_int, p_isi_NoneType_str, p_isi_NoneType_tuple, p_isi_bool_bool, p_isi_bool_int, p_isi_bool_str, p_isi_bool_tuple, p_isi_int_bool, p_isi_int_int, p_isi_int_str, p_isi_int_tuple, p_isi_str_bool, p_isi_str_int, p_isi_str_str, p_isi_str_tuple, p_isi_tuple_bool, p_isi_tuple_int, p_isi_tuple_str, p_isi_tuple_tuple, p_isi_list_bool, p_isi_list_int, p_isi_list_str, p_isi_list_tuple, p_in, p_notIn, p_eqI, p_neI, p_eqB, p_neB, p_fmt1, p_fmt2, p_fld, p_sl1, p_sl2, p_sl3, q_makeR, q_clean0, q_clean1, q_cleanS1, q_cleanS2, q_wipe0, q_wipe1, q_back0, q_back1, q_join1, q_and1, q_outP1, q_outP2, q_outP3, q_outP4, List.map_cons, List.map_nil, List.cons_append, List.nil_append, List.append_nil, List.length_cons, List.length_nil, List.getElem?_cons_zero, List.getElem?_cons_succ, List.getElem?_nil, List.set_cons_zero, List.set_cons_succ, Nat.reduceAdd, Nat.reduceSub, List.replicate_succ, List.replicate_zero, Nat.zero_add, reduceIte, Nat.reduceLeDiff, Nat.reduceLT, List.nodup_cons, List.nodup_nil, List.not_mem_nil, not_false_eq_true, and_true, and_self, List.mem_cons, or_false, Nat.reduceEqDiff, Bool.not_true, Bool.not_false, Bool.false_eq_true, true_and, and_false, false_and, reduceCtorEq, if_true, if_false, Int.reduceLE, Int.reduceLT, Int.reduceToNat, Int.reduceNeg, Int.reduceAdd, Int.reduceSub, Int.reduceMul, Int.reduceEq, Nat.reduceMul, decide_eq_true_eq, List.length_set, decide_true, decide_false, Int.toNat_natCast, Bool.not_eq_true, ne_eq])
local macro_rules | `(tactic| subst_eqs) => `(tactic| simp only [↓ok_some, ↓ok_bind, ↓ok_ite, it_true, it_false, ↓k_mV, ↓k_mE, ↓k_mF, ↓k_mVar, ↓k_mC, ↓k_mNm, ↓k_m1, ↓k_m2, ↓k_mT, ↓k_mAndT, ↓k_mOrT, ↓k_mNotT, ↓k_mIf, ↓k_mAndV, ↓k_mOrV, ↓k_mNotV, ↓k_mIsi, ↓k_mNil, ↓k_mCons, ↓k_mTup, ↓k_mLst, ↓k_mANil, ↓k_mACons, ↓k_mVE, ↓k_mCall, ↓k_args0, ↓k_args1, ↓k_sSeq, ↓k_then1, ↓k_then2, ↓k_then3, ↓k_then4, ↓k_sNil, ↓k_sSet, ↓k_sExpr, ↓k_sRet, ↓k_sIf, ↓k_sBreak, ↓k_sCont, ↓k_gNm, ↓k_gsNil, ↓k_gsCons, ↓k_gTp, ↓k_sAsg, ↓k_sPar, ↓k_mSo, ↓k_mNo, ↓k_mSl, ↓k_mApp, ↓k_mExt, ↓k_mPop, ↓k_sSetI, ↓k_mIndex, ↓k_mGet, ↓k_mLR1, ↓k_mRng1, ↓k_mItems, ↓k_mEnum, ↓k_mEnumZ, ↓k_sFor, ↓k_fLc, ↓k_mYes, ↓k_mMake, ↓k_sFldI, ↓k_mAnyIn, ↓k_mJoined, ↓k_jNil, ↓k_jCons, ↓k_mDict, ↓k_pNil, ↓k_pCons, ↓k_mChain, ↓k_chain1, ↓k_chain2, ↓k_fnM, ↓k_end1, ↓k_end2, ↓k_outs0, ↓k_outs1, ↓k_outs2, q_mVarS1, q_mVarS2, q_look1, q_look2, q_lookS1, q_lookS2, q_d1, q_d2, q_od1, q_od2, q_od3, q_boolR, q_arg1, q_arg2, q_argS, q_slots0, q_slots1, q_slots2, q_put0, q_put1, q_put2, q_putS, q_slotOf1, q_slotOf2, q_intOf, q_lstS, q_items1, q_items2, q_tupD, q_insS, q_strD, q_outS, p_ix1, p_ix2, p_ix3, p_atI, p_ixN, p_add, p_addS, p_addT, p_addL, p_sub, p_mul, p_div, p_mod, p_pow, p_neg, p_lt, p_le, p_gt, p_ge, p_len1, p_len2, p_len3, p_int, p_abs, p_str, p_max, p_list1, p_list2, p_tuple1, p_tuple2, p_isN, p_notN, p_non1, p_non2, p_non3, p_non4, p_non5, p_isi, p_ty1, p_ty2, p_ty3, p_ty4, p_ty5, p_ty6, p_isi_NoneType_bool, p_isi_NoneType_int, p_isi_NoneType_str, p_isi_NoneType_tuple, p_isi_bool_bool, p_isi_bool_int, p_isi_bool_str, p_isi_bool_tuple, p_isi_int_bool, p_isi_int_int, p_isi_int_str, p_isi_int_tuple, p_isi_str_bool, p_isi_str_int, p_isi_str_str, p_isi_str_tuple, p_isi_tuple_bool, p_isi_tuple_int, p_isi_tuple_str, p_isi_tuple_tuple, p_isi_list_bool, p_isi_list_int, p_isi_list_str, p_isi_list_tuple, p_in, p_notIn, p_eqI, p_neI, p_eqB, p_neB, p_fmt1, p_fmt2, p_fld, p_sl1, p_sl2, p_sl3, q_makeR, q_clean0, q_clean1, q_cleanS1, q_cleanS2, q_wipe0, q_wipe1, q_back0, q_back1, q_join1, q_and1, q_outP1, q_outP2, q_outP3, q_outP4, List.map_cons, List.map_nil, List.cons_append, List.nil_append, List.append_nil, List.length_cons, List.length_nil, List.getElem?_cons_zero, List.getElem?_cons_succ, List.getElem?_nil, List.set_cons_zero, List.set_cons_succ, Nat.reduceAdd, Nat.reduceSub, List.replicate_succ, List.replicate_zero, Nat.zero_add, reduceIte, Nat.reduceLeDiff, Nat.reduceLT, List.nodup_cons, List.nodup_nil, List.not_mem_nil, not_false_eq_true, and_true, and_self, List.mem_cons, or_false, Nat.reduceEqDiff, Bool.not_true, Bool.not_false, Bool.false_eq_true, true_and, and_false, false_and, reduceCtorEq, if_true, if_false, Int.reduceLE, Int.reduceLT, Int.reduceToNat, Int.reduceNeg, Int.reduceAdd, Int.reduceSub, Int.reduceMul, Int.reduceEq, Nat.reduceMul, decide_eq_true_eq, List.length_set, decide_true, decide_false, Int.toNat_natCast, Bool.not_eq_true, ne_eq, List.length_map, List.length_append])
theorem dcIn_inv {vs1 : List Nat} {ga : D → Rho → Option Rho} {mt : M Bool} {mk mv : M D} {ds : List D} {acc0 : List (Key × D)} {ρ0 : Rho} {k : Ct (List (Key × D) × Rho)} (I : Nat → List (Key × D) → Rho → Prop) (h0 : I 0 acc0 ρ0)
    (step : ∀ i d acc ρ, ds[i]? = some d → I i acc ρ → @Ok _ (ga d ρ) ⟨fun ρ1 => @Ok _ (mt ρ1) ⟨fun p => @It (p.1 = true) ⟨@Ok _ (mk p.2) ⟨fun q => @Ok _ (keyD q.1) ⟨fun k => @Ok _ (mv q.2) ⟨fun r => @It (acc.length < sizeLine) ⟨I (i + 1) (putKD acc k r.1) (wipeR r.2 vs1)⟩ ⟨False⟩⟩⟩⟩⟩ ⟨I (i + 1) acc (wipeR p.2 vs1)⟩⟩⟩)
    (fin : ∀ out ρ', I ds.length out ρ' → k.run (out, ρ')) : @Ok _ (dcIn vs1 ga mt mk mv ds acc0 ρ0) k := by
  have key : ∀ (m i : Nat) (acc : List (Key × D)) (ρ : Rho), m = ds.length - i → i ≤ ds.length → I i acc ρ → @Ok _ (dcIn vs1 ga mt mk mv (ds.drop i) acc ρ) k := by
    intro m
    induction m with
    | zero =>
      intro i acc ρ hm hi h
      have e : i = ds.length := by omega
      subst e
      rw [List.drop_of_length_le (Nat.le_refl _)]
      exact ⟨(acc, ρ), rfl, fin acc ρ h⟩
    | succ m ih =>
      intro i acc ρ hm hi h
      have hlt : i < ds.length := by omega
      rw [List.drop_eq_getElem_cons hlt]
      obtain ⟨ρ1, h1, ⟨b, ρ2⟩, h2, h3⟩ := step i ds[i] acc ρ (List.getElem?_eq_getElem hlt) h
      have e : dcIn vs1 ga mt mk mv (ds[i] :: ds.drop (i + 1)) acc ρ = if b = true then (mk ρ2).bind fun q => (keyD q.1).bind fun k => (mv q.2).bind fun r => if acc.length < sizeLine then dcIn vs1 ga mt mk mv (ds.drop (i + 1)) (putKD acc k r.1) (wipeR r.2 vs1) else none
    else dcIn vs1 ga mt mk mv (ds.drop (i + 1)) acc (wipeR ρ2 vs1) := by
        show (ga ds[i] ρ).bind _ = _
        rw [h1]
        show (mt ρ1).bind _ = _
        rw [h2]
        rfl
      rw [e]
      rcases h3 with ⟨hb, ⟨q1, ρ3⟩, h4, kk, h5, ⟨r1, ρ4⟩, h6, h7⟩ | ⟨hb, h5⟩
      · have hb : b = true := hb
        rw [if_pos hb]
        rcases h7 with ⟨h7, h8⟩ | ⟨_, h8⟩
        · have e2 : (mk ρ2).bind (fun q => (keyD q.1).bind fun k => (mv q.2).bind fun r => if acc.length < sizeLine then dcIn vs1 ga mt mk mv (ds.drop (i + 1)) (putKD acc k r.1) (wipeR r.2 vs1) else none) = dcIn vs1 ga mt mk mv (ds.drop (i + 1)) (putKD acc kk r1) (wipeR ρ4 vs1) := by
            rw [h4]
            show (keyD q1).bind _ = _
            rw [h5]
            show (mv ρ3).bind _ = _
            rw [h6]
            show (if acc.length < sizeLine then _ else none) = _
            rw [if_pos h7]
          rw [e2]
          exact ih (i + 1) _ _ (by omega) hlt h8
        · exact h8.elim
      · have hb : ¬ b = true := hb
        rw [if_neg hb]
        exact ih (i + 1) _ _ (by omega) hlt h5
  have := key ds.length 0 acc0 ρ0 (by omega) (Nat.zero_le _) h0
  rwa [List.drop_zero] at this
theorem dcOut_inv {vs vs1 : List Nat} {ga : D → Rho → Option Rho} {mt : M Bool} {mi1 : M (List D)} {inner : List D → List (Key × D) → Rho → Option (List (Key × D) × Rho)} {ds : List D} {acc0 : List (Key × D)} {ρ0 : Rho} {k : Ct (List (Key × D) × Rho)} (I : Nat → List (Key × D) → Rho → Prop) (h0 : I 0 acc0 ρ0)
    (step : ∀ i d acc ρ, ds[i]? = some d → I i acc ρ → @Ok _ (ga d ρ) ⟨fun ρ1 => @Ok _ (mt ρ1) ⟨fun p => @It (p.1 = true) ⟨@Ok _ (mi1 p.2) ⟨fun q => @Ok _ (inner q.1 acc (wipeR q.2 vs1)) ⟨fun r => I (i + 1) r.1 (wipeR r.2 vs)⟩⟩⟩ ⟨I (i + 1) acc (wipeR p.2 vs)⟩⟩⟩)
    (fin : ∀ out ρ', I ds.length out ρ' → k.run (out, ρ')) : @Ok _ (dcOut vs vs1 ga mt mi1 inner ds acc0 ρ0) k := by
  have key : ∀ (m i : Nat) (acc : List (Key × D)) (ρ : Rho), m = ds.length - i → i ≤ ds.length → I i acc ρ → @Ok _ (dcOut vs vs1 ga mt mi1 inner (ds.drop i) acc ρ) k := by
    intro m
    induction m with
    | zero =>
      intro i acc ρ hm hi h
      have e : i = ds.length := by omega
      subst e
      rw [List.drop_of_length_le (Nat.le_refl _)]
      exact ⟨(acc, ρ), rfl, fin acc ρ h⟩
    | succ m ih =>
      intro i acc ρ hm hi h
      have hlt : i < ds.length := by omega
      rw [List.drop_eq_getElem_cons hlt]
      obtain ⟨ρ1, h1, ⟨b, ρ2⟩, h2, h3⟩ := step i ds[i] acc ρ (List.getElem?_eq_getElem hlt) h
      have e : dcOut vs vs1 ga mt mi1 inner (ds[i] :: ds.drop (i + 1)) acc ρ = if b = true then (mi1 ρ2).bind fun q => (inner q.1 acc (wipeR q.2 vs1)).bind fun r => dcOut vs vs1 ga mt mi1 inner (ds.drop (i + 1)) r.1 (wipeR r.2 vs)
    else dcOut vs vs1 ga mt mi1 inner (ds.drop (i + 1)) acc (wipeR ρ2 vs) := by
        show (ga ds[i] ρ).bind _ = _
        rw [h1]
        show (mt ρ1).bind _ = _
        rw [h2]
        rfl
      rw [e]
      rcases h3 with ⟨hb, ⟨q1, ρ3⟩, h4, ⟨r1, ρ4⟩, h6, h7⟩ | ⟨hb, h5⟩
      · have hb : b = true := hb
        rw [if_pos hb]
        have e2 : (mi1 ρ2).bind (fun q => (inner q.1 acc (wipeR q.2 vs1)).bind fun r => dcOut vs vs1 ga mt mi1 inner (ds.drop (i + 1)) r.1 (wipeR r.2 vs)) = dcOut vs vs1 ga mt mi1 inner (ds.drop (i + 1)) r1 (wipeR ρ4 vs) := by
          rw [h4]
          show (inner q1 acc (wipeR ρ3 vs1)).bind _ = _
          rw [h6]
          rfl
        rw [e2]
        exact ih (i + 1) _ _ (by omega) hlt h7
      · have hb : ¬ b = true := hb
        rw [if_neg hb]
        exact ih (i + 1) _ _ (by omega) hlt h5
  have := key ds.length 0 acc0 ρ0 (by omega) (Nat.zero_le _) h0
  rwa [List.drop_zero] at this
theorem k_fDc2 {vs vs1 : List Nat} {mi : M (List D)} {ga : D → Rho → Option Rho} {mt : M Bool} {mi1 : M (List D)} {ga1 : D → Rho → Option Rho} {mt1 : M Bool} {mk mv : M D} {ρ : Rho} {k_ : Ct (RV × Rho)} : @Ok _ (fDc2 vs vs1 mi ga mt mi1 ga1 mt1 mk mv ρ) k_ = @Ok _ ((mi ρ).bind fun p => if clean p.2 vs = true then
  (dcOut vs vs1 ga mt mi1 (dcIn vs1 ga1 mt1 mk mv) p.1 [] (wipeR p.2 vs)).bind fun q => some (.fr (.dic q.1), backR p.2 q.2 vs) else none) k_ := rfl
theorem lookD_cons {kd : List (Key × D)} {k k' : Key} {d : D} : lookD ((k, d) :: kd) k' = if k = k' then some d else lookD kd k' := by
  unfold lookD
  rw [List.find?_cons]
  by_cases h : k = k'
  · simp [h]
  · simp [h]
theorem lookD_map {k k' : Key} {d : D} : ∀ {kd : List (Key × D)}, lookD (kd.map (fun kv => if kv.1 = k then (kv.1, d) else kv)) k' = if k = k' then (if (kd.any fun kv => decide (kv.1 = k)) = true then some d else none) else lookD kd k'
  | [] => by simp [lookD]
  | (k1, d1) :: kd => by
    rw [List.map_cons, List.any_cons, lookD_cons]
    by_cases h1 : k1 = k
    · subst h1
      rw [if_pos rfl, lookD_cons]
      by_cases h2 : k1 = k'
      · simp [h2]
      · rw [if_neg h2, if_neg h2, lookD_map, if_neg h2, if_neg h2]
    · rw [if_neg h1, lookD_cons, lookD_map]
      by_cases h2 : k = k'
      · subst h2
        rw [if_neg h1, if_pos rfl, if_pos rfl, decide_eq_false h1, Bool.false_or]
      · rw [if_neg h2, if_neg h2]
theorem lookD_app {k k' : Key} {d : D} : ∀ {kd : List (Key × D)}, ¬ (kd.any fun kv => decide (kv.1 = k)) = true → lookD (kd ++ [(k, d)]) k' = if k = k' then some d else lookD kd k'
  | [], _ => by rw [List.nil_append, lookD_cons]
  | (k1, d1) :: kd, h => by
    rw [List.any_cons, Bool.or_eq_true, not_or] at h
    have h1 : ¬ k1 = k := by simpa using h.1
    rw [List.cons_append, lookD_cons, lookD_cons, lookD_app h.2]
    by_cases h2 : k1 = k'
    · rw [if_pos h2, if_neg (fun z => h1 (h2.trans z.symm))]
      rw [if_pos h2]
    · rw [if_neg h2, if_neg h2]
theorem lookD_put {kd : List (Key × D)} {k k' : Key} {d : D} : lookD (putKD kd k d) k' = if k = k' then some d else lookD kd k' := by
  unfold putKD
  by_cases h : (kd.any fun kv => decide (kv.1 = k)) = true
  · rw [if_pos h, lookD_map, if_pos h]
  · rw [if_neg h, lookD_app h]
theorem putKD_len {kd : List (Key × D)} {k : Key} {d : D} : (putKD kd k d).length ≤ kd.length + 1 := by
  unfold putKD
  split
  · rw [List.length_map]; omega
  · rw [List.length_append]; simp
namespace K91
variable {F : List D}
def RowDic (row : List (List D)) (kd : List (Key × D)) : Prop := ∀ s : Str, (∀ j, j < row.length → D.str s ∈ row.getD j [] → lookD kd (.inr s) = some (.int j)) ∧ ((∀ j, j < row.length → D.str s ∉ row.getD j []) → lookD kd (.inr s) = none)
theorem row_disj {row : List (List D)} (h : Row F row) {i j : Nat} (hij : i < j) (hj : j < row.length) {x : D} (h1 : x ∈ row.getD i []) (h2 : x ∈ row.getD j []) : False := by
  have := List.nodup_iff_pairwise_ne.mp h.nd
  rw [List.pairwise_flatten] at this
  have h3 := List.pairwise_iff_getElem.mp this.2 i j (by omega) hj hij
  have e : ∀ {k} (hk : k < row.length), row.getD k [] = row[k] := fun {k} hk => by
    rw [List.getD_eq_getElem?_getD, List.getElem?_eq_getElem hk]; rfl
  rw [e (by omega)] at h1
  rw [e hj] at h2
  exact h3 x h1 x h2 rfl
theorem enum_at : ∀ {xs : List D} {n i : Nat} {d : D}, (enumD n xs)[i]? = some d → ∃ x, xs[i]? = some x ∧ d = .tup [.int (n + i : Nat), x]
  | [], n, i, d, h => by simp [enumD] at h
  | x :: xs, n, 0, d, h => by
    refine ⟨x, rfl, ?_⟩
    unfold enumD at h
    simpa using h.symm
  | x :: xs, n, i + 1, d, h => by
    unfold enumD at h
    obtain ⟨y, h1, h2⟩ := enum_at (xs := xs) (n := n + 1) (i := i) (d := d) (by simpa using h)
    refine ⟨y, by simpa using h1, ?_⟩
    rw [h2]
    congr 4
    omega
theorem enum_len : ∀ {xs : List D} {n : Nat}, (enumD n xs).length = xs.length
  | [], n => rfl
  | x :: xs, n => by unfold enumD; rw [List.length_cons, List.length_cons, enum_len]
theorem lot_numbers_ok (hF : Finds F) {row : List (List D)} (R : Row F row) {k : Ct (RV × List MO)} (q : ∀ kd, RowDic row kd → k.run (.fr (.dic kd), [])) : @Ok _ (fm_lot_numbers [.sh (rowD row)]) k := by
  unfold fm_lot_numbers mx_lot_numbers
  simp only [rowD]
  have R2 := R.l2
  have R3 := R.l3
  have hlot : ∀ k, k < row.length → Lot F (row.getD k []) := fun k hk => R.lot _ (getD_mem hk)
  simp only [↓k_fDc2, ↓ok_some, ↓ok_bind, ↓ok_ite, it_true, it_false, ↓k_mV, ↓k_mE, ↓k_mF, ↓k_mVar, ↓k_mC, ↓k_mNm, ↓k_m1, ↓k_m2, ↓k_mT, ↓k_mAndT, ↓k_mOrT, ↓k_mNotT, ↓k_mIf, ↓k_mAndV, ↓k_mOrV, ↓k_mNotV, ↓k_mIsi, ↓k_mNil, ↓k_mCons, ↓k_mTup, ↓k_mLst, ↓k_mANil, ↓k_mACons, ↓k_mVE, ↓k_mCall, ↓k_args0, ↓k_args1, ↓k_sSeq, ↓k_then1, ↓k_then2, ↓k_then3, ↓k_then4, ↓k_sNil, ↓k_sSet, ↓k_sExpr, ↓k_sRet, ↓k_sIf, ↓k_sBreak, ↓k_sCont, ↓k_gNm, ↓k_gsNil, ↓k_gsCons, ↓k_gTp, ↓k_sAsg, ↓k_sPar, ↓k_mSo, ↓k_mNo, ↓k_mSl, ↓k_mApp, ↓k_mExt, ↓k_mPop, ↓k_sSetI, ↓k_mIndex, ↓k_mGet, ↓k_mLR1, ↓k_mRng1, ↓k_mItems, ↓k_mEnum, ↓k_mEnumZ, ↓k_sFor, ↓k_fLc, ↓k_mYes, ↓k_mMake, ↓k_sFldI, ↓k_mAnyIn, ↓k_mJoined, ↓k_jNil, ↓k_jCons, ↓k_mDict, ↓k_pNil, ↓k_pCons, ↓k_mChain, ↓k_chain1, ↓k_chain2, ↓k_fnM, ↓k_end1, ↓k_end2, ↓k_outs0, ↓k_outs1, ↓k_outs2, q_mVarS1, q_mVarS2, q_look1, q_look2, q_lookS1, q_lookS2, q_d1, q_d2, q_od1, q_od2, q_od3, q_boolR, q_arg1, q_arg2, q_argS, q_slots0, q_slots1, q_slots2, q_put0, q_put1, q_put2, q_putS, q_slotOf1, q_slotOf2, q_intOf, q_lstS, q_items1, q_items2, q_tupD, q_insS, q_strD, q_outS, p_ix1, p_ix2, p_ix3, p_atI, p_ixN, p_add, p_addS, p_addT, p_addL, p_sub, p_mul, p_div, p_mod, p_pow, p_neg, p_lt, p_le, p_gt, p_ge, p_len1, p_len2, p_len3, p_int, p_abs, p_str, p_max, p_list1, p_list2, p_tuple1, p_tuple2, p_isN, p_notN, p_non1, p_non2, p_non3, p_non4, p_non5, p_isi, p_ty1, p_ty2, p_ty3, p_ty4, p_ty5, p_ty6, p_isi_NoneType_bool, p_isi_NoneType_int, p_isi_NoneType_str, p_isi_NoneType_tuple, p_isi_bool_bool, p_isi_bool_int, p_isi_bool_str, p_isi_bool_tuple, p_isi_int_bool, p_isi_int_int, p_isi_int_str, p_isi_int_tuple, p_isi_str_bool, p_isi_str_int, p_isi_str_str, p_isi_str_tuple, p_isi_tuple_bool, p_isi_tuple_int, p_isi_tuple_str, p_isi_tuple_tuple, p_isi_list_bool, p_isi_list_int, p_isi_list_str, p_isi_list_tuple, p_in, p_notIn, p_eqI, p_neI, p_eqB, p_neB, p_fmt1, p_fmt2, p_fld, p_sl1, p_sl2, p_sl3, q_makeR, q_clean0, q_clean1, q_cleanS1, q_cleanS2, q_wipe0, q_wipe1, q_back0, q_back1, q_join1, q_and1, q_outP1, q_outP2, q_outP3, q_outP4, List.map_cons, List.map_nil, List.cons_append, List.nil_append, List.append_nil, List.length_cons, List.length_nil, List.getElem?_cons_zero, List.getElem?_cons_succ, List.getElem?_nil, List.set_cons_zero, List.set_cons_succ, Nat.reduceAdd, Nat.reduceSub, List.replicate_succ, List.replicate_zero, Nat.zero_add, reduceIte, Nat.reduceLeDiff, Nat.reduceLT, List.nodup_cons, List.nodup_nil, List.not_mem_nil, not_false_eq_true, and_true, and_self, List.mem_cons, or_false, Nat.reduceEqDiff, Bool.not_true, Bool.not_false, Bool.false_eq_true, true_and, and_false, false_and, reduceCtorEq, if_true, if_false, Int.reduceLE, Int.reduceLT, Int.reduceToNat, Int.reduceNeg, Int.reduceAdd, Int.reduceSub, Int.reduceMul, Int.reduceEq, Nat.reduceMul, decide_eq_true_eq, List.length_set, decide_true, decide_false, Int.toNat_natCast, Bool.not_eq_true, ne_eq]
  refine dcOut_inv (fun i acc ρ => acc.length ≤ 12 * i ∧ (∀ s : Str, (∀ j, j < i → D.str s ∈ row.getD j [] → lookD acc (.inr s) = some (.int j)) ∧ ((∀ j, j < i → D.str s ∉ row.getD j []) → lookD acc (.inr s) = none)) ∧ ρ = [some (.sh (.tup (row.map .tup))), none, none, none]) ⟨by simp, fun s => ⟨fun j z => absurd z (by omega), fun _ => rfl⟩, rfl⟩ (fun i d acc ρ hd ⟨a1, a2, e⟩ => ?_) (fun out ρ' ⟨a1, a2, e⟩ => ?_)
  · have hx_ := enum_at hd
    obtain ⟨x, hx, er_⟩ := hx_
    have hi := lt_of_get hx
    rw [List.length_map] at hi
    rw [row_at hi] at hx
    cases hx
    subst er_ e
    subst_eqs
    have hl := hlot i hi
    refine dcIn_inv (fun m acc ρ => acc.length ≤ 12 * i + m ∧ (∀ s : Str, (∀ j, j < i → D.str s ∈ row.getD j [] → lookD acc (.inr s) = some (.int j)) ∧ (D.str s ∈ (row.getD i []).take m → lookD acc (.inr s) = some (.int i)) ∧ ((∀ j, j < i → D.str s ∉ row.getD j []) → D.str s ∉ (row.getD i []).take m → lookD acc (.inr s) = none)) ∧ ρ = [some (.sh (.tup (row.map .tup))), some (.sh (.int i)), some (.sh (.tup (row.getD i []))), none]) ⟨by omega, fun s => ⟨(a2 s).1, fun z => by simp at z, fun z _ => (a2 s).2 z⟩, by simp⟩ (fun m d acc ρ hd ⟨b1, b2, e⟩ => ?_) (fun out ρ' ⟨b1, b2, e⟩ => ?_)
    · have hm := lt_of_get hd
      have hdm := List.mem_of_getElem? hd
      have hx_ := hl.nm hF d hdm
      obtain ⟨s0, es, _, _⟩ := hx_
      subst es e
      have hl2 := hl.2.1
      subst_eqs
      refine .of (a := .inr s0) rfl ?_
      subst_eqs
      refine it_pos (by rw [sizeLine_v]; omega) ?_
      subst_eqs
      refine ⟨Nat.le_trans putKD_len (by omega), fun s => ?_⟩
      rw [lookD_put]
      have ht : (row.getD i []).take (m + 1) = (row.getD i []).take m ++ [D.str s0] := by
        rw [take_one hm]
        congr 2
        rw [List.getElem?_eq_getElem hm] at hd
        exact Option.some.inj hd
      rw [ht]
      by_cases hs : s0 = s
      · subst hs
        rw [if_pos rfl]
        exact ⟨fun j hj hjm => (row_disj R hj hi hjm hdm).elim, fun _ => rfl, fun _ z => absurd (by simp) z⟩
      · rw [if_neg (fun z => hs (Sum.inr.inj z))]
        refine ⟨(b2 s).1, fun z => (b2 s).2.1 ?_, fun z z2 => (b2 s).2.2 z fun z3 => z2 (List.mem_append_left _ z3)⟩
        rcases List.mem_append.mp z with z | z
        · exact z
        · exact absurd (D.str.inj (List.mem_singleton.mp z)).symm hs
    · subst e
      subst_eqs
      have hl2 := hl.2.1
      refine ⟨by omega, fun s => ⟨fun j hj hm => ?_, fun z => ?_⟩⟩
      · rcases Nat.lt_or_ge j i with h1 | h1
        · exact (b2 s).1 j h1 hm
        · have e : j = i := by omega
          subst e
          exact (b2 s).2.1 (by rw [List.take_length]; exact hm)
      · exact (b2 s).2.2 (fun j hj => z j (by omega)) fun z2 => z i (by omega) (List.mem_of_mem_take z2)
  · subst e
    subst_eqs
    rw [enum_len, List.length_map] at a2
    exact q _ a2
end K91
end L2.My

end
section
set_option Elab.async false
set_option linter.all false
set_option autoImplicit false
set_option maxRecDepth 100000
set_option maxHeartbeats 4000000
/-! Mkg: the rules of a dossier. -/
namespace L2.My
open PySem PySem.Spec PyProof.Rows
local macro_rules | `(tactic| and_intros) => `(tactic| simp only [↓ok_some, ↓ok_bind, ↓ok_ite, it_true, it_false, ↓k_mV, ↓k_mE, ↓k_mF, ↓k_mVar, ↓k_mC, ↓k_mNm, ↓k_m1, ↓k_m2, ↓k_mT, ↓k_mAndT, ↓k_mOrT, ↓k_mNotT, ↓k_mIf, ↓k_mAndV, ↓k_mOrV, ↓k_mNotV, ↓k_mIsi, ↓k_mNil, ↓k_mCons, ↓k_mTup, ↓k_mLst, ↓k_mANil, ↓k_mACons, ↓k_mVE, ↓k_mCall, ↓k_args0, ↓k_args1, ↓k_sSeq, ↓k_then1, ↓k_then2, ↓k_then3, ↓k_then4, ↓k_sNil, ↓k_sSet, ↓k_sExpr, ↓k_sRet, ↓k_sIf, ↓k_sBreak, ↓k_sCont, ↓k_gNm, ↓k_gsNil, ↓k_gsCons, ↓k_gTp, ↓k_sAsg, ↓k_sPar, ↓k_mSo, ↓k_mNo, ↓k_mSl, ↓k_mApp, ↓k_mExt, ↓k_mPop, ↓k_sSetI, ↓k_mIndex, ↓k_mGet, ↓k_mLR1, ↓k_mRng1, ↓k_mItems, ↓k_mEnum, ↓k_mEnumZ, ↓k_sFor, ↓k_fLc, ↓k_mYes, ↓k_mMake, ↓k_sFldI, ↓k_mAnyIn, ↓k_mJoined, ↓k_jNil, ↓k_jCons, ↓k_mDict, ↓k_pNil, ↓k_pCons, ↓k_mChain, ↓k_chain1, ↓k_chain2, ↓k_fnM, ↓k_end1, ↓k_end2, ↓k_outs0, ↓k_outs1, ↓k_outs2, q_mVarS1, q_mVarS2, q_look1, q_look2, q_lookS1, q_lookS2, q_d1, q_d2, q_od1, q_od2, q_od3, q_boolR, q_arg1, q_arg2, q_argS, q_slots0, q_slots1, q_slots2, q_put0, q_put1, q_put2, q_putS, q_slotOf1, q_slotOf2, q_intOf, q_lstS, q_items1, q_items2, q_tupD, q_insS, q_strD, q_outS, p_ix1, p_ix2, p_ix3, p_atI, p_ixN, p_add, p_addS, p_addT, p_addL, p_sub, p_mul, p_div, p_mod, p_pow, p_neg, p_lt, p_le, p_gt, p_ge, p_len1, p_len2, p_len3, p_int, p_abs, p_str, p_max, p_list1, p_list2, p_tuple1, p_tuple2, p_isN, p_notN, p_non1, p_non2, p_non3, p_non4, p_non5, p_isi, p_ty1, p_ty2, p_ty3, p_ty4, p_ty5, p_ty6, p_isi_NoneType_bool, p_isi_NoneType_int, p_isi_NoneType_str, p_isi_NoneType_tuple, p_isi_bool_bool, p_isi_bool_int, p_isi_bool_str, p_isi_bool_tuple, p_isi_int_bool, p_isi_int_int, p_isi_int_str, p_isi_int_tuple, p_isi_str_bool, p_isi_str_int, p_isi_str_str, p_isi_str_tuple, p_isi_tuple_bool, p_isi_tuple_int, p_isi_tuple_str, p_isi_tuple_tuple, p_isi_list_bool, p_isi_list_int, p_isi_list_str, p_isi_list_tuple, p_in, p_notIn, p_eqI, p_neI, p_eqB, p_neB, p_fmt1, p_fmt2, p_fld, p_sl1, p_sl2, p_sl3, q_makeR, q_clean0, q_clean1, q_cleanS1, q_cleanS2, q_wipe0, q_wipe1, q_back0, q_back1, q_join1, q_and1, q_outP1, q_outP2, q_outP3, q_outP4, List.map_cons, List.map_nil, List.cons_append, List.nil_append, List.append_nil, List.length_cons, List.length_nil, List.getElem?_cons_zero, List.getElem?_cons_succ, List.getElem?_nil, List.set_cons_zero, List.set_cons_succ, Nat.reduceAdd, Nat.reduceSub, List.replicate_succ, List.replicate_zero, Nat.zero_add, reduceIte, Nat.reduceLeDiff, Nat.reduceLT, List.nodup_cons, List.nodup_nil, List.not_mem_nil, not_false_eq_true, and_true, and_self, List.mem_cons, or_false, Nat.reduceEqDiff, Bool.not_true, Bool.not_false, Bool.false_eq_true, true_and, and_false, false_and, reduceCtorEq, if_true, if_false, Int.reduceLE, Int.reduceLT, Int.reduceToNat, Int.reduceNeg, Int.reduceAdd, Int.reduceSub, Int.reduceMul, Int.reduceEq, Nat.reduceMul, decide_eq_true_eq, List.length_set, decide_true, decide_false, Int.toNat_natCast, Bool.not_eq_true, ne_eq])
local macro_rules | `(tactic| subst_eqs) => `(tactic| simp only [↓ok_some, ↓ok_bind, ↓ok_ite, it_true, it_false, ↓k_mV, ↓k_mE, ↓k_mF, ↓k_mVar, ↓k_mC, ↓k_mNm, ↓k_m1, ↓k_m2, ↓k_mT, ↓k_mAndT, ↓k_mOrT, ↓k_mNotT, ↓k_mIf, ↓k_mAndV, ↓k_mOrV, ↓k_mNotV, ↓k_mIsi, ↓k_mNil, ↓k_mCons, ↓k_mTup, ↓k_mLst, ↓k_mANil, ↓k_mACons, ↓k_mVE, ↓k_mCall, ↓k_args0, ↓k_args1, ↓k_sSeq, ↓k_then1, ↓k_then2, ↓k_then3, ↓k_then4, ↓k_sNil, ↓k_sSet, ↓k_sExpr, ↓k_sRet, ↓k_sIf, ↓k_sBreak, ↓k_sCont, ↓k_gNm, ↓k_gsNil, ↓k_gsCons, ↓k_gTp, ↓k_sAsg, ↓k_sPar, ↓k_mSo, ↓k_mNo, ↓k_mSl, ↓k_mApp, ↓k_mExt, ↓k_mPop, ↓k_sSetI, ↓k_mIndex, ↓k_mGet, ↓k_mLR1, ↓k_mRng1, ↓k_mItems, ↓k_mEnum, ↓k_mEnumZ, ↓k_sFor, ↓k_fLc, ↓k_mYes, ↓k_mMake, ↓k_sFldI, ↓k_mAnyIn, ↓k_mJoined, ↓k_jNil, ↓k_jCons, ↓k_mDict, ↓k_pNil, ↓k_pCons, ↓k_mChain, ↓k_chain1, ↓k_chain2, ↓k_fnM, ↓k_end1, ↓k_end2, ↓k_outs0, ↓k_outs1, ↓k_outs2, q_mVarS1, q_mVarS2, q_look1, q_look2, q_lookS1, q_lookS2, q_d1, q_d2, q_od1, q_od2, q_od3, q_boolR, q_arg1, q_arg2, q_argS, q_slots0, q_slots1, q_slots2, q_put0, q_put1, q_put2, q_putS, q_slotOf1, q_slotOf2, q_intOf, q_lstS, q_items1, q_items2, q_tupD, q_insS, q_strD, q_outS, p_ix1, p_ix2, p_ix3, p_atI, p_ixN, p_add, p_addS, p_addT, p_addL, p_sub, p_mul, p_div, p_mod, p_pow, p_neg, p_lt, p_le, p_gt, p_ge, p_len1, p_len2, p_len3, p_int, p_abs, p_str, p_max, p_list1, p_list2, p_tuple1, p_tuple2, p_isN, p_notN, p_non1, p_non2, p_non3, p_non4, p_non5, p_isi, p_ty1, p_ty2, p_ty3, p_ty4, p_ty5, p_ty6, p_isi_NoneType_bool, p_isi_NoneType_int, p_isi_NoneType_str, p_isi_NoneType_tuple, p_isi_bool_bool, p_isi_bool_int, p_isi_bool_str, p_isi_bool_tuple, p_isi_int_bool, p_isi_int_int, p_isi_int_str, p_isi_int_tuple, p_isi_str_bool, p_isi_str_int, p_isi_str_str, p_isi_str_tuple, p_isi_tuple_bool, p_isi_tuple_int, p_isi_tuple_str, p_isi_tuple_tuple, p_isi_list_bool, p_isi_list_int, p_isi_list_str, p_isi_list_tuple, p_in, p_notIn, p_eqI, p_neI, p_eqB, p_neB, p_fmt1, p_fmt2, p_fld, p_sl1, p_sl2, p_sl3, q_makeR, q_clean0, q_clean1, q_cleanS1, q_cleanS2, q_wipe0, q_wipe1, q_back0, q_back1, q_join1, q_and1, q_outP1, q_outP2, q_outP3, q_outP4, List.map_cons, List.map_nil, List.cons_append, List.nil_append, List.append_nil, List.length_cons, List.length_nil, List.getElem?_cons_zero, List.getElem?_cons_succ, List.getElem?_nil, List.set_cons_zero, List.set_cons_succ, Nat.reduceAdd, Nat.reduceSub, List.replicate_succ, List.replicate_zero, Nat.zero_add, reduceIte, Nat.reduceLeDiff, Nat.reduceLT, List.nodup_cons, List.nodup_nil, List.not_mem_nil, not_false_eq_true, and_true, and_self, List.mem_cons, or_false, Nat.reduceEqDiff, Bool.not_true, Bool.not_false, Bool.false_eq_true, true_and, and_false, false_and, reduceCtorEq, if_true, if_false, Int.reduceLE, Int.reduceLT, Int.reduceToNat, Int.reduceNeg, Int.reduceAdd, Int.reduceSub, Int.reduceMul, Int.reduceEq, Nat.reduceMul, decide_eq_true_eq, List.length_set, decide_true, decide_false, Int.toNat_natCast, Bool.not_eq_true, ne_eq, List.length_map, List.length_append])
namespace K91
variable {F : List D}
noncomputable def bandsT (t : Th) : D := .tup (t.bands.map .tup)
def LotsOk (ts : List Th) (LS : List D) : Prop := LS.length = ts.length ∧ ∀ (n : Nat) (rows : List (List (List D))), ts[n]? = some (.ser rows) → ∃ kds : List (List (Key × D)), LS[n]? = some (.lst (kds.map .dic)) ∧ kds.length = rows.length ∧ ∀ (i : Nat) row kd, rows[i]? = some row → kds[i]? = some kd → RowDic row kd
noncomputable def fldsD (F : List D) (ts : List Th) (LS : List D) : List (Str × D) := [(Str.ofString "finds", .tup F), (Str.ofString "things", .tup (ts.map Th.d)), (Str.ofString "bands", .lst (ts.map bandsT)), (Str.ofString "lots", .lst LS)]
theorem putFD_len {f : Str} {v : D} : ∀ {fs : List (Str × D)} {n : Nat}, fs.length ≤ n → (putFD f v fs).length ≤ n + 1
  | [], n, _ => by simp [putFD]
  | (g, x) :: r, n, h => by
    have h : r.length + 1 ≤ n := h
    unfold putFD
    split
    · simp only [List.length_cons]; omega
    · have := putFD_len (f := f) (v := v) (fs := r) (n := r.length) (Nat.le_refl _)
      simp only [List.length_cons]; omega
theorem plen {f : Str} {v : D} {fs : List (Str × D)} {n : Nat} (hn : n ≤ 900) (h : fs.length ≤ n) : (putFD f v fs).length < 1000 := by
  have := putFD_len (f := f) (v := v) h
  omega
theorem flds_put {a b c d : D} : putFD (Str.ofString "lots") d (putFD (Str.ofString "bands") c (putFD (Str.ofString "things") b (putFD (Str.ofString "finds") a []))) = [(Str.ofString "finds", a), (Str.ofString "things", b), (Str.ofString "bands", c), (Str.ofString "lots", d)] := by
  have e1 : ¬ Str.ofString "finds" = Str.ofString "things" := by decide +kernel
  have e2 : ¬ Str.ofString "finds" = Str.ofString "bands" := by decide +kernel
  have e3 : ¬ Str.ofString "finds" = Str.ofString "lots" := by decide +kernel
  have e4 : ¬ Str.ofString "things" = Str.ofString "bands" := by decide +kernel
  have e5 : ¬ Str.ofString "things" = Str.ofString "lots" := by decide +kernel
  have e6 : ¬ Str.ofString "bands" = Str.ofString "lots" := by decide +kernel
  simp only [putFD, if_neg e1, if_neg e2, if_neg e3, if_neg e4, if_neg e5, if_neg e6]
theorem fld1 {F : List D} {ts : List Th} {LS : List D} : (fldsD F ts LS).lookup (Str.ofString "things") = some (.tup (ts.map Th.d)) := by
  have e1 : (Str.ofString "things" == Str.ofString "finds") = false := by decide +kernel
  have e2 : (Str.ofString "things" == Str.ofString "things") = true := by decide +kernel
  simp only [fldsD, List.lookup_cons, e1, e2]
theorem fld2 {F : List D} {ts : List Th} {LS : List D} : (fldsD F ts LS).lookup (Str.ofString "bands") = some (.lst (ts.map bandsT)) := by
  have e1 : (Str.ofString "bands" == Str.ofString "finds") = false := by decide +kernel
  have e2 : (Str.ofString "bands" == Str.ofString "things") = false := by decide +kernel
  have e3 : (Str.ofString "bands" == Str.ofString "bands") = true := by decide +kernel
  simp only [fldsD, List.lookup_cons, e1, e2, e3]
theorem fld3 {F : List D} {ts : List Th} {LS : List D} : (fldsD F ts LS).lookup (Str.ofString "lots") = some (.lst LS) := by
  have e1 : (Str.ofString "lots" == Str.ofString "finds") = false := by decide +kernel
  have e2 : (Str.ofString "lots" == Str.ofString "things") = false := by decide +kernel
  have e3 : (Str.ofString "lots" == Str.ofString "bands") = false := by decide +kernel
  have e4 : (Str.ofString "lots" == Str.ofString "lots") = true := by decide +kernel
  simp only [fldsD, List.lookup_cons, e1, e2, e3, e4]
def dosD (F : List D) (ts : List Th) : D := .tup [.tup F, .tup (ts.map Th.d)]
theorem rules_ok {ts : List Th} {sp : List Nat} (dos : Dos F ts sp) {k : Ct (RV × List MO)} (q : ∀ LS, LotsOk ts LS → k.run (.sh .non, [.ins (Str.ofString "Rules") (fldsD F ts LS)])) : @Ok _ (fm_Rules_init [.mu true (.ins (Str.ofString "Rules") []), .sh (dosD F ts)]) k := by
  unfold fm_Rules_init mx_Rules_init
  simp only [dosD]
  have hF := dos.f
  have tl := dos.len
  subst_eqs
  refine it_pos (plen (n := 0) (by omega) (Nat.le_refl _)) ?_
  subst_eqs
  have hx_ : ∃ f1, f1 = putFD (Str.ofString "things") (.tup (ts.map Th.d)) (putFD (Str.ofString "finds") (.tup F) []) := ⟨_, rfl⟩
  refine lcL_inv (fun i acc ρ => acc = (ts.take i).map bandsT ∧ ρ = [some (.mu true (.ins (Str.ofString "Rules") (putFD (Str.ofString "things") (.tup (ts.map Th.d)) (putFD (Str.ofString "finds") (.tup F) [])))), some (.sh (.tup [.tup F, .tup (ts.map Th.d)])), none, none]) (by rw [List.length_map, sizeLine_v]; omega) ⟨rfl, rfl⟩ (fun i d acc ρ hd ha ⟨e1, e⟩ => ?_) fun out ρ' hl ⟨e1, e⟩ => ?_
  · have hx_ := map_at hd
    obtain ⟨hi, er_⟩ := hx_
    subst er_ e e1
    subst_eqs
    refine bands_of_ok hF (dos.ok _ (List.getElem_mem hi)) ?_
    subst_eqs
    rw [take_one hi, List.map_append]
    rfl
  · rw [List.length_map] at e1
    rw [List.take_of_length_le (Nat.le_refl _)] at e1
    subst e e1
    subst_eqs
    refine it_pos (plen (n := 1) (by omega) (putFD_len (Nat.le_refl _))) ?_
    subst_eqs
    refine lcL_inv (fun i acc ρ => (acc.length = i ∧ ∀ (n : Nat) (rows : List (List (List D))), n < i → ts[n]? = some (.ser rows) → ∃ kds : List (List (Key × D)), acc[n]? = some (.lst (kds.map .dic)) ∧ kds.length = rows.length ∧ ∀ (i : Nat) row kd, rows[i]? = some row → kds[i]? = some kd → RowDic row kd) ∧ ρ = [some (.mu true (.ins (Str.ofString "Rules") (putFD (Str.ofString "bands") (.lst (ts.map bandsT)) (putFD (Str.ofString "things") (.tup (ts.map Th.d)) (putFD (Str.ofString "finds") (.tup F) []))))), some (.sh (.tup [.tup F, .tup (ts.map Th.d)])), none, none]) (by rw [List.length_map, sizeLine_v]; omega) ⟨⟨rfl, fun n rows z => absurd z (by omega)⟩, rfl⟩ (fun i d acc ρ hd ha ⟨⟨e1, e2⟩, e⟩ => ?_) fun out ρ' hl ⟨⟨e1, e2⟩, e⟩ => ?_
    · have hx_ := map_at hd
      obtain ⟨hi, er_⟩ := hx_
      have hx_ : ∃ t, t = ts[i] := ⟨_, rfl⟩
      obtain ⟨t, et⟩ := hx_
      have ht : ts[i]? = some t := by rw [et]; exact List.getElem?_eq_getElem hi
      have tok := dos.ok _ (List.mem_of_getElem? ht)
      rw [← et] at er_
      have hx_ := head_at (t := t)
      obtain ⟨rr, hr⟩ := hx_
      have keep : ∀ x : D, (∀ rows, t = .ser rows → ∃ kds : List (List (Key × D)), x = .lst (kds.map .dic) ∧ kds.length = rows.length ∧ ∀ (i : Nat) row kd, rows[i]? = some row → kds[i]? = some kd → RowDic row kd) → (acc.length = i ∧ ∀ (n : Nat) (rows : List (List (List D))), n < i + 1 → ts[n]? = some (.ser rows) → ∃ kds : List (List (Key × D)), (acc ++ [x])[n]? = some (.lst (kds.map .dic)) ∧ kds.length = rows.length ∧ ∀ (i : Nat) row kd, rows[i]? = some row → kds[i]? = some kd → RowDic row kd) := fun x hx => by
        refine ⟨e1, fun n rows hn h => ?_⟩
        rcases Nat.lt_or_ge n i with h1 | h1
        · rw [List.getElem?_append_left (by omega)]
          exact e2 n rows h1 h
        · have e : n = i := by omega
          subst e
          rw [ht] at h
          obtain ⟨kds, k1, k2⟩ := hx rows (Option.some.inj h)
          refine ⟨kds, ?_, k2⟩
          rw [List.getElem?_append_right (by omega), e1, Nat.sub_self, k1]
          rfl
      subst e
      cases t with
      | ser rows =>
        subst er_
        simp only [Th.d, tg]
        subst_eqs
        refine .of (tag_eq (by simp [tags]) (by simp [tags])) ?_
        subst_eqs
        have hrl := tok.1
        refine lcL_inv (fun j acc2 ρ => (∃ kds : List (List (Key × D)), acc2 = kds.map .dic ∧ kds.length = j ∧ ∀ (i : Nat) row kd, rows[i]? = some row → kds[i]? = some kd → RowDic row kd) ∧ ρ = [some (.mu true (.ins (Str.ofString "Rules") (putFD (Str.ofString "bands") (.lst (ts.map bandsT)) (putFD (Str.ofString "things") (.tup (ts.map Th.d)) (putFD (Str.ofString "finds") (.tup F) []))))), some (.sh (.tup [.tup F, .tup (ts.map Th.d)])), some (.sh (.tup [.str (Str.ofString "series"), .tup (rows.map rowD)])), none]) (by rw [List.length_map, sizeLine_v]; omega) ⟨⟨[], rfl, rfl, by simp⟩, rfl⟩ (fun j d acc2 ρ hd ha ⟨⟨kds, f1, f2, f3⟩, e⟩ => ?_) fun out ρ' hl ⟨⟨kds, f1, f2, f3⟩, e⟩ => ?_
        · have hx_ := map_at hd
          obtain ⟨hj, er_⟩ := hx_
          subst er_ e
          subst_eqs
          refine lot_numbers_ok hF (tok.2 _ (List.getElem_mem hj)) fun kd hkd => ?_
          subst_eqs
          refine ⟨kds ++ [kd], by rw [f1, List.map_append]; rfl, by rw [List.length_append, f2]; rfl, fun i' row' kd' h1 h2 => ?_⟩
          rcases Nat.lt_or_ge i' kds.length with h3 | h3
          · rw [List.getElem?_append_left h3] at h2
            exact f3 i' row' kd' h1 h2
          · have h4 : i' = kds.length := by have := lt_of_get h2; rw [List.length_append] at this; simp at this; omega
            subst h4
            rw [List.getElem?_append_right (by omega), Nat.sub_self] at h2
            cases h2
            rw [f2, List.getElem?_eq_getElem hj] at h1
            cases h1
            exact hkd
        · rw [List.length_map] at f2
          subst e f1
          subst_eqs
          refine keep _ fun rows' h => ?_
          cases h
          exact ⟨kds, rfl, f2, f3⟩
      | eld A B =>
        subst er_
        simp only [Th.d, tg]
        subst_eqs
        refine .of (tag_eq (by simp [tags]) (by simp [tags])) ?_
        subst_eqs
        refine it_neg (by decide) ?_
        subst_eqs
        exact keep _ fun rows z => by cases z
      | war A =>
        subst er_
        simp only [Th.d, tg]
        subst_eqs
        refine .of (tag_eq (by simp [tags]) (by simp [tags])) ?_
        subst_eqs
        refine it_neg (by decide) ?_
        subst_eqs
        exact keep _ fun rows z => by cases z
      | yrs A lo hi =>
        subst er_
        simp only [Th.d, tg]
        subst_eqs
        refine .of (tag_eq (by simp [tags]) (by simp [tags])) ?_
        subst_eqs
        refine it_neg (by decide) ?_
        subst_eqs
        exact keep _ fun rows z => by cases z
    · rw [List.length_map] at e1 e2
      subst e
      subst_eqs
      refine it_pos (plen (n := 2) (by omega) (putFD_len (putFD_len (Nat.le_refl _)))) ?_
      subst_eqs
      have := q out ⟨e1, fun n rows h => e2 n rows (lt_of_get h) h⟩
      unfold fldsD at this
      rw [← flds_put] at this
      exact this
end K91
end L2.My

end
section
set_option Elab.async false
set_option linter.all false
set_option autoImplicit false
set_option maxRecDepth 100000
set_option maxHeartbeats 4000000
/-! Mkh: right lines lead. -/
namespace L2.My
open PySem PySem.Spec PyProof.Rows
local macro_rules | `(tactic| and_intros) => `(tactic| simp only [↓ok_some, ↓ok_bind, ↓ok_ite, it_true, it_false, ↓k_mV, ↓k_mE, ↓k_mF, ↓k_mVar, ↓k_mC, ↓k_mNm, ↓k_m1, ↓k_m2, ↓k_mT, ↓k_mAndT, ↓k_mOrT, ↓k_mNotT, ↓k_mIf, ↓k_mAndV, ↓k_mOrV, ↓k_mNotV, ↓k_mIsi, ↓k_mNil, ↓k_mCons, ↓k_mTup, ↓k_mLst, ↓k_mANil, ↓k_mACons, ↓k_mVE, ↓k_mCall, ↓k_args0, ↓k_args1, ↓k_sSeq, ↓k_then1, ↓k_then2, ↓k_then3, ↓k_then4, ↓k_sNil, ↓k_sSet, ↓k_sExpr, ↓k_sRet, ↓k_sIf, ↓k_sBreak, ↓k_sCont, ↓k_gNm, ↓k_gsNil, ↓k_gsCons, ↓k_gTp, ↓k_sAsg, ↓k_sPar, ↓k_mSo, ↓k_mNo, ↓k_mSl, ↓k_mApp, ↓k_mExt, ↓k_mPop, ↓k_sSetI, ↓k_mIndex, ↓k_mGet, ↓k_mLR1, ↓k_mRng1, ↓k_mItems, ↓k_mEnum, ↓k_mEnumZ, ↓k_sFor, ↓k_fLc, ↓k_mYes, ↓k_mMake, ↓k_sFldI, ↓k_mAnyIn, ↓k_mJoined, ↓k_jNil, ↓k_jCons, ↓k_mDict, ↓k_pNil, ↓k_pCons, ↓k_mChain, ↓k_chain1, ↓k_chain2, ↓k_fnM, ↓k_end1, ↓k_end2, ↓k_outs0, ↓k_outs1, ↓k_outs2, q_mVarS1, q_mVarS2, q_look1, q_look2, q_lookS1, q_lookS2, q_d1, q_d2, q_od1, q_od2, q_od3, q_boolR, q_arg1, q_arg2, q_argS, q_slots0, q_slots1, q_slots2, q_put0, q_put1, q_put2, q_putS, q_slotOf1, q_slotOf2, q_intOf, q_lstS, q_items1, q_items2, q_tupD, q_insS, q_strD, q_outS, p_ix1, p_ix2, p_ix3, p_atI, p_ixN, p_add, p_addS, p_addT, p_addL, p_sub, p_mul, p_div, p_mod, p_pow, p_neg, p_lt, p_le, p_gt, p_ge, p_len1, p_len2, p_len3, p_int, p_abs, p_str, p_max, p_list1, p_list2, p_tuple1, p_tuple2, p_isN, p_notN, p_non1, p_non2, p_non3, p_non4, p_non5, p_isi, p_ty1, p_ty2, p_ty3, p_ty4, p_ty5, p_ty6, p_isi_NoneType_bool, p_isi_NoneType_int, p_isi_NoneType_str, p_isi_NoneType_tuple, p_isi_bool_bool, p_isi_bool_int, p_isi_bool_str, p_isi_bool_tuple, p_isi_int_bool, p_isi_int_int, p_isi_int_str, p_isi_int_tuple, p_isi_str_bool, p_isi_str_int, p_isi_str_str, p_isi_str_tuple, p_isi_tuple_bool, p_isi_tuple_int, p_isi_tuple_str, p_isi_tuple_tuple, p_isi_list_bool, p_isi_list_int, p_isi_list_str, p_isi_list_tuple, p_in, p_notIn, p_eqI, p_neI, p_eqB, p_neB, p_fmt1, p_fmt2, p_fld, p_sl1, p_sl2, p_sl3, q_makeR, q_clean0, q_clean1, q_cleanS1, q_cleanS2, q_wipe0, q_wipe1, q_back0, q_back1, q_join1, q_and1, q_outP1, q_outP2, q_outP3, q_outP4, List.map_cons, List.map_nil, List.cons_append, List.nil_append, List.append_nil, List.length_cons, List.length_nil, List.getElem?_cons_zero, List.getElem?_cons_succ, List.getElem?_nil, List.set_cons_zero, List.set_cons_succ, Nat.reduceAdd, Nat.reduceSub, List.replicate_succ, List.replicate_zero, Nat.zero_add, reduceIte, Nat.reduceLeDiff, Nat.reduceLT, List.nodup_cons, List.nodup_nil, List.not_mem_nil, not_false_eq_true, and_true, and_self, List.mem_cons, or_false, Nat.reduceEqDiff, Bool.not_true, Bool.not_false, Bool.false_eq_true, true_and, and_false, false_and, reduceCtorEq, if_true, if_false, Int.reduceLE, Int.reduceLT, Int.reduceToNat, Int.reduceNeg, Int.reduceAdd, Int.reduceSub, Int.reduceMul, Int.reduceEq, Nat.reduceMul, decide_eq_true_eq, List.length_set, decide_true, decide_false, Int.toNat_natCast, Bool.not_eq_true, ne_eq])
local macro_rules | `(tactic| subst_eqs) => `(tactic| simp only [↓ok_some, ↓ok_bind, ↓ok_ite, it_true, it_false, ↓k_mV, ↓k_mE, ↓k_mF, ↓k_mVar, ↓k_mC, ↓k_mNm, ↓k_m1, ↓k_m2, ↓k_mT, ↓k_mAndT, ↓k_mOrT, ↓k_mNotT, ↓k_mIf, ↓k_mAndV, ↓k_mOrV, ↓k_mNotV, ↓k_mIsi, ↓k_mNil, ↓k_mCons, ↓k_mTup, ↓k_mLst, ↓k_mANil, ↓k_mACons, ↓k_mVE, ↓k_mCall, ↓k_args0, ↓k_args1, ↓k_sSeq, ↓k_then1, ↓k_then2, ↓k_then3, ↓k_then4, ↓k_sNil, ↓k_sSet, ↓k_sExpr, ↓k_sRet, ↓k_sIf, ↓k_sBreak, ↓k_sCont, ↓k_gNm, ↓k_gsNil, ↓k_gsCons, ↓k_gTp, ↓k_sAsg, ↓k_sPar, ↓k_mSo, ↓k_mNo, ↓k_mSl, ↓k_mApp, ↓k_mExt, ↓k_mPop, ↓k_sSetI, ↓k_mIndex, ↓k_mGet, ↓k_mLR1, ↓k_mRng1, ↓k_mItems, ↓k_mEnum, ↓k_mEnumZ, ↓k_sFor, ↓k_fLc, ↓k_mYes, ↓k_mMake, ↓k_sFldI, ↓k_mAnyIn, ↓k_mJoined, ↓k_jNil, ↓k_jCons, ↓k_mDict, ↓k_pNil, ↓k_pCons, ↓k_mChain, ↓k_chain1, ↓k_chain2, ↓k_fnM, ↓k_end1, ↓k_end2, ↓k_outs0, ↓k_outs1, ↓k_outs2, q_mVarS1, q_mVarS2, q_look1, q_look2, q_lookS1, q_lookS2, q_d1, q_d2, q_od1, q_od2, q_od3, q_boolR, q_arg1, q_arg2, q_argS, q_slots0, q_slots1, q_slots2, q_put0, q_put1, q_put2, q_putS, q_slotOf1, q_slotOf2, q_intOf, q_lstS, q_items1, q_items2, q_tupD, q_insS, q_strD, q_outS, p_ix1, p_ix2, p_ix3, p_atI, p_ixN, p_add, p_addS, p_addT, p_addL, p_sub, p_mul, p_div, p_mod, p_pow, p_neg, p_lt, p_le, p_gt, p_ge, p_len1, p_len2, p_len3, p_int, p_abs, p_str, p_max, p_list1, p_list2, p_tuple1, p_tuple2, p_isN, p_notN, p_non1, p_non2, p_non3, p_non4, p_non5, p_isi, p_ty1, p_ty2, p_ty3, p_ty4, p_ty5, p_ty6, p_isi_NoneType_bool, p_isi_NoneType_int, p_isi_NoneType_str, p_isi_NoneType_tuple, p_isi_bool_bool, p_isi_bool_int, p_isi_bool_str, p_isi_bool_tuple, p_isi_int_bool, p_isi_int_int, p_isi_int_str, p_isi_int_tuple, p_isi_str_bool, p_isi_str_int, p_isi_str_str, p_isi_str_tuple, p_isi_tuple_bool, p_isi_tuple_int, p_isi_tuple_str, p_isi_tuple_tuple, p_isi_list_bool, p_isi_list_int, p_isi_list_str, p_isi_list_tuple, p_in, p_notIn, p_eqI, p_neI, p_eqB, p_neB, p_fmt1, p_fmt2, p_fld, p_sl1, p_sl2, p_sl3, q_makeR, q_clean0, q_clean1, q_cleanS1, q_cleanS2, q_wipe0, q_wipe1, q_back0, q_back1, q_join1, q_and1, q_outP1, q_outP2, q_outP3, q_outP4, List.map_cons, List.map_nil, List.cons_append, List.nil_append, List.append_nil, List.length_cons, List.length_nil, List.getElem?_cons_zero, List.getElem?_cons_succ, List.getElem?_nil, List.set_cons_zero, List.set_cons_succ, Nat.reduceAdd, Nat.reduceSub, List.replicate_succ, List.replicate_zero, Nat.zero_add, reduceIte, Nat.reduceLeDiff, Nat.reduceLT, List.nodup_cons, List.nodup_nil, List.not_mem_nil, not_false_eq_true, and_true, and_self, List.mem_cons, or_false, Nat.reduceEqDiff, Bool.not_true, Bool.not_false, Bool.false_eq_true, true_and, and_false, false_and, reduceCtorEq, if_true, if_false, Int.reduceLE, Int.reduceLT, Int.reduceToNat, Int.reduceNeg, Int.reduceAdd, Int.reduceSub, Int.reduceMul, Int.reduceEq, Nat.reduceMul, decide_eq_true_eq, List.length_set, decide_true, decide_false, Int.toNat_natCast, Bool.not_eq_true, ne_eq, List.length_map, List.length_append])
namespace K91
variable {F : List D}
noncomputable def rulesD (F : List D) (ts : List Th) (LS : List D) : D := .ins (Str.ofString "Rules") (fldsD F ts LS)
theorem whole_ok {i : Int} {k : Ct (RV × List MO)} (q : k.run (.sh (.bl true), [])) : @Ok _ (fm_is_whole [.sh (.int i)]) k := by
  unfold fm_is_whole mx_is_whole
  subst_eqs
  exact q
theorem number_ok {i m : Int} (h0 : 0 ≤ i) (h1 : i < m) {k : Ct (RV × List MO)} (q : k.run (.sh (.bl true), [])) : @Ok _ (fm_is_number [.sh (.int i), .sh (.int m)]) k := by
  unfold fm_is_number mx_is_number
  subst_eqs
  refine whole_ok ?_
  subst_eqs
  rw [decide_eq_true h0]
  subst_eqs
  rw [decide_eq_true h1]
  exact q
theorem row_pos {row : List (List D)} (x : D) : (∃ j, j < row.length ∧ x ∈ row.getD j []) ∨ ∀ j, j < row.length → x ∉ row.getD j [] := by
  by_cases h : ∃ j, j < row.length ∧ x ∈ row.getD j []
  · exact .inl h
  · exact .inr fun j hj hx => h ⟨j, hj, hx⟩
theorem row_uniq {row : List (List D)} (R : Row F row) {i j : Nat} (hi : i < row.length) (hj : j < row.length) {x : D} (h1 : x ∈ row.getD i []) (h2 : x ∈ row.getD j []) : i = j := by
  rcases Nat.lt_trichotomy i j with h | h | h
  · exact (row_disj R h hj h1 h2).elim
  · exact h
  · exact (row_disj R h hi h2 h1).elim
theorem directions_ok {ts : List Th} {sp : List Nat} (dos : Dos F ts sp) {LS : List D} (hL : LotsOk ts LS) {n : Nat} {rows : List (List (List D))} (ht : ts[n]? = some (.ser rows)) {a b : D} (ha : a ∈ F) (hb : b ∈ F) {k : Ct (RV × List MO)}
    (q : ∀ bs : List Bool, ((∃ row ∈ rows, Far row a b) → true ∈ bs) → ((∃ row ∈ rows, Far row b a) → false ∈ bs) → k.run (.sh (.lst (bs.map .bl)), [])) : @Ok _ (fm_row_directions [.sh (rulesD F ts LS), .sh (.int n), .sh a, .sh b]) k := by
  have hx_ := dos.f.nm a ha
  obtain ⟨sa, ea, _, _⟩ := hx_
  have hx_ := dos.f.nm b hb
  obtain ⟨sb, eb, _, _⟩ := hx_
  have hx_ := hL.2 n rows ht
  obtain ⟨kds, k1, k2, k3⟩ := hx_
  have tok := dos.ok _ (List.mem_of_getElem? ht)
  have hrl := tok.1
  subst ea eb
  unfold fm_row_directions mx_row_directions
  simp only [rulesD]
  have hx_ : ∃ R, R = D.ins (Str.ofString "Rules") (fldsD F ts LS) := ⟨_, rfl⟩
  subst_eqs
  refine .of fld3 ?_
  subst_eqs
  refine it_pos (by omega) ?_
  subst_eqs
  refine it_pos (lt_of_get k1) ?_
  subst_eqs
  refine .of k1 ?_
  subst_eqs
  refine sForL_inv (fun i ρ => ∃ (bs : List Bool) (x5 x6 x7 : Option SV), bs.length ≤ i ∧ ((∃ j row, j < i ∧ rows[j]? = some row ∧ Far row (.str sa) (.str sb)) → true ∈ bs) ∧ ((∃ j row, j < i ∧ rows[j]? = some row ∧ Far row (.str sb) (.str sa)) → false ∈ bs) ∧ ρ = [some (.sh (.ins (Str.ofString "Rules") (fldsD F ts LS))), some (.sh (.int n)), some (.sh (.str sa)), some (.sh (.str sb)), some (.mu false (.lst (bs.map .bl))), x5, x6, x7]) (fun _ => False) (fun _ _ => False) ⟨[], none, none, none, by simp, fun ⟨j, row, z, _⟩ => absurd z (by omega), fun ⟨j, row, z, _⟩ => absurd z (by omega), rfl⟩ (fun i d ρ hd ⟨bs, x5, x6, x7, c1, c2, c3, e⟩ => ?_) (fun ρ' ⟨bs, x5, x6, x7, c1, c2, c3, e⟩ => ?_) (fun _ z => z.elim) (fun _ _ z => z.elim)
  · have hx_ := map_at hd
    obtain ⟨hi, er_⟩ := hx_
    have hx_ : ∃ kd, kds[i]? = some kd ∧ kd = kds[i] := ⟨_, List.getElem?_eq_getElem hi, rfl⟩
    obtain ⟨kd, hkd, ekd⟩ := hx_
    rw [← ekd] at er_
    have hx_ : ∃ row, rows[i]? = some row := ⟨_, List.getElem?_eq_getElem (by omega)⟩
    obtain ⟨row, hrow⟩ := hx_
    have R := tok.2 row (List.mem_of_getElem? hrow)
    have dic := k3 i row kd hrow hkd
    have R3 := R.l3
    subst er_ e
    have far_i : ∀ {x y : D} {j : Nat} {row' : List (List D)}, j < i + 1 → rows[j]? = some row' → Far row' x y → (∃ j row, j < i ∧ rows[j]? = some row ∧ Far row x y) ∨ Far row x y := fun {x y j row'} h1 h2 h3 => by
      rcases Nat.lt_or_ge j i with h4 | h4
      · exact .inl ⟨j, row', h4, h2, h3⟩
      · have e : j = i := by omega
        subst e
        rw [hrow] at h2
        cases h2
        exact .inr h3
    have keep : (¬ Far row (.str sa) (.str sb)) → (¬ Far row (.str sb) (.str sa)) → bs.length ≤ i + 1 ∧ ((∃ j row, j < i + 1 ∧ rows[j]? = some row ∧ Far row (.str sa) (.str sb)) → true ∈ bs) ∧ ((∃ j row, j < i + 1 ∧ rows[j]? = some row ∧ Far row (.str sb) (.str sa)) → false ∈ bs) := fun h1 h2 =>
      ⟨by omega, fun ⟨j, row', z1, z2, z3⟩ => c2 ((far_i z1 z2 z3).resolve_right h1), fun ⟨j, row', z1, z2, z3⟩ => c3 ((far_i z1 z2 z3).resolve_right h2)⟩
    subst_eqs
    refine .of (a := .sh ((lookD kd (.inr sa)).getD .non)) rfl ?_
    subst_eqs
    refine .of (a := .sh ((lookD kd (.inr sb)).getD .non)) rfl ?_
    rcases row_pos (row := row) (.str sa) with ⟨ja, hja, ma⟩ | na
    · have ea : lookD kd (.inr sa) = some (.int ja) := (dic sa).1 ja hja ma
      rcases row_pos (row := row) (.str sb) with ⟨jb, hjb, mb⟩ | nb
      · have eb : lookD kd (.inr sb) = some (.int jb) := (dic sb).1 jb hjb mb
        simp only [ea, eb, Option.getD_some]
        subst_eqs
        refine it_of (fun b1 => ?_) (fun b1 => ?_)
        · subst_eqs
          refine it_pos (by rw [sizeLine_v]; omega) ?_
          subst_eqs
          refine ⟨bs ++ [decide ((ja : Int) < jb)], _, _, _, by rw [List.length_append]; simp; omega, fun ⟨j, row', z1, z2, z3⟩ => ?_, fun ⟨j, row', z1, z2, z3⟩ => ?_, by rw [List.map_append]; rfl⟩
          · rcases far_i z1 z2 z3 with z | ⟨j', k', h1, h2, h3, h4⟩
            · exact List.mem_append_left _ (c2 z)
            · have e1 := row_uniq R (by omega) hja h3 ma
              have e2 := row_uniq R h2 hjb h4 mb
              refine List.mem_append_right _ ?_
              rw [decide_eq_true (by omega)]
              simp
          · rcases far_i z1 z2 z3 with z | ⟨j', k', h1, h2, h3, h4⟩
            · exact List.mem_append_left _ (c3 z)
            · have e1 := row_uniq R (by omega) hjb h3 mb
              have e2 := row_uniq R h2 hja h4 ma
              refine List.mem_append_right _ ?_
              rw [decide_eq_false (by omega)]
              simp
        · subst_eqs
          have hj : ja = jb := by
            have : (ja : Int) = jb := by simpa using b1
            omega
          refine ⟨bs, _, _, _, (keep ?_ ?_).1, (keep ?_ ?_).2.1, (keep ?_ ?_).2.2, rfl⟩
          all_goals
            rintro ⟨j', k', h1, h2, h3, h4⟩
            first
            | (have e1 := row_uniq R (by omega) hja h3 ma
               have e2 := row_uniq R h2 hjb h4 mb
               omega)
            | (have e1 := row_uniq R (by omega) hjb h3 mb
               have e2 := row_uniq R h2 hja h4 ma
               omega)
      · have eb : lookD kd (.inr sb) = none := (dic sb).2 nb
        simp only [ea, eb, Option.getD_some, Option.getD_none]
        subst_eqs
        refine ⟨bs, _, _, _, (keep ?_ ?_).1, (keep ?_ ?_).2.1, (keep ?_ ?_).2.2, rfl⟩
        all_goals
          rintro ⟨j', k', h1, h2, h3, h4⟩
          first
          | exact nb _ h2 h4
          | exact nb _ (by omega) h3
    · have ea : lookD kd (.inr sa) = none := (dic sa).2 na
      simp only [ea, Option.getD_none]
      subst_eqs
      refine ⟨bs, _, _, _, (keep ?_ ?_).1, (keep ?_ ?_).2.1, (keep ?_ ?_).2.2, rfl⟩
      all_goals
        rintro ⟨j', k', h1, h2, h3, h4⟩
        first
        | exact na _ h2 h4
        | exact na _ (by omega) h3
  · subst e
    rw [List.length_map, k2] at c2 c3
    subst_eqs
    refine q bs (fun ⟨row, h1, h2⟩ => ?_) (fun ⟨row, h1, h2⟩ => ?_)
    · obtain ⟨j, hj⟩ := List.mem_iff_getElem?.mp h1
      exact c2 ⟨j, row, lt_of_get hj, hj, h2⟩
    · obtain ⟨j, hj⟩ := List.mem_iff_getElem?.mp h1
      exact c3 ⟨j, row, lt_of_get hj, hj, h2⟩
end K91
end L2.My

end
section
set_option Elab.async false
set_option linter.all false
set_option autoImplicit false
set_option maxRecDepth 100000
set_option maxHeartbeats 4000000
/-! Mki: right lines have their pairs. -/
namespace L2.My
open PySem PySem.Spec PyProof.Rows
local macro_rules | `(tactic| and_intros) => `(tactic| simp only [↓ok_some, ↓ok_bind, ↓ok_ite, it_true, it_false, ↓k_mV, ↓k_mE, ↓k_mF, ↓k_mVar, ↓k_mC, ↓k_mNm, ↓k_m1, ↓k_m2, ↓k_mT, ↓k_mAndT, ↓k_mOrT, ↓k_mNotT, ↓k_mIf, ↓k_mAndV, ↓k_mOrV, ↓k_mNotV, ↓k_mIsi, ↓k_mNil, ↓k_mCons, ↓k_mTup, ↓k_mLst, ↓k_mANil, ↓k_mACons, ↓k_mVE, ↓k_mCall, ↓k_args0, ↓k_args1, ↓k_sSeq, ↓k_then1, ↓k_then2, ↓k_then3, ↓k_then4, ↓k_sNil, ↓k_sSet, ↓k_sExpr, ↓k_sRet, ↓k_sIf, ↓k_sBreak, ↓k_sCont, ↓k_gNm, ↓k_gsNil, ↓k_gsCons, ↓k_gTp, ↓k_sAsg, ↓k_sPar, ↓k_mSo, ↓k_mNo, ↓k_mSl, ↓k_mApp, ↓k_mExt, ↓k_mPop, ↓k_sSetI, ↓k_mIndex, ↓k_mGet, ↓k_mLR1, ↓k_mRng1, ↓k_mItems, ↓k_mEnum, ↓k_mEnumZ, ↓k_sFor, ↓k_fLc, ↓k_mYes, ↓k_mMake, ↓k_sFldI, ↓k_mAnyIn, ↓k_mJoined, ↓k_jNil, ↓k_jCons, ↓k_mDict, ↓k_pNil, ↓k_pCons, ↓k_mChain, ↓k_chain1, ↓k_chain2, ↓k_fnM, ↓k_end1, ↓k_end2, ↓k_outs0, ↓k_outs1, ↓k_outs2, q_mVarS1, q_mVarS2, q_look1, q_look2, q_lookS1, q_lookS2, q_d1, q_d2, q_od1, q_od2, q_od3, q_boolR, q_arg1, q_arg2, q_argS, q_slots0, q_slots1, q_slots2, q_put0, q_put1, q_put2, q_putS, q_slotOf1, q_slotOf2, q_intOf, q_lstS, q_items1, q_items2, q_tupD, q_insS, q_strD, q_outS, p_ix1, p_ix2, p_ix3, p_atI, p_ixN, p_add, p_addS, p_addT, p_addL, p_sub, p_mul, p_div, p_mod, p_pow, p_neg, p_lt, p_le, p_gt, p_ge, p_len1, p_len2, p_len3, p_int, p_abs, p_str, p_max, p_list1, p_list2, p_tuple1, p_tuple2, p_isN, p_notN, p_non1, p_non2, p_non3, p_non4, p_non5, p_isi, p_ty1, p_ty2, p_ty3, p_ty4, p_ty5, p_ty6, p_isi_NoneType_bool, p_isi_NoneType_int, p_isi_NoneType_str, p_isi_NoneType_tuple, p_isi_bool_bool, p_isi_bool_int, p_isi_bool_str, p_isi_bool_tuple, p_isi_int_bool, p_isi_int_int, p_isi_int_str, p_isi_int_tuple, p_isi_str_bool, p_isi_str_int, p_isi_str_str, p_isi_str_tuple, p_isi_tuple_bool, p_isi_tuple_int, p_isi_tuple_str, p_isi_tuple_tuple, p_isi_list_bool, p_isi_list_int, p_isi_list_str, p_isi_list_tuple, p_in, p_notIn, p_eqI, p_neI, p_eqB, p_neB, p_fmt1, p_fmt2, p_fld, p_sl1, p_sl2, p_sl3, q_makeR, q_clean0, q_clean1, q_cleanS1, q_cleanS2, q_wipe0, q_wipe1, q_back0, q_back1, q_join1, q_and1, q_outP1, q_outP2, q_outP3, q_outP4, List.map_cons, List.map_nil, List.cons_append, List.nil_append, List.append_nil, List.length_cons, List.length_nil, List.getElem?_cons_zero, List.getElem?_cons_succ, List.getElem?_nil, List.set_cons_zero, List.set_cons_succ, Nat.reduceAdd, Nat.reduceSub, List.replicate_succ, List.replicate_zero, Nat.zero_add, reduceIte, Nat.reduceLeDiff, Nat.reduceLT, List.nodup_cons, List.nodup_nil, List.not_mem_nil, not_false_eq_true, and_true, and_self, List.mem_cons, or_false, Nat.reduceEqDiff, Bool.not_true, Bool.not_false, Bool.false_eq_true, true_and, and_false, false_and, reduceCtorEq, if_true, if_false, Int.reduceLE, Int.reduceLT, Int.reduceToNat, Int.reduceNeg, Int.reduceAdd, Int.reduceSub, Int.reduceMul, Int.reduceEq, Nat.reduceMul, decide_eq_true_eq, List.length_set, decide_true, decide_false, Int.toNat_natCast, Bool.not_eq_true, ne_eq])
local macro_rules | `(tactic| subst_eqs) => `(tactic| simp only [↓ok_some, ↓ok_bind, ↓ok_ite, it_true, it_false, ↓k_mV, ↓k_mE, ↓k_mF, ↓k_mVar, ↓k_mC, ↓k_mNm, ↓k_m1, ↓k_m2, ↓k_mT, ↓k_mAndT, ↓k_mOrT, ↓k_mNotT, ↓k_mIf, ↓k_mAndV, ↓k_mOrV, ↓k_mNotV, ↓k_mIsi, ↓k_mNil, ↓k_mCons, ↓k_mTup, ↓k_mLst, ↓k_mANil, ↓k_mACons, ↓k_mVE, ↓k_mCall, ↓k_args0, ↓k_args1, ↓k_sSeq, ↓k_then1, ↓k_then2, ↓k_then3, ↓k_then4, ↓k_sNil, ↓k_sSet, ↓k_sExpr, ↓k_sRet, ↓k_sIf, ↓k_sBreak, ↓k_sCont, ↓k_gNm, ↓k_gsNil, ↓k_gsCons, ↓k_gTp, ↓k_sAsg, ↓k_sPar, ↓k_mSo, ↓k_mNo, ↓k_mSl, ↓k_mApp, ↓k_mExt, ↓k_mPop, ↓k_sSetI, ↓k_mIndex, ↓k_mGet, ↓k_mLR1, ↓k_mRng1, ↓k_mItems, ↓k_mEnum, ↓k_mEnumZ, ↓k_sFor, ↓k_fLc, ↓k_mYes, ↓k_mMake, ↓k_sFldI, ↓k_mAnyIn, ↓k_mJoined, ↓k_jNil, ↓k_jCons, ↓k_mDict, ↓k_pNil, ↓k_pCons, ↓k_mChain, ↓k_chain1, ↓k_chain2, ↓k_fnM, ↓k_end1, ↓k_end2, ↓k_outs0, ↓k_outs1, ↓k_outs2, q_mVarS1, q_mVarS2, q_look1, q_look2, q_lookS1, q_lookS2, q_d1, q_d2, q_od1, q_od2, q_od3, q_boolR, q_arg1, q_arg2, q_argS, q_slots0, q_slots1, q_slots2, q_put0, q_put1, q_put2, q_putS, q_slotOf1, q_slotOf2, q_intOf, q_lstS, q_items1, q_items2, q_tupD, q_insS, q_strD, q_outS, p_ix1, p_ix2, p_ix3, p_atI, p_ixN, p_add, p_addS, p_addT, p_addL, p_sub, p_mul, p_div, p_mod, p_pow, p_neg, p_lt, p_le, p_gt, p_ge, p_len1, p_len2, p_len3, p_int, p_abs, p_str, p_max, p_list1, p_list2, p_tuple1, p_tuple2, p_isN, p_notN, p_non1, p_non2, p_non3, p_non4, p_non5, p_isi, p_ty1, p_ty2, p_ty3, p_ty4, p_ty5, p_ty6, p_isi_NoneType_bool, p_isi_NoneType_int, p_isi_NoneType_str, p_isi_NoneType_tuple, p_isi_bool_bool, p_isi_bool_int, p_isi_bool_str, p_isi_bool_tuple, p_isi_int_bool, p_isi_int_int, p_isi_int_str, p_isi_int_tuple, p_isi_str_bool, p_isi_str_int, p_isi_str_str, p_isi_str_tuple, p_isi_tuple_bool, p_isi_tuple_int, p_isi_tuple_str, p_isi_tuple_tuple, p_isi_list_bool, p_isi_list_int, p_isi_list_str, p_isi_list_tuple, p_in, p_notIn, p_eqI, p_neI, p_eqB, p_neB, p_fmt1, p_fmt2, p_fld, p_sl1, p_sl2, p_sl3, q_makeR, q_clean0, q_clean1, q_cleanS1, q_cleanS2, q_wipe0, q_wipe1, q_back0, q_back1, q_join1, q_and1, q_outP1, q_outP2, q_outP3, q_outP4, List.map_cons, List.map_nil, List.cons_append, List.nil_append, List.append_nil, List.length_cons, List.length_nil, List.getElem?_cons_zero, List.getElem?_cons_succ, List.getElem?_nil, List.set_cons_zero, List.set_cons_succ, Nat.reduceAdd, Nat.reduceSub, List.replicate_succ, List.replicate_zero, Nat.zero_add, reduceIte, Nat.reduceLeDiff, Nat.reduceLT, List.nodup_cons, List.nodup_nil, List.not_mem_nil, not_false_eq_true, and_true, and_self, List.mem_cons, or_false, Nat.reduceEqDiff, Bool.not_true, Bool.not_false, Bool.false_eq_true, true_and, and_false, false_and, reduceCtorEq, if_true, if_false, Int.reduceLE, Int.reduceLT, Int.reduceToNat, Int.reduceNeg, Int.reduceAdd, Int.reduceSub, Int.reduceMul, Int.reduceEq, Nat.reduceMul, decide_eq_true_eq, List.length_set, decide_true, decide_false, Int.toNat_natCast, Bool.not_eq_true, ne_eq, List.length_map, List.length_append])
namespace K91
variable {F : List D}
theorem blsD_map : ∀ {bs : List Bool}, blsD (bs.map .bl) = some bs
  | [] => rfl
  | b :: bs => by
    show (blsD (bs.map .bl)).bind _ = _
    rw [blsD_map]; rfl
theorem any_common {bs cs : List Bool} {x : Bool} (h1 : x ∈ bs) (h2 : x ∈ cs) : (bs.any fun b => cs.any (· == b)) = true :=
  List.any_eq_true.mpr ⟨x, h1, List.any_eq_true.mpr ⟨x, h2, by simp⟩⟩
theorem q_lstD {xs : List D} : lstD (.lst xs) = some xs := rfl
theorem link_leads_ok {ts : List Th} {sp : List Nat} (dos : Dos F ts sp) {LS : List D} (hL : LotsOk ts LS) {n : Nat} {rows : List (List (List D))} (ht : ts[n]? = some (.ser rows)) {p q a b : D} (hp : p ∈ F) (hq : q ∈ F) (ha : a ∈ F) (hb : b ∈ F)
    (h : ((∃ row ∈ rows, Far row p q) ∧ ∃ row ∈ rows, Far row a b) ∨ ((∃ row ∈ rows, Far row q p) ∧ ∃ row ∈ rows, Far row b a)) {k : Ct (RV × List MO)} (qq : k.run (.sh (.bl true), [])) : @Ok _ (fm_link_leads [.sh (rulesD F ts LS), .sh (.tup [p, q]), .sh (.int n), .sh a, .sh b]) k := by
  unfold fm_link_leads mx_link_leads
  have hlt := lt_of_get ht
  have hx_ : ∃ R, R = rulesD F ts LS := ⟨_, rfl⟩
  simp only [rulesD]
  subst_eqs
  refine .of fld1 ?_
  subst_eqs
  refine number_ok (by omega) (by omega) ?_
  subst_eqs
  refine directions_ok dos hL ht hp hq fun bs b1 b2 => ?_
  subst_eqs
  refine directions_ok dos hL ht ha hb fun cs c1 c2 => ?_
  subst_eqs
  refine .of q_lstD ?_
  subst_eqs
  refine .of blsD_map ?_
  subst_eqs
  refine .of q_lstD ?_
  subst_eqs
  refine .of blsD_map ?_
  subst_eqs
  have e : (cs.any fun b => bs.any (· == b)) = true := by
    rcases h with ⟨h1, h2⟩ | ⟨h1, h2⟩
    · exact any_common (c1 h2) (b1 h1)
    · exact any_common (c2 h2) (b2 h1)
  rw [e]
  exact qq
theorem bands_at {ts : List Th} {n : Nat} {t : Th} (h : ts[n]? = some t) : (ts.map bandsT)[n]? = some (.tup (t.bands.map .tup)) := by rw [List.getElem?_map, h]; rfl
theorem band_at {t : Th} {k : Nat} {B : List D} (h : t.bands[k]? = some B) : (t.bands.map D.tup)[k]? = some (.tup B) := by rw [List.getElem?_map, h]; rfl
theorem side_leads_ok {ts : List Th} {sp : List Nat} (dos : Dos F ts sp) {LS : List D} {n kk : Nat} {t : Th} {B : List D} (ht : ts[n]? = some t) (hB : t.bands[kk]? = some B) {p q a b : D} (hp : p ∈ F) (hq : q ∈ F) (ha : a ∈ F) (hb : b ∈ F)
    (h : (q = b ∧ p ∈ B ∧ a ∈ B ∧ b ∉ B) ∨ (p = a ∧ q ∈ B ∧ b ∈ B ∧ a ∉ B)) {k : Ct (RV × List MO)} (qq : k.run (.sh (.bl true), [])) : @Ok _ (fm_side_leads [.sh (rulesD F ts LS), .sh (.tup [p, q]), .sh (.int n), .sh (.int kk), .sh a, .sh b]) k := by
  unfold fm_side_leads mx_side_leads
  have hF := dos.f
  have hlt := lt_of_get ht
  have hkl := lt_of_get hB
  have tok := dos.ok _ (List.mem_of_getElem? ht)
  have hBF : ∀ x ∈ B, x ∈ F := tok.bands _ (List.mem_of_getElem? hB)
  have hBp : ∀ x ∈ B, Pn 0 x := fun x hx => pn_of hF (hBF x hx)
  simp only [rulesD]
  subst_eqs
  refine .of fld1 ?_
  subst_eqs
  refine number_ok (by omega) (by omega) ?_
  subst_eqs
  refine .of fld2 ?_
  subst_eqs
  refine it_pos (by omega) ?_
  subst_eqs
  refine it_pos hlt ?_
  subst_eqs
  refine .of (bands_at ht) ?_
  subst_eqs
  refine number_ok (by omega) (by omega) ?_
  subst_eqs
  refine .of fld2 ?_
  subst_eqs
  refine it_pos (by omega) ?_
  subst_eqs
  refine it_pos hlt ?_
  subst_eqs
  refine .of (bands_at ht) ?_
  subst_eqs
  refine it_pos (by omega) ?_
  subst_eqs
  refine it_pos hkl ?_
  subst_eqs
  refine .of (band_at hB) ?_
  subst_eqs
  refine .of (eq_pn (pn_of hF hq) (pn_of hF hb) (by omega) (by omega)) ?_
  subst_eqs
  rcases h with ⟨h1, h2, h3, h4⟩ | ⟨h1, h2, h3, h4⟩
  · refine it_pos h1 ?_
    subst_eqs
    refine .of (in_tup (pn_of hF hp) hBp) ?_
    subst_eqs
    refine it_pos h2 ?_
    subst_eqs
    refine .of (in_tup (pn_of hF ha) hBp) ?_
    subst_eqs
    refine it_pos h3 ?_
    subst_eqs
    refine .of (in_tup (pn_of hF hb) hBp) ?_
    subst_eqs
    refine it_pos (by simpa using h4) ?_
    subst_eqs
    exact qq
  · refine it_of (fun c1 => ?_) (fun c1 => ?_)
    · subst_eqs
      refine .of (in_tup (pn_of hF hp) hBp) ?_
      subst_eqs
      refine it_neg (by rw [h1]; exact h4) ?_
      subst_eqs
      refine .of (eq_pn (pn_of hF hp) (pn_of hF ha) (by omega) (by omega)) ?_
      subst_eqs
      refine it_pos h1 ?_
      subst_eqs
      refine .of (in_tup (pn_of hF hq) hBp) ?_
      subst_eqs
      refine it_pos h2 ?_
      subst_eqs
      refine .of (in_tup (pn_of hF hb) hBp) ?_
      subst_eqs
      refine it_pos h3 ?_
      subst_eqs
      refine .of (in_tup (pn_of hF ha) hBp) ?_
      subst_eqs
      simp only [h4, decide_false, Bool.not_false]
      exact qq
    · subst_eqs
      refine .of (eq_pn (pn_of hF hp) (pn_of hF ha) (by omega) (by omega)) ?_
      subst_eqs
      refine it_pos h1 ?_
      subst_eqs
      refine .of (in_tup (pn_of hF hq) hBp) ?_
      subst_eqs
      refine it_pos h2 ?_
      subst_eqs
      refine .of (in_tup (pn_of hF hb) hBp) ?_
      subst_eqs
      refine it_pos h3 ?_
      subst_eqs
      refine .of (in_tup (pn_of hF ha) hBp) ?_
      subst_eqs
      simp only [h4, decide_false, Bool.not_false]
      exact qq
theorem cut_1 {x : D} {xs : List D} : cutD (x :: xs) (some 1) none = xs := by
  unfold cutD
  rw [show (1 : Int) = ((1 : Nat) : Int) from rfl, HT.sIx_nat, HT.sIx_none, List.length_cons, Nat.min_eq_left (by omega)]
  simp
theorem told_pair_ok {ts : List Th} {sp : List Nat} (dos : Dos F ts sp) {LS : List D} {n : Nat} {A B : List D} {a b : D} (h1 : ts[n]? = some (.eld A B)) (h2 : a ∈ A) (h3 : b ∈ B) {k : Ct (RV × List MO)} (qq : k.run (.sh (prD (a, b)), [])) : @Ok _ (fm_told_pair [.sh (rulesD F ts LS), .sh (.tup [.str (Str.ofString "told"), .int n, a, b])]) k := by
  unfold fm_told_pair mx_told_pair
  have hF := dos.f
  have tok := dos.ok _ (List.mem_of_getElem? h1)
  have hlt := lt_of_get h1
  have hA : ∀ x ∈ A, Pn 0 x := fun x hx => pn_of hF (tok.1.2.2 x hx)
  have hB : ∀ x ∈ B, Pn 0 x := fun x hx => pn_of hF (tok.2.2.2 x hx)
  simp only [rulesD]
  simp only [cut_1, ↓ok_some, ↓ok_bind, ↓ok_ite, it_true, it_false, ↓k_mV, ↓k_mE, ↓k_mF, ↓k_mVar, ↓k_mC, ↓k_mNm, ↓k_m1, ↓k_m2, ↓k_mT, ↓k_mAndT, ↓k_mOrT, ↓k_mNotT, ↓k_mIf, ↓k_mAndV, ↓k_mOrV, ↓k_mNotV, ↓k_mIsi, ↓k_mNil, ↓k_mCons, ↓k_mTup, ↓k_mLst, ↓k_mANil, ↓k_mACons, ↓k_mVE, ↓k_mCall, ↓k_args0, ↓k_args1, ↓k_sSeq, ↓k_then1, ↓k_then2, ↓k_then3, ↓k_then4, ↓k_sNil, ↓k_sSet, ↓k_sExpr, ↓k_sRet, ↓k_sIf, ↓k_sBreak, ↓k_sCont, ↓k_gNm, ↓k_gsNil, ↓k_gsCons, ↓k_gTp, ↓k_sAsg, ↓k_sPar, ↓k_mSo, ↓k_mNo, ↓k_mSl, ↓k_mApp, ↓k_mExt, ↓k_mPop, ↓k_sSetI, ↓k_mIndex, ↓k_mGet, ↓k_mLR1, ↓k_mRng1, ↓k_mItems, ↓k_mEnum, ↓k_mEnumZ, ↓k_sFor, ↓k_fLc, ↓k_mYes, ↓k_mMake, ↓k_sFldI, ↓k_mAnyIn, ↓k_mJoined, ↓k_jNil, ↓k_jCons, ↓k_mDict, ↓k_pNil, ↓k_pCons, ↓k_mChain, ↓k_chain1, ↓k_chain2, ↓k_fnM, ↓k_end1, ↓k_end2, ↓k_outs0, ↓k_outs1, ↓k_outs2, q_mVarS1, q_mVarS2, q_look1, q_look2, q_lookS1, q_lookS2, q_d1, q_d2, q_od1, q_od2, q_od3, q_boolR, q_arg1, q_arg2, q_argS, q_slots0, q_slots1, q_slots2, q_put0, q_put1, q_put2, q_putS, q_slotOf1, q_slotOf2, q_intOf, q_lstS, q_items1, q_items2, q_tupD, q_insS, q_strD, q_outS, p_ix1, p_ix2, p_ix3, p_atI, p_ixN, p_add, p_addS, p_addT, p_addL, p_sub, p_mul, p_div, p_mod, p_pow, p_neg, p_lt, p_le, p_gt, p_ge, p_len1, p_len2, p_len3, p_int, p_abs, p_str, p_max, p_list1, p_list2, p_tuple1, p_tuple2, p_isN, p_notN, p_non1, p_non2, p_non3, p_non4, p_non5, p_isi, p_ty1, p_ty2, p_ty3, p_ty4, p_ty5, p_ty6, p_isi_NoneType_bool, p_isi_NoneType_int, p_isi_NoneType_str, p_isi_NoneType_tuple, p_isi_bool_bool, p_isi_bool_int, p_isi_bool_str, p_isi_bool_tuple, p_isi_int_bool, p_isi_int_int, p_isi_int_str, p_isi_int_tuple, p_isi_str_bool, p_isi_str_int, p_isi_str_str, p_isi_str_tuple, p_isi_tuple_bool, p_isi_tuple_int, p_isi_tuple_str, p_isi_tuple_tuple, p_isi_list_bool, p_isi_list_int, p_isi_list_str, p_isi_list_tuple, p_in, p_notIn, p_eqI, p_neI, p_eqB, p_neB, p_fmt1, p_fmt2, p_fld, p_sl1, p_sl2, p_sl3, q_makeR, q_clean0, q_clean1, q_cleanS1, q_cleanS2, q_wipe0, q_wipe1, q_back0, q_back1, q_join1, q_and1, q_outP1, q_outP2, q_outP3, q_outP4, List.map_cons, List.map_nil, List.cons_append, List.nil_append, List.append_nil, List.length_cons, List.length_nil, List.getElem?_cons_zero, List.getElem?_cons_succ, List.getElem?_nil, List.set_cons_zero, List.set_cons_succ, Nat.reduceAdd, Nat.reduceSub, List.replicate_succ, List.replicate_zero, Nat.zero_add, reduceIte, Nat.reduceLeDiff, Nat.reduceLT, List.nodup_cons, List.nodup_nil, List.not_mem_nil, not_false_eq_true, and_true, and_self, List.mem_cons, or_false, Nat.reduceEqDiff, Bool.not_true, Bool.not_false, Bool.false_eq_true, true_and, and_false, false_and, reduceCtorEq, if_true, if_false, Int.reduceLE, Int.reduceLT, Int.reduceToNat, Int.reduceNeg, Int.reduceAdd, Int.reduceSub, Int.reduceMul, Int.reduceEq, Nat.reduceMul, decide_eq_true_eq, List.length_set, decide_true, decide_false, Int.toNat_natCast, Bool.not_eq_true, ne_eq]
  refine .of fld1 ?_
  subst_eqs
  refine number_ok (by omega) (by omega) ?_
  subst_eqs
  refine .of fld1 ?_
  subst_eqs
  refine it_pos (by omega) ?_
  subst_eqs
  refine it_pos hlt ?_
  subst_eqs
  refine .of (thing_at h1) ?_
  simp only [Th.d, tg]
  subst_eqs
  refine .of (tag_eq (by simp [tags]) (by simp [tags])) ?_
  subst_eqs
  refine .of (in_tup (hA a h2) hA) ?_
  subst_eqs
  refine it_pos h2 ?_
  subst_eqs
  refine .of (in_tup (hB b h3) hB) ?_
  subst_eqs
  refine it_pos h3 ?_
  subst_eqs
  exact qq
theorem years_pair_ok {ts : List Th} {sp : List Nat} (dos : Dos F ts sp) {LS : List D} {n m : Nat} {A A' : List D} {lo hi' : Option Int} {hi lo' : Int} {a b : D} (h1 : ts[n]? = some (.yrs A lo (some hi))) (h2 : ts[m]? = some (.yrs A' (some lo') hi')) (h3 : hi < lo') (h4 : a ∈ A) (h5 : b ∈ A') {k : Ct (RV × List MO)} (qq : k.run (.sh (prD (a, b)), [])) : @Ok _ (fm_years_pair [.sh (rulesD F ts LS), .sh (.tup [.str (Str.ofString "years"), .int n, .int m, a, b])]) k := by
  unfold fm_years_pair mx_years_pair
  have hF := dos.f
  have tok := dos.ok _ (List.mem_of_getElem? h1)
  have tok2 := dos.ok _ (List.mem_of_getElem? h2)
  have hlt := lt_of_get h1
  have hlt2 := lt_of_get h2
  have hA : ∀ x ∈ A, Pn 0 x := fun x hx => pn_of hF (tok.1.2.2 x hx)
  have hA' : ∀ x ∈ A', Pn 0 x := fun x hx => pn_of hF (tok2.1.2.2 x hx)
  simp only [rulesD]
  simp only [cut_1, ↓ok_some, ↓ok_bind, ↓ok_ite, it_true, it_false, ↓k_mV, ↓k_mE, ↓k_mF, ↓k_mVar, ↓k_mC, ↓k_mNm, ↓k_m1, ↓k_m2, ↓k_mT, ↓k_mAndT, ↓k_mOrT, ↓k_mNotT, ↓k_mIf, ↓k_mAndV, ↓k_mOrV, ↓k_mNotV, ↓k_mIsi, ↓k_mNil, ↓k_mCons, ↓k_mTup, ↓k_mLst, ↓k_mANil, ↓k_mACons, ↓k_mVE, ↓k_mCall, ↓k_args0, ↓k_args1, ↓k_sSeq, ↓k_then1, ↓k_then2, ↓k_then3, ↓k_then4, ↓k_sNil, ↓k_sSet, ↓k_sExpr, ↓k_sRet, ↓k_sIf, ↓k_sBreak, ↓k_sCont, ↓k_gNm, ↓k_gsNil, ↓k_gsCons, ↓k_gTp, ↓k_sAsg, ↓k_sPar, ↓k_mSo, ↓k_mNo, ↓k_mSl, ↓k_mApp, ↓k_mExt, ↓k_mPop, ↓k_sSetI, ↓k_mIndex, ↓k_mGet, ↓k_mLR1, ↓k_mRng1, ↓k_mItems, ↓k_mEnum, ↓k_mEnumZ, ↓k_sFor, ↓k_fLc, ↓k_mYes, ↓k_mMake, ↓k_sFldI, ↓k_mAnyIn, ↓k_mJoined, ↓k_jNil, ↓k_jCons, ↓k_mDict, ↓k_pNil, ↓k_pCons, ↓k_mChain, ↓k_chain1, ↓k_chain2, ↓k_fnM, ↓k_end1, ↓k_end2, ↓k_outs0, ↓k_outs1, ↓k_outs2, q_mVarS1, q_mVarS2, q_look1, q_look2, q_lookS1, q_lookS2, q_d1, q_d2, q_od1, q_od2, q_od3, q_boolR, q_arg1, q_arg2, q_argS, q_slots0, q_slots1, q_slots2, q_put0, q_put1, q_put2, q_putS, q_slotOf1, q_slotOf2, q_intOf, q_lstS, q_items1, q_items2, q_tupD, q_insS, q_strD, q_outS, p_ix1, p_ix2, p_ix3, p_atI, p_ixN, p_add, p_addS, p_addT, p_addL, p_sub, p_mul, p_div, p_mod, p_pow, p_neg, p_lt, p_le, p_gt, p_ge, p_len1, p_len2, p_len3, p_int, p_abs, p_str, p_max, p_list1, p_list2, p_tuple1, p_tuple2, p_isN, p_notN, p_non1, p_non2, p_non3, p_non4, p_non5, p_isi, p_ty1, p_ty2, p_ty3, p_ty4, p_ty5, p_ty6, p_isi_NoneType_bool, p_isi_NoneType_int, p_isi_NoneType_str, p_isi_NoneType_tuple, p_isi_bool_bool, p_isi_bool_int, p_isi_bool_str, p_isi_bool_tuple, p_isi_int_bool, p_isi_int_int, p_isi_int_str, p_isi_int_tuple, p_isi_str_bool, p_isi_str_int, p_isi_str_str, p_isi_str_tuple, p_isi_tuple_bool, p_isi_tuple_int, p_isi_tuple_str, p_isi_tuple_tuple, p_isi_list_bool, p_isi_list_int, p_isi_list_str, p_isi_list_tuple, p_in, p_notIn, p_eqI, p_neI, p_eqB, p_neB, p_fmt1, p_fmt2, p_fld, p_sl1, p_sl2, p_sl3, q_makeR, q_clean0, q_clean1, q_cleanS1, q_cleanS2, q_wipe0, q_wipe1, q_back0, q_back1, q_join1, q_and1, q_outP1, q_outP2, q_outP3, q_outP4, List.map_cons, List.map_nil, List.cons_append, List.nil_append, List.append_nil, List.length_cons, List.length_nil, List.getElem?_cons_zero, List.getElem?_cons_succ, List.getElem?_nil, List.set_cons_zero, List.set_cons_succ, Nat.reduceAdd, Nat.reduceSub, List.replicate_succ, List.replicate_zero, Nat.zero_add, reduceIte, Nat.reduceLeDiff, Nat.reduceLT, List.nodup_cons, List.nodup_nil, List.not_mem_nil, not_false_eq_true, and_true, and_self, List.mem_cons, or_false, Nat.reduceEqDiff, Bool.not_true, Bool.not_false, Bool.false_eq_true, true_and, and_false, false_and, reduceCtorEq, if_true, if_false, Int.reduceLE, Int.reduceLT, Int.reduceToNat, Int.reduceNeg, Int.reduceAdd, Int.reduceSub, Int.reduceMul, Int.reduceEq, Nat.reduceMul, decide_eq_true_eq, List.length_set, decide_true, decide_false, Int.toNat_natCast, Bool.not_eq_true, ne_eq]
  refine .of fld1 ?_
  subst_eqs
  refine number_ok (by omega) (by omega) ?_
  subst_eqs
  refine .of fld1 ?_
  subst_eqs
  refine number_ok (by omega) (by omega) ?_
  subst_eqs
  refine .of fld1 ?_
  subst_eqs
  refine it_pos (by omega) ?_
  subst_eqs
  refine it_pos hlt ?_
  subst_eqs
  refine .of (thing_at h1) ?_
  simp only [Th.d, tg, optD]
  subst_eqs
  refine .of fld1 ?_
  subst_eqs
  refine it_pos (by omega) ?_
  subst_eqs
  refine it_pos hlt2 ?_
  subst_eqs
  refine .of (thing_at h2) ?_
  simp only [Th.d, tg, optD]
  subst_eqs
  refine .of (tag_ne (by simp [tags]) (by simp [tags])) ?_
  subst_eqs
  refine .of (tag_ne (by simp [tags]) (by simp [tags])) ?_
  subst_eqs
  refine .of (in_tup (hA a h4) hA) ?_
  subst_eqs
  refine it_neg (by simpa using h4) ?_
  subst_eqs
  refine .of (in_tup (hA' b h5) hA') ?_
  subst_eqs
  refine it_neg (by simpa using h5) ?_
  subst_eqs
  refine it_neg (by omega) ?_
  subst_eqs
  exact qq
theorem chain_pair_ok (hF : Finds F) {ps : List (D × D)} (hps : PairsOk F ps) {i j : Nat} {p q r : D} (h1 : ps[i]? = some (p, q)) (h2 : ps[j]? = some (q, r)) {k : Ct (RV × List MO)} (qq : k.run (.sh (prD (p, r)), [.lst (ps.map prD)])) : @Ok _ (fm_chain_pair [.mu true (.lst (ps.map prD)), .sh (.tup [.str (Str.ofString "chain"), .int i, .int j])]) k := by
  unfold fm_chain_pair mx_chain_pair
  have hlt := lt_of_get h1
  have hlt2 := lt_of_get h2
  have hq := (hps _ (List.mem_of_getElem? h1)).2
  simp only [cut_1, ↓ok_some, ↓ok_bind, ↓ok_ite, it_true, it_false, ↓k_mV, ↓k_mE, ↓k_mF, ↓k_mVar, ↓k_mC, ↓k_mNm, ↓k_m1, ↓k_m2, ↓k_mT, ↓k_mAndT, ↓k_mOrT, ↓k_mNotT, ↓k_mIf, ↓k_mAndV, ↓k_mOrV, ↓k_mNotV, ↓k_mIsi, ↓k_mNil, ↓k_mCons, ↓k_mTup, ↓k_mLst, ↓k_mANil, ↓k_mACons, ↓k_mVE, ↓k_mCall, ↓k_args0, ↓k_args1, ↓k_sSeq, ↓k_then1, ↓k_then2, ↓k_then3, ↓k_then4, ↓k_sNil, ↓k_sSet, ↓k_sExpr, ↓k_sRet, ↓k_sIf, ↓k_sBreak, ↓k_sCont, ↓k_gNm, ↓k_gsNil, ↓k_gsCons, ↓k_gTp, ↓k_sAsg, ↓k_sPar, ↓k_mSo, ↓k_mNo, ↓k_mSl, ↓k_mApp, ↓k_mExt, ↓k_mPop, ↓k_sSetI, ↓k_mIndex, ↓k_mGet, ↓k_mLR1, ↓k_mRng1, ↓k_mItems, ↓k_mEnum, ↓k_mEnumZ, ↓k_sFor, ↓k_fLc, ↓k_mYes, ↓k_mMake, ↓k_sFldI, ↓k_mAnyIn, ↓k_mJoined, ↓k_jNil, ↓k_jCons, ↓k_mDict, ↓k_pNil, ↓k_pCons, ↓k_mChain, ↓k_chain1, ↓k_chain2, ↓k_fnM, ↓k_end1, ↓k_end2, ↓k_outs0, ↓k_outs1, ↓k_outs2, q_mVarS1, q_mVarS2, q_look1, q_look2, q_lookS1, q_lookS2, q_d1, q_d2, q_od1, q_od2, q_od3, q_boolR, q_arg1, q_arg2, q_argS, q_slots0, q_slots1, q_slots2, q_put0, q_put1, q_put2, q_putS, q_slotOf1, q_slotOf2, q_intOf, q_lstS, q_items1, q_items2, q_tupD, q_insS, q_strD, q_outS, p_ix1, p_ix2, p_ix3, p_atI, p_ixN, p_add, p_addS, p_addT, p_addL, p_sub, p_mul, p_div, p_mod, p_pow, p_neg, p_lt, p_le, p_gt, p_ge, p_len1, p_len2, p_len3, p_int, p_abs, p_str, p_max, p_list1, p_list2, p_tuple1, p_tuple2, p_isN, p_notN, p_non1, p_non2, p_non3, p_non4, p_non5, p_isi, p_ty1, p_ty2, p_ty3, p_ty4, p_ty5, p_ty6, p_isi_NoneType_bool, p_isi_NoneType_int, p_isi_NoneType_str, p_isi_NoneType_tuple, p_isi_bool_bool, p_isi_bool_int, p_isi_bool_str, p_isi_bool_tuple, p_isi_int_bool, p_isi_int_int, p_isi_int_str, p_isi_int_tuple, p_isi_str_bool, p_isi_str_int, p_isi_str_str, p_isi_str_tuple, p_isi_tuple_bool, p_isi_tuple_int, p_isi_tuple_str, p_isi_tuple_tuple, p_isi_list_bool, p_isi_list_int, p_isi_list_str, p_isi_list_tuple, p_in, p_notIn, p_eqI, p_neI, p_eqB, p_neB, p_fmt1, p_fmt2, p_fld, p_sl1, p_sl2, p_sl3, q_makeR, q_clean0, q_clean1, q_cleanS1, q_cleanS2, q_wipe0, q_wipe1, q_back0, q_back1, q_join1, q_and1, q_outP1, q_outP2, q_outP3, q_outP4, List.map_cons, List.map_nil, List.cons_append, List.nil_append, List.append_nil, List.length_cons, List.length_nil, List.getElem?_cons_zero, List.getElem?_cons_succ, List.getElem?_nil, List.set_cons_zero, List.set_cons_succ, Nat.reduceAdd, Nat.reduceSub, List.replicate_succ, List.replicate_zero, Nat.zero_add, reduceIte, Nat.reduceLeDiff, Nat.reduceLT, List.nodup_cons, List.nodup_nil, List.not_mem_nil, not_false_eq_true, and_true, and_self, List.mem_cons, or_false, Nat.reduceEqDiff, Bool.not_true, Bool.not_false, Bool.false_eq_true, true_and, and_false, false_and, reduceCtorEq, if_true, if_false, Int.reduceLE, Int.reduceLT, Int.reduceToNat, Int.reduceNeg, Int.reduceAdd, Int.reduceSub, Int.reduceMul, Int.reduceEq, Nat.reduceMul, decide_eq_true_eq, List.length_set, decide_true, decide_false, Int.toNat_natCast, Bool.not_eq_true, ne_eq]
  rw [List.length_map]
  refine number_ok (by omega) (by omega) ?_
  subst_eqs
  refine number_ok (by omega) (by omega) ?_
  subst_eqs
  refine it_pos (by omega) ?_
  subst_eqs
  refine it_pos hlt ?_
  subst_eqs
  refine .of (pair_at h1) ?_
  subst_eqs
  refine it_pos (by omega) ?_
  subst_eqs
  refine it_pos hlt2 ?_
  subst_eqs
  refine .of (pair_at h2) ?_
  subst_eqs
  refine .of (ne_pn (pn_of hF hq) (pn_of hF hq) (by omega) (by omega)) ?_
  subst_eqs
  refine it_pos (by omega) ?_
  subst_eqs
  refine it_pos hlt ?_
  subst_eqs
  refine .of (pair_at h1) ?_
  subst_eqs
  refine it_pos (by omega) ?_
  subst_eqs
  refine it_pos hlt2 ?_
  subst_eqs
  refine .of (pair_at h2) ?_
  subst_eqs
  exact qq
theorem far_of {rows : List (List (List D))} {a b : D} (h : FarT rows (.tup [a, b])) : ∃ row ∈ rows, Far row a b := by
  obtain ⟨row, hr, c, d, hf, e⟩ := h
  simp only [D.tup.injEq, List.cons.injEq, and_true] at e
  obtain ⟨rfl, rfl⟩ := e
  exact ⟨row, hr, hf⟩
theorem line_pair_ok {ts : List Th} {sp : List Nat} (dos : Dos F ts sp) {LS : List D} (hL : LotsOk ts LS) {ps : List (D × D)} (hps : PairsOk F ps) {l : Ln} {p : D × D} (hR : Right ts ps l p) {k : Ct (RV × List MO)} (qq : k.run (.sh (prD p), [.lst (ps.map prD)])) : @Ok _ (fm_line_pair [.sh (rulesD F ts LS), .mu true (.lst (ps.map prD)), .sh l.d]) k := by
  unfold fm_line_pair mx_line_pair
  have hF := dos.f
  have hts := dos.ok
  have hR0 := hR
  cases hR with
  | told h1 h2 h3 =>
    simp only [Ln.d, tg, nD]
    subst_eqs
    refine it_neg (by omega) ?_
    subst_eqs
    refine .of (tag_eq (by simp [tags]) (by simp [tags])) ?_
    subst_eqs
    refine it_pos (by omega) ?_
    subst_eqs
    refine told_pair_ok dos h1 h2 h3 ?_
    subst_eqs
    exact qq
  | yrs h1 h2 h3 h4 h5 =>
    simp only [Ln.d, tg, nD]
    subst_eqs
    refine it_neg (by omega) ?_
    subst_eqs
    refine .of (tag_eq (by simp [tags]) (by simp [tags])) ?_
    subst_eqs
    refine it_neg (by decide) ?_
    subst_eqs
    refine .of (tag_eq (by simp [tags]) (by simp [tags])) ?_
    subst_eqs
    refine it_pos (by omega) ?_
    subst_eqs
    refine years_pair_ok dos h1 h2 h3 h4 h5 ?_
    subst_eqs
    exact qq
  | chain h1 h2 =>
    simp only [Ln.d, tg, nD]
    subst_eqs
    refine it_neg (by omega) ?_
    subst_eqs
    refine .of (tag_eq (by simp [tags]) (by simp [tags])) ?_
    subst_eqs
    refine it_neg (by decide) ?_
    subst_eqs
    refine .of (tag_eq (by simp [tags]) (by simp [tags])) ?_
    subst_eqs
    refine it_neg (by decide) ?_
    subst_eqs
    refine .of (tag_eq (by simp [tags]) (by simp [tags])) ?_
    subst_eqs
    refine it_pos (by omega) ?_
    subst_eqs
    refine chain_pair_ok hF hps h1 h2 ?_
    subst_eqs
    exact qq
  | side1 h1 h2 h3 h4 h5 h6 =>
    have pin := hps _ (List.mem_of_getElem? h1)
    have pin2 := Right.mem hts hps hR0
    have hlt := lt_of_get h1
    simp only [Ln.d, tg, nD]
    subst_eqs
    refine it_neg (by omega) ?_
    subst_eqs
    refine .of (tag_eq (by simp [tags]) (by simp [tags])) ?_
    subst_eqs
    refine it_neg (by decide) ?_
    subst_eqs
    refine .of (tag_eq (by simp [tags]) (by simp [tags])) ?_
    subst_eqs
    refine it_neg (by decide) ?_
    subst_eqs
    refine .of (tag_eq (by simp [tags]) (by simp [tags])) ?_
    subst_eqs
    refine it_neg (by decide) ?_
    subst_eqs
    refine number_ok (by omega) (by omega) ?_
    subst_eqs
    refine it_pos (by omega) ?_
    subst_eqs
    refine it_pos hlt ?_
    subst_eqs
    refine .of (pair_at h1) ?_
    subst_eqs
    refine .of (tag_eq (by simp [tags]) (by simp [tags])) ?_
    subst_eqs
    refine it_pos (by omega) ?_
    subst_eqs
    refine side_leads_ok dos h2 h3 pin.1 pin.2 pin2.1 pin2.2 (.inl ⟨rfl, h4, h6, h5⟩) ?_
    subst_eqs
    exact qq
  | side2 h1 h2 h3 h4 h5 h6 =>
    have pin := hps _ (List.mem_of_getElem? h1)
    have pin2 := Right.mem hts hps hR0
    have hlt := lt_of_get h1
    simp only [Ln.d, tg, nD]
    subst_eqs
    refine it_neg (by omega) ?_
    subst_eqs
    refine .of (tag_eq (by simp [tags]) (by simp [tags])) ?_
    subst_eqs
    refine it_neg (by decide) ?_
    subst_eqs
    refine .of (tag_eq (by simp [tags]) (by simp [tags])) ?_
    subst_eqs
    refine it_neg (by decide) ?_
    subst_eqs
    refine .of (tag_eq (by simp [tags]) (by simp [tags])) ?_
    subst_eqs
    refine it_neg (by decide) ?_
    subst_eqs
    refine number_ok (by omega) (by omega) ?_
    subst_eqs
    refine it_pos (by omega) ?_
    subst_eqs
    refine it_pos hlt ?_
    subst_eqs
    refine .of (pair_at h1) ?_
    subst_eqs
    refine .of (tag_eq (by simp [tags]) (by simp [tags])) ?_
    subst_eqs
    refine it_pos (by omega) ?_
    subst_eqs
    refine side_leads_ok dos h2 h3 pin.1 pin.2 pin2.1 pin2.2 (.inr ⟨rfl, h5, h6, h4⟩) ?_
    subst_eqs
    exact qq
  | link1 h1 h2 h3 h4 =>
    have pin := hps _ (List.mem_of_getElem? h1)
    have pin2 := Right.mem hts hps hR0
    have hlt := lt_of_get h1
    simp only [Ln.d, tg, nD]
    subst_eqs
    refine it_neg (by omega) ?_
    subst_eqs
    refine .of (tag_eq (by simp [tags]) (by simp [tags])) ?_
    subst_eqs
    refine it_neg (by decide) ?_
    subst_eqs
    refine .of (tag_eq (by simp [tags]) (by simp [tags])) ?_
    subst_eqs
    refine it_neg (by decide) ?_
    subst_eqs
    refine .of (tag_eq (by simp [tags]) (by simp [tags])) ?_
    subst_eqs
    refine it_neg (by decide) ?_
    subst_eqs
    refine number_ok (by omega) (by omega) ?_
    subst_eqs
    refine it_pos (by omega) ?_
    subst_eqs
    refine it_pos hlt ?_
    subst_eqs
    refine .of (pair_at h1) ?_
    subst_eqs
    refine .of (tag_eq (by simp [tags]) (by simp [tags])) ?_
    subst_eqs
    refine it_neg (by decide) ?_
    subst_eqs
    refine .of (tag_eq (by simp [tags]) (by simp [tags])) ?_
    subst_eqs
    refine it_pos (by omega) ?_
    subst_eqs
    refine link_leads_ok dos hL h2 pin.1 pin.2 pin2.1 pin2.2 (.inl ⟨far_of h3, far_of h4⟩) ?_
    subst_eqs
    exact qq
  | link2 h1 h2 h3 h4 =>
    have pin := hps _ (List.mem_of_getElem? h1)
    have pin2 := Right.mem hts hps hR0
    have hlt := lt_of_get h1
    simp only [Ln.d, tg, nD]
    subst_eqs
    refine it_neg (by omega) ?_
    subst_eqs
    refine .of (tag_eq (by simp [tags]) (by simp [tags])) ?_
    subst_eqs
    refine it_neg (by decide) ?_
    subst_eqs
    refine .of (tag_eq (by simp [tags]) (by simp [tags])) ?_
    subst_eqs
    refine it_neg (by decide) ?_
    subst_eqs
    refine .of (tag_eq (by simp [tags]) (by simp [tags])) ?_
    subst_eqs
    refine it_neg (by decide) ?_
    subst_eqs
    refine number_ok (by omega) (by omega) ?_
    subst_eqs
    refine it_pos (by omega) ?_
    subst_eqs
    refine it_pos hlt ?_
    subst_eqs
    refine .of (pair_at h1) ?_
    subst_eqs
    refine .of (tag_eq (by simp [tags]) (by simp [tags])) ?_
    subst_eqs
    refine it_neg (by decide) ?_
    subst_eqs
    refine .of (tag_eq (by simp [tags]) (by simp [tags])) ?_
    subst_eqs
    refine it_pos (by omega) ?_
    subst_eqs
    refine link_leads_ok dos hL h2 pin.1 pin.2 pin2.1 pin2.2 (.inr ⟨far_of h3, far_of h4⟩) ?_
    subst_eqs
    exact qq
end K91
end L2.My

end
section
set_option Elab.async false
set_option linter.all false
set_option autoImplicit false
set_option maxRecDepth 100000
set_option maxHeartbeats 4000000
/-! Mkj: pairs_of, derives; texts. -/
namespace L2.My
open PySem PySem.Spec PyProof.Rows
local macro_rules | `(tactic| and_intros) => `(tactic| simp only [↓ok_some, ↓ok_bind, ↓ok_ite, it_true, it_false, ↓k_mV, ↓k_mE, ↓k_mF, ↓k_mVar, ↓k_mC, ↓k_mNm, ↓k_m1, ↓k_m2, ↓k_mT, ↓k_mAndT, ↓k_mOrT, ↓k_mNotT, ↓k_mIf, ↓k_mAndV, ↓k_mOrV, ↓k_mNotV, ↓k_mIsi, ↓k_mNil, ↓k_mCons, ↓k_mTup, ↓k_mLst, ↓k_mANil, ↓k_mACons, ↓k_mVE, ↓k_mCall, ↓k_args0, ↓k_args1, ↓k_sSeq, ↓k_then1, ↓k_then2, ↓k_then3, ↓k_then4, ↓k_sNil, ↓k_sSet, ↓k_sExpr, ↓k_sRet, ↓k_sIf, ↓k_sBreak, ↓k_sCont, ↓k_gNm, ↓k_gsNil, ↓k_gsCons, ↓k_gTp, ↓k_sAsg, ↓k_sPar, ↓k_mSo, ↓k_mNo, ↓k_mSl, ↓k_mApp, ↓k_mExt, ↓k_mPop, ↓k_sSetI, ↓k_mIndex, ↓k_mGet, ↓k_mLR1, ↓k_mRng1, ↓k_mItems, ↓k_mEnum, ↓k_mEnumZ, ↓k_sFor, ↓k_fLc, ↓k_mYes, ↓k_mMake, ↓k_sFldI, ↓k_mAnyIn, ↓k_mJoined, ↓k_jNil, ↓k_jCons, ↓k_mDict, ↓k_pNil, ↓k_pCons, ↓k_mChain, ↓k_chain1, ↓k_chain2, ↓k_fnM, ↓k_end1, ↓k_end2, ↓k_outs0, ↓k_outs1, ↓k_outs2, q_mVarS1, q_mVarS2, q_look1, q_look2, q_lookS1, q_lookS2, q_d1, q_d2, q_od1, q_od2, q_od3, q_boolR, q_arg1, q_arg2, q_argS, q_slots0, q_slots1, q_slots2, q_put0, q_put1, q_put2, q_putS, q_slotOf1, q_slotOf2, q_intOf, q_lstS, q_items1, q_items2, q_tupD, q_insS, q_strD, q_outS, p_ix1, p_ix2, p_ix3, p_atI, p_ixN, p_add, p_addS, p_addT, p_addL, p_sub, p_mul, p_div, p_mod, p_pow, p_neg, p_lt, p_le, p_gt, p_ge, p_len1, p_len2, p_len3, p_int, p_abs, p_str, p_max, p_list1, p_list2, p_tuple1, p_tuple2, p_isN, p_notN, p_non1, p_non2, p_non3, p_non4, p_non5, p_isi, p_ty1, p_ty2, p_ty3, p_ty4, p_ty5, p_ty6, p_isi_NoneType_bool, p_isi_NoneType_int, p_isi_NoneType_str, p_isi_NoneType_tuple, p_isi_bool_bool, p_isi_bool_int, p_isi_bool_str, p_isi_bool_tuple, p_isi_int_bool, p_isi_int_int, p_isi_int_str, p_isi_int_tuple, p_isi_str_bool, p_isi_str_int, p_isi_str_str, p_isi_str_tuple, p_isi_tuple_bool, p_isi_tuple_int, p_isi_tuple_str, p_isi_tuple_tuple, p_isi_list_bool, p_isi_list_int, p_isi_list_str, p_isi_list_tuple, p_in, p_notIn, p_eqI, p_neI, p_eqB, p_neB, p_fmt1, p_fmt2, p_fld, p_sl1, p_sl2, p_sl3, q_makeR, q_clean0, q_clean1, q_cleanS1, q_cleanS2, q_wipe0, q_wipe1, q_back0, q_back1, q_join1, q_and1, q_outP1, q_outP2, q_outP3, q_outP4, List.map_cons, List.map_nil, List.cons_append, List.nil_append, List.append_nil, List.length_cons, List.length_nil, List.getElem?_cons_zero, List.getElem?_cons_succ, List.getElem?_nil, List.set_cons_zero, List.set_cons_succ, Nat.reduceAdd, Nat.reduceSub, List.replicate_succ, List.replicate_zero, Nat.zero_add, reduceIte, Nat.reduceLeDiff, Nat.reduceLT, List.nodup_cons, List.nodup_nil, List.not_mem_nil, not_false_eq_true, and_true, and_self, List.mem_cons, or_false, Nat.reduceEqDiff, Bool.not_true, Bool.not_false, Bool.false_eq_true, true_and, and_false, false_and, reduceCtorEq, if_true, if_false, Int.reduceLE, Int.reduceLT, Int.reduceToNat, Int.reduceNeg, Int.reduceAdd, Int.reduceSub, Int.reduceMul, Int.reduceEq, Nat.reduceMul, decide_eq_true_eq, List.length_set, decide_true, decide_false, Int.toNat_natCast, Bool.not_eq_true, ne_eq])
local macro_rules | `(tactic| subst_eqs) => `(tactic| simp only [↓ok_some, ↓ok_bind, ↓ok_ite, it_true, it_false, ↓k_mV, ↓k_mE, ↓k_mF, ↓k_mVar, ↓k_mC, ↓k_mNm, ↓k_m1, ↓k_m2, ↓k_mT, ↓k_mAndT, ↓k_mOrT, ↓k_mNotT, ↓k_mIf, ↓k_mAndV, ↓k_mOrV, ↓k_mNotV, ↓k_mIsi, ↓k_mNil, ↓k_mCons, ↓k_mTup, ↓k_mLst, ↓k_mANil, ↓k_mACons, ↓k_mVE, ↓k_mCall, ↓k_args0, ↓k_args1, ↓k_sSeq, ↓k_then1, ↓k_then2, ↓k_then3, ↓k_then4, ↓k_sNil, ↓k_sSet, ↓k_sExpr, ↓k_sRet, ↓k_sIf, ↓k_sBreak, ↓k_sCont, ↓k_gNm, ↓k_gsNil, ↓k_gsCons, ↓k_gTp, ↓k_sAsg, ↓k_sPar, ↓k_mSo, ↓k_mNo, ↓k_mSl, ↓k_mApp, ↓k_mExt, ↓k_mPop, ↓k_sSetI, ↓k_mIndex, ↓k_mGet, ↓k_mLR1, ↓k_mRng1, ↓k_mItems, ↓k_mEnum, ↓k_mEnumZ, ↓k_sFor, ↓k_fLc, ↓k_mYes, ↓k_mMake, ↓k_sFldI, ↓k_mAnyIn, ↓k_mJoined, ↓k_jNil, ↓k_jCons, ↓k_mDict, ↓k_pNil, ↓k_pCons, ↓k_mChain, ↓k_chain1, ↓k_chain2, ↓k_fnM, ↓k_end1, ↓k_end2, ↓k_outs0, ↓k_outs1, ↓k_outs2, q_mVarS1, q_mVarS2, q_look1, q_look2, q_lookS1, q_lookS2, q_d1, q_d2, q_od1, q_od2, q_od3, q_boolR, q_arg1, q_arg2, q_argS, q_slots0, q_slots1, q_slots2, q_put0, q_put1, q_put2, q_putS, q_slotOf1, q_slotOf2, q_intOf, q_lstS, q_items1, q_items2, q_tupD, q_insS, q_strD, q_outS, p_ix1, p_ix2, p_ix3, p_atI, p_ixN, p_add, p_addS, p_addT, p_addL, p_sub, p_mul, p_div, p_mod, p_pow, p_neg, p_lt, p_le, p_gt, p_ge, p_len1, p_len2, p_len3, p_int, p_abs, p_str, p_max, p_list1, p_list2, p_tuple1, p_tuple2, p_isN, p_notN, p_non1, p_non2, p_non3, p_non4, p_non5, p_isi, p_ty1, p_ty2, p_ty3, p_ty4, p_ty5, p_ty6, p_isi_NoneType_bool, p_isi_NoneType_int, p_isi_NoneType_str, p_isi_NoneType_tuple, p_isi_bool_bool, p_isi_bool_int, p_isi_bool_str, p_isi_bool_tuple, p_isi_int_bool, p_isi_int_int, p_isi_int_str, p_isi_int_tuple, p_isi_str_bool, p_isi_str_int, p_isi_str_str, p_isi_str_tuple, p_isi_tuple_bool, p_isi_tuple_int, p_isi_tuple_str, p_isi_tuple_tuple, p_isi_list_bool, p_isi_list_int, p_isi_list_str, p_isi_list_tuple, p_in, p_notIn, p_eqI, p_neI, p_eqB, p_neB, p_fmt1, p_fmt2, p_fld, p_sl1, p_sl2, p_sl3, q_makeR, q_clean0, q_clean1, q_cleanS1, q_cleanS2, q_wipe0, q_wipe1, q_back0, q_back1, q_join1, q_and1, q_outP1, q_outP2, q_outP3, q_outP4, List.map_cons, List.map_nil, List.cons_append, List.nil_append, List.append_nil, List.length_cons, List.length_nil, List.getElem?_cons_zero, List.getElem?_cons_succ, List.getElem?_nil, List.set_cons_zero, List.set_cons_succ, Nat.reduceAdd, Nat.reduceSub, List.replicate_succ, List.replicate_zero, Nat.zero_add, reduceIte, Nat.reduceLeDiff, Nat.reduceLT, List.nodup_cons, List.nodup_nil, List.not_mem_nil, not_false_eq_true, and_true, and_self, List.mem_cons, or_false, Nat.reduceEqDiff, Bool.not_true, Bool.not_false, Bool.false_eq_true, true_and, and_false, false_and, reduceCtorEq, if_true, if_false, Int.reduceLE, Int.reduceLT, Int.reduceToNat, Int.reduceNeg, Int.reduceAdd, Int.reduceSub, Int.reduceMul, Int.reduceEq, Nat.reduceMul, decide_eq_true_eq, List.length_set, decide_true, decide_false, Int.toNat_natCast, Bool.not_eq_true, ne_eq, List.length_map, List.length_append])
namespace K91
variable {F : List D}
theorem take_one' {α : Type} {xs : List α} {i : Nat} {x : α} (h : xs[i]? = some x) : xs.take (i + 1) = xs.take i ++ [x] := by
  rw [List.take_add_one, h]; rfl
theorem pairs_ok {ts : List Th} {sp : List Nat} (dos : Dos F ts sp) {lns : List Ln} {ps : List (D × D)} (hl : Lines ts lns ps) (hps : PairsOk F ps) (hpl : ps.length ≤ 150) {k : Ct (RV × List MO)} (q : k.run (.sh (.tup (ps.map prD)), [])) : @Ok _ (fm_pairs_of [.sh (dosD F ts), .sh (.tup (lns.map Ln.d))]) k := by
  unfold fm_pairs_of mx_pairs_of
  have hl1 := hl.1
  subst_eqs
  refine rules_ok dos fun LS hL => ?_
  subst_eqs
  refine sForL_inv (fun i ρ => ∃ (x2 : SV) (x4 x5 : Option SV), (x2 = .mu false (.ins (Str.ofString "Rules") (fldsD F ts LS)) ∨ x2 = .sh (rulesD F ts LS)) ∧ ρ = [some (.sh (dosD F ts)), some (.sh (.tup (lns.map Ln.d))), some x2, some (.mu false (.lst ((ps.take i).map prD))), x4, x5]) (fun _ => False) (fun _ _ => False) ⟨_, none, none, .inl rfl, rfl⟩ (fun i d ρ hd ⟨x2, x4, x5, c1, e⟩ => ?_) (fun ρ' ⟨x2, x4, x5, c1, e⟩ => ?_) (fun _ z => z.elim) (fun _ _ z => z.elim)
  · have hx_ := map_at hd
    obtain ⟨hi, er_⟩ := hx_
    have hx_ : ∃ l, lns[i]? = some l ∧ l = lns[i] := ⟨_, List.getElem?_eq_getElem hi, rfl⟩
    obtain ⟨l, hl2, el⟩ := hx_
    rw [← el] at er_
    have hx_ : ∃ p, ps[i]? = some p := ⟨_, List.getElem?_eq_getElem (by omega)⟩
    obtain ⟨p, hp⟩ := hx_
    have hR := hl.2 i l p hl2 hp
    have hpt : PairsOk F (ps.take i) := fun x hx => hps x (List.mem_of_mem_take hx)
    have htl : (ps.take i).length ≤ 150 := by rw [List.length_take]; omega
    subst er_ e
    rcases c1 with c1 | c1
    all_goals
      subst c1
      subst_eqs
      refine line_pair_ok dos hL hpt hR ?_
      simp only [prD]
      subst_eqs
      refine it_pos (by rw [sizeLine_v]; omega) ?_
      subst_eqs
      exact ⟨_, _, _, .inr rfl, by rw [take_one' hp, List.map_append]; rfl⟩
  · subst e
    subst_eqs
    rw [hl1, List.take_length]
    exact q
theorem derives_ok {ts : List Th} {sp : List Nat} (dos : Dos F ts sp) {lns : List Ln} {ps : List (D × D)} (hl : Lines ts lns ps) (hps : PairsOk F ps) (hpl : ps.length ≤ 150) (h0 : 0 < ps.length) {a b c d : D} (hlast : ps[ps.length - 1]? = some (c, d)) (ha : a ∈ F) (hb : b ∈ F) {k : Ct (RV × List MO)} (q : ∀ x : Bool, (x = true ↔ D.tup [c, d] = D.tup [a, b]) → k.run (.sh (.bl x), [])) : @Ok _ (fm_derives [.sh (dosD F ts), .sh (.tup (lns.map Ln.d)), .sh a, .sh b]) k := by
  unfold fm_derives mx_derives
  have hF := dos.f
  have hcd := hps _ (List.mem_of_getElem? hlast)
  subst_eqs
  refine pairs_ok dos hl hps hpl ?_
  subst_eqs
  refine it_pos (by omega) ?_
  subst_eqs
  refine it_pos (by omega) ?_
  subst_eqs
  refine .of (pair_at hlast) ?_
  subst_eqs
  refine .of (eq_pn (prD_pn hF hcd.1 hcd.2) (prD_pn hF ha hb) (by omega) (by omega)) ?_
  subst_eqs
  exact q _ (by simp only [decide_eq_true_eq])
/-! ### texts -/
def Ln.nums : Ln → List Nat
  | .told n _ _ => [n]
  | .yrs n m _ _ => [n, m]
  | .side i n _ _ _ => [i, n]
  | .link i n _ _ => [i, n]
  | .chain i j => [i, j]
def Ln.kind : Ln → String
  | .told _ _ _ => "told"
  | .yrs _ _ _ _ => "years"
  | .side _ _ _ _ _ => "side"
  | .link _ _ _ _ => "link"
  | .chain _ _ => "chain"
def sp1 : Str := Str.ofString " "
def cln : Str := Str.ofString ": "
def lss : Str := Str.ofString " < "
noncomputable def words (n : Nat) (l : Ln) : List Str := [tx n, Str.ofString l.kind] ++ l.nums.map tx
noncomputable def txt (n : Nat) (l : Ln) (a b : Str) : Str := Str.join sp1 (words n l) ++ cln ++ a ++ lss ++ b
theorem str_ext {x y : Str} (h : x.cps = y.cps) : x = y := by cases x; cases y; cases h; rfl
theorem app_cps (x y : Str) : (x ++ y).cps = x.cps ++ y.cps := rfl
theorem app_assoc (x y z : Str) : x ++ y ++ z = x ++ (y ++ z) := str_ext (by rw [app_cps, app_cps, app_cps, app_cps, Array.append_assoc])
theorem emp_app (x : Str) : Str.empty ++ x = x := str_ext (by rw [app_cps]; exact Array.empty_append)
theorem cut_12 {x y : D} {xs : List D} : cutD (x :: y :: xs) (some 1) (some 2) = [y] := by
  unfold cutD
  rw [show (1 : Int) = ((1 : Nat) : Int) from rfl, show (2 : Int) = ((2 : Nat) : Int) from rfl, HT.sIx_nat, HT.sIx_nat, List.length_cons, List.length_cons, Nat.min_eq_left (by omega), Nat.min_eq_left (by omega)]
  simp
theorem cut_13 {x y z : D} {xs : List D} : cutD (x :: y :: z :: xs) (some 1) (some 3) = [y, z] := by
  unfold cutD
  rw [show (1 : Int) = ((1 : Nat) : Int) from rfl, show (3 : Int) = ((3 : Nat) : Int) from rfl, HT.sIx_nat, HT.sIx_nat, List.length_cons, List.length_cons, List.length_cons, Nat.min_eq_left (by omega), Nat.min_eq_left (by omega)]
  simp
theorem tx_guard {n : Nat} (h : n < 320) : (n : Int).natAbs.log2 < 1920 := by
  have := lg (i := n) (by omega)
  rw [Int.natAbs_natCast]
  omega
theorem strs_lc {xs : List Nat} {ρ0 : Rho} (h : ∀ x ∈ xs, x < 320) (hx : xs.length ≤ 10) (hi : 5 < ρ0.length) (hc : ρ0.set 5 none = ρ0) {k : Ct (List D × Rho)} (q : k.run (xs.map (fun j => D.str (tx j)), ρ0)) : @Ok _ (lcL [5] (gNm 5) mYes (mE (m1 oStr (mNm' 5))) (dnat xs) [] ρ0) k := by
  refine lcL_inv (fun i acc ρ => acc = (xs.take i).map (fun j => D.str (tx j)) ∧ ρ = ρ0) (by rw [dnat_len, sizeLine_v]; omega) ⟨rfl, rfl⟩ (fun i d acc ρ hd ha ⟨e1, e⟩ => ?_) fun out ρ' hl ⟨e1, e⟩ => ?_
  · obtain ⟨hi2, er_⟩ := map_at hd
    subst er_ e e1
    have e5 : ∀ d, (ρ.set 5 (some (.sh d)))[5]? = some (some (SV.sh d)) := fun d => List.getElem?_set_self hi
    simp only [e5, ↓ok_some, ↓ok_bind, ↓ok_ite, it_true, it_false, ↓k_mV, ↓k_mE, ↓k_mF, ↓k_mVar, ↓k_mC, ↓k_mNm, ↓k_m1, ↓k_m2, ↓k_mT, ↓k_mAndT, ↓k_mOrT, ↓k_mNotT, ↓k_mIf, ↓k_mAndV, ↓k_mOrV, ↓k_mNotV, ↓k_mIsi, ↓k_mNil, ↓k_mCons, ↓k_mTup, ↓k_mLst, ↓k_mANil, ↓k_mACons, ↓k_mVE, ↓k_mCall, ↓k_args0, ↓k_args1, ↓k_sSeq, ↓k_then1, ↓k_then2, ↓k_then3, ↓k_then4, ↓k_sNil, ↓k_sSet, ↓k_sExpr, ↓k_sRet, ↓k_sIf, ↓k_sBreak, ↓k_sCont, ↓k_gNm, ↓k_gsNil, ↓k_gsCons, ↓k_gTp, ↓k_sAsg, ↓k_sPar, ↓k_mSo, ↓k_mNo, ↓k_mSl, ↓k_mApp, ↓k_mExt, ↓k_mPop, ↓k_sSetI, ↓k_mIndex, ↓k_mGet, ↓k_mLR1, ↓k_mRng1, ↓k_mItems, ↓k_mEnum, ↓k_mEnumZ, ↓k_sFor, ↓k_fLc, ↓k_mYes, ↓k_mMake, ↓k_sFldI, ↓k_mAnyIn, ↓k_mJoined, ↓k_jNil, ↓k_jCons, ↓k_mDict, ↓k_pNil, ↓k_pCons, ↓k_mChain, ↓k_chain1, ↓k_chain2, ↓k_fnM, ↓k_end1, ↓k_end2, ↓k_outs0, ↓k_outs1, ↓k_outs2, q_mVarS1, q_mVarS2, q_look1, q_look2, q_lookS1, q_lookS2, q_d1, q_d2, q_od1, q_od2, q_od3, q_boolR, q_arg1, q_arg2, q_argS, q_slots0, q_slots1, q_slots2, q_put0, q_put1, q_put2, q_putS, q_slotOf1, q_slotOf2, q_intOf, q_lstS, q_items1, q_items2, q_tupD, q_insS, q_strD, q_outS, p_ix1, p_ix2, p_ix3, p_atI, p_ixN, p_add, p_addS, p_addT, p_addL, p_sub, p_mul, p_div, p_mod, p_pow, p_neg, p_lt, p_le, p_gt, p_ge, p_len1, p_len2, p_len3, p_int, p_abs, p_str, p_max, p_list1, p_list2, p_tuple1, p_tuple2, p_isN, p_notN, p_non1, p_non2, p_non3, p_non4, p_non5, p_isi, p_ty1, p_ty2, p_ty3, p_ty4, p_ty5, p_ty6, p_isi_NoneType_bool, p_isi_NoneType_int, p_isi_NoneType_str, p_isi_NoneType_tuple, p_isi_bool_bool, p_isi_bool_int, p_isi_bool_str, p_isi_bool_tuple, p_isi_int_bool, p_isi_int_int, p_isi_int_str, p_isi_int_tuple, p_isi_str_bool, p_isi_str_int, p_isi_str_str, p_isi_str_tuple, p_isi_tuple_bool, p_isi_tuple_int, p_isi_tuple_str, p_isi_tuple_tuple, p_isi_list_bool, p_isi_list_int, p_isi_list_str, p_isi_list_tuple, p_in, p_notIn, p_eqI, p_neI, p_eqB, p_neB, p_fmt1, p_fmt2, p_fld, p_sl1, p_sl2, p_sl3, q_makeR, q_clean0, q_clean1, q_cleanS1, q_cleanS2, q_wipe0, q_wipe1, q_back0, q_back1, q_join1, q_and1, q_outP1, q_outP2, q_outP3, q_outP4, List.map_cons, List.map_nil, List.cons_append, List.nil_append, List.append_nil, List.length_cons, List.length_nil, List.getElem?_cons_zero, List.getElem?_cons_succ, List.getElem?_nil, List.set_cons_zero, List.set_cons_succ, Nat.reduceAdd, Nat.reduceSub, List.replicate_succ, List.replicate_zero, Nat.zero_add, reduceIte, Nat.reduceLeDiff, Nat.reduceLT, List.nodup_cons, List.nodup_nil, List.not_mem_nil, not_false_eq_true, and_true, and_self, List.mem_cons, or_false, Nat.reduceEqDiff, Bool.not_true, Bool.not_false, Bool.false_eq_true, true_and, and_false, false_and, reduceCtorEq, if_true, if_false, Int.reduceLE, Int.reduceLT, Int.reduceToNat, Int.reduceNeg, Int.reduceAdd, Int.reduceSub, Int.reduceMul, Int.reduceEq, Nat.reduceMul, decide_eq_true_eq, List.length_set, decide_true, decide_false, Int.toNat_natCast, Bool.not_eq_true, ne_eq]
    refine it_pos (tx_guard (h _ (List.getElem_mem hi2))) ?_
    simp only [e5, ↓ok_some, ↓ok_bind, ↓ok_ite, it_true, it_false, ↓k_mV, ↓k_mE, ↓k_mF, ↓k_mVar, ↓k_mC, ↓k_mNm, ↓k_m1, ↓k_m2, ↓k_mT, ↓k_mAndT, ↓k_mOrT, ↓k_mNotT, ↓k_mIf, ↓k_mAndV, ↓k_mOrV, ↓k_mNotV, ↓k_mIsi, ↓k_mNil, ↓k_mCons, ↓k_mTup, ↓k_mLst, ↓k_mANil, ↓k_mACons, ↓k_mVE, ↓k_mCall, ↓k_args0, ↓k_args1, ↓k_sSeq, ↓k_then1, ↓k_then2, ↓k_then3, ↓k_then4, ↓k_sNil, ↓k_sSet, ↓k_sExpr, ↓k_sRet, ↓k_sIf, ↓k_sBreak, ↓k_sCont, ↓k_gNm, ↓k_gsNil, ↓k_gsCons, ↓k_gTp, ↓k_sAsg, ↓k_sPar, ↓k_mSo, ↓k_mNo, ↓k_mSl, ↓k_mApp, ↓k_mExt, ↓k_mPop, ↓k_sSetI, ↓k_mIndex, ↓k_mGet, ↓k_mLR1, ↓k_mRng1, ↓k_mItems, ↓k_mEnum, ↓k_mEnumZ, ↓k_sFor, ↓k_fLc, ↓k_mYes, ↓k_mMake, ↓k_sFldI, ↓k_mAnyIn, ↓k_mJoined, ↓k_jNil, ↓k_jCons, ↓k_mDict, ↓k_pNil, ↓k_pCons, ↓k_mChain, ↓k_chain1, ↓k_chain2, ↓k_fnM, ↓k_end1, ↓k_end2, ↓k_outs0, ↓k_outs1, ↓k_outs2, q_mVarS1, q_mVarS2, q_look1, q_look2, q_lookS1, q_lookS2, q_d1, q_d2, q_od1, q_od2, q_od3, q_boolR, q_arg1, q_arg2, q_argS, q_slots0, q_slots1, q_slots2, q_put0, q_put1, q_put2, q_putS, q_slotOf1, q_slotOf2, q_intOf, q_lstS, q_items1, q_items2, q_tupD, q_insS, q_strD, q_outS, p_ix1, p_ix2, p_ix3, p_atI, p_ixN, p_add, p_addS, p_addT, p_addL, p_sub, p_mul, p_div, p_mod, p_pow, p_neg, p_lt, p_le, p_gt, p_ge, p_len1, p_len2, p_len3, p_int, p_abs, p_str, p_max, p_list1, p_list2, p_tuple1, p_tuple2, p_isN, p_notN, p_non1, p_non2, p_non3, p_non4, p_non5, p_isi, p_ty1, p_ty2, p_ty3, p_ty4, p_ty5, p_ty6, p_isi_NoneType_bool, p_isi_NoneType_int, p_isi_NoneType_str, p_isi_NoneType_tuple, p_isi_bool_bool, p_isi_bool_int, p_isi_bool_str, p_isi_bool_tuple, p_isi_int_bool, p_isi_int_int, p_isi_int_str, p_isi_int_tuple, p_isi_str_bool, p_isi_str_int, p_isi_str_str, p_isi_str_tuple, p_isi_tuple_bool, p_isi_tuple_int, p_isi_tuple_str, p_isi_tuple_tuple, p_isi_list_bool, p_isi_list_int, p_isi_list_str, p_isi_list_tuple, p_in, p_notIn, p_eqI, p_neI, p_eqB, p_neB, p_fmt1, p_fmt2, p_fld, p_sl1, p_sl2, p_sl3, q_makeR, q_clean0, q_clean1, q_cleanS1, q_cleanS2, q_wipe0, q_wipe1, q_back0, q_back1, q_join1, q_and1, q_outP1, q_outP2, q_outP3, q_outP4, List.map_cons, List.map_nil, List.cons_append, List.nil_append, List.append_nil, List.length_cons, List.length_nil, List.getElem?_cons_zero, List.getElem?_cons_succ, List.getElem?_nil, List.set_cons_zero, List.set_cons_succ, Nat.reduceAdd, Nat.reduceSub, List.replicate_succ, List.replicate_zero, Nat.zero_add, reduceIte, Nat.reduceLeDiff, Nat.reduceLT, List.nodup_cons, List.nodup_nil, List.not_mem_nil, not_false_eq_true, and_true, and_self, List.mem_cons, or_false, Nat.reduceEqDiff, Bool.not_true, Bool.not_false, Bool.false_eq_true, true_and, and_false, false_and, reduceCtorEq, if_true, if_false, Int.reduceLE, Int.reduceLT, Int.reduceToNat, Int.reduceNeg, Int.reduceAdd, Int.reduceSub, Int.reduceMul, Int.reduceEq, Nat.reduceMul, decide_eq_true_eq, List.length_set, decide_true, decide_false, Int.toNat_natCast, Bool.not_eq_true, ne_eq]
    refine ⟨?_, ?_⟩
    · rw [take_one hi2, List.map_append]
      rfl
    · rw [List.set_set]
      exact hc
  · rw [dnat_len, List.take_length] at e1
    subst e e1
    exact q
end K91
end L2.My

end
section
set_option Elab.async false
set_option linter.all false
set_option autoImplicit false
set_option maxRecDepth 100000
set_option maxHeartbeats 4000000
/-! Mkk: the texts of lines. -/
namespace L2.My
open PySem PySem.Spec PyProof.Rows
local macro_rules | `(tactic| and_intros) => `(tactic| simp only [↓ok_some, ↓ok_bind, ↓ok_ite, it_true, it_false, ↓k_mV, ↓k_mE, ↓k_mF, ↓k_mVar, ↓k_mC, ↓k_mNm, ↓k_m1, ↓k_m2, ↓k_mT, ↓k_mAndT, ↓k_mOrT, ↓k_mNotT, ↓k_mIf, ↓k_mAndV, ↓k_mOrV, ↓k_mNotV, ↓k_mIsi, ↓k_mNil, ↓k_mCons, ↓k_mTup, ↓k_mLst, ↓k_mANil, ↓k_mACons, ↓k_mVE, ↓k_mCall, ↓k_args0, ↓k_args1, ↓k_sSeq, ↓k_then1, ↓k_then2, ↓k_then3, ↓k_then4, ↓k_sNil, ↓k_sSet, ↓k_sExpr, ↓k_sRet, ↓k_sIf, ↓k_sBreak, ↓k_sCont, ↓k_gNm, ↓k_gsNil, ↓k_gsCons, ↓k_gTp, ↓k_sAsg, ↓k_sPar, ↓k_mSo, ↓k_mNo, ↓k_mSl, ↓k_mApp, ↓k_mExt, ↓k_mPop, ↓k_sSetI, ↓k_mIndex, ↓k_mGet, ↓k_mLR1, ↓k_mRng1, ↓k_mItems, ↓k_mEnum, ↓k_mEnumZ, ↓k_sFor, ↓k_fLc, ↓k_mYes, ↓k_mMake, ↓k_sFldI, ↓k_mAnyIn, ↓k_mJoined, ↓k_jNil, ↓k_jCons, ↓k_mDict, ↓k_pNil, ↓k_pCons, ↓k_mChain, ↓k_chain1, ↓k_chain2, ↓k_fnM, ↓k_end1, ↓k_end2, ↓k_outs0, ↓k_outs1, ↓k_outs2, q_mVarS1, q_mVarS2, q_look1, q_look2, q_lookS1, q_lookS2, q_d1, q_d2, q_od1, q_od2, q_od3, q_boolR, q_arg1, q_arg2, q_argS, q_slots0, q_slots1, q_slots2, q_put0, q_put1, q_put2, q_putS, q_slotOf1, q_slotOf2, q_intOf, q_lstS, q_items1, q_items2, q_tupD, q_insS, q_strD, q_outS, p_ix1, p_ix2, p_ix3, p_atI, p_ixN, p_add, p_addS, p_addT, p_addL, p_sub, p_mul, p_div, p_mod, p_pow, p_neg, p_lt, p_le, p_gt, p_ge, p_len1, p_len2, p_len3, p_int, p_abs, p_str, p_max, p_list1, p_list2, p_tuple1, p_tuple2, p_isN, p_notN, p_non1, p_non2, p_non3, p_non4, p_non5, p_isi, p_ty1, p_ty2, p_ty3, p_ty4, p_ty5, p_ty6, p_isi_NoneType_bool, p_isi_NoneType_int, p_isi_NoneType_str, p_isi_NoneType_tuple, p_isi_bool_bool, p_isi_bool_int, p_isi_bool_str, p_isi_bool_tuple, p_isi_int_bool, p_isi_int_int, p_isi_int_str, p_isi_int_tuple, p_isi_str_bool, p_isi_str_int, p_isi_str_str, p_isi_str_tuple, p_isi_tuple_bool, p_isi_tuple_int, p_isi_tuple_str, p_isi_tuple_tuple, p_isi_list_bool, p_isi_list_int, p_isi_list_str, p_isi_list_tuple, p_in, p_notIn, p_eqI, p_neI, p_eqB, p_neB, p_fmt1, p_fmt2, p_fld, p_sl1, p_sl2, p_sl3, q_makeR, q_clean0, q_clean1, q_cleanS1, q_cleanS2, q_wipe0, q_wipe1, q_back0, q_back1, q_join1, q_and1, q_outP1, q_outP2, q_outP3, q_outP4, List.map_cons, List.map_nil, List.cons_append, List.nil_append, List.append_nil, List.length_cons, List.length_nil, List.getElem?_cons_zero, List.getElem?_cons_succ, List.getElem?_nil, List.set_cons_zero, List.set_cons_succ, Nat.reduceAdd, Nat.reduceSub, List.replicate_succ, List.replicate_zero, Nat.zero_add, reduceIte, Nat.reduceLeDiff, Nat.reduceLT, List.nodup_cons, List.nodup_nil, List.not_mem_nil, not_false_eq_true, and_true, and_self, List.mem_cons, or_false, Nat.reduceEqDiff, Bool.not_true, Bool.not_false, Bool.false_eq_true, true_and, and_false, false_and, reduceCtorEq, if_true, if_false, Int.reduceLE, Int.reduceLT, Int.reduceToNat, Int.reduceNeg, Int.reduceAdd, Int.reduceSub, Int.reduceMul, Int.reduceEq, Nat.reduceMul, decide_eq_true_eq, List.length_set, decide_true, decide_false, Int.toNat_natCast, Bool.not_eq_true, ne_eq])
local macro_rules | `(tactic| subst_eqs) => `(tactic| simp only [↓ok_some, ↓ok_bind, ↓ok_ite, it_true, it_false, ↓k_mV, ↓k_mE, ↓k_mF, ↓k_mVar, ↓k_mC, ↓k_mNm, ↓k_m1, ↓k_m2, ↓k_mT, ↓k_mAndT, ↓k_mOrT, ↓k_mNotT, ↓k_mIf, ↓k_mAndV, ↓k_mOrV, ↓k_mNotV, ↓k_mIsi, ↓k_mNil, ↓k_mCons, ↓k_mTup, ↓k_mLst, ↓k_mANil, ↓k_mACons, ↓k_mVE, ↓k_mCall, ↓k_args0, ↓k_args1, ↓k_sSeq, ↓k_then1, ↓k_then2, ↓k_then3, ↓k_then4, ↓k_sNil, ↓k_sSet, ↓k_sExpr, ↓k_sRet, ↓k_sIf, ↓k_sBreak, ↓k_sCont, ↓k_gNm, ↓k_gsNil, ↓k_gsCons, ↓k_gTp, ↓k_sAsg, ↓k_sPar, ↓k_mSo, ↓k_mNo, ↓k_mSl, ↓k_mApp, ↓k_mExt, ↓k_mPop, ↓k_sSetI, ↓k_mIndex, ↓k_mGet, ↓k_mLR1, ↓k_mRng1, ↓k_mItems, ↓k_mEnum, ↓k_mEnumZ, ↓k_sFor, ↓k_fLc, ↓k_mYes, ↓k_mMake, ↓k_sFldI, ↓k_mAnyIn, ↓k_mJoined, ↓k_jNil, ↓k_jCons, ↓k_mDict, ↓k_pNil, ↓k_pCons, ↓k_mChain, ↓k_chain1, ↓k_chain2, ↓k_fnM, ↓k_end1, ↓k_end2, ↓k_outs0, ↓k_outs1, ↓k_outs2, q_mVarS1, q_mVarS2, q_look1, q_look2, q_lookS1, q_lookS2, q_d1, q_d2, q_od1, q_od2, q_od3, q_boolR, q_arg1, q_arg2, q_argS, q_slots0, q_slots1, q_slots2, q_put0, q_put1, q_put2, q_putS, q_slotOf1, q_slotOf2, q_intOf, q_lstS, q_items1, q_items2, q_tupD, q_insS, q_strD, q_outS, p_ix1, p_ix2, p_ix3, p_atI, p_ixN, p_add, p_addS, p_addT, p_addL, p_sub, p_mul, p_div, p_mod, p_pow, p_neg, p_lt, p_le, p_gt, p_ge, p_len1, p_len2, p_len3, p_int, p_abs, p_str, p_max, p_list1, p_list2, p_tuple1, p_tuple2, p_isN, p_notN, p_non1, p_non2, p_non3, p_non4, p_non5, p_isi, p_ty1, p_ty2, p_ty3, p_ty4, p_ty5, p_ty6, p_isi_NoneType_bool, p_isi_NoneType_int, p_isi_NoneType_str, p_isi_NoneType_tuple, p_isi_bool_bool, p_isi_bool_int, p_isi_bool_str, p_isi_bool_tuple, p_isi_int_bool, p_isi_int_int, p_isi_int_str, p_isi_int_tuple, p_isi_str_bool, p_isi_str_int, p_isi_str_str, p_isi_str_tuple, p_isi_tuple_bool, p_isi_tuple_int, p_isi_tuple_str, p_isi_tuple_tuple, p_isi_list_bool, p_isi_list_int, p_isi_list_str, p_isi_list_tuple, p_in, p_notIn, p_eqI, p_neI, p_eqB, p_neB, p_fmt1, p_fmt2, p_fld, p_sl1, p_sl2, p_sl3, q_makeR, q_clean0, q_clean1, q_cleanS1, q_cleanS2, q_wipe0, q_wipe1, q_back0, q_back1, q_join1, q_and1, q_outP1, q_outP2, q_outP3, q_outP4, List.map_cons, List.map_nil, List.cons_append, List.nil_append, List.append_nil, List.length_cons, List.length_nil, List.getElem?_cons_zero, List.getElem?_cons_succ, List.getElem?_nil, List.set_cons_zero, List.set_cons_succ, Nat.reduceAdd, Nat.reduceSub, List.replicate_succ, List.replicate_zero, Nat.zero_add, reduceIte, Nat.reduceLeDiff, Nat.reduceLT, List.nodup_cons, List.nodup_nil, List.not_mem_nil, not_false_eq_true, and_true, and_self, List.mem_cons, or_false, Nat.reduceEqDiff, Bool.not_true, Bool.not_false, Bool.false_eq_true, true_and, and_false, false_and, reduceCtorEq, if_true, if_false, Int.reduceLE, Int.reduceLT, Int.reduceToNat, Int.reduceNeg, Int.reduceAdd, Int.reduceSub, Int.reduceMul, Int.reduceEq, Nat.reduceMul, decide_eq_true_eq, List.length_set, decide_true, decide_false, Int.toNat_natCast, Bool.not_eq_true, ne_eq, List.length_map, List.length_append])
namespace K91
variable {F : List D}
theorem sp1_len : sp1.length = 1 := by decide +kernel
theorem sp1_ok : PyData.strOk sp1 = true := by decide +kernel
theorem cln_len : cln.length = 2 := by decide +kernel
theorem cln_ok : PyData.strOk cln = true := by decide +kernel
theorem lss_len : lss.length = 3 := by decide +kernel
theorem lss_ok : PyData.strOk lss = true := by decide +kernel
theorem tx_ok' {n : Nat} (h : n < 320) : PyData.strOk (tx n) = true ∧ (tx n).length ≤ 3 := tx_ok ⟨n, h⟩
theorem kinds_len : (["told", "years", "side", "link", "chain"].all fun s => decide ((Str.ofString s).length ≤ 5 ∧ PyData.strOk (Str.ofString s) = true)) = true := by decide +kernel
theorem kind_ok (l : Ln) : (Str.ofString l.kind).length ≤ 5 ∧ PyData.strOk (Str.ofString l.kind) = true := by
  have h := List.all_eq_true.mp kinds_len l.kind (by cases l <;> simp [Ln.kind])
  exact of_decide_eq_true h
theorem sum_tx : ∀ {xs : List Nat}, (∀ x ∈ xs, x < 320) → ((xs.map tx).map (·.length)).sum ≤ 3 * xs.length
  | [], _ => by simp
  | x :: xs, h => by
    have h1 := (tx_ok' (h x (by simp))).2
    have h2 := sum_tx (xs := xs) fun y hy => h y (by simp [hy])
    simp only [List.map_cons, List.sum_cons, List.length_cons]
    omega
theorem nums_len (l : Ln) : l.nums.length ≤ 2 := by cases l <;> simp [Ln.nums]
theorem words_sum {n : Nat} {l : Ln} (hn : n < 320) (hl : ∀ x ∈ l.nums, x < 320) : ((words n l).map (·.length)).sum + (words n l).length * sp1.length ≤ 20 := by
  unfold words
  have h1 := (tx_ok' hn).2
  have h2 := (kind_ok l).1
  have h3 := sum_tx hl
  have h4 := nums_len l
  rw [sp1_len]
  simp only [List.map_append, List.sum_append, List.length_append, List.map_cons, List.map_nil, List.sum_cons, List.sum_nil, List.length_cons, List.length_nil, List.length_map] at h3 ⊢
  simp only [List.map_map] at h3 ⊢
  omega
theorem words_len {n : Nat} {l : Ln} (hn : n < 320) (hl : ∀ x ∈ l.nums, x < 320) : (Str.join sp1 (words n l)).length ≤ 20 := Nat.le_trans (len_join _ _) (words_sum hn hl)
theorem words_ok {n : Nat} {l : Ln} (hn : n < 320) (hl : ∀ x ∈ l.nums, x < 320) : PyData.strOk (Str.join sp1 (words n l)) = true := by
  refine sok_join sp1_ok fun y hy => ?_
  unfold words at hy
  rcases List.mem_append.mp hy with hy | hy
  · simp only [List.mem_cons, List.not_mem_nil, or_false] at hy
    rcases hy with rfl | rfl
    · exact (tx_ok' hn).1
    · exact (kind_ok l).2
  · obtain ⟨j, hj, rfl⟩ := List.mem_map.mp hy
    exact (tx_ok' (hl j hj)).1
theorem txt_ok {n : Nat} {l : Ln} (hn : n < 320) (hl : ∀ x ∈ l.nums, x < 320) {a b : Str} (ha : PyData.strOk a = true) (hb : PyData.strOk b = true) : PyData.strOk (txt n l a b) = true := by
  unfold txt
  exact sok_app (sok_app (sok_app (sok_app (words_ok hn hl) cln_ok) ha) lss_ok) hb
theorem txt_eq {n : Nat} {l : Ln} {a b : Str} : Str.join sp1 (words n l) ++ (Str.empty ++ cln ++ a ++ lss ++ b) = txt n l a b := by
  unfold txt
  rw [emp_app]
  simp only [app_assoc]
theorem join_words {n : Nat} {l : Ln} (hn : n < 320) (hl : ∀ x ∈ l.nums, x < 320) : oJoin sp1 (.lst ((words n l).map .str)) = some (.sh (.str (Str.join sp1 (words n l)))) := join_v (by have := words_sum hn hl; omega)
theorem line_text_ok {n : Nat} {l : Ln} (hn : n < 320) (hl : ∀ x ∈ l.nums, x < 320) {a b : Str} (ha : a.length ≤ 100) (hb : b.length ≤ 100) {k : Ct (RV × List MO)} (q : k.run (.sh (.str (txt n l a b)), [])) : @Ok _ (fm_line_text [.sh (.int n), .sh l.d, .sh (prD (.str a, .str b))]) k := by
  unfold fm_line_text mx_line_text
  have wl := words_len hn hl
  have e0 : Str.empty.length = 0 := rfl
  have cl2 : (Str.ofString ": ").length = 2 := cln_len
  have ls3 : (Str.ofString " < ").length = 3 := lss_len
  cases l with
  | told n1 x y =>
    simp only [Ln.d, tg, nD, prD]
    subst_eqs
    refine .of (tag_eq (by simp [tags]) (by simp [tags])) ?_
    subst_eqs
    refine it_pos (tx_guard hn) ?_
    simp only [cut_12, cut_13, ↓ok_some, ↓ok_bind, ↓ok_ite, it_true, it_false, ↓k_mV, ↓k_mE, ↓k_mF, ↓k_mVar, ↓k_mC, ↓k_mNm, ↓k_m1, ↓k_m2, ↓k_mT, ↓k_mAndT, ↓k_mOrT, ↓k_mNotT, ↓k_mIf, ↓k_mAndV, ↓k_mOrV, ↓k_mNotV, ↓k_mIsi, ↓k_mNil, ↓k_mCons, ↓k_mTup, ↓k_mLst, ↓k_mANil, ↓k_mACons, ↓k_mVE, ↓k_mCall, ↓k_args0, ↓k_args1, ↓k_sSeq, ↓k_then1, ↓k_then2, ↓k_then3, ↓k_then4, ↓k_sNil, ↓k_sSet, ↓k_sExpr, ↓k_sRet, ↓k_sIf, ↓k_sBreak, ↓k_sCont, ↓k_gNm, ↓k_gsNil, ↓k_gsCons, ↓k_gTp, ↓k_sAsg, ↓k_sPar, ↓k_mSo, ↓k_mNo, ↓k_mSl, ↓k_mApp, ↓k_mExt, ↓k_mPop, ↓k_sSetI, ↓k_mIndex, ↓k_mGet, ↓k_mLR1, ↓k_mRng1, ↓k_mItems, ↓k_mEnum, ↓k_mEnumZ, ↓k_sFor, ↓k_fLc, ↓k_mYes, ↓k_mMake, ↓k_sFldI, ↓k_mAnyIn, ↓k_mJoined, ↓k_jNil, ↓k_jCons, ↓k_mDict, ↓k_pNil, ↓k_pCons, ↓k_mChain, ↓k_chain1, ↓k_chain2, ↓k_fnM, ↓k_end1, ↓k_end2, ↓k_outs0, ↓k_outs1, ↓k_outs2, q_mVarS1, q_mVarS2, q_look1, q_look2, q_lookS1, q_lookS2, q_d1, q_d2, q_od1, q_od2, q_od3, q_boolR, q_arg1, q_arg2, q_argS, q_slots0, q_slots1, q_slots2, q_put0, q_put1, q_put2, q_putS, q_slotOf1, q_slotOf2, q_intOf, q_lstS, q_items1, q_items2, q_tupD, q_insS, q_strD, q_outS, p_ix1, p_ix2, p_ix3, p_atI, p_ixN, p_add, p_addS, p_addT, p_addL, p_sub, p_mul, p_div, p_mod, p_pow, p_neg, p_lt, p_le, p_gt, p_ge, p_len1, p_len2, p_len3, p_int, p_abs, p_str, p_max, p_list1, p_list2, p_tuple1, p_tuple2, p_isN, p_notN, p_non1, p_non2, p_non3, p_non4, p_non5, p_isi, p_ty1, p_ty2, p_ty3, p_ty4, p_ty5, p_ty6, p_isi_NoneType_bool, p_isi_NoneType_int, p_isi_NoneType_str, p_isi_NoneType_tuple, p_isi_bool_bool, p_isi_bool_int, p_isi_bool_str, p_isi_bool_tuple, p_isi_int_bool, p_isi_int_int, p_isi_int_str, p_isi_int_tuple, p_isi_str_bool, p_isi_str_int, p_isi_str_str, p_isi_str_tuple, p_isi_tuple_bool, p_isi_tuple_int, p_isi_tuple_str, p_isi_tuple_tuple, p_isi_list_bool, p_isi_list_int, p_isi_list_str, p_isi_list_tuple, p_in, p_notIn, p_eqI, p_neI, p_eqB, p_neB, p_fmt1, p_fmt2, p_fld, p_sl1, p_sl2, p_sl3, q_makeR, q_clean0, q_clean1, q_cleanS1, q_cleanS2, q_wipe0, q_wipe1, q_back0, q_back1, q_join1, q_and1, q_outP1, q_outP2, q_outP3, q_outP4, List.map_cons, List.map_nil, List.cons_append, List.nil_append, List.append_nil, List.length_cons, List.length_nil, List.getElem?_cons_zero, List.getElem?_cons_succ, List.getElem?_nil, List.set_cons_zero, List.set_cons_succ, Nat.reduceAdd, Nat.reduceSub, List.replicate_succ, List.replicate_zero, Nat.zero_add, reduceIte, Nat.reduceLeDiff, Nat.reduceLT, List.nodup_cons, List.nodup_nil, List.not_mem_nil, not_false_eq_true, and_true, and_self, List.mem_cons, or_false, Nat.reduceEqDiff, Bool.not_true, Bool.not_false, Bool.false_eq_true, true_and, and_false, false_and, reduceCtorEq, if_true, if_false, Int.reduceLE, Int.reduceLT, Int.reduceToNat, Int.reduceNeg, Int.reduceAdd, Int.reduceSub, Int.reduceMul, Int.reduceEq, Nat.reduceMul, decide_eq_true_eq, List.length_set, decide_true, decide_false, Int.toNat_natCast, Bool.not_eq_true, ne_eq]
    refine strs_lc (xs := [n1]) hl (by simp) (by simp) rfl ?_
    subst_eqs
    refine it_pos (by rw [sizeLine_v]; omega) ?_
    subst_eqs
    refine .of (join_words (l := .told n1 x y) hn hl) ?_
    subst_eqs
    refine it_pos (by simp only [len_app, sizeLine_v, e0, cl2, ls3]; omega) ?_
    subst_eqs
    refine it_pos (by simp only [len_app, sizeLine_v, e0, cl2, ls3]; omega) ?_
    subst_eqs
    refine it_pos (by simp only [len_app, sizeLine_v, e0, cl2, ls3]; omega) ?_
    subst_eqs
    refine it_pos (by simp only [len_app, sizeLine_v, e0, cl2, ls3]; omega) ?_
    subst_eqs
    refine it_pos (by simp only [len_app, sizeLine_v, e0, cl2, ls3]; omega) ?_
    subst_eqs
    refine it_pos (by simp only [len_app, sizeLine_v, e0, cl2, ls3]; omega) ?_
    subst_eqs
    refine it_pos (by simp only [len_app, sizeLine_v, e0, cl2, ls3]; omega) ?_
    subst_eqs
    rw [← txt_eq] at q
    exact q
  | yrs n1 n2 x y =>
    simp only [Ln.d, tg, nD, prD]
    subst_eqs
    refine .of (tag_eq (by simp [tags]) (by simp [tags])) ?_
    subst_eqs
    refine it_neg (by decide) ?_
    simp only [cut_12, cut_13, ↓ok_some, ↓ok_bind, ↓ok_ite, it_true, it_false, ↓k_mV, ↓k_mE, ↓k_mF, ↓k_mVar, ↓k_mC, ↓k_mNm, ↓k_m1, ↓k_m2, ↓k_mT, ↓k_mAndT, ↓k_mOrT, ↓k_mNotT, ↓k_mIf, ↓k_mAndV, ↓k_mOrV, ↓k_mNotV, ↓k_mIsi, ↓k_mNil, ↓k_mCons, ↓k_mTup, ↓k_mLst, ↓k_mANil, ↓k_mACons, ↓k_mVE, ↓k_mCall, ↓k_args0, ↓k_args1, ↓k_sSeq, ↓k_then1, ↓k_then2, ↓k_then3, ↓k_then4, ↓k_sNil, ↓k_sSet, ↓k_sExpr, ↓k_sRet, ↓k_sIf, ↓k_sBreak, ↓k_sCont, ↓k_gNm, ↓k_gsNil, ↓k_gsCons, ↓k_gTp, ↓k_sAsg, ↓k_sPar, ↓k_mSo, ↓k_mNo, ↓k_mSl, ↓k_mApp, ↓k_mExt, ↓k_mPop, ↓k_sSetI, ↓k_mIndex, ↓k_mGet, ↓k_mLR1, ↓k_mRng1, ↓k_mItems, ↓k_mEnum, ↓k_mEnumZ, ↓k_sFor, ↓k_fLc, ↓k_mYes, ↓k_mMake, ↓k_sFldI, ↓k_mAnyIn, ↓k_mJoined, ↓k_jNil, ↓k_jCons, ↓k_mDict, ↓k_pNil, ↓k_pCons, ↓k_mChain, ↓k_chain1, ↓k_chain2, ↓k_fnM, ↓k_end1, ↓k_end2, ↓k_outs0, ↓k_outs1, ↓k_outs2, q_mVarS1, q_mVarS2, q_look1, q_look2, q_lookS1, q_lookS2, q_d1, q_d2, q_od1, q_od2, q_od3, q_boolR, q_arg1, q_arg2, q_argS, q_slots0, q_slots1, q_slots2, q_put0, q_put1, q_put2, q_putS, q_slotOf1, q_slotOf2, q_intOf, q_lstS, q_items1, q_items2, q_tupD, q_insS, q_strD, q_outS, p_ix1, p_ix2, p_ix3, p_atI, p_ixN, p_add, p_addS, p_addT, p_addL, p_sub, p_mul, p_div, p_mod, p_pow, p_neg, p_lt, p_le, p_gt, p_ge, p_len1, p_len2, p_len3, p_int, p_abs, p_str, p_max, p_list1, p_list2, p_tuple1, p_tuple2, p_isN, p_notN, p_non1, p_non2, p_non3, p_non4, p_non5, p_isi, p_ty1, p_ty2, p_ty3, p_ty4, p_ty5, p_ty6, p_isi_NoneType_bool, p_isi_NoneType_int, p_isi_NoneType_str, p_isi_NoneType_tuple, p_isi_bool_bool, p_isi_bool_int, p_isi_bool_str, p_isi_bool_tuple, p_isi_int_bool, p_isi_int_int, p_isi_int_str, p_isi_int_tuple, p_isi_str_bool, p_isi_str_int, p_isi_str_str, p_isi_str_tuple, p_isi_tuple_bool, p_isi_tuple_int, p_isi_tuple_str, p_isi_tuple_tuple, p_isi_list_bool, p_isi_list_int, p_isi_list_str, p_isi_list_tuple, p_in, p_notIn, p_eqI, p_neI, p_eqB, p_neB, p_fmt1, p_fmt2, p_fld, p_sl1, p_sl2, p_sl3, q_makeR, q_clean0, q_clean1, q_cleanS1, q_cleanS2, q_wipe0, q_wipe1, q_back0, q_back1, q_join1, q_and1, q_outP1, q_outP2, q_outP3, q_outP4, List.map_cons, List.map_nil, List.cons_append, List.nil_append, List.append_nil, List.length_cons, List.length_nil, List.getElem?_cons_zero, List.getElem?_cons_succ, List.getElem?_nil, List.set_cons_zero, List.set_cons_succ, Nat.reduceAdd, Nat.reduceSub, List.replicate_succ, List.replicate_zero, Nat.zero_add, reduceIte, Nat.reduceLeDiff, Nat.reduceLT, List.nodup_cons, List.nodup_nil, List.not_mem_nil, not_false_eq_true, and_true, and_self, List.mem_cons, or_false, Nat.reduceEqDiff, Bool.not_true, Bool.not_false, Bool.false_eq_true, true_and, and_false, false_and, reduceCtorEq, if_true, if_false, Int.reduceLE, Int.reduceLT, Int.reduceToNat, Int.reduceNeg, Int.reduceAdd, Int.reduceSub, Int.reduceMul, Int.reduceEq, Nat.reduceMul, decide_eq_true_eq, List.length_set, decide_true, decide_false, Int.toNat_natCast, Bool.not_eq_true, ne_eq]
    refine it_pos (tx_guard hn) ?_
    subst_eqs
    refine strs_lc (xs := [n1, n2]) hl (by simp) (by simp) rfl ?_
    subst_eqs
    refine it_pos (by rw [sizeLine_v]; omega) ?_
    subst_eqs
    refine .of (join_words (l := .yrs n1 n2 x y) hn hl) ?_
    subst_eqs
    refine it_pos (by simp only [len_app, sizeLine_v, e0, cl2, ls3]; omega) ?_
    subst_eqs
    refine it_pos (by simp only [len_app, sizeLine_v, e0, cl2, ls3]; omega) ?_
    subst_eqs
    refine it_pos (by simp only [len_app, sizeLine_v, e0, cl2, ls3]; omega) ?_
    subst_eqs
    refine it_pos (by simp only [len_app, sizeLine_v, e0, cl2, ls3]; omega) ?_
    subst_eqs
    refine it_pos (by simp only [len_app, sizeLine_v, e0, cl2, ls3]; omega) ?_
    subst_eqs
    refine it_pos (by simp only [len_app, sizeLine_v, e0, cl2, ls3]; omega) ?_
    subst_eqs
    refine it_pos (by simp only [len_app, sizeLine_v, e0, cl2, ls3]; omega) ?_
    subst_eqs
    rw [← txt_eq] at q
    exact q
  | side n1 n2 k1 x y =>
    simp only [Ln.d, tg, nD, prD]
    subst_eqs
    refine .of (tag_eq (by simp [tags]) (by simp [tags])) ?_
    subst_eqs
    refine it_neg (by decide) ?_
    simp only [cut_12, cut_13, ↓ok_some, ↓ok_bind, ↓ok_ite, it_true, it_false, ↓k_mV, ↓k_mE, ↓k_mF, ↓k_mVar, ↓k_mC, ↓k_mNm, ↓k_m1, ↓k_m2, ↓k_mT, ↓k_mAndT, ↓k_mOrT, ↓k_mNotT, ↓k_mIf, ↓k_mAndV, ↓k_mOrV, ↓k_mNotV, ↓k_mIsi, ↓k_mNil, ↓k_mCons, ↓k_mTup, ↓k_mLst, ↓k_mANil, ↓k_mACons, ↓k_mVE, ↓k_mCall, ↓k_args0, ↓k_args1, ↓k_sSeq, ↓k_then1, ↓k_then2, ↓k_then3, ↓k_then4, ↓k_sNil, ↓k_sSet, ↓k_sExpr, ↓k_sRet, ↓k_sIf, ↓k_sBreak, ↓k_sCont, ↓k_gNm, ↓k_gsNil, ↓k_gsCons, ↓k_gTp, ↓k_sAsg, ↓k_sPar, ↓k_mSo, ↓k_mNo, ↓k_mSl, ↓k_mApp, ↓k_mExt, ↓k_mPop, ↓k_sSetI, ↓k_mIndex, ↓k_mGet, ↓k_mLR1, ↓k_mRng1, ↓k_mItems, ↓k_mEnum, ↓k_mEnumZ, ↓k_sFor, ↓k_fLc, ↓k_mYes, ↓k_mMake, ↓k_sFldI, ↓k_mAnyIn, ↓k_mJoined, ↓k_jNil, ↓k_jCons, ↓k_mDict, ↓k_pNil, ↓k_pCons, ↓k_mChain, ↓k_chain1, ↓k_chain2, ↓k_fnM, ↓k_end1, ↓k_end2, ↓k_outs0, ↓k_outs1, ↓k_outs2, q_mVarS1, q_mVarS2, q_look1, q_look2, q_lookS1, q_lookS2, q_d1, q_d2, q_od1, q_od2, q_od3, q_boolR, q_arg1, q_arg2, q_argS, q_slots0, q_slots1, q_slots2, q_put0, q_put1, q_put2, q_putS, q_slotOf1, q_slotOf2, q_intOf, q_lstS, q_items1, q_items2, q_tupD, q_insS, q_strD, q_outS, p_ix1, p_ix2, p_ix3, p_atI, p_ixN, p_add, p_addS, p_addT, p_addL, p_sub, p_mul, p_div, p_mod, p_pow, p_neg, p_lt, p_le, p_gt, p_ge, p_len1, p_len2, p_len3, p_int, p_abs, p_str, p_max, p_list1, p_list2, p_tuple1, p_tuple2, p_isN, p_notN, p_non1, p_non2, p_non3, p_non4, p_non5, p_isi, p_ty1, p_ty2, p_ty3, p_ty4, p_ty5, p_ty6, p_isi_NoneType_bool, p_isi_NoneType_int, p_isi_NoneType_str, p_isi_NoneType_tuple, p_isi_bool_bool, p_isi_bool_int, p_isi_bool_str, p_isi_bool_tuple, p_isi_int_bool, p_isi_int_int, p_isi_int_str, p_isi_int_tuple, p_isi_str_bool, p_isi_str_int, p_isi_str_str, p_isi_str_tuple, p_isi_tuple_bool, p_isi_tuple_int, p_isi_tuple_str, p_isi_tuple_tuple, p_isi_list_bool, p_isi_list_int, p_isi_list_str, p_isi_list_tuple, p_in, p_notIn, p_eqI, p_neI, p_eqB, p_neB, p_fmt1, p_fmt2, p_fld, p_sl1, p_sl2, p_sl3, q_makeR, q_clean0, q_clean1, q_cleanS1, q_cleanS2, q_wipe0, q_wipe1, q_back0, q_back1, q_join1, q_and1, q_outP1, q_outP2, q_outP3, q_outP4, List.map_cons, List.map_nil, List.cons_append, List.nil_append, List.append_nil, List.length_cons, List.length_nil, List.getElem?_cons_zero, List.getElem?_cons_succ, List.getElem?_nil, List.set_cons_zero, List.set_cons_succ, Nat.reduceAdd, Nat.reduceSub, List.replicate_succ, List.replicate_zero, Nat.zero_add, reduceIte, Nat.reduceLeDiff, Nat.reduceLT, List.nodup_cons, List.nodup_nil, List.not_mem_nil, not_false_eq_true, and_true, and_self, List.mem_cons, or_false, Nat.reduceEqDiff, Bool.not_true, Bool.not_false, Bool.false_eq_true, true_and, and_false, false_and, reduceCtorEq, if_true, if_false, Int.reduceLE, Int.reduceLT, Int.reduceToNat, Int.reduceNeg, Int.reduceAdd, Int.reduceSub, Int.reduceMul, Int.reduceEq, Nat.reduceMul, decide_eq_true_eq, List.length_set, decide_true, decide_false, Int.toNat_natCast, Bool.not_eq_true, ne_eq]
    refine it_pos (tx_guard hn) ?_
    subst_eqs
    refine strs_lc (xs := [n1, n2]) hl (by simp) (by simp) rfl ?_
    subst_eqs
    refine it_pos (by rw [sizeLine_v]; omega) ?_
    subst_eqs
    refine .of (join_words (l := .side n1 n2 k1 x y) hn hl) ?_
    subst_eqs
    refine it_pos (by simp only [len_app, sizeLine_v, e0, cl2, ls3]; omega) ?_
    subst_eqs
    refine it_pos (by simp only [len_app, sizeLine_v, e0, cl2, ls3]; omega) ?_
    subst_eqs
    refine it_pos (by simp only [len_app, sizeLine_v, e0, cl2, ls3]; omega) ?_
    subst_eqs
    refine it_pos (by simp only [len_app, sizeLine_v, e0, cl2, ls3]; omega) ?_
    subst_eqs
    refine it_pos (by simp only [len_app, sizeLine_v, e0, cl2, ls3]; omega) ?_
    subst_eqs
    refine it_pos (by simp only [len_app, sizeLine_v, e0, cl2, ls3]; omega) ?_
    subst_eqs
    refine it_pos (by simp only [len_app, sizeLine_v, e0, cl2, ls3]; omega) ?_
    subst_eqs
    rw [← txt_eq] at q
    exact q
  | link n1 n2 x y =>
    simp only [Ln.d, tg, nD, prD]
    subst_eqs
    refine .of (tag_eq (by simp [tags]) (by simp [tags])) ?_
    subst_eqs
    refine it_neg (by decide) ?_
    simp only [cut_12, cut_13, ↓ok_some, ↓ok_bind, ↓ok_ite, it_true, it_false, ↓k_mV, ↓k_mE, ↓k_mF, ↓k_mVar, ↓k_mC, ↓k_mNm, ↓k_m1, ↓k_m2, ↓k_mT, ↓k_mAndT, ↓k_mOrT, ↓k_mNotT, ↓k_mIf, ↓k_mAndV, ↓k_mOrV, ↓k_mNotV, ↓k_mIsi, ↓k_mNil, ↓k_mCons, ↓k_mTup, ↓k_mLst, ↓k_mANil, ↓k_mACons, ↓k_mVE, ↓k_mCall, ↓k_args0, ↓k_args1, ↓k_sSeq, ↓k_then1, ↓k_then2, ↓k_then3, ↓k_then4, ↓k_sNil, ↓k_sSet, ↓k_sExpr, ↓k_sRet, ↓k_sIf, ↓k_sBreak, ↓k_sCont, ↓k_gNm, ↓k_gsNil, ↓k_gsCons, ↓k_gTp, ↓k_sAsg, ↓k_sPar, ↓k_mSo, ↓k_mNo, ↓k_mSl, ↓k_mApp, ↓k_mExt, ↓k_mPop, ↓k_sSetI, ↓k_mIndex, ↓k_mGet, ↓k_mLR1, ↓k_mRng1, ↓k_mItems, ↓k_mEnum, ↓k_mEnumZ, ↓k_sFor, ↓k_fLc, ↓k_mYes, ↓k_mMake, ↓k_sFldI, ↓k_mAnyIn, ↓k_mJoined, ↓k_jNil, ↓k_jCons, ↓k_mDict, ↓k_pNil, ↓k_pCons, ↓k_mChain, ↓k_chain1, ↓k_chain2, ↓k_fnM, ↓k_end1, ↓k_end2, ↓k_outs0, ↓k_outs1, ↓k_outs2, q_mVarS1, q_mVarS2, q_look1, q_look2, q_lookS1, q_lookS2, q_d1, q_d2, q_od1, q_od2, q_od3, q_boolR, q_arg1, q_arg2, q_argS, q_slots0, q_slots1, q_slots2, q_put0, q_put1, q_put2, q_putS, q_slotOf1, q_slotOf2, q_intOf, q_lstS, q_items1, q_items2, q_tupD, q_insS, q_strD, q_outS, p_ix1, p_ix2, p_ix3, p_atI, p_ixN, p_add, p_addS, p_addT, p_addL, p_sub, p_mul, p_div, p_mod, p_pow, p_neg, p_lt, p_le, p_gt, p_ge, p_len1, p_len2, p_len3, p_int, p_abs, p_str, p_max, p_list1, p_list2, p_tuple1, p_tuple2, p_isN, p_notN, p_non1, p_non2, p_non3, p_non4, p_non5, p_isi, p_ty1, p_ty2, p_ty3, p_ty4, p_ty5, p_ty6, p_isi_NoneType_bool, p_isi_NoneType_int, p_isi_NoneType_str, p_isi_NoneType_tuple, p_isi_bool_bool, p_isi_bool_int, p_isi_bool_str, p_isi_bool_tuple, p_isi_int_bool, p_isi_int_int, p_isi_int_str, p_isi_int_tuple, p_isi_str_bool, p_isi_str_int, p_isi_str_str, p_isi_str_tuple, p_isi_tuple_bool, p_isi_tuple_int, p_isi_tuple_str, p_isi_tuple_tuple, p_isi_list_bool, p_isi_list_int, p_isi_list_str, p_isi_list_tuple, p_in, p_notIn, p_eqI, p_neI, p_eqB, p_neB, p_fmt1, p_fmt2, p_fld, p_sl1, p_sl2, p_sl3, q_makeR, q_clean0, q_clean1, q_cleanS1, q_cleanS2, q_wipe0, q_wipe1, q_back0, q_back1, q_join1, q_and1, q_outP1, q_outP2, q_outP3, q_outP4, List.map_cons, List.map_nil, List.cons_append, List.nil_append, List.append_nil, List.length_cons, List.length_nil, List.getElem?_cons_zero, List.getElem?_cons_succ, List.getElem?_nil, List.set_cons_zero, List.set_cons_succ, Nat.reduceAdd, Nat.reduceSub, List.replicate_succ, List.replicate_zero, Nat.zero_add, reduceIte, Nat.reduceLeDiff, Nat.reduceLT, List.nodup_cons, List.nodup_nil, List.not_mem_nil, not_false_eq_true, and_true, and_self, List.mem_cons, or_false, Nat.reduceEqDiff, Bool.not_true, Bool.not_false, Bool.false_eq_true, true_and, and_false, false_and, reduceCtorEq, if_true, if_false, Int.reduceLE, Int.reduceLT, Int.reduceToNat, Int.reduceNeg, Int.reduceAdd, Int.reduceSub, Int.reduceMul, Int.reduceEq, Nat.reduceMul, decide_eq_true_eq, List.length_set, decide_true, decide_false, Int.toNat_natCast, Bool.not_eq_true, ne_eq]
    refine it_pos (tx_guard hn) ?_
    subst_eqs
    refine strs_lc (xs := [n1, n2]) hl (by simp) (by simp) rfl ?_
    subst_eqs
    refine it_pos (by rw [sizeLine_v]; omega) ?_
    subst_eqs
    refine .of (join_words (l := .link n1 n2 x y) hn hl) ?_
    subst_eqs
    refine it_pos (by simp only [len_app, sizeLine_v, e0, cl2, ls3]; omega) ?_
    subst_eqs
    refine it_pos (by simp only [len_app, sizeLine_v, e0, cl2, ls3]; omega) ?_
    subst_eqs
    refine it_pos (by simp only [len_app, sizeLine_v, e0, cl2, ls3]; omega) ?_
    subst_eqs
    refine it_pos (by simp only [len_app, sizeLine_v, e0, cl2, ls3]; omega) ?_
    subst_eqs
    refine it_pos (by simp only [len_app, sizeLine_v, e0, cl2, ls3]; omega) ?_
    subst_eqs
    refine it_pos (by simp only [len_app, sizeLine_v, e0, cl2, ls3]; omega) ?_
    subst_eqs
    refine it_pos (by simp only [len_app, sizeLine_v, e0, cl2, ls3]; omega) ?_
    subst_eqs
    rw [← txt_eq] at q
    exact q
  | chain n1 n2 =>
    simp only [Ln.d, tg, nD, prD]
    subst_eqs
    refine .of (tag_eq (by simp [tags]) (by simp [tags])) ?_
    subst_eqs
    refine it_neg (by decide) ?_
    simp only [cut_12, cut_13, ↓ok_some, ↓ok_bind, ↓ok_ite, it_true, it_false, ↓k_mV, ↓k_mE, ↓k_mF, ↓k_mVar, ↓k_mC, ↓k_mNm, ↓k_m1, ↓k_m2, ↓k_mT, ↓k_mAndT, ↓k_mOrT, ↓k_mNotT, ↓k_mIf, ↓k_mAndV, ↓k_mOrV, ↓k_mNotV, ↓k_mIsi, ↓k_mNil, ↓k_mCons, ↓k_mTup, ↓k_mLst, ↓k_mANil, ↓k_mACons, ↓k_mVE, ↓k_mCall, ↓k_args0, ↓k_args1, ↓k_sSeq, ↓k_then1, ↓k_then2, ↓k_then3, ↓k_then4, ↓k_sNil, ↓k_sSet, ↓k_sExpr, ↓k_sRet, ↓k_sIf, ↓k_sBreak, ↓k_sCont, ↓k_gNm, ↓k_gsNil, ↓k_gsCons, ↓k_gTp, ↓k_sAsg, ↓k_sPar, ↓k_mSo, ↓k_mNo, ↓k_mSl, ↓k_mApp, ↓k_mExt, ↓k_mPop, ↓k_sSetI, ↓k_mIndex, ↓k_mGet, ↓k_mLR1, ↓k_mRng1, ↓k_mItems, ↓k_mEnum, ↓k_mEnumZ, ↓k_sFor, ↓k_fLc, ↓k_mYes, ↓k_mMake, ↓k_sFldI, ↓k_mAnyIn, ↓k_mJoined, ↓k_jNil, ↓k_jCons, ↓k_mDict, ↓k_pNil, ↓k_pCons, ↓k_mChain, ↓k_chain1, ↓k_chain2, ↓k_fnM, ↓k_end1, ↓k_end2, ↓k_outs0, ↓k_outs1, ↓k_outs2, q_mVarS1, q_mVarS2, q_look1, q_look2, q_lookS1, q_lookS2, q_d1, q_d2, q_od1, q_od2, q_od3, q_boolR, q_arg1, q_arg2, q_argS, q_slots0, q_slots1, q_slots2, q_put0, q_put1, q_put2, q_putS, q_slotOf1, q_slotOf2, q_intOf, q_lstS, q_items1, q_items2, q_tupD, q_insS, q_strD, q_outS, p_ix1, p_ix2, p_ix3, p_atI, p_ixN, p_add, p_addS, p_addT, p_addL, p_sub, p_mul, p_div, p_mod, p_pow, p_neg, p_lt, p_le, p_gt, p_ge, p_len1, p_len2, p_len3, p_int, p_abs, p_str, p_max, p_list1, p_list2, p_tuple1, p_tuple2, p_isN, p_notN, p_non1, p_non2, p_non3, p_non4, p_non5, p_isi, p_ty1, p_ty2, p_ty3, p_ty4, p_ty5, p_ty6, p_isi_NoneType_bool, p_isi_NoneType_int, p_isi_NoneType_str, p_isi_NoneType_tuple, p_isi_bool_bool, p_isi_bool_int, p_isi_bool_str, p_isi_bool_tuple, p_isi_int_bool, p_isi_int_int, p_isi_int_str, p_isi_int_tuple, p_isi_str_bool, p_isi_str_int, p_isi_str_str, p_isi_str_tuple, p_isi_tuple_bool, p_isi_tuple_int, p_isi_tuple_str, p_isi_tuple_tuple, p_isi_list_bool, p_isi_list_int, p_isi_list_str, p_isi_list_tuple, p_in, p_notIn, p_eqI, p_neI, p_eqB, p_neB, p_fmt1, p_fmt2, p_fld, p_sl1, p_sl2, p_sl3, q_makeR, q_clean0, q_clean1, q_cleanS1, q_cleanS2, q_wipe0, q_wipe1, q_back0, q_back1, q_join1, q_and1, q_outP1, q_outP2, q_outP3, q_outP4, List.map_cons, List.map_nil, List.cons_append, List.nil_append, List.append_nil, List.length_cons, List.length_nil, List.getElem?_cons_zero, List.getElem?_cons_succ, List.getElem?_nil, List.set_cons_zero, List.set_cons_succ, Nat.reduceAdd, Nat.reduceSub, List.replicate_succ, List.replicate_zero, Nat.zero_add, reduceIte, Nat.reduceLeDiff, Nat.reduceLT, List.nodup_cons, List.nodup_nil, List.not_mem_nil, not_false_eq_true, and_true, and_self, List.mem_cons, or_false, Nat.reduceEqDiff, Bool.not_true, Bool.not_false, Bool.false_eq_true, true_and, and_false, false_and, reduceCtorEq, if_true, if_false, Int.reduceLE, Int.reduceLT, Int.reduceToNat, Int.reduceNeg, Int.reduceAdd, Int.reduceSub, Int.reduceMul, Int.reduceEq, Nat.reduceMul, decide_eq_true_eq, List.length_set, decide_true, decide_false, Int.toNat_natCast, Bool.not_eq_true, ne_eq]
    refine it_pos (tx_guard hn) ?_
    subst_eqs
    refine strs_lc (xs := [n1, n2]) hl (by simp) (by simp) rfl ?_
    subst_eqs
    refine it_pos (by rw [sizeLine_v]; omega) ?_
    subst_eqs
    refine .of (join_words (l := .chain n1 n2) hn hl) ?_
    subst_eqs
    refine it_pos (by simp only [len_app, sizeLine_v, e0, cl2, ls3]; omega) ?_
    subst_eqs
    refine it_pos (by simp only [len_app, sizeLine_v, e0, cl2, ls3]; omega) ?_
    subst_eqs
    refine it_pos (by simp only [len_app, sizeLine_v, e0, cl2, ls3]; omega) ?_
    subst_eqs
    refine it_pos (by simp only [len_app, sizeLine_v, e0, cl2, ls3]; omega) ?_
    subst_eqs
    refine it_pos (by simp only [len_app, sizeLine_v, e0, cl2, ls3]; omega) ?_
    subst_eqs
    refine it_pos (by simp only [len_app, sizeLine_v, e0, cl2, ls3]; omega) ?_
    subst_eqs
    refine it_pos (by simp only [len_app, sizeLine_v, e0, cl2, ls3]; omega) ?_
    subst_eqs
    rw [← txt_eq] at q
    exact q
theorem lk_merge (v1 v2 v3 v4 v5 : D) : lookD (mergeKD [] [(.inr (Str.ofString "told"), v1), (.inr (Str.ofString "years"), v2), (.inr (Str.ofString "side"), v3), (.inr (Str.ofString "link"), v4), (.inr (Str.ofString "chain"), v5)]) (.inr (Str.ofString "told")) = some v1 ∧ lookD (mergeKD [] [(.inr (Str.ofString "told"), v1), (.inr (Str.ofString "years"), v2), (.inr (Str.ofString "side"), v3), (.inr (Str.ofString "link"), v4), (.inr (Str.ofString "chain"), v5)]) (.inr (Str.ofString "years")) = some v2 ∧ lookD (mergeKD [] [(.inr (Str.ofString "told"), v1), (.inr (Str.ofString "years"), v2), (.inr (Str.ofString "side"), v3), (.inr (Str.ofString "link"), v4), (.inr (Str.ofString "chain"), v5)]) (.inr (Str.ofString "side")) = some v3 ∧ lookD (mergeKD [] [(.inr (Str.ofString "told"), v1), (.inr (Str.ofString "years"), v2), (.inr (Str.ofString "side"), v3), (.inr (Str.ofString "link"), v4), (.inr (Str.ofString "chain"), v5)]) (.inr (Str.ofString "link")) = some v4 ∧ lookD (mergeKD [] [(.inr (Str.ofString "told"), v1), (.inr (Str.ofString "years"), v2), (.inr (Str.ofString "side"), v3), (.inr (Str.ofString "link"), v4), (.inr (Str.ofString "chain"), v5)]) (.inr (Str.ofString "chain")) = some v5 := by
  have e01 : ¬ (Str.ofString "told" = Str.ofString "years") := by decide +kernel
  have e02 : ¬ (Str.ofString "told" = Str.ofString "side") := by decide +kernel
  have e03 : ¬ (Str.ofString "told" = Str.ofString "link") := by decide +kernel
  have e04 : ¬ (Str.ofString "told" = Str.ofString "chain") := by decide +kernel
  have e10 : ¬ (Str.ofString "years" = Str.ofString "told") := by decide +kernel
  have e12 : ¬ (Str.ofString "years" = Str.ofString "side") := by decide +kernel
  have e13 : ¬ (Str.ofString "years" = Str.ofString "link") := by decide +kernel
  have e14 : ¬ (Str.ofString "years" = Str.ofString "chain") := by decide +kernel
  have e20 : ¬ (Str.ofString "side" = Str.ofString "told") := by decide +kernel
  have e21 : ¬ (Str.ofString "side" = Str.ofString "years") := by decide +kernel
  have e23 : ¬ (Str.ofString "side" = Str.ofString "link") := by decide +kernel
  have e24 : ¬ (Str.ofString "side" = Str.ofString "chain") := by decide +kernel
  have e30 : ¬ (Str.ofString "link" = Str.ofString "told") := by decide +kernel
  have e31 : ¬ (Str.ofString "link" = Str.ofString "years") := by decide +kernel
  have e32 : ¬ (Str.ofString "link" = Str.ofString "side") := by decide +kernel
  have e34 : ¬ (Str.ofString "link" = Str.ofString "chain") := by decide +kernel
  have e40 : ¬ (Str.ofString "chain" = Str.ofString "told") := by decide +kernel
  have e41 : ¬ (Str.ofString "chain" = Str.ofString "years") := by decide +kernel
  have e42 : ¬ (Str.ofString "chain" = Str.ofString "side") := by decide +kernel
  have e43 : ¬ (Str.ofString "chain" = Str.ofString "link") := by decide +kernel
  simp only [mergeKD, List.foldl_cons, List.foldl_nil, lookD_put, Sum.inr.injEq, e01, e02, e03, e04, e10, e12, e13, e14, e20, e21, e23, e24, e30, e31, e32, e34, e40, e41, e42, e43, if_true, if_false, and_self]
theorem dix_told (v1 v2 v3 v4 v5 : D) : oDIx (.dic (mergeKD [] [(.inr (Str.ofString "told"), v1), (.inr (Str.ofString "years"), v2), (.inr (Str.ofString "side"), v3), (.inr (Str.ofString "link"), v4), (.inr (Str.ofString "chain"), v5)])) (.str (Str.ofString "told")) = some (.sh v1) := by
  simp only [oDIx, keyD, Option.bind_some, (lk_merge v1 v2 v3 v4 v5).1]
theorem dix_years (v1 v2 v3 v4 v5 : D) : oDIx (.dic (mergeKD [] [(.inr (Str.ofString "told"), v1), (.inr (Str.ofString "years"), v2), (.inr (Str.ofString "side"), v3), (.inr (Str.ofString "link"), v4), (.inr (Str.ofString "chain"), v5)])) (.str (Str.ofString "years")) = some (.sh v2) := by
  simp only [oDIx, keyD, Option.bind_some, (lk_merge v1 v2 v3 v4 v5).2.1]
theorem dix_side (v1 v2 v3 v4 v5 : D) : oDIx (.dic (mergeKD [] [(.inr (Str.ofString "told"), v1), (.inr (Str.ofString "years"), v2), (.inr (Str.ofString "side"), v3), (.inr (Str.ofString "link"), v4), (.inr (Str.ofString "chain"), v5)])) (.str (Str.ofString "side")) = some (.sh v3) := by
  simp only [oDIx, keyD, Option.bind_some, (lk_merge v1 v2 v3 v4 v5).2.2.1]
theorem dix_link (v1 v2 v3 v4 v5 : D) : oDIx (.dic (mergeKD [] [(.inr (Str.ofString "told"), v1), (.inr (Str.ofString "years"), v2), (.inr (Str.ofString "side"), v3), (.inr (Str.ofString "link"), v4), (.inr (Str.ofString "chain"), v5)])) (.str (Str.ofString "link")) = some (.sh v4) := by
  simp only [oDIx, keyD, Option.bind_some, (lk_merge v1 v2 v3 v4 v5).2.2.2.1]
theorem dix_chain (v1 v2 v3 v4 v5 : D) : oDIx (.dic (mergeKD [] [(.inr (Str.ofString "told"), v1), (.inr (Str.ofString "years"), v2), (.inr (Str.ofString "side"), v3), (.inr (Str.ofString "link"), v4), (.inr (Str.ofString "chain"), v5)])) (.str (Str.ofString "chain")) = some (.sh v5) := by
  simp only [oDIx, keyD, Option.bind_some, (lk_merge v1 v2 v3 v4 v5).2.2.2.2]
theorem law_said_ok {n : Nat} {l : Ln} (hn : n < 320) (hl : ∀ x ∈ l.nums, x < 320) {a b : Str} (ha : a.length ≤ 100) (hb : b.length ≤ 100) {k : Ct (RV × List MO)} (q : k.run (.sh (.str (txt n l a b)), [])) : @Ok _ (fm_law_said [.sh (.int n), .sh l.d, .sh (prD (.str a, .str b))]) k := by
  unfold fm_law_said mx_law_said
  have wl := words_len hn hl
  have cl2 : (Str.ofString ": ").length = 2 := cln_len
  have ls3 : (Str.ofString " < ").length = 3 := lss_len
  cases l with
  | told n1 x y =>
    simp only [Ln.d, tg, nD, prD]
    simp only [cut_12, cut_13, ↓ok_some, ↓ok_bind, ↓ok_ite, it_true, it_false, ↓k_mV, ↓k_mE, ↓k_mF, ↓k_mVar, ↓k_mC, ↓k_mNm, ↓k_m1, ↓k_m2, ↓k_mT, ↓k_mAndT, ↓k_mOrT, ↓k_mNotT, ↓k_mIf, ↓k_mAndV, ↓k_mOrV, ↓k_mNotV, ↓k_mIsi, ↓k_mNil, ↓k_mCons, ↓k_mTup, ↓k_mLst, ↓k_mANil, ↓k_mACons, ↓k_mVE, ↓k_mCall, ↓k_args0, ↓k_args1, ↓k_sSeq, ↓k_then1, ↓k_then2, ↓k_then3, ↓k_then4, ↓k_sNil, ↓k_sSet, ↓k_sExpr, ↓k_sRet, ↓k_sIf, ↓k_sBreak, ↓k_sCont, ↓k_gNm, ↓k_gsNil, ↓k_gsCons, ↓k_gTp, ↓k_sAsg, ↓k_sPar, ↓k_mSo, ↓k_mNo, ↓k_mSl, ↓k_mApp, ↓k_mExt, ↓k_mPop, ↓k_sSetI, ↓k_mIndex, ↓k_mGet, ↓k_mLR1, ↓k_mRng1, ↓k_mItems, ↓k_mEnum, ↓k_mEnumZ, ↓k_sFor, ↓k_fLc, ↓k_mYes, ↓k_mMake, ↓k_sFldI, ↓k_mAnyIn, ↓k_mJoined, ↓k_jNil, ↓k_jCons, ↓k_mDict, ↓k_pNil, ↓k_pCons, ↓k_mChain, ↓k_chain1, ↓k_chain2, ↓k_fnM, ↓k_end1, ↓k_end2, ↓k_outs0, ↓k_outs1, ↓k_outs2, q_mVarS1, q_mVarS2, q_look1, q_look2, q_lookS1, q_lookS2, q_d1, q_d2, q_od1, q_od2, q_od3, q_boolR, q_arg1, q_arg2, q_argS, q_slots0, q_slots1, q_slots2, q_put0, q_put1, q_put2, q_putS, q_slotOf1, q_slotOf2, q_intOf, q_lstS, q_items1, q_items2, q_tupD, q_insS, q_strD, q_outS, p_ix1, p_ix2, p_ix3, p_atI, p_ixN, p_add, p_addS, p_addT, p_addL, p_sub, p_mul, p_div, p_mod, p_pow, p_neg, p_lt, p_le, p_gt, p_ge, p_len1, p_len2, p_len3, p_int, p_abs, p_str, p_max, p_list1, p_list2, p_tuple1, p_tuple2, p_isN, p_notN, p_non1, p_non2, p_non3, p_non4, p_non5, p_isi, p_ty1, p_ty2, p_ty3, p_ty4, p_ty5, p_ty6, p_isi_NoneType_bool, p_isi_NoneType_int, p_isi_NoneType_str, p_isi_NoneType_tuple, p_isi_bool_bool, p_isi_bool_int, p_isi_bool_str, p_isi_bool_tuple, p_isi_int_bool, p_isi_int_int, p_isi_int_str, p_isi_int_tuple, p_isi_str_bool, p_isi_str_int, p_isi_str_str, p_isi_str_tuple, p_isi_tuple_bool, p_isi_tuple_int, p_isi_tuple_str, p_isi_tuple_tuple, p_isi_list_bool, p_isi_list_int, p_isi_list_str, p_isi_list_tuple, p_in, p_notIn, p_eqI, p_neI, p_eqB, p_neB, p_fmt1, p_fmt2, p_fld, p_sl1, p_sl2, p_sl3, q_makeR, q_clean0, q_clean1, q_cleanS1, q_cleanS2, q_wipe0, q_wipe1, q_back0, q_back1, q_join1, q_and1, q_outP1, q_outP2, q_outP3, q_outP4, List.map_cons, List.map_nil, List.cons_append, List.nil_append, List.append_nil, List.length_cons, List.length_nil, List.getElem?_cons_zero, List.getElem?_cons_succ, List.getElem?_nil, List.set_cons_zero, List.set_cons_succ, Nat.reduceAdd, Nat.reduceSub, List.replicate_succ, List.replicate_zero, Nat.zero_add, reduceIte, Nat.reduceLeDiff, Nat.reduceLT, List.nodup_cons, List.nodup_nil, List.not_mem_nil, not_false_eq_true, and_true, and_self, List.mem_cons, or_false, Nat.reduceEqDiff, Bool.not_true, Bool.not_false, Bool.false_eq_true, true_and, and_false, false_and, reduceCtorEq, if_true, if_false, Int.reduceLE, Int.reduceLT, Int.reduceToNat, Int.reduceNeg, Int.reduceAdd, Int.reduceSub, Int.reduceMul, Int.reduceEq, Nat.reduceMul, decide_eq_true_eq, List.length_set, decide_true, decide_false, Int.toNat_natCast, Bool.not_eq_true, ne_eq]
    refine .of (a := .inr (Str.ofString "told")) rfl ?_
    subst_eqs
    refine .of (a := .inr (Str.ofString "years")) rfl ?_
    subst_eqs
    refine .of (a := .inr (Str.ofString "side")) rfl ?_
    subst_eqs
    refine .of (a := .inr (Str.ofString "link")) rfl ?_
    subst_eqs
    refine .of (a := .inr (Str.ofString "chain")) rfl ?_
    subst_eqs
    refine it_pos (tx_guard hn) ?_
    subst_eqs
    refine .of (dix_told _ _ _ _ _) ?_
    simp only [cut_12, cut_13, ↓ok_some, ↓ok_bind, ↓ok_ite, it_true, it_false, ↓k_mV, ↓k_mE, ↓k_mF, ↓k_mVar, ↓k_mC, ↓k_mNm, ↓k_m1, ↓k_m2, ↓k_mT, ↓k_mAndT, ↓k_mOrT, ↓k_mNotT, ↓k_mIf, ↓k_mAndV, ↓k_mOrV, ↓k_mNotV, ↓k_mIsi, ↓k_mNil, ↓k_mCons, ↓k_mTup, ↓k_mLst, ↓k_mANil, ↓k_mACons, ↓k_mVE, ↓k_mCall, ↓k_args0, ↓k_args1, ↓k_sSeq, ↓k_then1, ↓k_then2, ↓k_then3, ↓k_then4, ↓k_sNil, ↓k_sSet, ↓k_sExpr, ↓k_sRet, ↓k_sIf, ↓k_sBreak, ↓k_sCont, ↓k_gNm, ↓k_gsNil, ↓k_gsCons, ↓k_gTp, ↓k_sAsg, ↓k_sPar, ↓k_mSo, ↓k_mNo, ↓k_mSl, ↓k_mApp, ↓k_mExt, ↓k_mPop, ↓k_sSetI, ↓k_mIndex, ↓k_mGet, ↓k_mLR1, ↓k_mRng1, ↓k_mItems, ↓k_mEnum, ↓k_mEnumZ, ↓k_sFor, ↓k_fLc, ↓k_mYes, ↓k_mMake, ↓k_sFldI, ↓k_mAnyIn, ↓k_mJoined, ↓k_jNil, ↓k_jCons, ↓k_mDict, ↓k_pNil, ↓k_pCons, ↓k_mChain, ↓k_chain1, ↓k_chain2, ↓k_fnM, ↓k_end1, ↓k_end2, ↓k_outs0, ↓k_outs1, ↓k_outs2, q_mVarS1, q_mVarS2, q_look1, q_look2, q_lookS1, q_lookS2, q_d1, q_d2, q_od1, q_od2, q_od3, q_boolR, q_arg1, q_arg2, q_argS, q_slots0, q_slots1, q_slots2, q_put0, q_put1, q_put2, q_putS, q_slotOf1, q_slotOf2, q_intOf, q_lstS, q_items1, q_items2, q_tupD, q_insS, q_strD, q_outS, p_ix1, p_ix2, p_ix3, p_atI, p_ixN, p_add, p_addS, p_addT, p_addL, p_sub, p_mul, p_div, p_mod, p_pow, p_neg, p_lt, p_le, p_gt, p_ge, p_len1, p_len2, p_len3, p_int, p_abs, p_str, p_max, p_list1, p_list2, p_tuple1, p_tuple2, p_isN, p_notN, p_non1, p_non2, p_non3, p_non4, p_non5, p_isi, p_ty1, p_ty2, p_ty3, p_ty4, p_ty5, p_ty6, p_isi_NoneType_bool, p_isi_NoneType_int, p_isi_NoneType_str, p_isi_NoneType_tuple, p_isi_bool_bool, p_isi_bool_int, p_isi_bool_str, p_isi_bool_tuple, p_isi_int_bool, p_isi_int_int, p_isi_int_str, p_isi_int_tuple, p_isi_str_bool, p_isi_str_int, p_isi_str_str, p_isi_str_tuple, p_isi_tuple_bool, p_isi_tuple_int, p_isi_tuple_str, p_isi_tuple_tuple, p_isi_list_bool, p_isi_list_int, p_isi_list_str, p_isi_list_tuple, p_in, p_notIn, p_eqI, p_neI, p_eqB, p_neB, p_fmt1, p_fmt2, p_fld, p_sl1, p_sl2, p_sl3, q_makeR, q_clean0, q_clean1, q_cleanS1, q_cleanS2, q_wipe0, q_wipe1, q_back0, q_back1, q_join1, q_and1, q_outP1, q_outP2, q_outP3, q_outP4, List.map_cons, List.map_nil, List.cons_append, List.nil_append, List.append_nil, List.length_cons, List.length_nil, List.getElem?_cons_zero, List.getElem?_cons_succ, List.getElem?_nil, List.set_cons_zero, List.set_cons_succ, Nat.reduceAdd, Nat.reduceSub, List.replicate_succ, List.replicate_zero, Nat.zero_add, reduceIte, Nat.reduceLeDiff, Nat.reduceLT, List.nodup_cons, List.nodup_nil, List.not_mem_nil, not_false_eq_true, and_true, and_self, List.mem_cons, or_false, Nat.reduceEqDiff, Bool.not_true, Bool.not_false, Bool.false_eq_true, true_and, and_false, false_and, reduceCtorEq, if_true, if_false, Int.reduceLE, Int.reduceLT, Int.reduceToNat, Int.reduceNeg, Int.reduceAdd, Int.reduceSub, Int.reduceMul, Int.reduceEq, Nat.reduceMul, decide_eq_true_eq, List.length_set, decide_true, decide_false, Int.toNat_natCast, Bool.not_eq_true, ne_eq]
    refine strs_lc (xs := [n1]) hl (by simp) (by simp) rfl ?_
    subst_eqs
    refine it_pos (by rw [sizeLine_v]; omega) ?_
    subst_eqs
    refine .of (join_words (l := .told n1 x y) hn hl) ?_
    subst_eqs
    refine it_pos (by simp only [len_app, sizeLine_v, cl2, ls3]; omega) ?_
    subst_eqs
    refine it_pos (by simp only [len_app, sizeLine_v, cl2, ls3]; omega) ?_
    subst_eqs
    refine it_pos (by simp only [len_app, sizeLine_v, cl2, ls3]; omega) ?_
    subst_eqs
    refine it_pos (by simp only [len_app, sizeLine_v, cl2, ls3]; omega) ?_
    subst_eqs
    exact q
  | yrs n1 n2 x y =>
    simp only [Ln.d, tg, nD, prD]
    simp only [cut_12, cut_13, ↓ok_some, ↓ok_bind, ↓ok_ite, it_true, it_false, ↓k_mV, ↓k_mE, ↓k_mF, ↓k_mVar, ↓k_mC, ↓k_mNm, ↓k_m1, ↓k_m2, ↓k_mT, ↓k_mAndT, ↓k_mOrT, ↓k_mNotT, ↓k_mIf, ↓k_mAndV, ↓k_mOrV, ↓k_mNotV, ↓k_mIsi, ↓k_mNil, ↓k_mCons, ↓k_mTup, ↓k_mLst, ↓k_mANil, ↓k_mACons, ↓k_mVE, ↓k_mCall, ↓k_args0, ↓k_args1, ↓k_sSeq, ↓k_then1, ↓k_then2, ↓k_then3, ↓k_then4, ↓k_sNil, ↓k_sSet, ↓k_sExpr, ↓k_sRet, ↓k_sIf, ↓k_sBreak, ↓k_sCont, ↓k_gNm, ↓k_gsNil, ↓k_gsCons, ↓k_gTp, ↓k_sAsg, ↓k_sPar, ↓k_mSo, ↓k_mNo, ↓k_mSl, ↓k_mApp, ↓k_mExt, ↓k_mPop, ↓k_sSetI, ↓k_mIndex, ↓k_mGet, ↓k_mLR1, ↓k_mRng1, ↓k_mItems, ↓k_mEnum, ↓k_mEnumZ, ↓k_sFor, ↓k_fLc, ↓k_mYes, ↓k_mMake, ↓k_sFldI, ↓k_mAnyIn, ↓k_mJoined, ↓k_jNil, ↓k_jCons, ↓k_mDict, ↓k_pNil, ↓k_pCons, ↓k_mChain, ↓k_chain1, ↓k_chain2, ↓k_fnM, ↓k_end1, ↓k_end2, ↓k_outs0, ↓k_outs1, ↓k_outs2, q_mVarS1, q_mVarS2, q_look1, q_look2, q_lookS1, q_lookS2, q_d1, q_d2, q_od1, q_od2, q_od3, q_boolR, q_arg1, q_arg2, q_argS, q_slots0, q_slots1, q_slots2, q_put0, q_put1, q_put2, q_putS, q_slotOf1, q_slotOf2, q_intOf, q_lstS, q_items1, q_items2, q_tupD, q_insS, q_strD, q_outS, p_ix1, p_ix2, p_ix3, p_atI, p_ixN, p_add, p_addS, p_addT, p_addL, p_sub, p_mul, p_div, p_mod, p_pow, p_neg, p_lt, p_le, p_gt, p_ge, p_len1, p_len2, p_len3, p_int, p_abs, p_str, p_max, p_list1, p_list2, p_tuple1, p_tuple2, p_isN, p_notN, p_non1, p_non2, p_non3, p_non4, p_non5, p_isi, p_ty1, p_ty2, p_ty3, p_ty4, p_ty5, p_ty6, p_isi_NoneType_bool, p_isi_NoneType_int, p_isi_NoneType_str, p_isi_NoneType_tuple, p_isi_bool_bool, p_isi_bool_int, p_isi_bool_str, p_isi_bool_tuple, p_isi_int_bool, p_isi_int_int, p_isi_int_str, p_isi_int_tuple, p_isi_str_bool, p_isi_str_int, p_isi_str_str, p_isi_str_tuple, p_isi_tuple_bool, p_isi_tuple_int, p_isi_tuple_str, p_isi_tuple_tuple, p_isi_list_bool, p_isi_list_int, p_isi_list_str, p_isi_list_tuple, p_in, p_notIn, p_eqI, p_neI, p_eqB, p_neB, p_fmt1, p_fmt2, p_fld, p_sl1, p_sl2, p_sl3, q_makeR, q_clean0, q_clean1, q_cleanS1, q_cleanS2, q_wipe0, q_wipe1, q_back0, q_back1, q_join1, q_and1, q_outP1, q_outP2, q_outP3, q_outP4, List.map_cons, List.map_nil, List.cons_append, List.nil_append, List.append_nil, List.length_cons, List.length_nil, List.getElem?_cons_zero, List.getElem?_cons_succ, List.getElem?_nil, List.set_cons_zero, List.set_cons_succ, Nat.reduceAdd, Nat.reduceSub, List.replicate_succ, List.replicate_zero, Nat.zero_add, reduceIte, Nat.reduceLeDiff, Nat.reduceLT, List.nodup_cons, List.nodup_nil, List.not_mem_nil, not_false_eq_true, and_true, and_self, List.mem_cons, or_false, Nat.reduceEqDiff, Bool.not_true, Bool.not_false, Bool.false_eq_true, true_and, and_false, false_and, reduceCtorEq, if_true, if_false, Int.reduceLE, Int.reduceLT, Int.reduceToNat, Int.reduceNeg, Int.reduceAdd, Int.reduceSub, Int.reduceMul, Int.reduceEq, Nat.reduceMul, decide_eq_true_eq, List.length_set, decide_true, decide_false, Int.toNat_natCast, Bool.not_eq_true, ne_eq]
    refine .of (a := .inr (Str.ofString "told")) rfl ?_
    subst_eqs
    refine .of (a := .inr (Str.ofString "years")) rfl ?_
    subst_eqs
    refine .of (a := .inr (Str.ofString "side")) rfl ?_
    subst_eqs
    refine .of (a := .inr (Str.ofString "link")) rfl ?_
    subst_eqs
    refine .of (a := .inr (Str.ofString "chain")) rfl ?_
    subst_eqs
    refine it_pos (tx_guard hn) ?_
    subst_eqs
    refine .of (dix_years _ _ _ _ _) ?_
    simp only [cut_12, cut_13, ↓ok_some, ↓ok_bind, ↓ok_ite, it_true, it_false, ↓k_mV, ↓k_mE, ↓k_mF, ↓k_mVar, ↓k_mC, ↓k_mNm, ↓k_m1, ↓k_m2, ↓k_mT, ↓k_mAndT, ↓k_mOrT, ↓k_mNotT, ↓k_mIf, ↓k_mAndV, ↓k_mOrV, ↓k_mNotV, ↓k_mIsi, ↓k_mNil, ↓k_mCons, ↓k_mTup, ↓k_mLst, ↓k_mANil, ↓k_mACons, ↓k_mVE, ↓k_mCall, ↓k_args0, ↓k_args1, ↓k_sSeq, ↓k_then1, ↓k_then2, ↓k_then3, ↓k_then4, ↓k_sNil, ↓k_sSet, ↓k_sExpr, ↓k_sRet, ↓k_sIf, ↓k_sBreak, ↓k_sCont, ↓k_gNm, ↓k_gsNil, ↓k_gsCons, ↓k_gTp, ↓k_sAsg, ↓k_sPar, ↓k_mSo, ↓k_mNo, ↓k_mSl, ↓k_mApp, ↓k_mExt, ↓k_mPop, ↓k_sSetI, ↓k_mIndex, ↓k_mGet, ↓k_mLR1, ↓k_mRng1, ↓k_mItems, ↓k_mEnum, ↓k_mEnumZ, ↓k_sFor, ↓k_fLc, ↓k_mYes, ↓k_mMake, ↓k_sFldI, ↓k_mAnyIn, ↓k_mJoined, ↓k_jNil, ↓k_jCons, ↓k_mDict, ↓k_pNil, ↓k_pCons, ↓k_mChain, ↓k_chain1, ↓k_chain2, ↓k_fnM, ↓k_end1, ↓k_end2, ↓k_outs0, ↓k_outs1, ↓k_outs2, q_mVarS1, q_mVarS2, q_look1, q_look2, q_lookS1, q_lookS2, q_d1, q_d2, q_od1, q_od2, q_od3, q_boolR, q_arg1, q_arg2, q_argS, q_slots0, q_slots1, q_slots2, q_put0, q_put1, q_put2, q_putS, q_slotOf1, q_slotOf2, q_intOf, q_lstS, q_items1, q_items2, q_tupD, q_insS, q_strD, q_outS, p_ix1, p_ix2, p_ix3, p_atI, p_ixN, p_add, p_addS, p_addT, p_addL, p_sub, p_mul, p_div, p_mod, p_pow, p_neg, p_lt, p_le, p_gt, p_ge, p_len1, p_len2, p_len3, p_int, p_abs, p_str, p_max, p_list1, p_list2, p_tuple1, p_tuple2, p_isN, p_notN, p_non1, p_non2, p_non3, p_non4, p_non5, p_isi, p_ty1, p_ty2, p_ty3, p_ty4, p_ty5, p_ty6, p_isi_NoneType_bool, p_isi_NoneType_int, p_isi_NoneType_str, p_isi_NoneType_tuple, p_isi_bool_bool, p_isi_bool_int, p_isi_bool_str, p_isi_bool_tuple, p_isi_int_bool, p_isi_int_int, p_isi_int_str, p_isi_int_tuple, p_isi_str_bool, p_isi_str_int, p_isi_str_str, p_isi_str_tuple, p_isi_tuple_bool, p_isi_tuple_int, p_isi_tuple_str, p_isi_tuple_tuple, p_isi_list_bool, p_isi_list_int, p_isi_list_str, p_isi_list_tuple, p_in, p_notIn, p_eqI, p_neI, p_eqB, p_neB, p_fmt1, p_fmt2, p_fld, p_sl1, p_sl2, p_sl3, q_makeR, q_clean0, q_clean1, q_cleanS1, q_cleanS2, q_wipe0, q_wipe1, q_back0, q_back1, q_join1, q_and1, q_outP1, q_outP2, q_outP3, q_outP4, List.map_cons, List.map_nil, List.cons_append, List.nil_append, List.append_nil, List.length_cons, List.length_nil, List.getElem?_cons_zero, List.getElem?_cons_succ, List.getElem?_nil, List.set_cons_zero, List.set_cons_succ, Nat.reduceAdd, Nat.reduceSub, List.replicate_succ, List.replicate_zero, Nat.zero_add, reduceIte, Nat.reduceLeDiff, Nat.reduceLT, List.nodup_cons, List.nodup_nil, List.not_mem_nil, not_false_eq_true, and_true, and_self, List.mem_cons, or_false, Nat.reduceEqDiff, Bool.not_true, Bool.not_false, Bool.false_eq_true, true_and, and_false, false_and, reduceCtorEq, if_true, if_false, Int.reduceLE, Int.reduceLT, Int.reduceToNat, Int.reduceNeg, Int.reduceAdd, Int.reduceSub, Int.reduceMul, Int.reduceEq, Nat.reduceMul, decide_eq_true_eq, List.length_set, decide_true, decide_false, Int.toNat_natCast, Bool.not_eq_true, ne_eq]
    refine strs_lc (xs := [n1, n2]) hl (by simp) (by simp) rfl ?_
    subst_eqs
    refine it_pos (by rw [sizeLine_v]; omega) ?_
    subst_eqs
    refine .of (join_words (l := .yrs n1 n2 x y) hn hl) ?_
    subst_eqs
    refine it_pos (by simp only [len_app, sizeLine_v, cl2, ls3]; omega) ?_
    subst_eqs
    refine it_pos (by simp only [len_app, sizeLine_v, cl2, ls3]; omega) ?_
    subst_eqs
    refine it_pos (by simp only [len_app, sizeLine_v, cl2, ls3]; omega) ?_
    subst_eqs
    refine it_pos (by simp only [len_app, sizeLine_v, cl2, ls3]; omega) ?_
    subst_eqs
    exact q
  | side n1 n2 k1 x y =>
    simp only [Ln.d, tg, nD, prD]
    simp only [cut_12, cut_13, ↓ok_some, ↓ok_bind, ↓ok_ite, it_true, it_false, ↓k_mV, ↓k_mE, ↓k_mF, ↓k_mVar, ↓k_mC, ↓k_mNm, ↓k_m1, ↓k_m2, ↓k_mT, ↓k_mAndT, ↓k_mOrT, ↓k_mNotT, ↓k_mIf, ↓k_mAndV, ↓k_mOrV, ↓k_mNotV, ↓k_mIsi, ↓k_mNil, ↓k_mCons, ↓k_mTup, ↓k_mLst, ↓k_mANil, ↓k_mACons, ↓k_mVE, ↓k_mCall, ↓k_args0, ↓k_args1, ↓k_sSeq, ↓k_then1, ↓k_then2, ↓k_then3, ↓k_then4, ↓k_sNil, ↓k_sSet, ↓k_sExpr, ↓k_sRet, ↓k_sIf, ↓k_sBreak, ↓k_sCont, ↓k_gNm, ↓k_gsNil, ↓k_gsCons, ↓k_gTp, ↓k_sAsg, ↓k_sPar, ↓k_mSo, ↓k_mNo, ↓k_mSl, ↓k_mApp, ↓k_mExt, ↓k_mPop, ↓k_sSetI, ↓k_mIndex, ↓k_mGet, ↓k_mLR1, ↓k_mRng1, ↓k_mItems, ↓k_mEnum, ↓k_mEnumZ, ↓k_sFor, ↓k_fLc, ↓k_mYes, ↓k_mMake, ↓k_sFldI, ↓k_mAnyIn, ↓k_mJoined, ↓k_jNil, ↓k_jCons, ↓k_mDict, ↓k_pNil, ↓k_pCons, ↓k_mChain, ↓k_chain1, ↓k_chain2, ↓k_fnM, ↓k_end1, ↓k_end2, ↓k_outs0, ↓k_outs1, ↓k_outs2, q_mVarS1, q_mVarS2, q_look1, q_look2, q_lookS1, q_lookS2, q_d1, q_d2, q_od1, q_od2, q_od3, q_boolR, q_arg1, q_arg2, q_argS, q_slots0, q_slots1, q_slots2, q_put0, q_put1, q_put2, q_putS, q_slotOf1, q_slotOf2, q_intOf, q_lstS, q_items1, q_items2, q_tupD, q_insS, q_strD, q_outS, p_ix1, p_ix2, p_ix3, p_atI, p_ixN, p_add, p_addS, p_addT, p_addL, p_sub, p_mul, p_div, p_mod, p_pow, p_neg, p_lt, p_le, p_gt, p_ge, p_len1, p_len2, p_len3, p_int, p_abs, p_str, p_max, p_list1, p_list2, p_tuple1, p_tuple2, p_isN, p_notN, p_non1, p_non2, p_non3, p_non4, p_non5, p_isi, p_ty1, p_ty2, p_ty3, p_ty4, p_ty5, p_ty6, p_isi_NoneType_bool, p_isi_NoneType_int, p_isi_NoneType_str, p_isi_NoneType_tuple, p_isi_bool_bool, p_isi_bool_int, p_isi_bool_str, p_isi_bool_tuple, p_isi_int_bool, p_isi_int_int, p_isi_int_str, p_isi_int_tuple, p_isi_str_bool, p_isi_str_int, p_isi_str_str, p_isi_str_tuple, p_isi_tuple_bool, p_isi_tuple_int, p_isi_tuple_str, p_isi_tuple_tuple, p_isi_list_bool, p_isi_list_int, p_isi_list_str, p_isi_list_tuple, p_in, p_notIn, p_eqI, p_neI, p_eqB, p_neB, p_fmt1, p_fmt2, p_fld, p_sl1, p_sl2, p_sl3, q_makeR, q_clean0, q_clean1, q_cleanS1, q_cleanS2, q_wipe0, q_wipe1, q_back0, q_back1, q_join1, q_and1, q_outP1, q_outP2, q_outP3, q_outP4, List.map_cons, List.map_nil, List.cons_append, List.nil_append, List.append_nil, List.length_cons, List.length_nil, List.getElem?_cons_zero, List.getElem?_cons_succ, List.getElem?_nil, List.set_cons_zero, List.set_cons_succ, Nat.reduceAdd, Nat.reduceSub, List.replicate_succ, List.replicate_zero, Nat.zero_add, reduceIte, Nat.reduceLeDiff, Nat.reduceLT, List.nodup_cons, List.nodup_nil, List.not_mem_nil, not_false_eq_true, and_true, and_self, List.mem_cons, or_false, Nat.reduceEqDiff, Bool.not_true, Bool.not_false, Bool.false_eq_true, true_and, and_false, false_and, reduceCtorEq, if_true, if_false, Int.reduceLE, Int.reduceLT, Int.reduceToNat, Int.reduceNeg, Int.reduceAdd, Int.reduceSub, Int.reduceMul, Int.reduceEq, Nat.reduceMul, decide_eq_true_eq, List.length_set, decide_true, decide_false, Int.toNat_natCast, Bool.not_eq_true, ne_eq]
    refine .of (a := .inr (Str.ofString "told")) rfl ?_
    subst_eqs
    refine .of (a := .inr (Str.ofString "years")) rfl ?_
    subst_eqs
    refine .of (a := .inr (Str.ofString "side")) rfl ?_
    subst_eqs
    refine .of (a := .inr (Str.ofString "link")) rfl ?_
    subst_eqs
    refine .of (a := .inr (Str.ofString "chain")) rfl ?_
    subst_eqs
    refine it_pos (tx_guard hn) ?_
    subst_eqs
    refine .of (dix_side _ _ _ _ _) ?_
    simp only [cut_12, cut_13, ↓ok_some, ↓ok_bind, ↓ok_ite, it_true, it_false, ↓k_mV, ↓k_mE, ↓k_mF, ↓k_mVar, ↓k_mC, ↓k_mNm, ↓k_m1, ↓k_m2, ↓k_mT, ↓k_mAndT, ↓k_mOrT, ↓k_mNotT, ↓k_mIf, ↓k_mAndV, ↓k_mOrV, ↓k_mNotV, ↓k_mIsi, ↓k_mNil, ↓k_mCons, ↓k_mTup, ↓k_mLst, ↓k_mANil, ↓k_mACons, ↓k_mVE, ↓k_mCall, ↓k_args0, ↓k_args1, ↓k_sSeq, ↓k_then1, ↓k_then2, ↓k_then3, ↓k_then4, ↓k_sNil, ↓k_sSet, ↓k_sExpr, ↓k_sRet, ↓k_sIf, ↓k_sBreak, ↓k_sCont, ↓k_gNm, ↓k_gsNil, ↓k_gsCons, ↓k_gTp, ↓k_sAsg, ↓k_sPar, ↓k_mSo, ↓k_mNo, ↓k_mSl, ↓k_mApp, ↓k_mExt, ↓k_mPop, ↓k_sSetI, ↓k_mIndex, ↓k_mGet, ↓k_mLR1, ↓k_mRng1, ↓k_mItems, ↓k_mEnum, ↓k_mEnumZ, ↓k_sFor, ↓k_fLc, ↓k_mYes, ↓k_mMake, ↓k_sFldI, ↓k_mAnyIn, ↓k_mJoined, ↓k_jNil, ↓k_jCons, ↓k_mDict, ↓k_pNil, ↓k_pCons, ↓k_mChain, ↓k_chain1, ↓k_chain2, ↓k_fnM, ↓k_end1, ↓k_end2, ↓k_outs0, ↓k_outs1, ↓k_outs2, q_mVarS1, q_mVarS2, q_look1, q_look2, q_lookS1, q_lookS2, q_d1, q_d2, q_od1, q_od2, q_od3, q_boolR, q_arg1, q_arg2, q_argS, q_slots0, q_slots1, q_slots2, q_put0, q_put1, q_put2, q_putS, q_slotOf1, q_slotOf2, q_intOf, q_lstS, q_items1, q_items2, q_tupD, q_insS, q_strD, q_outS, p_ix1, p_ix2, p_ix3, p_atI, p_ixN, p_add, p_addS, p_addT, p_addL, p_sub, p_mul, p_div, p_mod, p_pow, p_neg, p_lt, p_le, p_gt, p_ge, p_len1, p_len2, p_len3, p_int, p_abs, p_str, p_max, p_list1, p_list2, p_tuple1, p_tuple2, p_isN, p_notN, p_non1, p_non2, p_non3, p_non4, p_non5, p_isi, p_ty1, p_ty2, p_ty3, p_ty4, p_ty5, p_ty6, p_isi_NoneType_bool, p_isi_NoneType_int, p_isi_NoneType_str, p_isi_NoneType_tuple, p_isi_bool_bool, p_isi_bool_int, p_isi_bool_str, p_isi_bool_tuple, p_isi_int_bool, p_isi_int_int, p_isi_int_str, p_isi_int_tuple, p_isi_str_bool, p_isi_str_int, p_isi_str_str, p_isi_str_tuple, p_isi_tuple_bool, p_isi_tuple_int, p_isi_tuple_str, p_isi_tuple_tuple, p_isi_list_bool, p_isi_list_int, p_isi_list_str, p_isi_list_tuple, p_in, p_notIn, p_eqI, p_neI, p_eqB, p_neB, p_fmt1, p_fmt2, p_fld, p_sl1, p_sl2, p_sl3, q_makeR, q_clean0, q_clean1, q_cleanS1, q_cleanS2, q_wipe0, q_wipe1, q_back0, q_back1, q_join1, q_and1, q_outP1, q_outP2, q_outP3, q_outP4, List.map_cons, List.map_nil, List.cons_append, List.nil_append, List.append_nil, List.length_cons, List.length_nil, List.getElem?_cons_zero, List.getElem?_cons_succ, List.getElem?_nil, List.set_cons_zero, List.set_cons_succ, Nat.reduceAdd, Nat.reduceSub, List.replicate_succ, List.replicate_zero, Nat.zero_add, reduceIte, Nat.reduceLeDiff, Nat.reduceLT, List.nodup_cons, List.nodup_nil, List.not_mem_nil, not_false_eq_true, and_true, and_self, List.mem_cons, or_false, Nat.reduceEqDiff, Bool.not_true, Bool.not_false, Bool.false_eq_true, true_and, and_false, false_and, reduceCtorEq, if_true, if_false, Int.reduceLE, Int.reduceLT, Int.reduceToNat, Int.reduceNeg, Int.reduceAdd, Int.reduceSub, Int.reduceMul, Int.reduceEq, Nat.reduceMul, decide_eq_true_eq, List.length_set, decide_true, decide_false, Int.toNat_natCast, Bool.not_eq_true, ne_eq]
    refine strs_lc (xs := [n1, n2]) hl (by simp) (by simp) rfl ?_
    subst_eqs
    refine it_pos (by rw [sizeLine_v]; omega) ?_
    subst_eqs
    refine .of (join_words (l := .side n1 n2 k1 x y) hn hl) ?_
    subst_eqs
    refine it_pos (by simp only [len_app, sizeLine_v, cl2, ls3]; omega) ?_
    subst_eqs
    refine it_pos (by simp only [len_app, sizeLine_v, cl2, ls3]; omega) ?_
    subst_eqs
    refine it_pos (by simp only [len_app, sizeLine_v, cl2, ls3]; omega) ?_
    subst_eqs
    refine it_pos (by simp only [len_app, sizeLine_v, cl2, ls3]; omega) ?_
    subst_eqs
    exact q
  | link n1 n2 x y =>
    simp only [Ln.d, tg, nD, prD]
    simp only [cut_12, cut_13, ↓ok_some, ↓ok_bind, ↓ok_ite, it_true, it_false, ↓k_mV, ↓k_mE, ↓k_mF, ↓k_mVar, ↓k_mC, ↓k_mNm, ↓k_m1, ↓k_m2, ↓k_mT, ↓k_mAndT, ↓k_mOrT, ↓k_mNotT, ↓k_mIf, ↓k_mAndV, ↓k_mOrV, ↓k_mNotV, ↓k_mIsi, ↓k_mNil, ↓k_mCons, ↓k_mTup, ↓k_mLst, ↓k_mANil, ↓k_mACons, ↓k_mVE, ↓k_mCall, ↓k_args0, ↓k_args1, ↓k_sSeq, ↓k_then1, ↓k_then2, ↓k_then3, ↓k_then4, ↓k_sNil, ↓k_sSet, ↓k_sExpr, ↓k_sRet, ↓k_sIf, ↓k_sBreak, ↓k_sCont, ↓k_gNm, ↓k_gsNil, ↓k_gsCons, ↓k_gTp, ↓k_sAsg, ↓k_sPar, ↓k_mSo, ↓k_mNo, ↓k_mSl, ↓k_mApp, ↓k_mExt, ↓k_mPop, ↓k_sSetI, ↓k_mIndex, ↓k_mGet, ↓k_mLR1, ↓k_mRng1, ↓k_mItems, ↓k_mEnum, ↓k_mEnumZ, ↓k_sFor, ↓k_fLc, ↓k_mYes, ↓k_mMake, ↓k_sFldI, ↓k_mAnyIn, ↓k_mJoined, ↓k_jNil, ↓k_jCons, ↓k_mDict, ↓k_pNil, ↓k_pCons, ↓k_mChain, ↓k_chain1, ↓k_chain2, ↓k_fnM, ↓k_end1, ↓k_end2, ↓k_outs0, ↓k_outs1, ↓k_outs2, q_mVarS1, q_mVarS2, q_look1, q_look2, q_lookS1, q_lookS2, q_d1, q_d2, q_od1, q_od2, q_od3, q_boolR, q_arg1, q_arg2, q_argS, q_slots0, q_slots1, q_slots2, q_put0, q_put1, q_put2, q_putS, q_slotOf1, q_slotOf2, q_intOf, q_lstS, q_items1, q_items2, q_tupD, q_insS, q_strD, q_outS, p_ix1, p_ix2, p_ix3, p_atI, p_ixN, p_add, p_addS, p_addT, p_addL, p_sub, p_mul, p_div, p_mod, p_pow, p_neg, p_lt, p_le, p_gt, p_ge, p_len1, p_len2, p_len3, p_int, p_abs, p_str, p_max, p_list1, p_list2, p_tuple1, p_tuple2, p_isN, p_notN, p_non1, p_non2, p_non3, p_non4, p_non5, p_isi, p_ty1, p_ty2, p_ty3, p_ty4, p_ty5, p_ty6, p_isi_NoneType_bool, p_isi_NoneType_int, p_isi_NoneType_str, p_isi_NoneType_tuple, p_isi_bool_bool, p_isi_bool_int, p_isi_bool_str, p_isi_bool_tuple, p_isi_int_bool, p_isi_int_int, p_isi_int_str, p_isi_int_tuple, p_isi_str_bool, p_isi_str_int, p_isi_str_str, p_isi_str_tuple, p_isi_tuple_bool, p_isi_tuple_int, p_isi_tuple_str, p_isi_tuple_tuple, p_isi_list_bool, p_isi_list_int, p_isi_list_str, p_isi_list_tuple, p_in, p_notIn, p_eqI, p_neI, p_eqB, p_neB, p_fmt1, p_fmt2, p_fld, p_sl1, p_sl2, p_sl3, q_makeR, q_clean0, q_clean1, q_cleanS1, q_cleanS2, q_wipe0, q_wipe1, q_back0, q_back1, q_join1, q_and1, q_outP1, q_outP2, q_outP3, q_outP4, List.map_cons, List.map_nil, List.cons_append, List.nil_append, List.append_nil, List.length_cons, List.length_nil, List.getElem?_cons_zero, List.getElem?_cons_succ, List.getElem?_nil, List.set_cons_zero, List.set_cons_succ, Nat.reduceAdd, Nat.reduceSub, List.replicate_succ, List.replicate_zero, Nat.zero_add, reduceIte, Nat.reduceLeDiff, Nat.reduceLT, List.nodup_cons, List.nodup_nil, List.not_mem_nil, not_false_eq_true, and_true, and_self, List.mem_cons, or_false, Nat.reduceEqDiff, Bool.not_true, Bool.not_false, Bool.false_eq_true, true_and, and_false, false_and, reduceCtorEq, if_true, if_false, Int.reduceLE, Int.reduceLT, Int.reduceToNat, Int.reduceNeg, Int.reduceAdd, Int.reduceSub, Int.reduceMul, Int.reduceEq, Nat.reduceMul, decide_eq_true_eq, List.length_set, decide_true, decide_false, Int.toNat_natCast, Bool.not_eq_true, ne_eq]
    refine .of (a := .inr (Str.ofString "told")) rfl ?_
    subst_eqs
    refine .of (a := .inr (Str.ofString "years")) rfl ?_
    subst_eqs
    refine .of (a := .inr (Str.ofString "side")) rfl ?_
    subst_eqs
    refine .of (a := .inr (Str.ofString "link")) rfl ?_
    subst_eqs
    refine .of (a := .inr (Str.ofString "chain")) rfl ?_
    subst_eqs
    refine it_pos (tx_guard hn) ?_
    subst_eqs
    refine .of (dix_link _ _ _ _ _) ?_
    simp only [cut_12, cut_13, ↓ok_some, ↓ok_bind, ↓ok_ite, it_true, it_false, ↓k_mV, ↓k_mE, ↓k_mF, ↓k_mVar, ↓k_mC, ↓k_mNm, ↓k_m1, ↓k_m2, ↓k_mT, ↓k_mAndT, ↓k_mOrT, ↓k_mNotT, ↓k_mIf, ↓k_mAndV, ↓k_mOrV, ↓k_mNotV, ↓k_mIsi, ↓k_mNil, ↓k_mCons, ↓k_mTup, ↓k_mLst, ↓k_mANil, ↓k_mACons, ↓k_mVE, ↓k_mCall, ↓k_args0, ↓k_args1, ↓k_sSeq, ↓k_then1, ↓k_then2, ↓k_then3, ↓k_then4, ↓k_sNil, ↓k_sSet, ↓k_sExpr, ↓k_sRet, ↓k_sIf, ↓k_sBreak, ↓k_sCont, ↓k_gNm, ↓k_gsNil, ↓k_gsCons, ↓k_gTp, ↓k_sAsg, ↓k_sPar, ↓k_mSo, ↓k_mNo, ↓k_mSl, ↓k_mApp, ↓k_mExt, ↓k_mPop, ↓k_sSetI, ↓k_mIndex, ↓k_mGet, ↓k_mLR1, ↓k_mRng1, ↓k_mItems, ↓k_mEnum, ↓k_mEnumZ, ↓k_sFor, ↓k_fLc, ↓k_mYes, ↓k_mMake, ↓k_sFldI, ↓k_mAnyIn, ↓k_mJoined, ↓k_jNil, ↓k_jCons, ↓k_mDict, ↓k_pNil, ↓k_pCons, ↓k_mChain, ↓k_chain1, ↓k_chain2, ↓k_fnM, ↓k_end1, ↓k_end2, ↓k_outs0, ↓k_outs1, ↓k_outs2, q_mVarS1, q_mVarS2, q_look1, q_look2, q_lookS1, q_lookS2, q_d1, q_d2, q_od1, q_od2, q_od3, q_boolR, q_arg1, q_arg2, q_argS, q_slots0, q_slots1, q_slots2, q_put0, q_put1, q_put2, q_putS, q_slotOf1, q_slotOf2, q_intOf, q_lstS, q_items1, q_items2, q_tupD, q_insS, q_strD, q_outS, p_ix1, p_ix2, p_ix3, p_atI, p_ixN, p_add, p_addS, p_addT, p_addL, p_sub, p_mul, p_div, p_mod, p_pow, p_neg, p_lt, p_le, p_gt, p_ge, p_len1, p_len2, p_len3, p_int, p_abs, p_str, p_max, p_list1, p_list2, p_tuple1, p_tuple2, p_isN, p_notN, p_non1, p_non2, p_non3, p_non4, p_non5, p_isi, p_ty1, p_ty2, p_ty3, p_ty4, p_ty5, p_ty6, p_isi_NoneType_bool, p_isi_NoneType_int, p_isi_NoneType_str, p_isi_NoneType_tuple, p_isi_bool_bool, p_isi_bool_int, p_isi_bool_str, p_isi_bool_tuple, p_isi_int_bool, p_isi_int_int, p_isi_int_str, p_isi_int_tuple, p_isi_str_bool, p_isi_str_int, p_isi_str_str, p_isi_str_tuple, p_isi_tuple_bool, p_isi_tuple_int, p_isi_tuple_str, p_isi_tuple_tuple, p_isi_list_bool, p_isi_list_int, p_isi_list_str, p_isi_list_tuple, p_in, p_notIn, p_eqI, p_neI, p_eqB, p_neB, p_fmt1, p_fmt2, p_fld, p_sl1, p_sl2, p_sl3, q_makeR, q_clean0, q_clean1, q_cleanS1, q_cleanS2, q_wipe0, q_wipe1, q_back0, q_back1, q_join1, q_and1, q_outP1, q_outP2, q_outP3, q_outP4, List.map_cons, List.map_nil, List.cons_append, List.nil_append, List.append_nil, List.length_cons, List.length_nil, List.getElem?_cons_zero, List.getElem?_cons_succ, List.getElem?_nil, List.set_cons_zero, List.set_cons_succ, Nat.reduceAdd, Nat.reduceSub, List.replicate_succ, List.replicate_zero, Nat.zero_add, reduceIte, Nat.reduceLeDiff, Nat.reduceLT, List.nodup_cons, List.nodup_nil, List.not_mem_nil, not_false_eq_true, and_true, and_self, List.mem_cons, or_false, Nat.reduceEqDiff, Bool.not_true, Bool.not_false, Bool.false_eq_true, true_and, and_false, false_and, reduceCtorEq, if_true, if_false, Int.reduceLE, Int.reduceLT, Int.reduceToNat, Int.reduceNeg, Int.reduceAdd, Int.reduceSub, Int.reduceMul, Int.reduceEq, Nat.reduceMul, decide_eq_true_eq, List.length_set, decide_true, decide_false, Int.toNat_natCast, Bool.not_eq_true, ne_eq]
    refine strs_lc (xs := [n1, n2]) hl (by simp) (by simp) rfl ?_
    subst_eqs
    refine it_pos (by rw [sizeLine_v]; omega) ?_
    subst_eqs
    refine .of (join_words (l := .link n1 n2 x y) hn hl) ?_
    subst_eqs
    refine it_pos (by simp only [len_app, sizeLine_v, cl2, ls3]; omega) ?_
    subst_eqs
    refine it_pos (by simp only [len_app, sizeLine_v, cl2, ls3]; omega) ?_
    subst_eqs
    refine it_pos (by simp only [len_app, sizeLine_v, cl2, ls3]; omega) ?_
    subst_eqs
    refine it_pos (by simp only [len_app, sizeLine_v, cl2, ls3]; omega) ?_
    subst_eqs
    exact q
  | chain n1 n2 =>
    simp only [Ln.d, tg, nD, prD]
    simp only [cut_12, cut_13, ↓ok_some, ↓ok_bind, ↓ok_ite, it_true, it_false, ↓k_mV, ↓k_mE, ↓k_mF, ↓k_mVar, ↓k_mC, ↓k_mNm, ↓k_m1, ↓k_m2, ↓k_mT, ↓k_mAndT, ↓k_mOrT, ↓k_mNotT, ↓k_mIf, ↓k_mAndV, ↓k_mOrV, ↓k_mNotV, ↓k_mIsi, ↓k_mNil, ↓k_mCons, ↓k_mTup, ↓k_mLst, ↓k_mANil, ↓k_mACons, ↓k_mVE, ↓k_mCall, ↓k_args0, ↓k_args1, ↓k_sSeq, ↓k_then1, ↓k_then2, ↓k_then3, ↓k_then4, ↓k_sNil, ↓k_sSet, ↓k_sExpr, ↓k_sRet, ↓k_sIf, ↓k_sBreak, ↓k_sCont, ↓k_gNm, ↓k_gsNil, ↓k_gsCons, ↓k_gTp, ↓k_sAsg, ↓k_sPar, ↓k_mSo, ↓k_mNo, ↓k_mSl, ↓k_mApp, ↓k_mExt, ↓k_mPop, ↓k_sSetI, ↓k_mIndex, ↓k_mGet, ↓k_mLR1, ↓k_mRng1, ↓k_mItems, ↓k_mEnum, ↓k_mEnumZ, ↓k_sFor, ↓k_fLc, ↓k_mYes, ↓k_mMake, ↓k_sFldI, ↓k_mAnyIn, ↓k_mJoined, ↓k_jNil, ↓k_jCons, ↓k_mDict, ↓k_pNil, ↓k_pCons, ↓k_mChain, ↓k_chain1, ↓k_chain2, ↓k_fnM, ↓k_end1, ↓k_end2, ↓k_outs0, ↓k_outs1, ↓k_outs2, q_mVarS1, q_mVarS2, q_look1, q_look2, q_lookS1, q_lookS2, q_d1, q_d2, q_od1, q_od2, q_od3, q_boolR, q_arg1, q_arg2, q_argS, q_slots0, q_slots1, q_slots2, q_put0, q_put1, q_put2, q_putS, q_slotOf1, q_slotOf2, q_intOf, q_lstS, q_items1, q_items2, q_tupD, q_insS, q_strD, q_outS, p_ix1, p_ix2, p_ix3, p_atI, p_ixN, p_add, p_addS, p_addT, p_addL, p_sub, p_mul, p_div, p_mod, p_pow, p_neg, p_lt, p_le, p_gt, p_ge, p_len1, p_len2, p_len3, p_int, p_abs, p_str, p_max, p_list1, p_list2, p_tuple1, p_tuple2, p_isN, p_notN, p_non1, p_non2, p_non3, p_non4, p_non5, p_isi, p_ty1, p_ty2, p_ty3, p_ty4, p_ty5, p_ty6, p_isi_NoneType_bool, p_isi_NoneType_int, p_isi_NoneType_str, p_isi_NoneType_tuple, p_isi_bool_bool, p_isi_bool_int, p_isi_bool_str, p_isi_bool_tuple, p_isi_int_bool, p_isi_int_int, p_isi_int_str, p_isi_int_tuple, p_isi_str_bool, p_isi_str_int, p_isi_str_str, p_isi_str_tuple, p_isi_tuple_bool, p_isi_tuple_int, p_isi_tuple_str, p_isi_tuple_tuple, p_isi_list_bool, p_isi_list_int, p_isi_list_str, p_isi_list_tuple, p_in, p_notIn, p_eqI, p_neI, p_eqB, p_neB, p_fmt1, p_fmt2, p_fld, p_sl1, p_sl2, p_sl3, q_makeR, q_clean0, q_clean1, q_cleanS1, q_cleanS2, q_wipe0, q_wipe1, q_back0, q_back1, q_join1, q_and1, q_outP1, q_outP2, q_outP3, q_outP4, List.map_cons, List.map_nil, List.cons_append, List.nil_append, List.append_nil, List.length_cons, List.length_nil, List.getElem?_cons_zero, List.getElem?_cons_succ, List.getElem?_nil, List.set_cons_zero, List.set_cons_succ, Nat.reduceAdd, Nat.reduceSub, List.replicate_succ, List.replicate_zero, Nat.zero_add, reduceIte, Nat.reduceLeDiff, Nat.reduceLT, List.nodup_cons, List.nodup_nil, List.not_mem_nil, not_false_eq_true, and_true, and_self, List.mem_cons, or_false, Nat.reduceEqDiff, Bool.not_true, Bool.not_false, Bool.false_eq_true, true_and, and_false, false_and, reduceCtorEq, if_true, if_false, Int.reduceLE, Int.reduceLT, Int.reduceToNat, Int.reduceNeg, Int.reduceAdd, Int.reduceSub, Int.reduceMul, Int.reduceEq, Nat.reduceMul, decide_eq_true_eq, List.length_set, decide_true, decide_false, Int.toNat_natCast, Bool.not_eq_true, ne_eq]
    refine .of (a := .inr (Str.ofString "told")) rfl ?_
    subst_eqs
    refine .of (a := .inr (Str.ofString "years")) rfl ?_
    subst_eqs
    refine .of (a := .inr (Str.ofString "side")) rfl ?_
    subst_eqs
    refine .of (a := .inr (Str.ofString "link")) rfl ?_
    subst_eqs
    refine .of (a := .inr (Str.ofString "chain")) rfl ?_
    subst_eqs
    refine it_pos (tx_guard hn) ?_
    subst_eqs
    refine .of (dix_chain _ _ _ _ _) ?_
    simp only [cut_12, cut_13, ↓ok_some, ↓ok_bind, ↓ok_ite, it_true, it_false, ↓k_mV, ↓k_mE, ↓k_mF, ↓k_mVar, ↓k_mC, ↓k_mNm, ↓k_m1, ↓k_m2, ↓k_mT, ↓k_mAndT, ↓k_mOrT, ↓k_mNotT, ↓k_mIf, ↓k_mAndV, ↓k_mOrV, ↓k_mNotV, ↓k_mIsi, ↓k_mNil, ↓k_mCons, ↓k_mTup, ↓k_mLst, ↓k_mANil, ↓k_mACons, ↓k_mVE, ↓k_mCall, ↓k_args0, ↓k_args1, ↓k_sSeq, ↓k_then1, ↓k_then2, ↓k_then3, ↓k_then4, ↓k_sNil, ↓k_sSet, ↓k_sExpr, ↓k_sRet, ↓k_sIf, ↓k_sBreak, ↓k_sCont, ↓k_gNm, ↓k_gsNil, ↓k_gsCons, ↓k_gTp, ↓k_sAsg, ↓k_sPar, ↓k_mSo, ↓k_mNo, ↓k_mSl, ↓k_mApp, ↓k_mExt, ↓k_mPop, ↓k_sSetI, ↓k_mIndex, ↓k_mGet, ↓k_mLR1, ↓k_mRng1, ↓k_mItems, ↓k_mEnum, ↓k_mEnumZ, ↓k_sFor, ↓k_fLc, ↓k_mYes, ↓k_mMake, ↓k_sFldI, ↓k_mAnyIn, ↓k_mJoined, ↓k_jNil, ↓k_jCons, ↓k_mDict, ↓k_pNil, ↓k_pCons, ↓k_mChain, ↓k_chain1, ↓k_chain2, ↓k_fnM, ↓k_end1, ↓k_end2, ↓k_outs0, ↓k_outs1, ↓k_outs2, q_mVarS1, q_mVarS2, q_look1, q_look2, q_lookS1, q_lookS2, q_d1, q_d2, q_od1, q_od2, q_od3, q_boolR, q_arg1, q_arg2, q_argS, q_slots0, q_slots1, q_slots2, q_put0, q_put1, q_put2, q_putS, q_slotOf1, q_slotOf2, q_intOf, q_lstS, q_items1, q_items2, q_tupD, q_insS, q_strD, q_outS, p_ix1, p_ix2, p_ix3, p_atI, p_ixN, p_add, p_addS, p_addT, p_addL, p_sub, p_mul, p_div, p_mod, p_pow, p_neg, p_lt, p_le, p_gt, p_ge, p_len1, p_len2, p_len3, p_int, p_abs, p_str, p_max, p_list1, p_list2, p_tuple1, p_tuple2, p_isN, p_notN, p_non1, p_non2, p_non3, p_non4, p_non5, p_isi, p_ty1, p_ty2, p_ty3, p_ty4, p_ty5, p_ty6, p_isi_NoneType_bool, p_isi_NoneType_int, p_isi_NoneType_str, p_isi_NoneType_tuple, p_isi_bool_bool, p_isi_bool_int, p_isi_bool_str, p_isi_bool_tuple, p_isi_int_bool, p_isi_int_int, p_isi_int_str, p_isi_int_tuple, p_isi_str_bool, p_isi_str_int, p_isi_str_str, p_isi_str_tuple, p_isi_tuple_bool, p_isi_tuple_int, p_isi_tuple_str, p_isi_tuple_tuple, p_isi_list_bool, p_isi_list_int, p_isi_list_str, p_isi_list_tuple, p_in, p_notIn, p_eqI, p_neI, p_eqB, p_neB, p_fmt1, p_fmt2, p_fld, p_sl1, p_sl2, p_sl3, q_makeR, q_clean0, q_clean1, q_cleanS1, q_cleanS2, q_wipe0, q_wipe1, q_back0, q_back1, q_join1, q_and1, q_outP1, q_outP2, q_outP3, q_outP4, List.map_cons, List.map_nil, List.cons_append, List.nil_append, List.append_nil, List.length_cons, List.length_nil, List.getElem?_cons_zero, List.getElem?_cons_succ, List.getElem?_nil, List.set_cons_zero, List.set_cons_succ, Nat.reduceAdd, Nat.reduceSub, List.replicate_succ, List.replicate_zero, Nat.zero_add, reduceIte, Nat.reduceLeDiff, Nat.reduceLT, List.nodup_cons, List.nodup_nil, List.not_mem_nil, not_false_eq_true, and_true, and_self, List.mem_cons, or_false, Nat.reduceEqDiff, Bool.not_true, Bool.not_false, Bool.false_eq_true, true_and, and_false, false_and, reduceCtorEq, if_true, if_false, Int.reduceLE, Int.reduceLT, Int.reduceToNat, Int.reduceNeg, Int.reduceAdd, Int.reduceSub, Int.reduceMul, Int.reduceEq, Nat.reduceMul, decide_eq_true_eq, List.length_set, decide_true, decide_false, Int.toNat_natCast, Bool.not_eq_true, ne_eq]
    refine strs_lc (xs := [n1, n2]) hl (by simp) (by simp) rfl ?_
    subst_eqs
    refine it_pos (by rw [sizeLine_v]; omega) ?_
    subst_eqs
    refine .of (join_words (l := .chain n1 n2) hn hl) ?_
    subst_eqs
    refine it_pos (by simp only [len_app, sizeLine_v, cl2, ls3]; omega) ?_
    subst_eqs
    refine it_pos (by simp only [len_app, sizeLine_v, cl2, ls3]; omega) ?_
    subst_eqs
    refine it_pos (by simp only [len_app, sizeLine_v, cl2, ls3]; omega) ?_
    subst_eqs
    refine it_pos (by simp only [len_app, sizeLine_v, cl2, ls3]; omega) ?_
    subst_eqs
    exact q
end K91
end L2.My

end
section
set_option Elab.async false
set_option linter.all false
set_option autoImplicit false
set_option maxRecDepth 100000
set_option maxHeartbeats 4000000
/-! Mkl: print_lines; the law's compare. -/
namespace L2.My
open PySem PySem.Spec PyProof.Rows
local macro_rules | `(tactic| and_intros) => `(tactic| simp only [↓ok_some, ↓ok_bind, ↓ok_ite, it_true, it_false, ↓k_mV, ↓k_mE, ↓k_mF, ↓k_mVar, ↓k_mC, ↓k_mNm, ↓k_m1, ↓k_m2, ↓k_mT, ↓k_mAndT, ↓k_mOrT, ↓k_mNotT, ↓k_mIf, ↓k_mAndV, ↓k_mOrV, ↓k_mNotV, ↓k_mIsi, ↓k_mNil, ↓k_mCons, ↓k_mTup, ↓k_mLst, ↓k_mANil, ↓k_mACons, ↓k_mVE, ↓k_mCall, ↓k_args0, ↓k_args1, ↓k_sSeq, ↓k_then1, ↓k_then2, ↓k_then3, ↓k_then4, ↓k_sNil, ↓k_sSet, ↓k_sExpr, ↓k_sRet, ↓k_sIf, ↓k_sBreak, ↓k_sCont, ↓k_gNm, ↓k_gsNil, ↓k_gsCons, ↓k_gTp, ↓k_sAsg, ↓k_sPar, ↓k_mSo, ↓k_mNo, ↓k_mSl, ↓k_mApp, ↓k_mExt, ↓k_mPop, ↓k_sSetI, ↓k_mIndex, ↓k_mGet, ↓k_mLR1, ↓k_mRng1, ↓k_mItems, ↓k_mEnum, ↓k_mEnumZ, ↓k_sFor, ↓k_fLc, ↓k_mYes, ↓k_mMake, ↓k_sFldI, ↓k_mAnyIn, ↓k_mJoined, ↓k_jNil, ↓k_jCons, ↓k_mDict, ↓k_pNil, ↓k_pCons, ↓k_mChain, ↓k_chain1, ↓k_chain2, ↓k_fnM, ↓k_end1, ↓k_end2, ↓k_outs0, ↓k_outs1, ↓k_outs2, q_mVarS1, q_mVarS2, q_look1, q_look2, q_lookS1, q_lookS2, q_d1, q_d2, q_od1, q_od2, q_od3, q_boolR, q_arg1, q_arg2, q_argS, q_slots0, q_slots1, q_slots2, q_put0, q_put1, q_put2, q_putS, q_slotOf1, q_slotOf2, q_intOf, q_lstS, q_items1, q_items2, q_tupD, q_insS, q_strD, q_outS, p_ix1, p_ix2, p_ix3, p_atI, p_ixN, p_add, p_addS, p_addT, p_addL, p_sub, p_mul, p_div, p_mod, p_pow, p_neg, p_lt, p_le, p_gt, p_ge, p_len1, p_len2, p_len3, p_int, p_abs, p_str, p_max, p_list1, p_list2, p_tuple1, p_tuple2, p_isN, p_notN, p_non1, p_non2, p_non3, p_non4, p_non5, p_isi, p_ty1, p_ty2, p_ty3, p_ty4, p_ty5, p_ty6, p_isi_NoneType_bool, p_isi_NoneType_int, p_isi_NoneType_str, p_isi_NoneType_tuple, p_isi_bool_bool, p_isi_bool_int, p_isi_bool_str, p_isi_bool_tuple, p_isi_int_bool, p_isi_int_int, p_isi_int_str, p_isi_int_tuple, p_isi_str_bool, p_isi_str_int, p_isi_str_str, p_isi_str_tuple, p_isi_tuple_bool, p_isi_tuple_int, p_isi_tuple_str, p_isi_tuple_tuple, p_isi_list_bool, p_isi_list_int, p_isi_list_str, p_isi_list_tuple, p_in, p_notIn, p_eqI, p_neI, p_eqB, p_neB, p_fmt1, p_fmt2, p_fld, p_sl1, p_sl2, p_sl3, q_makeR, q_clean0, q_clean1, q_cleanS1, q_cleanS2, q_wipe0, q_wipe1, q_back0, q_back1, q_join1, q_and1, q_outP1, q_outP2, q_outP3, q_outP4, List.map_cons, List.map_nil, List.cons_append, List.nil_append, List.append_nil, List.length_cons, List.length_nil, List.getElem?_cons_zero, List.getElem?_cons_succ, List.getElem?_nil, List.set_cons_zero, List.set_cons_succ, Nat.reduceAdd, Nat.reduceSub, List.replicate_succ, List.replicate_zero, Nat.zero_add, reduceIte, Nat.reduceLeDiff, Nat.reduceLT, List.nodup_cons, List.nodup_nil, List.not_mem_nil, not_false_eq_true, and_true, and_self, List.mem_cons, or_false, Nat.reduceEqDiff, Bool.not_true, Bool.not_false, Bool.false_eq_true, true_and, and_false, false_and, reduceCtorEq, if_true, if_false, Int.reduceLE, Int.reduceLT, Int.reduceToNat, Int.reduceNeg, Int.reduceAdd, Int.reduceSub, Int.reduceMul, Int.reduceEq, Nat.reduceMul, decide_eq_true_eq, List.length_set, decide_true, decide_false, Int.toNat_natCast, Bool.not_eq_true, ne_eq])
local macro_rules | `(tactic| subst_eqs) => `(tactic| simp only [↓ok_some, ↓ok_bind, ↓ok_ite, it_true, it_false, ↓k_mV, ↓k_mE, ↓k_mF, ↓k_mVar, ↓k_mC, ↓k_mNm, ↓k_m1, ↓k_m2, ↓k_mT, ↓k_mAndT, ↓k_mOrT, ↓k_mNotT, ↓k_mIf, ↓k_mAndV, ↓k_mOrV, ↓k_mNotV, ↓k_mIsi, ↓k_mNil, ↓k_mCons, ↓k_mTup, ↓k_mLst, ↓k_mANil, ↓k_mACons, ↓k_mVE, ↓k_mCall, ↓k_args0, ↓k_args1, ↓k_sSeq, ↓k_then1, ↓k_then2, ↓k_then3, ↓k_then4, ↓k_sNil, ↓k_sSet, ↓k_sExpr, ↓k_sRet, ↓k_sIf, ↓k_sBreak, ↓k_sCont, ↓k_gNm, ↓k_gsNil, ↓k_gsCons, ↓k_gTp, ↓k_sAsg, ↓k_sPar, ↓k_mSo, ↓k_mNo, ↓k_mSl, ↓k_mApp, ↓k_mExt, ↓k_mPop, ↓k_sSetI, ↓k_mIndex, ↓k_mGet, ↓k_mLR1, ↓k_mRng1, ↓k_mItems, ↓k_mEnum, ↓k_mEnumZ, ↓k_sFor, ↓k_fLc, ↓k_mYes, ↓k_mMake, ↓k_sFldI, ↓k_mAnyIn, ↓k_mJoined, ↓k_jNil, ↓k_jCons, ↓k_mDict, ↓k_pNil, ↓k_pCons, ↓k_mChain, ↓k_chain1, ↓k_chain2, ↓k_fnM, ↓k_end1, ↓k_end2, ↓k_outs0, ↓k_outs1, ↓k_outs2, q_mVarS1, q_mVarS2, q_look1, q_look2, q_lookS1, q_lookS2, q_d1, q_d2, q_od1, q_od2, q_od3, q_boolR, q_arg1, q_arg2, q_argS, q_slots0, q_slots1, q_slots2, q_put0, q_put1, q_put2, q_putS, q_slotOf1, q_slotOf2, q_intOf, q_lstS, q_items1, q_items2, q_tupD, q_insS, q_strD, q_outS, p_ix1, p_ix2, p_ix3, p_atI, p_ixN, p_add, p_addS, p_addT, p_addL, p_sub, p_mul, p_div, p_mod, p_pow, p_neg, p_lt, p_le, p_gt, p_ge, p_len1, p_len2, p_len3, p_int, p_abs, p_str, p_max, p_list1, p_list2, p_tuple1, p_tuple2, p_isN, p_notN, p_non1, p_non2, p_non3, p_non4, p_non5, p_isi, p_ty1, p_ty2, p_ty3, p_ty4, p_ty5, p_ty6, p_isi_NoneType_bool, p_isi_NoneType_int, p_isi_NoneType_str, p_isi_NoneType_tuple, p_isi_bool_bool, p_isi_bool_int, p_isi_bool_str, p_isi_bool_tuple, p_isi_int_bool, p_isi_int_int, p_isi_int_str, p_isi_int_tuple, p_isi_str_bool, p_isi_str_int, p_isi_str_str, p_isi_str_tuple, p_isi_tuple_bool, p_isi_tuple_int, p_isi_tuple_str, p_isi_tuple_tuple, p_isi_list_bool, p_isi_list_int, p_isi_list_str, p_isi_list_tuple, p_in, p_notIn, p_eqI, p_neI, p_eqB, p_neB, p_fmt1, p_fmt2, p_fld, p_sl1, p_sl2, p_sl3, q_makeR, q_clean0, q_clean1, q_cleanS1, q_cleanS2, q_wipe0, q_wipe1, q_back0, q_back1, q_join1, q_and1, q_outP1, q_outP2, q_outP3, q_outP4, List.map_cons, List.map_nil, List.cons_append, List.nil_append, List.append_nil, List.length_cons, List.length_nil, List.getElem?_cons_zero, List.getElem?_cons_succ, List.getElem?_nil, List.set_cons_zero, List.set_cons_succ, Nat.reduceAdd, Nat.reduceSub, List.replicate_succ, List.replicate_zero, Nat.zero_add, reduceIte, Nat.reduceLeDiff, Nat.reduceLT, List.nodup_cons, List.nodup_nil, List.not_mem_nil, not_false_eq_true, and_true, and_self, List.mem_cons, or_false, Nat.reduceEqDiff, Bool.not_true, Bool.not_false, Bool.false_eq_true, true_and, and_false, false_and, reduceCtorEq, if_true, if_false, Int.reduceLE, Int.reduceLT, Int.reduceToNat, Int.reduceNeg, Int.reduceAdd, Int.reduceSub, Int.reduceMul, Int.reduceEq, Nat.reduceMul, decide_eq_true_eq, List.length_set, decide_true, decide_false, Int.toNat_natCast, Bool.not_eq_true, ne_eq, List.length_map, List.length_append])
namespace K91
variable {F : List D}
theorem zip_at : ∀ {xs ys : List D} {i : Nat} {d : D}, (zipD xs ys)[i]? = some d → ∃ x y, xs[i]? = some x ∧ ys[i]? = some y ∧ d = .tup [x, y]
  | [], ys, i, d, h => by simp [zipD] at h
  | x :: xs, [], i, d, h => by simp [zipD] at h
  | x :: xs, y :: ys, 0, d, h => by
    refine ⟨x, y, rfl, rfl, ?_⟩
    unfold zipD at h
    simpa using h.symm
  | x :: xs, y :: ys, i + 1, d, h => by
    unfold zipD at h
    exact zip_at (xs := xs) (ys := ys) (by simpa using h)
theorem zip_len : ∀ {xs ys : List D}, (zipD xs ys).length = min xs.length ys.length
  | [], ys => by simp [zipD]
  | x :: xs, [] => by simp [zipD]
  | x :: xs, y :: ys => by unfold zipD; rw [List.length_cons, zip_len, List.length_cons, List.length_cons]; omega
theorem Right.nums {ts : List Th} {ps : List (D × D)} {l : Ln} {p : D × D} (ht : ts.length ≤ 302) (hp : ps.length ≤ 150) (h : Right ts ps l p) : ∀ x ∈ l.nums, x < 320 := by
  intro x hx
  cases h <;> simp only [Ln.nums, List.mem_cons, List.not_mem_nil, or_false] at hx
  case told h1 h2 h3 => have := lt_of_get h1; omega
  case yrs h1 h2 h3 h4 h5 => have := lt_of_get h1; have := lt_of_get h2; omega
  case side1 h1 h2 h3 h4 h5 h6 => have := lt_of_get h1; have := lt_of_get h2; omega
  case side2 h1 h2 h3 h4 h5 h6 => have := lt_of_get h1; have := lt_of_get h2; omega
  case link1 h1 h2 h3 h4 => have := lt_of_get h1; have := lt_of_get h2; omega
  case link2 h1 h2 h3 h4 => have := lt_of_get h1; have := lt_of_get h2; omega
  case chain h1 h2 => have := lt_of_get h1; have := lt_of_get h2; omega
noncomputable def txD (n : Nat) (l : Ln) (p : D × D) : D := match p with
  | (.str a, .str b) => .str (txt n l a b)
  | _ => .non
noncomputable def texts (lns : List Ln) (ps : List (D × D)) : List D := (List.range lns.length).map fun i => txD i (lns.getD i (.chain 0 0)) (ps.getD i (.non, .non))
theorem getD_at {α : Type} {xs : List α} {i : Nat} {x d : α} (h : xs[i]? = some x) : xs.getD i d = x := by rw [List.getD_eq_getElem?_getD, h]; rfl
theorem said_ok (hF : Finds F) {n : Nat} {l : Ln} {p : D × D} (hp : p.1 ∈ F ∧ p.2 ∈ F) (hn : n < 320) (hl : ∀ x ∈ l.nums, x < 320) {k : Ct (RV × List MO)} (q : k.run (.sh (txD n l p), [])) : @Ok _ (fm_law_said [.sh (.int n), .sh l.d, .sh (prD p)]) k := by
  obtain ⟨a, b⟩ := p
  obtain ⟨sa, ea, _, la⟩ := hF.nm a hp.1
  obtain ⟨sb, eb, _, lb⟩ := hF.nm b hp.2
  subst ea eb
  exact law_said_ok hn hl la lb q
theorem ltext_ok (hF : Finds F) {n : Nat} {l : Ln} {p : D × D} (hp : p.1 ∈ F ∧ p.2 ∈ F) (hn : n < 320) (hl : ∀ x ∈ l.nums, x < 320) {k : Ct (RV × List MO)} (q : k.run (.sh (txD n l p), [])) : @Ok _ (fm_line_text [.sh (.int n), .sh l.d, .sh (prD p)]) k := by
  obtain ⟨a, b⟩ := p
  obtain ⟨sa, ea, _, la⟩ := hF.nm a hp.1
  obtain ⟨sb, eb, _, lb⟩ := hF.nm b hp.2
  subst ea eb
  exact line_text_ok hn hl la lb q
theorem txD_str (hF : Finds F) {n : Nat} {l : Ln} {p : D × D} (hp : p.1 ∈ F ∧ p.2 ∈ F) (hn : n < 320) (hl : ∀ x ∈ l.nums, x < 320) : ∃ s, txD n l p = .str s ∧ PyData.strOk s = true := by
  obtain ⟨a, b⟩ := p
  obtain ⟨sa, ea, oa, la⟩ := hF.nm a hp.1
  obtain ⟨sb, eb, ob, lb⟩ := hF.nm b hp.2
  subst ea eb
  exact ⟨_, rfl, txt_ok hn hl oa ob⟩
theorem Lines.nums {ts : List Th} {sp : List Nat} (dos : Dos F ts sp) {lns : List Ln} {ps : List (D × D)} (hl : Lines ts lns ps) (hpl : ps.length ≤ 150) {i : Nat} {l : Ln} (h : lns[i]? = some l) : ∀ x ∈ l.nums, x < 320 := by
  have hi := lt_of_get h
  have hi2 : i < ps.length := by rw [← hl.1]; exact hi
  exact (hl.2 i l _ h (List.getElem?_eq_getElem hi2)).nums dos.len (by rw [List.length_take]; omega)
theorem texts_snoc {lns : List Ln} {ps : List (D × D)} {i : Nat} {l : Ln} {p : D × D} (h : lns[i]? = some l) (hp : ps[i]? = some p) : ((List.range (i + 1)).map fun i => txD i (lns.getD i (.chain 0 0)) (ps.getD i (.non, .non))) = ((List.range i).map fun i => txD i (lns.getD i (.chain 0 0)) (ps.getD i (.non, .non))) ++ [txD i l p] := by
  rw [List.range_succ, List.map_append, List.map_cons, List.map_nil, getD_at h, getD_at hp]
theorem print_ok {ts : List Th} {sp : List Nat} (dos : Dos F ts sp) {lns : List Ln} {ps : List (D × D)} (hl : Lines ts lns ps) (hps : PairsOk F ps) (hpl : ps.length ≤ 150) {k : Ct (RV × List MO)} (q : k.run (.sh (.tup (texts lns ps)), [])) : @Ok _ (fm_print_lines [.sh (dosD F ts), .sh (.tup (lns.map Ln.d))]) k := by
  unfold fm_print_lines mx_print_lines
  have hl1 := hl.1
  subst_eqs
  refine pairs_ok dos hl hps hpl ?_
  subst_eqs
  refine lcL_inv (fun i acc ρ => acc = ((List.range i).map fun i => txD i (lns.getD i (.chain 0 0)) (ps.getD i (.non, .non))) ∧ ρ = [some (.sh (dosD F ts)), some (.sh (.tup (lns.map Ln.d))), some (.sh (.tup (ps.map prD))), none, none, none]) (by rw [enum_len, zip_len, List.length_map, List.length_map, sizeLine_v]; omega) ⟨rfl, rfl⟩ (fun i d acc ρ hd ha ⟨e1, e⟩ => ?_) fun out ρ' hl' ⟨e1, e⟩ => ?_
  · have hx_ := enum_at hd
    obtain ⟨x, hx, er_⟩ := hx_
    have hx_ := zip_at hx
    obtain ⟨y, z, hy, hz, er2⟩ := hx_
    have hx_ := map_at hy
    obtain ⟨hi, ey⟩ := hx_
    have hx_ := map_at hz
    obtain ⟨hi2, ez⟩ := hx_
    have hli : lns[i]? = some lns[i] := List.getElem?_eq_getElem hi
    have hpi : ps[i]? = some ps[i] := List.getElem?_eq_getElem hi2
    subst er_ er2 e e1 ey ez
    rw [Nat.zero_add]
    subst_eqs
    refine ltext_ok dos.f (hps _ (List.mem_of_getElem? hpi)) (by omega) (hl.nums dos hpl hli) ?_
    subst_eqs
    exact texts_snoc hli hpi |>.symm
  · subst e e1
    rw [enum_len, zip_len, List.length_map, List.length_map, hl1, Nat.min_self]
    subst_eqs
    unfold texts at q
    rw [hl1] at q
    exact q
/-- data that the law compares -/
def Iq : Nat → D → Prop
  | 0, d => (∃ s, d = .str s ∧ PyData.strOk s = true) ∨ ∃ b, d = .bl b
  | n + 1, d => Iq n d ∨ ∃ xs, d = .tup xs ∧ (∀ x ∈ xs, Iq n x) ∧ xs.length ≤ 1000000
theorem Iq.cases : ∀ {n : Nat} {d : D}, Iq n d → ((∃ s, d = .str s ∧ PyData.strOk s = true) ∨ ∃ b, d = .bl b) ∨ ∃ m xs, m < n ∧ d = .tup xs ∧ (∀ x ∈ xs, Iq m x) ∧ xs.length ≤ 1000000
  | 0, d, h => .inl h
  | n + 1, d, .inl h => by
    rcases Iq.cases h with h | ⟨m, xs, h1, h2⟩
    · exact .inl h
    · exact .inr ⟨m, xs, by omega, h2⟩
  | n + 1, d, .inr ⟨xs, h⟩ => .inr ⟨n, xs, by omega, h⟩
theorem law_is_ok : ∀ {m n : Nat} {d : D}, Iq n d → n < m → ∀ {k : Ct (RV × List MO)}, k.run (.sh (.bl true), []) → @Ok _ (fm_law_is m [.sh d, .sh d]) k
  | 0, n, d, h, hm, k, q => absurd hm (by omega)
  | m + 1, n, d, h, hm, k, q => by
    show @Ok _ (fnM 3 (mx_law_is (fm_law_is m)) [.sh d, .sh d]) k
    unfold mx_law_is
    rcases h.cases with (⟨s, e, hs⟩ | ⟨b, e⟩) | ⟨m', xs, hm', e, hx, hxl⟩
    · subst e
      subst_eqs
      refine .of (eq_str hs hs) ?_
      subst_eqs
      exact q
    · subst e
      subst_eqs
      refine it_neg (by simp [isNon]) ?_
      subst_eqs
      exact q
    · subst e
      subst_eqs
      refine it_pos ⟨by omega, by omega⟩ ?_
      subst_eqs
      refine lcL_inv (fun i acc ρ => acc = [] ∧ ρ = [some (.sh (.tup xs)), some (.sh (.tup xs)), none]) (by rw [rng_len, sizeLine_v]; omega) ⟨rfl, rfl⟩ (fun i d acc ρ hd ha ⟨e1, e⟩ => ?_) fun out ρ' hl ⟨e1, e⟩ => ?_
      · have hx_ := rng_at hd
        obtain ⟨hi, er_⟩ := hx_
        subst er_ e e1
        have hxi : xs[i]? = some xs[i] := List.getElem?_eq_getElem hi
        subst_eqs
        refine it_pos (by omega) ?_
        subst_eqs
        refine it_pos hi ?_
        subst_eqs
        refine .of hxi ?_
        subst_eqs
        refine it_pos (by omega) ?_
        subst_eqs
        refine it_pos hi ?_
        subst_eqs
        refine .of hxi ?_
        subst_eqs
        refine law_is_ok (hx _ (List.getElem_mem hi)) (by omega) ?_
        subst_eqs
      · subst e e1
        subst_eqs
        refine .of (eq_nil (n := 0) (by simp) (by omega)) ?_
        subst_eqs
        exact q
end K91
end L2.My

end
section
set_option Elab.async false
set_option linter.all false
set_option autoImplicit false
set_option maxRecDepth 100000
set_option maxHeartbeats 4000000
/-! Mkm: the law. -/
namespace L2.My
open PySem PySem.Spec PyProof.Rows
local macro_rules | `(tactic| and_intros) => `(tactic| simp only [↓ok_some, ↓ok_bind, ↓ok_ite, it_true, it_false, ↓k_mV, ↓k_mE, ↓k_mF, ↓k_mVar, ↓k_mC, ↓k_mNm, ↓k_m1, ↓k_m2, ↓k_mT, ↓k_mAndT, ↓k_mOrT, ↓k_mNotT, ↓k_mIf, ↓k_mAndV, ↓k_mOrV, ↓k_mNotV, ↓k_mIsi, ↓k_mNil, ↓k_mCons, ↓k_mTup, ↓k_mLst, ↓k_mANil, ↓k_mACons, ↓k_mVE, ↓k_mCall, ↓k_args0, ↓k_args1, ↓k_sSeq, ↓k_then1, ↓k_then2, ↓k_then3, ↓k_then4, ↓k_sNil, ↓k_sSet, ↓k_sExpr, ↓k_sRet, ↓k_sIf, ↓k_sBreak, ↓k_sCont, ↓k_gNm, ↓k_gsNil, ↓k_gsCons, ↓k_gTp, ↓k_sAsg, ↓k_sPar, ↓k_mSo, ↓k_mNo, ↓k_mSl, ↓k_mApp, ↓k_mExt, ↓k_mPop, ↓k_sSetI, ↓k_mIndex, ↓k_mGet, ↓k_mLR1, ↓k_mRng1, ↓k_mItems, ↓k_mEnum, ↓k_mEnumZ, ↓k_sFor, ↓k_fLc, ↓k_mYes, ↓k_mMake, ↓k_sFldI, ↓k_mAnyIn, ↓k_mJoined, ↓k_jNil, ↓k_jCons, ↓k_mDict, ↓k_pNil, ↓k_pCons, ↓k_mChain, ↓k_chain1, ↓k_chain2, ↓k_fnM, ↓k_end1, ↓k_end2, ↓k_outs0, ↓k_outs1, ↓k_outs2, q_mVarS1, q_mVarS2, q_look1, q_look2, q_lookS1, q_lookS2, q_d1, q_d2, q_od1, q_od2, q_od3, q_boolR, q_arg1, q_arg2, q_argS, q_slots0, q_slots1, q_slots2, q_put0, q_put1, q_put2, q_putS, q_slotOf1, q_slotOf2, q_intOf, q_lstS, q_items1, q_items2, q_tupD, q_insS, q_strD, q_outS, p_ix1, p_ix2, p_ix3, p_atI, p_ixN, p_add, p_addS, p_addT, p_addL, p_sub, p_mul, p_div, p_mod, p_pow, p_neg, p_lt, p_le, p_gt, p_ge, p_len1, p_len2, p_len3, p_int, p_abs, p_str, p_max, p_list1, p_list2, p_tuple1, p_tuple2, p_isN, p_notN, p_non1, p_non2, p_non3, p_non4, p_non5, p_isi, p_ty1, p_ty2, p_ty3, p_ty4, p_ty5, p_ty6, p_isi_NoneType_bool, p_isi_NoneType_int, p_isi_NoneType_str, p_isi_NoneType_tuple, p_isi_bool_bool, p_isi_bool_int, p_isi_bool_str, p_isi_bool_tuple, p_isi_int_bool, p_isi_int_int, p_isi_int_str, p_isi_int_tuple, p_isi_str_bool, p_isi_str_int, p_isi_str_str, p_isi_str_tuple, p_isi_tuple_bool, p_isi_tuple_int, p_isi_tuple_str, p_isi_tuple_tuple, p_isi_list_bool, p_isi_list_int, p_isi_list_str, p_isi_list_tuple, p_in, p_notIn, p_eqI, p_neI, p_eqB, p_neB, p_fmt1, p_fmt2, p_fld, p_sl1, p_sl2, p_sl3, q_makeR, q_clean0, q_clean1, q_cleanS1, q_cleanS2, q_wipe0, q_wipe1, q_back0, q_back1, q_join1, q_and1, q_outP1, q_outP2, q_outP3, q_outP4, List.map_cons, List.map_nil, List.cons_append, List.nil_append, List.append_nil, List.length_cons, List.length_nil, List.getElem?_cons_zero, List.getElem?_cons_succ, List.getElem?_nil, List.set_cons_zero, List.set_cons_succ, Nat.reduceAdd, Nat.reduceSub, List.replicate_succ, List.replicate_zero, Nat.zero_add, reduceIte, Nat.reduceLeDiff, Nat.reduceLT, List.nodup_cons, List.nodup_nil, List.not_mem_nil, not_false_eq_true, and_true, and_self, List.mem_cons, or_false, Nat.reduceEqDiff, Bool.not_true, Bool.not_false, Bool.false_eq_true, true_and, and_false, false_and, reduceCtorEq, if_true, if_false, Int.reduceLE, Int.reduceLT, Int.reduceToNat, Int.reduceNeg, Int.reduceAdd, Int.reduceSub, Int.reduceMul, Int.reduceEq, Nat.reduceMul, decide_eq_true_eq, List.length_set, decide_true, decide_false, Int.toNat_natCast, Bool.not_eq_true, ne_eq])
local macro_rules | `(tactic| subst_eqs) => `(tactic| simp only [↓ok_some, ↓ok_bind, ↓ok_ite, it_true, it_false, ↓k_mV, ↓k_mE, ↓k_mF, ↓k_mVar, ↓k_mC, ↓k_mNm, ↓k_m1, ↓k_m2, ↓k_mT, ↓k_mAndT, ↓k_mOrT, ↓k_mNotT, ↓k_mIf, ↓k_mAndV, ↓k_mOrV, ↓k_mNotV, ↓k_mIsi, ↓k_mNil, ↓k_mCons, ↓k_mTup, ↓k_mLst, ↓k_mANil, ↓k_mACons, ↓k_mVE, ↓k_mCall, ↓k_args0, ↓k_args1, ↓k_sSeq, ↓k_then1, ↓k_then2, ↓k_then3, ↓k_then4, ↓k_sNil, ↓k_sSet, ↓k_sExpr, ↓k_sRet, ↓k_sIf, ↓k_sBreak, ↓k_sCont, ↓k_gNm, ↓k_gsNil, ↓k_gsCons, ↓k_gTp, ↓k_sAsg, ↓k_sPar, ↓k_mSo, ↓k_mNo, ↓k_mSl, ↓k_mApp, ↓k_mExt, ↓k_mPop, ↓k_sSetI, ↓k_mIndex, ↓k_mGet, ↓k_mLR1, ↓k_mRng1, ↓k_mItems, ↓k_mEnum, ↓k_mEnumZ, ↓k_sFor, ↓k_fLc, ↓k_mYes, ↓k_mMake, ↓k_sFldI, ↓k_mAnyIn, ↓k_mJoined, ↓k_jNil, ↓k_jCons, ↓k_mDict, ↓k_pNil, ↓k_pCons, ↓k_mChain, ↓k_chain1, ↓k_chain2, ↓k_fnM, ↓k_end1, ↓k_end2, ↓k_outs0, ↓k_outs1, ↓k_outs2, q_mVarS1, q_mVarS2, q_look1, q_look2, q_lookS1, q_lookS2, q_d1, q_d2, q_od1, q_od2, q_od3, q_boolR, q_arg1, q_arg2, q_argS, q_slots0, q_slots1, q_slots2, q_put0, q_put1, q_put2, q_putS, q_slotOf1, q_slotOf2, q_intOf, q_lstS, q_items1, q_items2, q_tupD, q_insS, q_strD, q_outS, p_ix1, p_ix2, p_ix3, p_atI, p_ixN, p_add, p_addS, p_addT, p_addL, p_sub, p_mul, p_div, p_mod, p_pow, p_neg, p_lt, p_le, p_gt, p_ge, p_len1, p_len2, p_len3, p_int, p_abs, p_str, p_max, p_list1, p_list2, p_tuple1, p_tuple2, p_isN, p_notN, p_non1, p_non2, p_non3, p_non4, p_non5, p_isi, p_ty1, p_ty2, p_ty3, p_ty4, p_ty5, p_ty6, p_isi_NoneType_bool, p_isi_NoneType_int, p_isi_NoneType_str, p_isi_NoneType_tuple, p_isi_bool_bool, p_isi_bool_int, p_isi_bool_str, p_isi_bool_tuple, p_isi_int_bool, p_isi_int_int, p_isi_int_str, p_isi_int_tuple, p_isi_str_bool, p_isi_str_int, p_isi_str_str, p_isi_str_tuple, p_isi_tuple_bool, p_isi_tuple_int, p_isi_tuple_str, p_isi_tuple_tuple, p_isi_list_bool, p_isi_list_int, p_isi_list_str, p_isi_list_tuple, p_in, p_notIn, p_eqI, p_neI, p_eqB, p_neB, p_fmt1, p_fmt2, p_fld, p_sl1, p_sl2, p_sl3, q_makeR, q_clean0, q_clean1, q_cleanS1, q_cleanS2, q_wipe0, q_wipe1, q_back0, q_back1, q_join1, q_and1, q_outP1, q_outP2, q_outP3, q_outP4, List.map_cons, List.map_nil, List.cons_append, List.nil_append, List.append_nil, List.length_cons, List.length_nil, List.getElem?_cons_zero, List.getElem?_cons_succ, List.getElem?_nil, List.set_cons_zero, List.set_cons_succ, Nat.reduceAdd, Nat.reduceSub, List.replicate_succ, List.replicate_zero, Nat.zero_add, reduceIte, Nat.reduceLeDiff, Nat.reduceLT, List.nodup_cons, List.nodup_nil, List.not_mem_nil, not_false_eq_true, and_true, and_self, List.mem_cons, or_false, Nat.reduceEqDiff, Bool.not_true, Bool.not_false, Bool.false_eq_true, true_and, and_false, false_and, reduceCtorEq, if_true, if_false, Int.reduceLE, Int.reduceLT, Int.reduceToNat, Int.reduceNeg, Int.reduceAdd, Int.reduceSub, Int.reduceMul, Int.reduceEq, Nat.reduceMul, decide_eq_true_eq, List.length_set, decide_true, decide_false, Int.toNat_natCast, Bool.not_eq_true, ne_eq, List.length_map, List.length_append])
namespace K91
variable {F : List D}
theorem deck_ok {ns : List Int} (hn : ns.length ≤ 63) {k : Ct (RV × List MO)} (q : ∀ o, Dk 0 o → k.run (.fr o, [])) : @Ok _ (fm_law_deck [.sh (.scr ns)]) k := by
  unfold fm_law_deck mx_law_deck
  subst_eqs
  have hm : ∀ x ∈ cutD (ns.map D.int) none (some (63 : Int)), ∃ z, x = .int z := fun x hx => by
    unfold cutD at hx
    obtain ⟨z, _, e⟩ := List.mem_map.mp (List.mem_of_mem_drop (List.mem_of_mem_take hx))
    exact ⟨z, e.symm⟩
  have hl : (cutD (ns.map D.int) none (some (63 : Int))).length ≤ 63 := by
    unfold cutD
    rw [List.length_take, List.length_drop, List.length_map]
    omega
  refine lcL_inv (fun i acc ρ => ∃ (cs : List Int), acc = cs.map D.int ∧ ρ = [some (.sh (.scr ns)), none]) (by rw [sizeLine_v]; omega) ⟨[], rfl, rfl⟩ (fun i d acc ρ hd ha ⟨cs, e1, e⟩ => ?_) fun out ρ' hl ⟨cs, e1, e⟩ => ?_
  · have hx_ := hm d (List.mem_of_getElem? hd)
    obtain ⟨z, ez⟩ := hx_
    subst ez e e1
    subst_eqs
    exact ⟨cs ++ [_], by rw [List.map_append]; rfl⟩
  · subst e e1
    subst_eqs
    exact q _ (dk_mk (by omega) (by omega) (by omega) (by omega) (by omega))
theorem print_ok' {ts : List Th} {sp : List Nat} (dos : Dos F ts sp) {lns : List Ln} {ps : List (D × D)} {xs : List D} (e : xs = lns.map Ln.d) (hl : Lines ts lns ps) (hps : PairsOk F ps) (hpl : ps.length ≤ 150) {k : Ct (RV × List MO)} (q : k.run (.sh (.tup (texts lns ps)), [])) : @Ok _ (fm_print_lines [.sh (dosD F ts), .sh (.tup xs)]) k := by
  subst e
  exact print_ok dos hl hps hpl q
theorem law_is_ok' {m n : Nat} {d d' : D} (e : d' = d) (h : Iq n d) (hm : n < m) {k : Ct (RV × List MO)} (q : k.run (.sh (.bl true), [])) : @Ok _ (fm_law_is m [.sh d, .sh d']) k := by
  subst e
  exact law_is_ok h hm q
theorem texts_len {lns : List Ln} {ps : List (D × D)} : (texts lns ps).length = lns.length := by unfold texts; rw [List.length_map, List.length_range]
theorem texts_take {lns : List Ln} {ps : List (D × D)} {s : Nat} : (texts lns ps).take s = texts (lns.take s) (ps.take s) := by
  unfold texts
  rw [← List.map_take, List.take_range, List.length_take]
  refine List.map_congr_left fun i hi => ?_
  have hi := List.mem_range.mp hi
  rw [List.getD_eq_getElem?_getD, List.getD_eq_getElem?_getD, List.getD_eq_getElem?_getD, List.getD_eq_getElem?_getD, List.getElem?_take_of_lt (by omega), List.getElem?_take_of_lt (by omega)]
theorem Lines.take {ts : List Th} {lns : List Ln} {ps : List (D × D)} (h : Lines ts lns ps) (s : Nat) : Lines ts (lns.take s) (ps.take s) := by
  refine ⟨by rw [List.length_take, List.length_take, h.1], fun i l p h1 h2 => ?_⟩
  have hi := lt_of_get h1
  rw [List.length_take] at hi
  rw [List.getElem?_take_of_lt (by omega)] at h1 h2
  rw [List.take_take, Nat.min_eq_left (by omega)]
  exact h.2 i l p h1 h2
theorem texts_iq {ts : List Th} {sp : List Nat} (dos : Dos F ts sp) {lns : List Ln} {ps : List (D × D)} (hl : Lines ts lns ps) (hps : PairsOk F ps) (hpl : ps.length ≤ 150) : Iq 1 (.tup (texts lns ps)) := by
  refine .inr ⟨_, rfl, fun x hx => ?_, by rw [texts_len, hl.1]; omega⟩
  unfold texts at hx
  obtain ⟨i, hi, rfl⟩ := List.mem_map.mp hx
  have hi := List.mem_range.mp hi
  have hi2 : i < ps.length := by rw [← hl.1]; exact hi
  have h1 : lns[i]? = some lns[i] := List.getElem?_eq_getElem hi
  have h2 : ps[i]? = some ps[i] := List.getElem?_eq_getElem hi2
  rw [getD_at h1, getD_at h2]
  exact .inl (txD_str dos.f (hps _ (List.mem_of_getElem? h2)) (by omega) (hl.nums dos hpl h1))
theorem pairs_iq (hF : Finds F) {ps : List (D × D)} (hps : PairsOk F ps) (hpl : ps.length ≤ 150) : Iq 2 (.tup (ps.map prD)) := by
  refine .inr ⟨_, rfl, fun x hx => ?_, by rw [List.length_map]; omega⟩
  obtain ⟨p, hp, rfl⟩ := List.mem_map.mp hx
  refine .inr ⟨_, rfl, fun y hy => ?_, by simp⟩
  obtain ⟨sa, ea, oa, _⟩ := hF.nm p.1 (hps p hp).1
  obtain ⟨sb, eb, ob, _⟩ := hF.nm p.2 (hps p hp).2
  simp only [List.mem_cons, List.not_mem_nil, or_false] at hy
  rcases hy with hy | hy
  · rw [hy]; exact .inl ⟨sa, ea, oa⟩
  · rw [hy]; exact .inl ⟨sb, eb, ob⟩
theorem lhead (l : Ln) : ∃ r, l.d = .tup (.str (Str.ofString l.kind) :: r) := by cases l <;> exact ⟨_, rfl⟩
theorem kin (l : Ln) : inD (.str (Str.ofString l.kind)) (.lst [.str (Str.ofString "told"), .str (Str.ofString "years")]) = some l.alone := by
  cases l
  · exact kin1
  · exact kin2
  · exact kin3
  · exact kin4
  · exact kin5
theorem ln_at {lns : List Ln} {i : Nat} {l : Ln} (h : lns[i]? = some l) : (lns.map Ln.d)[i]? = some l.d := by rw [List.getElem?_map, h]; rfl
theorem pr_at {ps : List (D × D)} {i : Nat} {p : D × D} (h : ps[i]? = some p) : (ps.map prD)[i]? = some (prD p) := by rw [List.getElem?_map, h]; rfl
theorem ln_pn (hF : Finds F) {ts : List Th} {ps : List (D × D)} {l : Ln} {p : D × D} (h : Right ts ps l p) (hp : p.1 ∈ F ∧ p.2 ∈ F) : Pn 1 l.d := by
  cases h <;> refine Pn.tup fun x hx => ?_ <;> simp only [List.mem_cons, List.not_mem_nil, or_false] at hx
  case told => rcases hx with rfl | rfl | rfl | rfl; exact Pn.str _ ok_told; exact .int _ _; exact pn_of hF hp.1; exact pn_of hF hp.2
  case yrs => rcases hx with rfl | rfl | rfl | rfl | rfl; exact Pn.str _ ok_years; exact .int _ _; exact .int _ _; exact pn_of hF hp.1; exact pn_of hF hp.2
  case side1 => rcases hx with rfl | rfl | rfl | rfl | rfl | rfl; exact Pn.str _ ok_side; exact .int _ _; exact .int _ _; exact .int _ _; exact pn_of hF hp.1; exact pn_of hF hp.2
  case side2 => rcases hx with rfl | rfl | rfl | rfl | rfl | rfl; exact Pn.str _ ok_side; exact .int _ _; exact .int _ _; exact .int _ _; exact pn_of hF hp.1; exact pn_of hF hp.2
  case link1 => rcases hx with rfl | rfl | rfl | rfl | rfl; exact Pn.str _ ok_link; exact .int _ _; exact .int _ _; exact pn_of hF hp.1; exact pn_of hF hp.2
  case link2 => rcases hx with rfl | rfl | rfl | rfl | rfl; exact Pn.str _ ok_link; exact .int _ _; exact .int _ _; exact pn_of hF hp.1; exact pn_of hF hp.2
  case chain => rcases hx with rfl | rfl | rfl; exact Pn.str _ ok_chain; exact .int _ _; exact .int _ _
/-- the lines that stand alone -/
structure Alone (lns : List Ln) (al : List Nat) : Prop where
  le : al.length ≤ lns.length
  at_ : ∀ j ∈ al, ∃ l, lns[j]? = some l ∧ l.alone = true
def sub {α : Type} (d : α) (xs : List α) (al : List Nat) : List α := al.map fun j => xs.getD j d
theorem subs_len {α : Type} {d : α} {xs : List α} {al : List Nat} : (sub d xs al).length = al.length := by unfold sub; rw [List.length_map]
theorem subs_at {α : Type} {d : α} {xs : List α} {al : List Nat} {i : Nat} {x : α} (h : (sub d xs al)[i]? = some x) : ∃ j, al[i]? = some j ∧ x = xs.getD j d := by
  unfold sub at h
  rw [List.getElem?_map] at h
  cases e : al[i]? with
  | none => rw [e] at h; cases h
  | some j => rw [e] at h; cases h; exact ⟨j, rfl, rfl⟩
theorem alone_lines {ts : List Th} {lns : List Ln} {ps : List (D × D)} (h : Lines ts lns ps) {al : List Nat} (ha : Alone lns al) : Lines ts (sub (.chain 0 0) lns al) (sub (.non, .non) ps al) := by
  refine ⟨by rw [subs_len, subs_len], fun i l p h1 h2 => ?_⟩
  obtain ⟨j, hj, rfl⟩ := subs_at h1
  obtain ⟨j', hj', rfl⟩ := subs_at h2
  rw [hj] at hj'
  cases hj'
  obtain ⟨l, hl, hal⟩ := ha.at_ j (List.mem_of_getElem? hj)
  have hjl : j < ps.length := by rw [← h.1]; exact lt_of_get hl
  have hp : ps[j]? = some ps[j] := List.getElem?_eq_getElem hjl
  rw [getD_at hl, getD_at hp]
  exact (h.2 j l _ hl hp).any hal
theorem alone_pairs {ts : List Th} {lns : List Ln} {ps : List (D × D)} (h : Lines ts lns ps) (hps : PairsOk F ps) {al : List Nat} (ha : Alone lns al) : PairsOk F (sub (.non, .non) ps al) := fun p hp => by
  obtain ⟨i, hi⟩ := List.mem_iff_getElem?.mp hp
  obtain ⟨j, hj, rfl⟩ := subs_at hi
  obtain ⟨l, hl, _⟩ := ha.at_ j (List.mem_of_getElem? hj)
  have hjl : j < ps.length := by rw [← h.1]; exact lt_of_get hl
  have hp : ps[j]? = some ps[j] := List.getElem?_eq_getElem hjl
  rw [getD_at hp]
  exact hps _ (List.mem_of_getElem? hp)
end K91
end L2.My

end
section
set_option Elab.async false
set_option linter.all false
set_option autoImplicit false
set_option maxRecDepth 100000
set_option maxHeartbeats 4000000
/-! Mkn: the law answers True. -/
namespace L2.My
open PySem PySem.Spec PyProof.Rows
local macro_rules | `(tactic| and_intros) => `(tactic| simp only [↓ok_some, ↓ok_bind, ↓ok_ite, it_true, it_false, ↓k_mV, ↓k_mE, ↓k_mF, ↓k_mVar, ↓k_mC, ↓k_mNm, ↓k_m1, ↓k_m2, ↓k_mT, ↓k_mAndT, ↓k_mOrT, ↓k_mNotT, ↓k_mIf, ↓k_mAndV, ↓k_mOrV, ↓k_mNotV, ↓k_mIsi, ↓k_mNil, ↓k_mCons, ↓k_mTup, ↓k_mLst, ↓k_mANil, ↓k_mACons, ↓k_mVE, ↓k_mCall, ↓k_args0, ↓k_args1, ↓k_sSeq, ↓k_then1, ↓k_then2, ↓k_then3, ↓k_then4, ↓k_sNil, ↓k_sSet, ↓k_sExpr, ↓k_sRet, ↓k_sIf, ↓k_sBreak, ↓k_sCont, ↓k_gNm, ↓k_gsNil, ↓k_gsCons, ↓k_gTp, ↓k_sAsg, ↓k_sPar, ↓k_mSo, ↓k_mNo, ↓k_mSl, ↓k_mApp, ↓k_mExt, ↓k_mPop, ↓k_sSetI, ↓k_mIndex, ↓k_mGet, ↓k_mLR1, ↓k_mRng1, ↓k_mItems, ↓k_mEnum, ↓k_mEnumZ, ↓k_sFor, ↓k_fLc, ↓k_mYes, ↓k_mMake, ↓k_sFldI, ↓k_mAnyIn, ↓k_mJoined, ↓k_jNil, ↓k_jCons, ↓k_mDict, ↓k_pNil, ↓k_pCons, ↓k_mChain, ↓k_chain1, ↓k_chain2, ↓k_fnM, ↓k_end1, ↓k_end2, ↓k_outs0, ↓k_outs1, ↓k_outs2, q_mVarS1, q_mVarS2, q_look1, q_look2, q_lookS1, q_lookS2, q_d1, q_d2, q_od1, q_od2, q_od3, q_boolR, q_arg1, q_arg2, q_argS, q_slots0, q_slots1, q_slots2, q_put0, q_put1, q_put2, q_putS, q_slotOf1, q_slotOf2, q_intOf, q_lstS, q_items1, q_items2, q_tupD, q_insS, q_strD, q_outS, p_ix1, p_ix2, p_ix3, p_atI, p_ixN, p_add, p_addS, p_addT, p_addL, p_sub, p_mul, p_div, p_mod, p_pow, p_neg, p_lt, p_le, p_gt, p_ge, p_len1, p_len2, p_len3, p_int, p_abs, p_str, p_max, p_list1, p_list2, p_tuple1, p_tuple2, p_isN, p_notN, p_non1, p_non2, p_non3, p_non4, p_non5, p_isi, p_ty1, p_ty2, p_ty3, p_ty4, p_ty5, p_ty6, p_isi_NoneType_bool, p_isi_NoneType_int, p_isi_NoneType_str, p_isi_NoneType_tuple, p_isi_bool_bool, p_isi_bool_int, p_isi_bool_str, p_isi_bool_tuple, p_isi_int_bool, p_isi_int_int, p_isi_int_str, p_isi_int_tuple, p_isi_str_bool, p_isi_str_int, p_isi_str_str, p_isi_str_tuple, p_isi_tuple_bool, p_isi_tuple_int, p_isi_tuple_str, p_isi_tuple_tuple, p_isi_list_bool, p_isi_list_int, p_isi_list_str, p_isi_list_tuple, p_in, p_notIn, p_eqI, p_neI, p_eqB, p_neB, p_fmt1, p_fmt2, p_fld, p_sl1, p_sl2, p_sl3, q_makeR, q_clean0, q_clean1, q_cleanS1, q_cleanS2, q_wipe0, q_wipe1, q_back0, q_back1, q_join1, q_and1, q_outP1, q_outP2, q_outP3, q_outP4, List.map_cons, List.map_nil, List.cons_append, List.nil_append, List.append_nil, List.length_cons, List.length_nil, List.getElem?_cons_zero, List.getElem?_cons_succ, List.getElem?_nil, List.set_cons_zero, List.set_cons_succ, Nat.reduceAdd, Nat.reduceSub, List.replicate_succ, List.replicate_zero, Nat.zero_add, reduceIte, Nat.reduceLeDiff, Nat.reduceLT, List.nodup_cons, List.nodup_nil, List.not_mem_nil, not_false_eq_true, and_true, and_self, List.mem_cons, or_false, Nat.reduceEqDiff, Bool.not_true, Bool.not_false, Bool.false_eq_true, true_and, and_false, false_and, reduceCtorEq, if_true, if_false, Int.reduceLE, Int.reduceLT, Int.reduceToNat, Int.reduceNeg, Int.reduceAdd, Int.reduceSub, Int.reduceMul, Int.reduceEq, Nat.reduceMul, decide_eq_true_eq, List.length_set, decide_true, decide_false, Int.toNat_natCast, Bool.not_eq_true, ne_eq])
local macro_rules | `(tactic| subst_eqs) => `(tactic| simp only [↓ok_some, ↓ok_bind, ↓ok_ite, it_true, it_false, ↓k_mV, ↓k_mE, ↓k_mF, ↓k_mVar, ↓k_mC, ↓k_mNm, ↓k_m1, ↓k_m2, ↓k_mT, ↓k_mAndT, ↓k_mOrT, ↓k_mNotT, ↓k_mIf, ↓k_mAndV, ↓k_mOrV, ↓k_mNotV, ↓k_mIsi, ↓k_mNil, ↓k_mCons, ↓k_mTup, ↓k_mLst, ↓k_mANil, ↓k_mACons, ↓k_mVE, ↓k_mCall, ↓k_args0, ↓k_args1, ↓k_sSeq, ↓k_then1, ↓k_then2, ↓k_then3, ↓k_then4, ↓k_sNil, ↓k_sSet, ↓k_sExpr, ↓k_sRet, ↓k_sIf, ↓k_sBreak, ↓k_sCont, ↓k_gNm, ↓k_gsNil, ↓k_gsCons, ↓k_gTp, ↓k_sAsg, ↓k_sPar, ↓k_mSo, ↓k_mNo, ↓k_mSl, ↓k_mApp, ↓k_mExt, ↓k_mPop, ↓k_sSetI, ↓k_mIndex, ↓k_mGet, ↓k_mLR1, ↓k_mRng1, ↓k_mItems, ↓k_mEnum, ↓k_mEnumZ, ↓k_sFor, ↓k_fLc, ↓k_mYes, ↓k_mMake, ↓k_sFldI, ↓k_mAnyIn, ↓k_mJoined, ↓k_jNil, ↓k_jCons, ↓k_mDict, ↓k_pNil, ↓k_pCons, ↓k_mChain, ↓k_chain1, ↓k_chain2, ↓k_fnM, ↓k_end1, ↓k_end2, ↓k_outs0, ↓k_outs1, ↓k_outs2, q_mVarS1, q_mVarS2, q_look1, q_look2, q_lookS1, q_lookS2, q_d1, q_d2, q_od1, q_od2, q_od3, q_boolR, q_arg1, q_arg2, q_argS, q_slots0, q_slots1, q_slots2, q_put0, q_put1, q_put2, q_putS, q_slotOf1, q_slotOf2, q_intOf, q_lstS, q_items1, q_items2, q_tupD, q_insS, q_strD, q_outS, p_ix1, p_ix2, p_ix3, p_atI, p_ixN, p_add, p_addS, p_addT, p_addL, p_sub, p_mul, p_div, p_mod, p_pow, p_neg, p_lt, p_le, p_gt, p_ge, p_len1, p_len2, p_len3, p_int, p_abs, p_str, p_max, p_list1, p_list2, p_tuple1, p_tuple2, p_isN, p_notN, p_non1, p_non2, p_non3, p_non4, p_non5, p_isi, p_ty1, p_ty2, p_ty3, p_ty4, p_ty5, p_ty6, p_isi_NoneType_bool, p_isi_NoneType_int, p_isi_NoneType_str, p_isi_NoneType_tuple, p_isi_bool_bool, p_isi_bool_int, p_isi_bool_str, p_isi_bool_tuple, p_isi_int_bool, p_isi_int_int, p_isi_int_str, p_isi_int_tuple, p_isi_str_bool, p_isi_str_int, p_isi_str_str, p_isi_str_tuple, p_isi_tuple_bool, p_isi_tuple_int, p_isi_tuple_str, p_isi_tuple_tuple, p_isi_list_bool, p_isi_list_int, p_isi_list_str, p_isi_list_tuple, p_in, p_notIn, p_eqI, p_neI, p_eqB, p_neB, p_fmt1, p_fmt2, p_fld, p_sl1, p_sl2, p_sl3, q_makeR, q_clean0, q_clean1, q_cleanS1, q_cleanS2, q_wipe0, q_wipe1, q_back0, q_back1, q_join1, q_and1, q_outP1, q_outP2, q_outP3, q_outP4, List.map_cons, List.map_nil, List.cons_append, List.nil_append, List.append_nil, List.length_cons, List.length_nil, List.getElem?_cons_zero, List.getElem?_cons_succ, List.getElem?_nil, List.set_cons_zero, List.set_cons_succ, Nat.reduceAdd, Nat.reduceSub, List.replicate_succ, List.replicate_zero, Nat.zero_add, reduceIte, Nat.reduceLeDiff, Nat.reduceLT, List.nodup_cons, List.nodup_nil, List.not_mem_nil, not_false_eq_true, and_true, and_self, List.mem_cons, or_false, Nat.reduceEqDiff, Bool.not_true, Bool.not_false, Bool.false_eq_true, true_and, and_false, false_and, reduceCtorEq, if_true, if_false, Int.reduceLE, Int.reduceLT, Int.reduceToNat, Int.reduceNeg, Int.reduceAdd, Int.reduceSub, Int.reduceMul, Int.reduceEq, Nat.reduceMul, decide_eq_true_eq, List.length_set, decide_true, decide_false, Int.toNat_natCast, Bool.not_eq_true, ne_eq, List.length_map, List.length_append])
namespace K91
variable {F : List D}
theorem law_ok {ns : List Int} (hn : ns.length ≤ 63) {k : Ct (RV × List MO)} (q : k.run (.sh (.bl true), [])) : @Ok _ (fm_law [.sh (.scr ns)]) k := by
  unfold fm_law mx_law
  subst_eqs
  refine deck_ok hn fun o h => ?_
  subst_eqs
  refine dossier_ok h (by omega) fun o1 F ts sp h1 dos => ?_
  subst_eqs
  refine draw_ok h1 (by omega) (by omega) (by omega) fun o2 r h2 r0 r1 => ?_
  have hF := dos.f
  have F6 := hF.l6
  have F18 := hF.l18
  subst_eqs
  refine it_of (fun b => ?_) (fun b => ?_)
  all_goals
    subst_eqs
    refine draw_ok h2 (by omega) (by omega) (by omega) fun o3 r h3 r0 r1 => ?_
    subst_eqs
    refine lines_ok dos (by omega) (by omega) h3 (by omega) fun o4 lns ps h4 hL hP hl => ?_
    have hl1 := hL.1
    subst_eqs
    refine it_pos ⟨by omega, by omega⟩ ?_
    subst_eqs
    refine lcL_inv (fun i acc ρ => acc = ((List.range i).map fun i => txD i (lns.getD i (.chain 0 0)) (ps.getD i (.non, .non))) ∧ ∃ x4 : Option SV, ρ = [some (.sh (.scr ns)), some (.mu false o4), some (.sh (.tup [.tup F, .tup (ts.map Th.d)])), some (.sh (.lst (dnat sp))), x4, some (.sh (.lst (lns.map Ln.d))), some (.sh (.lst (ps.map prD))), none, none, none, none, none, none, none, none, none, none, none]) (by rw [rng_len, sizeLine_v]; omega) ⟨rfl, _, rfl⟩ (fun i d acc ρ hd ha ⟨e1, x4, e⟩ => ?_) fun out ρ' hl' ⟨e1, x4, e⟩ => ?_
    · have hx_ := rng_at hd
      obtain ⟨hi, er_⟩ := hx_
      have hi2 : i < ps.length := by omega
      have hli : lns[i]? = some lns[i] := List.getElem?_eq_getElem hi
      have hpi : ps[i]? = some ps[i] := List.getElem?_eq_getElem hi2
      subst er_ e e1
      subst_eqs
      refine it_pos (by omega) ?_
      subst_eqs
      refine it_pos hi ?_
      subst_eqs
      refine .of (ln_at hli) ?_
      subst_eqs
      refine it_pos (by omega) ?_
      subst_eqs
      refine it_pos hi2 ?_
      subst_eqs
      refine .of (pr_at hpi) ?_
      subst_eqs
      refine said_ok hF (hP _ (List.mem_of_getElem? hpi)) (by omega) (hL.nums dos hl hli) ?_
      subst_eqs
      exact ⟨texts_snoc hli hpi |>.symm, _, rfl⟩
    have e2 : out = texts lns ps := by rw [e1, rng_len]; rfl
    clear e1
    subst e e2
    subst_eqs
    refine print_ok' dos rfl hL hP hl ?_
    subst_eqs
    refine pairs_ok dos hL hP hl ?_
    subst_eqs
    refine law_is_ok' (n := 3) rfl (.inr ⟨_, rfl, fun x hx => ?_, by simp⟩) (by omega) ?_
    · simp only [List.mem_cons, List.not_mem_nil, or_false] at hx
      rcases hx with hx | hx
      · rw [hx]; exact .inl (texts_iq dos hL hP hl)
      · rw [hx]; exact pairs_iq hF hP hl
    subst_eqs
    refine it_pos ⟨by omega, by omega⟩ ?_
    subst_eqs
    refine sForL_inv (fun i ρ => ∃ (o4 : MO) (x4 x8 x9 : Option SV), Dk (10000 + i) o4 ∧ ρ = [some (.sh (.scr ns)), some (.mu false o4), some (.sh (.tup [.tup F, .tup (ts.map Th.d)])), some (.sh (.lst (dnat sp))), x4, some (.sh (.lst (lns.map Ln.d))), some (.sh (.lst (ps.map prD))), some (.sh (.tup (texts lns ps))), x8, x9, none, none, none, none, none, none, none, none]) (fun _ => False) (fun _ _ => False) ⟨_, _, none, none, h4.mono (by omega), rfl⟩ (fun i d ρ hd ⟨o4, x4, x8, x9, c1, e⟩ => ?_) (fun ρ' ⟨o4, x4, x8, x9, c1, e⟩ => ?_) (fun _ z => z.elim) (fun _ _ z => z.elim)
    · have hx_ := rng_at hd
      obtain ⟨hi, er_⟩ := hx_
      have hi : i < 2 := hi
      subst er_ e
      subst_eqs
      refine draw_ok c1 (by omega) (by omega) (by omega) fun o5 r5 h5 r6 r7 => ?_
      have hx_ := Int.eq_ofNat_of_zero_le r6
      obtain ⟨s, er_⟩ := hx_
      subst er_
      subst_eqs
      refine print_ok' dos (lns := lns.take s) (ps := ps.take s) (by rw [cut_to, List.map_take]) (hL.take s) (fun x hx => hP x (List.mem_of_mem_take hx)) (by rw [List.length_take]; omega) ?_
      subst_eqs
      refine law_is_ok' (n := 1) (by rw [cut_to, texts_take]) (texts_iq dos (hL.take s) (fun x hx => hP x (List.mem_of_mem_take hx)) (by rw [List.length_take]; omega)) (by omega) ?_
      subst_eqs
      exact ⟨_, _, _, _, h5.mono (by omega), rfl⟩
    subst e
    subst_eqs
    refine it_pos ⟨by omega, by omega⟩ ?_
    subst_eqs
    refine lcL_inv (fun i acc ρ => ∃ (al : List Nat) (x8 x9 x4 : Option SV), acc = dnat al ∧ al.length ≤ i ∧ (∀ j ∈ al, ∃ l, lns[j]? = some l ∧ l.alone = true) ∧ ρ = [some (.sh (.scr ns)), some (.mu false o4), some (.sh (.tup [.tup F, .tup (ts.map Th.d)])), some (.sh (.lst (dnat sp))), x4, some (.sh (.lst (lns.map Ln.d))), some (.sh (.lst (ps.map prD))), some (.sh (.tup (texts lns ps))), x8, x9, none, none, none, none, none, none, none, none]) (by rw [rng_len, sizeLine_v]; omega) ⟨[], _, _, _, rfl, by simp, by simp, rfl⟩ (fun i d acc ρ hd ha ⟨al, x8, x9, x4, e1, e2, e3, e⟩ => ?_) fun out ρ' hl' ⟨al, x8, x9, x4, e1, e2, e3, e⟩ => ?_
    · have hx_ := rng_at hd
      obtain ⟨hi, er_⟩ := hx_
      have hx_ : ∃ l, lns[i]? = some l := ⟨_, List.getElem?_eq_getElem hi⟩
      obtain ⟨l, hli⟩ := hx_
      have hx_ := lhead l
      obtain ⟨rr, hr⟩ := hx_
      subst er_ e e1
      subst_eqs
      refine it_pos (by omega) ?_
      subst_eqs
      refine it_pos hi ?_
      subst_eqs
      refine .of (a := .tup (.str (Str.ofString l.kind) :: rr)) (by rw [ln_at hli, hr]) ?_
      subst_eqs
      refine it_pos (by omega) ?_
      subst_eqs
      refine .of (kin l) ?_
      subst_eqs
      refine it_of (fun c => ?_) (fun c => ?_)
      · subst_eqs
        refine ⟨al ++ [i], _, _, _, by unfold dnat; rw [List.map_append]; rfl, by rw [List.length_append]; simp; omega, fun j hj => ?_, rfl⟩
        rcases List.mem_append.mp hj with hj | hj
        · exact e3 j hj
        · rw [List.mem_singleton.mp hj]; exact ⟨l, hli, c⟩
      · subst_eqs
        exact ⟨al, _, _, _, rfl, by omega, e3, rfl⟩
    rw [rng_len] at e2
    have hA : Alone lns al := ⟨e2, e3⟩
    subst e e1
    subst_eqs
    refine lcL_inv (fun i acc ρ => acc = (sub (.chain 0 0) lns (al.take i)).map Ln.d ∧ ρ = [some (.sh (.scr ns)), some (.mu false o4), some (.sh (.tup [.tup F, .tup (ts.map Th.d)])), some (.sh (.lst (dnat sp))), x4, some (.sh (.lst (lns.map Ln.d))), some (.sh (.lst (ps.map prD))), some (.sh (.tup (texts lns ps))), x8, x9, some (.sh (.lst (dnat al))), none, none, none, none, none, none, none]) (by rw [dnat_len, sizeLine_v]; omega) ⟨rfl, rfl⟩ (fun i d acc ρ hd ha ⟨e1, e⟩ => ?_) fun out ρ' hl' ⟨e1, e⟩ => ?_
    · have hx_ := map_at hd
      obtain ⟨hi, er_⟩ := hx_
      have hai : al[i]? = some al[i] := List.getElem?_eq_getElem hi
      have hx_ := hA.at_ _ (List.getElem_mem hi)
      obtain ⟨l, hli, _⟩ := hx_
      have hlt := lt_of_get hli
      subst er_ e e1
      subst_eqs
      refine it_pos (by omega) ?_
      subst_eqs
      refine it_pos hlt ?_
      subst_eqs
      refine .of (ln_at hli) ?_
      subst_eqs
      rw [take_one hi]
      unfold sub
      rw [List.map_append, List.map_append, List.map_cons, List.map_nil, List.map_cons, List.map_nil, getD_at hli]
    have e2 : out = (sub (.chain 0 0) lns al).map Ln.d := by rw [e1, dnat_len, List.take_length]
    clear e1
    subst e e2
    have hL' := alone_lines hL hA
    have hP' := alone_pairs hL hP hA
    have hl2 : (sub (D.non, D.non) ps al).length ≤ 150 := by rw [subs_len]; have := hA.le; omega
    have hl3 : (sub (.chain 0 0) lns al).length = al.length := subs_len
    subst_eqs
    refine print_ok' dos rfl hL' hP' hl2 ?_
    subst_eqs
    refine it_pos ⟨by omega, by omega⟩ ?_
    subst_eqs
    refine lcL_inv (fun i acc ρ => acc = ((List.range i).map fun i => txD i ((sub (.chain 0 0) lns al).getD i (.chain 0 0)) ((sub (D.non, D.non) ps al).getD i (.non, .non))) ∧ ρ = [some (.sh (.scr ns)), some (.mu false o4), some (.sh (.tup [.tup F, .tup (ts.map Th.d)])), some (.sh (.lst (dnat sp))), x4, some (.sh (.lst (lns.map Ln.d))), some (.sh (.lst (ps.map prD))), some (.sh (.tup (texts lns ps))), x8, x9, some (.sh (.lst (dnat al))), some (.sh (.tup ((sub (.chain 0 0) lns al).map Ln.d))), none, none, none, none, none, none]) (by rw [rng_len, sizeLine_v]; have := hA.le; omega) ⟨rfl, rfl⟩ (fun i d acc ρ hd ha ⟨e1, e⟩ => ?_) fun out ρ' hl' ⟨e1, e⟩ => ?_
    · have hx_ := rng_at hd
      obtain ⟨hi, er_⟩ := hx_
      have hx_ : ∃ l, (sub (.chain 0 0) lns al)[i]? = some l := ⟨_, List.getElem?_eq_getElem hi⟩
      obtain ⟨l, hli⟩ := hx_
      have hx_ := subs_at hli
      obtain ⟨j, hj, _⟩ := hx_
      have hx_ := hA.at_ _ (List.mem_of_getElem? hj)
      obtain ⟨l', hlj, _⟩ := hx_
      have hjl : j < ps.length := by rw [← hl1]; exact lt_of_get hlj
      have hpj : ps[j]? = some ps[j] := List.getElem?_eq_getElem hjl
      have hpi : (sub (D.non, D.non) ps al)[i]? = some ps[j] := by
        unfold sub
        rw [List.getElem?_map, hj]
        show some (ps.getD j _) = _
        rw [getD_at hpj]
      have hdj : (dnat al)[i]? = some (.int j) := by unfold dnat; rw [List.getElem?_map, hj]; rfl
      have hial := lt_of_get hdj
      have hAl := hA.le
      subst er_ e e1
      subst_eqs
      refine it_pos (by omega) ?_
      subst_eqs
      refine it_pos hi ?_
      subst_eqs
      refine .of (ln_at hli) ?_
      subst_eqs
      refine it_pos (by omega) ?_
      subst_eqs
      refine it_pos hial ?_
      subst_eqs
      refine .of hdj ?_
      subst_eqs
      refine it_pos (by omega) ?_
      subst_eqs
      refine it_pos hjl ?_
      subst_eqs
      refine .of (pr_at hpj) ?_
      subst_eqs
      refine said_ok hF (hP _ (List.mem_of_getElem? hpj)) (by omega) (hL'.nums dos hl2 hli) ?_
      subst_eqs
      exact texts_snoc hli hpi |>.symm
    have e2 : out = texts (sub (.chain 0 0) lns al) (sub (D.non, D.non) ps al) := by rw [e1, rng_len]; rfl
    clear e1
    subst e e2
    subst_eqs
    refine law_is_ok' (n := 1) rfl (texts_iq dos hL' hP' hl2) (by omega) ?_
    subst_eqs
    refine .of (eq_nil (n := 1) (fun x hx => ?_) (by omega)) ?_
    · obtain ⟨l, hl, rfl⟩ := List.mem_map.mp hx
      obtain ⟨i, hi⟩ := List.mem_iff_getElem?.mp hl
      have hil : i < ps.length := by rw [← hl1]; exact lt_of_get hi
      exact ln_pn hF (hL.2 i l _ hi (List.getElem?_eq_getElem hil)) (hP _ (List.getElem_mem hil))
    subst_eqs
    refine it_of (fun c => ?_) (fun c => ?_)
    · subst_eqs
      exact q
    · have p0 : 0 < ps.length := by
        rw [← hl1]
        cases lns with
        | nil => exact absurd rfl c
        | cons x y => simp
      have hx_ : ∃ a b, ps[ps.length - 1]? = some (a, b) ∧ a ∈ F ∧ b ∈ F := ⟨_, _, List.getElem?_eq_getElem (by omega), hP _ (List.getElem_mem (by omega))⟩
      obtain ⟨a, b, hab, ha, hb⟩ := hx_
      subst_eqs
      refine it_pos (by omega) ?_
      subst_eqs
      refine .of (pair_at hab) ?_
      subst_eqs
      have c2 : Dk 10002 o4 := by rw [rng_len] at c1; exact c1
      refine pickT_ok c2 (by omega) (by omega) (by omega) fun o5 cc h5 hc => ?_
      subst_eqs
      refine pickT_ok h5 (by omega) (by omega) (by omega) fun o6 dd h6 hd => ?_
      subst_eqs
      refine derives_ok dos hL hP hl p0 hab ha hb fun x1 y1 => ?_
      subst_eqs
      refine derives_ok dos hL hP hl p0 hab hc hd fun x2 y2 => ?_
      subst_eqs
      refine .of (eq_pn (prD_pn hF hc hd) (prD_pn hF ha hb) (by omega) (by omega)) ?_
      subst_eqs
      have e1 : x1 = true := y1.mpr rfl
      refine law_is_ok' (n := 1) ?_ (.inr ⟨_, rfl, fun x hx => ?_, by simp⟩) (by omega) ?_
      · rw [e1]
        congr 3
        refine congrArg _ (Bool.eq_iff_iff.mpr ?_)
        rw [y2]
        simp only [decide_eq_true_eq]
        exact ⟨fun z => z.symm, fun z => z.symm⟩
      · simp only [List.mem_cons, List.not_mem_nil, or_false] at hx
        rcases hx with hx | hx
        · rw [hx]; exact .inr ⟨_, rfl⟩
        · rw [hx]; exact .inr ⟨_, rfl⟩
      subst_eqs
      exact q
theorem law_true {ns : List Int} (hn : ns.length ≤ 63) : fm_law [.sh (.scr ns)] = some (.sh (.bl true), []) := by
  obtain ⟨r, e, h⟩ := law_ok hn (k := ⟨fun r => r = (.sh (.bl true), [])⟩) rfl
  rw [e]
  exact congrArg some h
end K91
end L2.My

end
set_option maxRecDepth 100000 in
set_option maxHeartbeats 0 in
theorem PySem.Challenge.cw_surelyelder_k91_long_print_lines_holds : PySem.Challenge.rw_surelyelder_k91_long_print_lines.Holds := by
  exact k91_of fun ns hn => L2.My.K91.law_true hn
