import PyProof.Rows.All
import Wide.All
import OpenK.AllK
import Wide.FinOn
import HandS.ForMost
import HandS.Exc
import HandS.ExcOwn
import HandS.WordsExc
import HandS.Defaults
import HandS.Codes
import HandS.Walk
import HandS.Zip
import HandS.Conv
import HandS.Style
import HandS.Wide
import HandS.Lambda
import HandS.HeadHook1
import HandS.HeadHook2
import HandS.HeadHook3
import HandS.HeadHook4
import HandS.IsInst
import HandS.ExcInit
import HandS.ExcField
import HandS.ExcIs
import KE.GoesZip
import KE.GoesMore
import HandS.WideBits
import PyProof.ExcBaseAll.ValueError
import HandS.SortKw
import KE.SortKeyHeap
import KE.KStateDown
import HandS.HeadWalk
import HandS.Head0
import HandS.Head1
import HandS.Head2
import HandS.HeadEnd
import PySem.Challenge.RW_wheelsky_k91_near_spans_of_width_zero_wh
set_option Elab.async false
set_option linter.all false
set_option maxRecDepth 100000
set_option maxHeartbeats 0
-- Core
/-! Data, what stands for them in a heap, and a walk over data alone. -/
namespace Wk
open PySem PySem.Spec
open PyProof.Rows L2
/-! ### data -/
inductive Dt where
  | non | bl (b : Bool) | int (i : Int) | str (x : Str)
  | tup (ds : List Dt) | lst (ds : List Dt)
  | ins (C : Addr) (ns : List Str) (ds : List Dt)
mutual
inductive Rep (F : Hp) : V → Dt → Prop
  | non : Rep F .non .non
  | bl (b : Bool) : Rep F (.bl b) (.bl b)
  | int (i : Int) : Rep F (.int i) (.int i)
  | str (x : Str) : Rep F (.str x) (.str x)
  | tup {a : Addr} {vs : List V} {ds : List Dt} (h : F a = some (.tup vs)) (r : Reps F vs ds) : Rep F (.ref a) (.tup ds)
  | lst {a : Addr} {vs : List V} {ds : List Dt} (h : F a = some (.lst vs)) (r : Reps F vs ds) : Rep F (.ref a) (.lst ds)
  | ins {a C dx : Addr} {ns : List Str} {vs : List V} {ds : List Dt} (h : F a = some (.ins C dx (ns.zip vs))) (hl : vs.length = ns.length) (r : Reps F vs ds) : Rep F (.ref a) (.ins C ns ds)
inductive Reps (F : Hp) : List V → List Dt → Prop
  | nil : Reps F [] []
  | cons {v : V} {d : Dt} {vs : List V} {ds : List Dt} (h : Rep F v d) (t : Reps F vs ds) : Reps F (v :: vs) (d :: ds)
end
theorem Rep.mono {F F' : Hp} (e : Same F F') {v : V} {d : Dt} (h : Rep F v d) : Rep F' v d := by
  refine Rep.rec (motive_1 := fun v d _ => Rep F' v d) (motive_2 := fun vs ds _ => Reps F' vs ds) .non .bl .int .str ?_ ?_ ?_ .nil ?_ h
  · intro a vs ds h _ ih
    exact .tup (e _ _ h) ih
  · intro a vs ds h _ ih
    exact .lst (e _ _ h) ih
  · intro a C dx ns vs ds h hl _ ih
    exact .ins (e _ _ h) hl ih
  · intro v d vs ds _ _ ih1 ih2
    exact .cons ih1 ih2
theorem Reps.mono {F F' : Hp} (e : Same F F') : ∀ {vs : List V} {ds : List Dt}, Reps F vs ds → Reps F' vs ds
  | _, _, .nil => .nil
  | _, _, .cons h t => .cons (h.mono e) (Reps.mono e t)
theorem Reps.length {F : Hp} : ∀ {vs : List V} {ds : List Dt}, Reps F vs ds → vs.length = ds.length
  | _, _, .nil => rfl
  | _, _, .cons _ t => congrArg Nat.succ (Reps.length t)
theorem Reps.get {F : Hp} : ∀ {vs : List V} {ds : List Dt} {i : Nat} {d : Dt}, Reps F vs ds → ds[i]? = some d → ∃ v, vs[i]? = some v ∧ Rep F v d
  | _, _, _, _, .nil, e => (by simp at e)
  | _, _, 0, _, .cons h _, e => by
    have e' := Option.some.inj e
    exact ⟨_, rfl, e' ▸ h⟩
  | _, _, i + 1, _, .cons _ t, e => Reps.get (i := i) t e
theorem Reps.getV {F : Hp} : ∀ {vs : List V} {ds : List Dt} {i : Nat} {v : V}, Reps F vs ds → vs[i]? = some v → ∃ d, ds[i]? = some d ∧ Rep F v d
  | _, _, _, _, .nil, e => (by simp at e)
  | _, _, 0, _, .cons h _, e => by
    have e' := Option.some.inj e
    exact ⟨_, rfl, e' ▸ h⟩
  | _, _, i + 1, _, .cons _ t, e => Reps.getV (i := i) t e
theorem Reps.append {F : Hp} : ∀ {vs ws : List V} {ds es : List Dt}, Reps F vs ds → Reps F ws es → Reps F (vs ++ ws) (ds ++ es)
  | _, _, _, _, .nil, s => s
  | _, _, _, _, .cons h t, s => .cons h (Reps.append t s)
theorem Reps.drop {F : Hp} : ∀ {vs : List V} {ds : List Dt} (n : Nat), Reps F vs ds → Reps F (vs.drop n) (ds.drop n)
  | _, _, 0, r => r
  | _, _, _ + 1, .nil => .nil
  | _, _, n + 1, .cons _ t => Reps.drop n t
theorem Reps.take {F : Hp} : ∀ {vs : List V} {ds : List Dt} (n : Nat), Reps F vs ds → Reps F (vs.take n) (ds.take n)
  | _, _, 0, _ => .nil
  | _, _, _ + 1, .nil => .nil
  | _, _, n + 1, .cons h t => .cons h (Reps.take n t)
theorem Reps.rev {F : Hp} : ∀ {vs : List V} {ds : List Dt}, Reps F vs ds → Reps F vs.reverse ds.reverse
  | _, _, .nil => .nil
  | _, _, .cons h t => by
    (rw [List.reverse_cons, List.reverse_cons])
    exact Reps.append (Reps.rev t) (.cons h .nil)
theorem Reps.set {F : Hp} {v : V} {d : Dt} (r : Rep F v d) : ∀ {vs : List V} {ds : List Dt} (i : Nat), Reps F vs ds → Reps F (vs.set i v) (ds.set i d)
  | _, _, _, .nil => .nil
  | _, _, 0, .cons _ t => (.cons r t)
  | _, _, i + 1, .cons q t => .cons q (Reps.set r i t)
theorem Reps.ints {F : Hp} : ∀ {vs : List V} {ns : List Int}, Reps F vs (ns.map Dt.int) → vs = ns.map V.int
  | [], [], _ => rfl
  | _ :: _, _ :: _, .cons h t => by
    cases h
    rw [Reps.ints t] <;> rfl
theorem Reps.ofInts {F : Hp} : ∀ ns : List Int, Reps F (ns.map V.int) (ns.map Dt.int)
  | [] => .nil
  | n :: r => .cons (.int n) (Reps.ofInts r)
theorem Reps.bls {F : Hp} : ∀ {vs : List V} {bs : List Bool}, Reps F vs (bs.map Dt.bl) → vs = bs.map V.bl
  | [], [], _ => rfl
  | _ :: _, _ :: _, .cons h t => by
    cases h
    rw [Reps.bls t] <;> rfl
/-! ### where one stands: what may change, what stands at the entry -/
/-- the seven cells of a store: the script, the place, the rest, the count, the seed, what is left, the number -/
def StoreD (ds : List Dt) : Prop := ∃ (ns : List Int) (a b c d e f : Int), ds = [.lst (ns.map Dt.int), .int a, .int b, .int c, .int d, .int e, .int f] ∧ 0 ≤ a
def StoreAt (F H : Hp) (p : Addr) : Prop := F p = none ∧ ∃ vs ds, H p = some (.lst vs) ∧ Reps F vs ds ∧ StoreD ds
structure Ctx where
  S : Addr → Prop
  T : List (Addr × Str)
  F0 : Hp
  H0 : Hp
inductive Slot where
  | no | val (d : Dt) | own (ds : List Dt) | sto | raw (v : V)
def SlotOk (C : Ctx) (F H : Hp) (o : Option V) : Slot → Prop
  | .no => True
  | .val d => ∃ v, o = some v ∧ Rep F v d
  | .own ds => ∃ p vs, o = some (.ref p) ∧ H p = some (.lst vs) ∧ F p = none ∧ C.H0 p = none ∧ Reps F vs ds
  | .sto => ∃ p, o = some (.ref p) ∧ C.S p
  | .raw v => o = some v
structure IV (C : Ctx) (σ : L2.St) (F H : Hp) (Γ : List Slot) : Prop where
  cS : ∀ p, C.S p → C.H0 p ≠ none
  cT : ∀ q ∈ C.T, C.H0 q.1 ≠ none
  f0 : Same C.F0 F
  fh : Same F H
  hh : ∀ a o, C.H0 a = some o → ¬ C.S a → (∀ q ∈ C.T, q.1 ≠ a) → H a = some o
  fn : ∀ a, C.H0 a ≠ none → C.F0 a = none → F a = none
  st : ∀ p, C.S p → StoreAt F H p
  tb : LamX.Tabs C.T H
  ft : ∀ q ∈ C.T, F q.1 = none
  len : σ.length = Γ.length
  sl : ∀ (i : Nat) s, Γ[i]? = some s → ∃ o, σ[i]? = some o ∧ SlotOk C F H o s
  dj : ∀ (i j : Nat) ds es p, Γ[i]? = some (.own ds) → Γ[j]? = some (.own es) → σ[i]? = some (some (.ref p)) → σ[j]? = some (some (.ref p)) → i = j
/-- what an own slot holds -/
def Owns (σ : L2.St) (Γ : List Slot) (p : Addr) : Prop := ∃ (i : Nat) (ds : List Dt), Γ[i]? = some (.own ds) ∧ σ[i]? = some (some (.ref p))
section
variable {C C' : Ctx} {σ : L2.St} {F F' H H' : Hp} {Γ Γ' : List Slot}
theorem IV.tabH (I : IV C σ F H Γ) {q : Addr × Str} (h : q ∈ C.T) : ∃ ps, H q.1 = some (.tbl ps) := by
  obtain ⟨ps, e, _⟩ := I.tb q h
  exact ⟨ps, e⟩
/-- an old place stays taken -/
theorem IV.taken (I : IV C σ F H Γ) {a : Addr} (h : C.H0 a ≠ none) : H a ≠ none := by
  by_cases hs : C.S a
  · obtain ⟨_, vs, ds, e, _⟩ := I.st a hs
    rw [e]
    simp
  · by_cases ht : ∀ q ∈ C.T, q.1 ≠ a
    · cases e : C.H0 a with
      | none => exact absurd e h
      | some o =>
        rw [I.hh a o e hs ht]
        simp
    · have ⟨q, hq, hqa⟩ : ∃ q ∈ C.T, q.1 = a := by
        apply Classical.byContradiction
        intro z
        exact ht fun q hq e => z ⟨q, hq, e⟩
      obtain ⟨ps, e⟩ := I.tabH hq
      rw [hqa] at e
      rw [e]
      simp
theorem IV.fresh0 (I : IV C σ F H Γ) {a : Addr} (h : H a = none) : C.H0 a = none := by
  cases e : C.H0 a with
  | none => rfl
  | some o => exact absurd h (I.taken (by rw [e]; simp))
theorem IV.ownH (I : IV C σ F H Γ) {p : Addr} (h : Owns σ Γ p) : ∃ vs, H p = some (.lst vs) ∧ F p = none ∧ C.H0 p = none := by
  obtain ⟨i, ds, e1, e2⟩ := h
  obtain ⟨o, e3, p', vs, e4, h1, h2, h3, _⟩ := I.sl i _ e1
  rw [e2] at e3
  rw [← Option.some.inj e3] at e4
  have e5 : p = p' := V.ref.inj (Option.some.inj e4)
  subst e5
  exact ⟨vs, h1, h2, h3⟩
theorem tabS_same {H H' : Hp} {T : List (Addr × Str)} (t : LamX.Tabs T H) (e : Same H H') : LamX.Tabs T H' := t.ext e
/-- all that matters but one list stays -/
theorem tabS_but {H H' : Hp} {T : List (Addr × Str)} {p : Addr} {vs : List V} (t : LamX.Tabs T H) (hp : H p = some (.lst vs)) (e : ∀ a o, H a = some o → a ≠ p → H' a = some o) : LamX.Tabs T H' := fun q hq => by
  obtain ⟨ps, h1, h2, h3⟩ := t q hq
  refine ⟨ps, e _ _ h1 (fun z => ?_), h2, fun pos cv hc => ?_⟩
  · rw [z, hp] at h1
    cases h1
  · obtain ⟨c, e1, e2⟩ := h3 pos cv hc
    refine ⟨c, e1, e _ _ e2 fun z => ?_⟩
    rw [z, hp] at e2
    have e3 : HO.lst vs = LamX.CodeO p q.2 := Option.some.inj e2
    cases e3
theorem StoreAt.mono {p : Addr} (h : StoreAt F H p) (e1 : Same F F') (e2 : F' p = none) (e3 : ∀ o, H p = some o → H' p = some o) : StoreAt F' H' p := by
  obtain ⟨_, vs, ds, h1, h2, h3⟩ := h
  exact ⟨e2, vs, ds, e3 _ h1, h2.mono e1, h3⟩
/-- behind a step that leaves all but what is in M as it was; M: stores alone, their state told anew -/
theorem IV.step (I : IV C σ F H Γ) (M : Addr → Prop) (hM : ∀ p, M p → C.S p) (e1 : Same F F') (e2 : Same F' H') (e3 : ∀ a o, H a = some o → ¬ M a → H' a = some o) (e4 : ∀ a, H a ≠ none → F a = none → F' a = none) (e5 : ∀ p, M p → StoreAt F' H' p) (e6 : LamX.Tabs C.T H') : IV C σ F' H' Γ where
  cS := I.cS
  cT := I.cT
  f0 := I.f0.trans e1
  fh := e2
  hh := fun a o h hs ht => e3 a o (I.hh a o h hs ht) fun m => hs (hM a m)
  fn := fun a h h0 => e4 a (I.taken h) (I.fn a h h0)
  st := fun p hp => by
    by_cases hm : M p
    · exact e5 p hm
    · have s := I.st p hp
      have n : H p ≠ none := by
        obtain ⟨_, vs, ds, e, _⟩ := s
        rw [e]
        simp
      exact s.mono e1 (e4 p n s.1) fun o ho => e3 p o ho hm
  tb := e6
  ft := fun q hq => by
    obtain ⟨ps, e⟩ := I.tabH hq
    exact e4 q.1 (by rw [e]; simp) (I.ft q hq)
  len := I.len
  sl := fun i s hs => by
    obtain ⟨o, ho, k⟩ := I.sl i s hs
    refine ⟨o, ho, ?_⟩
    cases s with
    | no => trivial
    | val d =>
      obtain ⟨v, h1, h2⟩ := k
      exact ⟨v, h1, h2.mono e1⟩
    | own ds =>
      obtain ⟨p, vs, h1, h2, h3, h4, h5⟩ := k
      exact ⟨p, vs, h1, e3 p _ h2 (fun m => I.cS p (hM p m) h4), e4 p (by rw [h2]; simp) h3, h4, h5.mono e1⟩
    | sto => exact k
    | raw v => exact k
  dj := I.dj
/-- how a heap grows: nothing changes, nothing old becomes data -/
structure Grow (F H F' H' : Hp) : Prop where
  ff : Same F F'
  fh : Same F' H'
  hh : Same H H'
  fn : ∀ a, H a ≠ none → F a = none → F' a = none
theorem Grow.refl (e : Same F H) : Grow F H F H := ⟨.refl _, e, .refl _, fun _ _ h => h⟩
theorem IV.grow (I : IV C σ F H Γ) (g : Grow F H F' H') : IV C σ F' H' Γ :=
  I.step (fun _ => False) (fun _ z => z.elim) g.ff g.fh (fun a o h _ => g.hh a o h) g.fn (fun _ z => z.elim) (tabS_same I.tb g.hh)
/-- a new object, laid in both -/
theorem grow_new {p : Addr} {o : HO} (e : Same F H) (h : H p = none) : Grow F H (upd F p o) (upd H p o) where
  ff := fun a u z => by
    have n : a ≠ p := fun q => by
      rw [q] at z
      rw [e p u z] at h
      cases h
    rw [upd_ne n]
    exact z
  fh := fun a u z => by
    by_cases n : a = p
    · subst n
      rw [upd_same] at z ⊢
      exact z
    · rw [upd_ne n] at z ⊢
      exact e a u z
  hh := fun a u z => by
    rw [upd_ne (ne_of_none z h)]
    exact z
  fn := fun a z z2 => by
    have n : a ≠ p := fun q => z (q ▸ h)
    rw [upd_ne n]
    exact z2
/-- a new object, laid in the heap alone -/
theorem grow_new0 {p : Addr} {o : HO} (e : Same F H) (h : H p = none) : Grow F H F (upd H p o) where
  ff := .refl _
  fh := fun a u z => by
    rw [upd_ne (ne_of_none (e a u z) h)]
    exact e a u z
  hh := fun a u z => by
    rw [upd_ne (ne_of_none z h)]
    exact z
  fn := fun _ _ z => z
theorem free_F (e : Same F H) {p : Addr} (h : H p = none) : F p = none := e.free h
/-- a list that nobody owns becomes data -/
theorem IV.freeze (I : IV C σ F H Γ) {p : Addr} {vs : List V} (hp : H p = some (.lst vs)) (hf : F p = none) (h0 : C.H0 p = none) (no : ¬ Owns σ Γ p) : IV C σ (upd F p (.lst vs)) H Γ where
  cS := I.cS
  cT := I.cT
  f0 := fun a o z => by
    have n : a ≠ p := fun q => by
      rw [q] at z
      rw [I.f0 p o z] at hf
      cases hf
    rw [upd_ne n]
    exact I.f0 a o z
  fh := fun a o z => by
    by_cases n : a = p
    · subst n
      rw [upd_same] at z
      rw [hp]
      exact z
    · rw [upd_ne n] at z
      exact I.fh a o z
  hh := I.hh
  fn := fun a z z2 => by
    have n : a ≠ p := fun q => z (q ▸ h0)
    rw [upd_ne n]
    exact I.fn a z z2
  st := fun q hq => (I.st q hq).mono (fun a o z => by
      have n : a ≠ p := fun w => by
        rw [w, hf] at z
        cases z
      rw [upd_ne n]
      exact z) (by
      have n : q ≠ p := fun w => I.cS q hq (w ▸ h0)
      rw [upd_ne n]
      exact (I.st q hq).1) fun _ h => h
  tb := I.tb
  ft := fun q hq => by
    have n : q.1 ≠ p := fun w => I.cT q hq (w ▸ h0)
    rw [upd_ne n]
    exact I.ft q hq
  len := I.len
  sl := fun i s hs => by
    have e1 : Same F (upd F p (.lst vs)) := fun a o z => by
      have n : a ≠ p := fun w => by
        rw [w, hf] at z
        cases z
      rw [upd_ne n]
      exact z
    obtain ⟨o, ho, k⟩ := I.sl i s hs
    refine ⟨o, ho, ?_⟩
    cases s with
    | no => trivial
    | val d =>
      obtain ⟨v, h1, h2⟩ := k
      exact ⟨v, h1, h2.mono e1⟩
    | own ds =>
      obtain ⟨q, ws, h1, h2, h3, h4, h5⟩ := k
      have n : q ≠ p := fun w => no ⟨i, ds, hs, by rw [ho, h1, w]⟩
      exact ⟨q, ws, h1, h2, by rw [upd_ne n]; exact h3, h4, h5.mono e1⟩
    | sto => exact k
    | raw v => exact k
  dj := I.dj
theorem same_upd {p : Addr} {o : HO} (hf : F p = none) : Same F (upd F p o) := fun a u z => by
  have n : a ≠ p := fun w => by
    rw [w, hf] at z
    cases z
  rw [upd_ne n]
  exact z
/-- a slot is set to a value of data -/
theorem IV.setVal (I : IV C σ F H Γ) {i : Nat} {v : V} {d : Dt} (r : Rep F v d) : IV C (σ.set i (some v)) F H (Γ.set i (.val d)) where
  cS := I.cS
  cT := I.cT
  f0 := I.f0
  fh := I.fh
  hh := I.hh
  fn := I.fn
  st := I.st
  tb := I.tb
  ft := I.ft
  len := by rw [List.length_set, List.length_set]; exact I.len
  sl := fun j s hs => by
    by_cases e : i = j
    · subst e
      have hj : i < Γ.length := by
        have := (List.getElem?_eq_some_iff.mp hs).1
        rwa [List.length_set] at this
      rw [List.getElem?_set_self hj] at hs
      cases hs
      exact ⟨some v, List.getElem?_set_self (by rw [I.len]; exact hj), v, rfl, r⟩
    · rw [List.getElem?_set_ne e] at hs ⊢
      exact I.sl j s hs
  dj := fun a b ds es p h1 h2 h3 h4 => by
    have ha : i ≠ a := fun e => by
      subst e
      have hj : i < Γ.length := by
        have := (List.getElem?_eq_some_iff.mp h1).1
        rwa [List.length_set] at this
      rw [List.getElem?_set_self hj] at h1
      cases h1
    have hb : i ≠ b := fun e => by
      subst e
      have hj : i < Γ.length := by
        have := (List.getElem?_eq_some_iff.mp h2).1
        rwa [List.length_set] at this
      rw [List.getElem?_set_self hj] at h2
      cases h2
    rw [List.getElem?_set_ne ha] at h1 h3
    rw [List.getElem?_set_ne hb] at h2 h4
    exact I.dj a b ds es p h1 h2 h3 h4
/-- a slot is set to a new list, owned -/
theorem IV.setOwn (I : IV C σ F H Γ) {i : Nat} {p : Addr} {vs : List V} {ds : List Dt} (hp : H p = some (.lst vs)) (hf : F p = none) (h0 : C.H0 p = none) (no : ¬ Owns σ Γ p) (r : Reps F vs ds) : IV C (σ.set i (some (.ref p))) F H (Γ.set i (.own ds)) where
  cS := I.cS
  cT := I.cT
  f0 := I.f0
  fh := I.fh
  hh := I.hh
  fn := I.fn
  st := I.st
  tb := I.tb
  ft := I.ft
  len := by rw [List.length_set, List.length_set]; exact I.len
  sl := fun j s hs => by
    by_cases e : i = j
    · subst e
      have hj : i < Γ.length := by
        have := (List.getElem?_eq_some_iff.mp hs).1
        rwa [List.length_set] at this
      rw [List.getElem?_set_self hj] at hs
      cases hs
      exact ⟨_, List.getElem?_set_self (by rw [I.len]; exact hj), p, vs, rfl, hp, hf, h0, r⟩
    · rw [List.getElem?_set_ne e] at hs ⊢
      exact I.sl j s hs
  dj := fun a b ds' es q h1 h2 h3 h4 => by
    have key : ∀ c ds'', i ≠ c → (Γ.set i (.own ds))[c]? = some (.own ds'') → (σ.set i (some (.ref p)))[c]? = some (some (.ref q)) → q ≠ p := fun c ds'' hc h h' e => by
      rw [List.getElem?_set_ne hc] at h h'
      exact no ⟨c, ds'', h, e ▸ h'⟩
    have at_i : ∀ c ds'', i = c → (Γ.set i (.own ds))[c]? = some (.own ds'') → (σ.set i (some (.ref p)))[c]? = some (some (.ref q)) → q = p := fun c ds'' hc h h' => by
      subst hc
      have hj : i < Γ.length := by
        have := (List.getElem?_eq_some_iff.mp h).1
        rwa [List.length_set] at this
      rw [List.getElem?_set_self (by rw [I.len]; exact hj)] at h'
      exact (V.ref.inj (Option.some.inj (Option.some.inj h'))).symm
    by_cases ea : i = a
    · by_cases eb : i = b
      · exact ea.symm.trans eb
      · exact absurd (at_i a _ ea h1 h3) (key b _ eb h2 h4)
    · by_cases eb : i = b
      · exact absurd (at_i b _ eb h2 h4) (key a _ ea h1 h3)
      · rw [List.getElem?_set_ne ea] at h1 h3
        rw [List.getElem?_set_ne eb] at h2 h4
        exact I.dj a b ds' es q h1 h2 h3 h4
/-- an own list changes its content -/
theorem IV.put (I : IV C σ F H Γ) {i : Nat} {p : Addr} {ds es : List Dt} {ws : List V} (hi : Γ[i]? = some (.own ds)) (hs : σ[i]? = some (some (.ref p))) (r : Reps F ws es) : IV C σ F (upd H p (.lst ws)) (Γ.set i (.own es)) := by
  obtain ⟨vs, hp, hf, h0⟩ := I.ownH ⟨i, ds, hi, hs⟩
  have hlt : i < Γ.length := (List.getElem?_eq_some_iff.mp hi).1
  refine ⟨I.cS, I.cT, I.f0, fun a o z => ?_, fun a o z z1 z2 => ?_, I.fn, fun q hq => ?_, tabS_but I.tb hp fun a o z n => by rw [upd_ne n]; exact z, I.ft, by rw [List.length_set]; exact I.len, fun j s hj => ?_, fun a b ds' es' q h1 h2 h3 h4 => ?_⟩
  · have n : a ≠ p := fun w => by
      rw [w, hf] at z
      cases z
    rw [upd_ne n]
    exact I.fh a o z
  · have n : a ≠ p := fun w => by
      rw [w, h0] at z
      cases z
    rw [upd_ne n]
    exact I.hh a o z z1 z2
  · have n : q ≠ p := fun w => I.cS q hq (w ▸ h0)
    refine (I.st q hq).mono (.refl _) (I.st q hq).1 fun o z => ?_
    rw [upd_ne n]
    exact z
  · by_cases e : i = j
    · subst e
      rw [List.getElem?_set_self hlt] at hj
      cases hj
      exact ⟨_, hs, p, ws, rfl, upd_same, hf, h0, r⟩
    · rw [List.getElem?_set_ne e] at hj
      obtain ⟨o, ho, k⟩ := I.sl j s hj
      refine ⟨o, ho, ?_⟩
      cases s with
      | no => trivial
      | val d => exact k
      | own ds' =>
        obtain ⟨q, us, k1, k2, k3, k4, k5⟩ := k
        have n : q ≠ p := fun w => e (I.dj i j ds ds' p hi hj hs (by rw [ho, k1, w]))
        exact ⟨q, us, k1, by rw [upd_ne n]; exact k2, k3, k4, k5⟩
      | sto => exact k
      | raw v => exact k
  · have w : ∀ (c : Nat) (ds'' : List Dt), (Γ.set i (Slot.own es))[c]? = some (Slot.own ds'') → ∃ ds3 : List Dt, Γ[c]? = some (Slot.own ds3) := fun c ds'' h => by
      by_cases e : i = c
      · subst e
        exact ⟨ds, hi⟩
      · rw [List.getElem?_set_ne e] at h
        exact ⟨_, h⟩
    obtain ⟨d1, w1⟩ := w a _ h1
    obtain ⟨d2, w2⟩ := w b _ h2
    exact I.dj a b d1 d2 q w1 w2 h3 h4
/-- something is forgotten -/
inductive Wks : List Slot → List Slot → Prop
  | nil : Wks [] []
  | keep {s : Slot} {a b : List Slot} (h : Wks a b) : Wks (s :: a) (s :: b)
  | drop {s : Slot} {a b : List Slot} (h : Wks a b) : Wks (s :: a) (.no :: b)
theorem Wks.refl : ∀ Γ : List Slot, Wks Γ Γ
  | [] => .nil
  | _ :: r => .keep (Wks.refl r)
theorem Wks.length : ∀ {a b : List Slot}, Wks a b → a.length = b.length
  | _, _, .nil => rfl
  | _, _, .keep h => congrArg Nat.succ (Wks.length h)
  | _, _, .drop h => congrArg Nat.succ (Wks.length h)
theorem Wks.get : ∀ {a b : List Slot}, Wks a b → ∀ (i : Nat) s, b[i]? = some s → s = .no ∨ a[i]? = some s
  | _, _, .nil, _, _, e => (by simp at e)
  | _, _, .keep _, 0, _, e => .inr e
  | _, _, .keep h, i + 1, s, e => Wks.get h i s e
  | _, _, .drop _, 0, _, e => .inl (Option.some.inj e).symm
  | _, _, .drop h, i + 1, s, e => Wks.get h i s e
theorem IV.weak (I : IV C σ F H Γ) (w : Wks Γ Γ') : IV C σ F H Γ' :=
  ⟨I.cS, I.cT, I.f0, I.fh, I.hh, I.fn, I.st, I.tb, I.ft, I.len.trans w.length, fun i s hs => by
    rcases w.get i s hs with e | e
    · subst e
      have hlt : i < Γ'.length := (List.getElem?_eq_some_iff.mp hs).1
      have h2 : i < σ.length := by rw [I.len, w.length]; exact hlt
      exact ⟨_, List.getElem?_eq_getElem h2, trivial⟩
    · exact I.sl i s e, fun i j ds es p h1 h2 => by
    rcases w.get i _ h1 with e | e
    · cases e
    · rcases w.get j _ h2 with e' | e'
      · cases e'
      · exact I.dj i j ds es p e e'⟩
/-- C' tells no less than C -/
def Le (C C' : Ctx) : Prop := (∀ σ F H Γ, IV C' σ F H Γ → IV C σ F H Γ)
theorem Le.refl (C : Ctx) : Le C C := fun _ _ _ _ I => I
theorem Le.trans {C1 C2 C3 : Ctx} (a : Le C1 C2) (b : Le C2 C3) : Le C1 C3 := fun σ F H Γ I => a σ F H Γ (b σ F H Γ I)
/-- the data at hand are kept in mind -/
theorem IV.base (I : IV C σ F H Γ) : IV { C with F0 := F } σ F H Γ ∧ Le C { C with F0 := F } :=
  ⟨⟨I.cS, I.cT, .refl _, I.fh, I.hh, fun _ _ h => h, I.st, I.tb, I.ft, I.len, I.sl, I.dj⟩, fun _ _ _ _ J =>
    ⟨J.cS, J.cT, I.f0.trans J.f0, J.fh, J.hh, fun a h h0 => J.fn a h (I.fn a h h0), J.st, J.tb, J.ft, J.len, J.sl, J.dj⟩⟩
end
end Wk
-- Core2
/-! What expressions, tests, statements do to data. -/
namespace Wk
open PySem PySem.Spec
open PyProof.Rows L2
/-! ### judgements -/
def EvN (C : Ctx) (te : TE) (Γ : List Slot) (R : Dt → Prop) : Prop :=
  ∀ σ F H, IV C σ F H Γ → ∀ Q : VK, (∀ v F' H' d, IV C σ F' H' Γ → Same F F' → Rep F' v d → R d → Q v H') → te σ H Q
abbrev EvD (C : Ctx) (te : TE) (Γ : List Slot) (d : Dt) : Prop := EvN C te Γ (fun e => e = d)
/-- a new list -/
def EvL (C : Ctx) (te : TE) (Γ : List Slot) (R : List Dt → Prop) : Prop :=
  ∀ σ F H, IV C σ F H Γ → ∀ Q : VK, (∀ p vs F' H' ds, IV C σ F' H' Γ → Same F F' → H' p = some (.lst vs) → F' p = none → C.H0 p = none → ¬ Owns σ Γ p → Reps F' vs ds → R ds → Q (.ref p) H') → te σ H Q
abbrev ElD (C : Ctx) (te : TE) (Γ : List Slot) (ds : List Dt) : Prop := EvL C te Γ (fun e => e = ds)
def EvT (C : Ctx) (tt : TT) (Γ : List Slot) (R : Bool → Prop) : Prop :=
  ∀ σ F H, IV C σ F H Γ → ∀ Q : Bool → Hp → Prop, (∀ b F' H', IV C σ F' H' Γ → Same F F' → R b → Q b H') → tt σ H Q
abbrev EtD (C : Ctx) (tt : TT) (Γ : List Slot) (b : Bool) : Prop := EvT C tt Γ (fun e => e = b)
def EvA (C : Ctx) (ta : TA) (Γ : List Slot) (R : List Dt → Prop) : Prop :=
  ∀ σ F H, IV C σ F H Γ → ∀ Q : List V → Hp → Prop, (∀ vs F' H' ds, IV C σ F' H' Γ → Same F F' → Reps F' vs ds → R ds → Q vs H') → ta σ H Q
abbrev EaD (C : Ctx) (ta : TA) (Γ : List Slot) (ds : List Dt) : Prop := EvA C ta Γ (fun e => e = ds)
def EvO (C : Ctx) (to : TO) (Γ : List Slot) (o : Option Int) : Prop :=
  ∀ σ F H, IV C σ F H Γ → ∀ Q : Option Int → Hp → Prop, (∀ F' H', IV C σ F' H' Γ → Same F F' → Q o H') → to σ H Q
/-- what follows holds wherever the slots are so -/
def NX (C : Ctx) (P : L2.St → Hp → Prop) (Γ : List Slot) : Prop := ∀ σ F H, IV C σ F H Γ → P σ H
def Rt (C : Ctx) (Q : VK) (Post : Dt → Prop) : Prop := ∀ σ F H Γ v d, IV C σ F H Γ → Rep F v d → Post d → Q v H
section
variable {C C' : Ctx} {K : PySem.W.Frag} {Γ Γ' : List Slot} {ta tb tc te : TE} {t u : TT} {d e : Dt} {ds es : List Dt} {R Ra Rb : Dt → Prop} {i j : Int}
theorem EvN.up (h : EvN C te Γ R) (l : Le C C') (hl : ∀ σ F H, IV C σ F H Γ → IV C' σ F H Γ) : EvN C' te Γ R := fun σ F H I Q q =>
  h σ F H (l _ _ _ _ I) Q fun v F' H' d I' s r k => q v F' H' d (hl _ _ _ I') s r k
theorem NX.up {P : L2.St → Hp → Prop} (h : NX C P Γ) (l : Le C C') : NX C' P Γ := fun σ F H I => h σ F H (l _ _ _ _ I)
theorem NX.wk {P : L2.St → Hp → Prop} (h : NX C P Γ') (w : Wks Γ Γ') : NX C P Γ := fun σ F H I => h σ F H (I.weak w)
theorem Rt.up {Q : VK} {Post : Dt → Prop} (h : Rt C Q Post) (l : Le C C') : Rt C' Q Post := fun σ F H Γ v d I => h σ F H Γ v d (l _ _ _ _ I)
theorem EvN.imp (h : EvN C te Γ Ra) (k : ∀ d, Ra d → R d) : EvN C te Γ R := fun σ F H I Q q => h σ F H I Q fun v F' H' d I' s r z => q v F' H' d I' s r (k d z)
theorem EvN.is (h : EvD C te Γ d) (k : d = e) : EvD C te Γ e := k ▸ h
theorem EvD.to (h : EvD C te Γ d) (k : R d) : EvN C te Γ R := h.imp fun _ z => z ▸ k
/-! ### values -/
theorem ed_var {i : Nat} (h : Γ[i]? = some (.val d)) : EvD C (tVar i) Γ d := fun σ F H I Q q => by
  obtain ⟨o, ho, v, rfl, r⟩ := I.sl i _ h
  exact ⟨v, ho, q v F H d I (.refl _) r rfl⟩
theorem ed_int : EvD C (tC (.int i)) Γ (.int i) := fun σ F H I Q q => q _ F H _ I (.refl _) (.int i) rfl
theorem ed_bl {b : Bool} : EvD C (tC (.bl b)) Γ (.bl b) := fun σ F H I Q q => q _ F H _ I (.refl _) (.bl b) rfl
theorem ed_non : EvD C (tC .non) Γ .non := fun σ F H I Q q => q _ F H _ I (.refl _) .non rfl
theorem ed_str {x : Str} : EvD C (tC (.str x)) Γ (.str x) := fun σ F H I Q q => q _ F H _ I (.refl _) (.str x) rfl
theorem Rep.int_inv {F : Hp} {v : V} {i : Int} (h : Rep F v (.int i)) : v = .int i := by cases h; rfl
theorem Rep.bl_inv {F : Hp} {v : V} {b : Bool} (h : Rep F v (.bl b)) : v = .bl b := by cases h; rfl
theorem Rep.str_inv {F : Hp} {v : V} {x : Str} (h : Rep F v (.str x)) : v = .str x := by cases h; rfl
theorem Rep.non_inv {F : Hp} {v : V} (h : Rep F v .non) : v = .non := by cases h; rfl
theorem Rep.tup_inv {F : Hp} {v : V} {ds : List Dt} (h : Rep F v (.tup ds)) : ∃ a vs, v = .ref a ∧ F a = some (.tup vs) ∧ Reps F vs ds := by
  cases h with
  | tup h r => exact ⟨_, _, rfl, h, r⟩
theorem Rep.lst_inv {F : Hp} {v : V} {ds : List Dt} (h : Rep F v (.lst ds)) : ∃ a vs, v = .ref a ∧ F a = some (.lst vs) ∧ Reps F vs ds := by
  cases h with
  | lst h r => exact ⟨_, _, rfl, h, r⟩
theorem Rep.ins_inv {F : Hp} {v : V} {A : Addr} {ns : List Str} {ds : List Dt} (h : Rep F v (.ins A ns ds)) : ∃ a dx vs, v = .ref a ∧ F a = some (.ins A dx (ns.zip vs)) ∧ vs.length = ns.length ∧ Reps F vs ds := by
  cases h with
  | ins h hl r => exact ⟨_, _, _, rfl, h, hl, r⟩
/-- two operands, then what is done with them -/
theorem en_op {r : R2} (ha : EvN C ta Γ Ra) (hb : EvN C tb Γ Rb)
    (hr : ∀ d e, Ra d → Rb e → ∀ σ F H, IV C σ F H Γ → ∀ x y, Rep F x d → Rep F y e → ∀ Q : VK, (∀ v F' H' d', IV C σ F' H' Γ → Same F F' → Rep F' v d' → R d' → Q v H') → r x y H Q) : EvN C (tOp r ta tb) Γ R := fun σ F H I Q q =>
  ha σ F H I _ fun x F1 H1 d I1 s1 r1 k1 => hb σ F1 H1 I1 _ fun y F2 H2 e I2 s2 r2 k2 => hr d e k1 k2 σ F2 H2 I2 x y (r1.mono s2) r2 Q fun v F3 H3 d' I3 s3 r3 k3 => q v F3 H3 d' I3 ((s1.trans s2).trans s3) r3 k3
theorem en_rI {Cc : Int → Int → Prop} {g : Int → Int → Int} (ha : EvN C ta Γ Ra) (hb : EvN C tb Γ Rb) (h : ∀ d e, Ra d → Rb e → ∃ i j, d = .int i ∧ e = .int j ∧ Cc i j ∧ R (.int (g i j))) : EvN C (tOp (rI Cc fun i j => .int (g i j)) ta tb) Γ R :=
  en_op ha hb fun d e k1 k2 σ F H I x y r1 r2 Q q => by
    obtain ⟨i, j, rfl, rfl, hc, k⟩ := h d e k1 k2
    exact ⟨i, j, r1.int_inv, r2.int_inv, hc, q _ F H _ I (.refl _) (.int _) k⟩
theorem en_rI0 {g : Int → Int → Int} (ha : EvN C ta Γ Ra) (hb : EvN C tb Γ Rb) (h : ∀ d e, Ra d → Rb e → ∃ i j, d = .int i ∧ e = .int j ∧ R (.int (g i j))) : EvN C (tOp (rI0 fun i j => .int (g i j)) ta tb) Γ R :=
  en_op ha hb fun d e k1 k2 σ F H I x y r1 r2 Q q => by
    obtain ⟨i, j, rfl, rfl, k⟩ := h d e k1 k2
    exact ⟨i, j, r1.int_inv, r2.int_inv, q _ F H _ I (.refl _) (.int _) k⟩
theorem en_cmp {g : Int → Int → Bool} (ha : EvN C ta Γ Ra) (hb : EvN C tb Γ Rb) (h : ∀ d e, Ra d → Rb e → ∃ i j, d = .int i ∧ e = .int j ∧ R (.bl (g i j))) : EvN C (tOp (rI0 fun i j => .bl (g i j)) ta tb) Γ R :=
  en_op ha hb fun d e k1 k2 σ F H I x y r1 r2 Q q => by
    obtain ⟨i, j, rfl, rfl, k⟩ := h d e k1 k2
    exact ⟨i, j, r1.int_inv, r2.int_inv, q _ F H _ I (.refl _) (.bl _) k⟩
theorem ed_rI {Cc : Int → Int → Prop} {g : Int → Int → Int} (ha : EvD C ta Γ (.int i)) (hb : EvD C tb Γ (.int j)) (hc : Cc i j) : EvD C (tOp (rI Cc fun i j => .int (g i j)) ta tb) Γ (.int (g i j)) :=
  en_rI ha hb fun _ _ h1 h2 => ⟨i, j, h1, h2, hc, rfl⟩
theorem ed_rI0 {g : Int → Int → Int} (ha : EvD C ta Γ (.int i)) (hb : EvD C tb Γ (.int j)) : EvD C (tOp (rI0 fun i j => .int (g i j)) ta tb) Γ (.int (g i j)) :=
  en_rI0 ha hb fun _ _ h1 h2 => ⟨i, j, h1, h2, rfl⟩
theorem ed_cmp {g : Int → Int → Bool} (ha : EvD C ta Γ (.int i)) (hb : EvD C tb Γ (.int j)) : EvD C (tOp (rI0 fun i j => .bl (g i j)) ta tb) Γ (.bl (g i j)) :=
  en_cmp ha hb fun _ _ h1 h2 => ⟨i, j, h1, h2, rfl⟩
theorem en_neg (ha : EvN C ta Γ Ra) (h : ∀ d, Ra d → ∃ i, d = .int i ∧ R (.int (-i))) : EvN C (tUn (rU fun i => .int (-i)) ta) Γ R := fun σ F H I Q q => ha σ F H I _ fun x F1 H1 d I1 s1 r1 k1 => by
  obtain ⟨i, rfl, k⟩ := h d k1
  exact ⟨i, r1.int_inv, q _ F1 H1 _ I1 s1 (.int _) k⟩
theorem ed_neg (ha : EvD C ta Γ (.int i)) : EvD C (tUn (rU fun i => .int (-i)) ta) Γ (.int (-i)) := en_neg ha fun _ h => ⟨i, h, rfl⟩
/-- data that == looks at, one scalar -/
def scalD : Dt → Dt → Bool
  | .non, .non => true
  | .bl _, .bl _ => true
  | .int _, .int _ => true
  | .str _, .str _ => true
  | .str _, .int _ => true
  | .int _, .str _ => true
  | _, _ => false
theorem ed_eqI (ha : EvD C ta Γ (.int i)) (hb : EvD C tb Γ (.int j)) : EvD C (tOp rEq ta tb) Γ (.bl (decide (i = j))) :=
  en_op ha hb fun d e k1 k2 σ F H I x y r1 r2 Q q => by
    subst k1 k2
    cases r1.int_inv
    cases r2.int_inv
    exact ⟨rfl, by
      rw [show decide (V.int i = V.int j) = decide (i = j) from decide_eq_decide.mpr ⟨V.int.inj, congrArg V.int⟩]
      exact q _ F H _ I (.refl _) (.bl _) rfl⟩
theorem ed_neI (ha : EvD C ta Γ (.int i)) (hb : EvD C tb Γ (.int j)) : EvD C (tOp rNe ta tb) Γ (.bl (!decide (i = j))) :=
  en_op ha hb fun d e k1 k2 σ F H I x y r1 r2 Q q => by
    subst k1 k2
    cases r1.int_inv
    cases r2.int_inv
    exact ⟨rfl, by
      rw [show decide (V.int i = V.int j) = decide (i = j) from decide_eq_decide.mpr ⟨V.int.inj, congrArg V.int⟩]
      exact q _ F H _ I (.refl _) (.bl _) rfl⟩
theorem ed_eqS {x y : Str} (ha : EvD C ta Γ (.str x)) (hb : EvD C tb Γ (.str y)) : EvD C (tOp rEq ta tb) Γ (.bl (decide (x = y))) :=
  en_op ha hb fun d e k1 k2 σ F H I v w r1 r2 Q q => by
    subst k1 k2
    cases r1.str_inv
    cases r2.str_inv
    exact ⟨rfl, by
      rw [show decide (V.str x = V.str y) = decide (x = y) from decide_eq_decide.mpr ⟨V.str.inj, congrArg V.str⟩]
      exact q _ F H _ I (.refl _) (.bl _) rfl⟩
theorem ed_neS {x y : Str} (ha : EvD C ta Γ (.str x)) (hb : EvD C tb Γ (.str y)) : EvD C (tOp rNe ta tb) Γ (.bl (!decide (x = y))) :=
  en_op ha hb fun d e k1 k2 σ F H I v w r1 r2 Q q => by
    subst k1 k2
    cases r1.str_inv
    cases r2.str_inv
    exact ⟨rfl, by
      rw [show decide (V.str x = V.str y) = decide (x = y) from decide_eq_decide.mpr ⟨V.str.inj, congrArg V.str⟩]
      exact q _ F H _ I (.refl _) (.bl _) rfl⟩
theorem ed_neB {x y : Bool} (ha : EvD C ta Γ (.bl x)) (hb : EvD C tb Γ (.bl y)) : EvD C (tOp rNe ta tb) Γ (.bl (!decide (x = y))) :=
  en_op ha hb fun d e k1 k2 σ F H I v w r1 r2 Q q => by
    subst k1 k2
    cases r1.bl_inv
    cases r2.bl_inv
    exact ⟨rfl, by
      rw [show decide (V.bl x = V.bl y) = decide (x = y) from decide_eq_decide.mpr ⟨V.bl.inj, congrArg V.bl⟩]
      exact q _ F H _ I (.refl _) (.bl _) rfl⟩
theorem ed_eqB {x y : Bool} (ha : EvD C ta Γ (.bl x)) (hb : EvD C tb Γ (.bl y)) : EvD C (tOp rEq ta tb) Γ (.bl (decide (x = y))) :=
  en_op ha hb fun d e k1 k2 σ F H I v w r1 r2 Q q => by
    subst k1 k2
    cases r1.bl_inv
    cases r2.bl_inv
    exact ⟨rfl, by
      rw [show decide (V.bl x = V.bl y) = decide (x = y) from decide_eq_decide.mpr ⟨V.bl.inj, congrArg V.bl⟩]
      exact q _ F H _ I (.refl _) (.bl _) rfl⟩
/-- is None -/
def isNon : Dt → Bool
  | .non => true
  | _ => false
theorem rep_non {F : Hp} {v : V} {d : Dt} (r : Rep F v d) : decide (v = .non) = isNon d := by
  cases r <;> first | rfl | exact decide_eq_false (by intro z; cases z)
theorem ed_isN (ha : EvD C ta Γ d) : EvD C (tOp (fun x y H Q => y = .non ∧ Q (.bl (decide (x = .non))) H) ta (tC .non)) Γ (.bl (isNon d)) :=
  en_op ha (ed_non (C := C)) fun d' e k1 k2 σ F H I x y r1 r2 Q q => by
    subst k1 k2
    exact ⟨r2.non_inv, by
      rw [rep_non r1]
      exact q _ F H _ I (.refl _) (.bl _) rfl⟩
theorem ed_notN (ha : EvD C ta Γ d) : EvD C (tOp (fun x y H Q => y = .non ∧ Q (.bl (!decide (x = .non))) H) ta (tC .non)) Γ (.bl (!isNon d)) :=
  en_op ha (ed_non (C := C)) fun d' e k1 k2 σ F H I x y r1 r2 Q q => by
    subst k1 k2
    exact ⟨r2.non_inv, by
      rw [rep_non r1]
      exact q _ F H _ I (.refl _) (.bl _) rfl⟩
theorem atI_len {α β : Type} {xs : List α} {ys : List β} (h : xs.length = ys.length) (i : Int) : ∀ k, ixN xs.length i = some k → ixN ys.length i = some k := fun k z => by rw [← h]; exact z
/-- xs[i], by the place -/
theorem rep_at {F : Hp} {vs : List V} {ds : List Dt} {i : Int} {d : Dt} (r : Reps F vs ds) (h : atI ds i = some d) : ∃ v, atI vs i = some v ∧ Rep F v d := by
  unfold atI at h ⊢
  rw [r.length]
  cases e : ixN ds.length i with
  | none =>
    rw [e] at h
    cases h
  | some k =>
    rw [e] at h
    exact r.get h
theorem en_ixT (ha : EvN C ta Γ Ra) (hb : EvN C tb Γ Rb) (h : ∀ d e, Ra d → Rb e → ∃ ds i z, d = .tup ds ∧ e = .int i ∧ atI ds i = some z ∧ R z) : EvN C (tOp (rIxT K) ta tb) Γ R :=
  en_op ha hb fun d e k1 k2 σ F H I x y r1 r2 Q q => by
    obtain ⟨ds, i, z, rfl, rfl, hz, k⟩ := h d e k1 k2
    obtain ⟨a, vs, rfl, hF, rs⟩ := r1.tup_inv
    obtain ⟨v, hv, rv⟩ := rep_at rs hz
    exact ⟨a, vs, i, v, rfl, r2.int_inv, .inl (.inl (I.fh _ _ hF)), hv, q v F H z I (.refl _) rv k⟩
theorem en_ixL (ha : EvN C ta Γ Ra) (hb : EvN C tb Γ Rb) (h : ∀ d e, Ra d → Rb e → ∃ ds i z, d = .lst ds ∧ e = .int i ∧ atI ds i = some z ∧ R z) : EvN C (tOp (rIxL K) ta tb) Γ R :=
  en_op ha hb fun d e k1 k2 σ F H I x y r1 r2 Q q => by
    obtain ⟨ds, i, z, rfl, rfl, hz, k⟩ := h d e k1 k2
    obtain ⟨a, vs, rfl, hF, rs⟩ := r1.lst_inv
    obtain ⟨v, hv, rv⟩ := rep_at rs hz
    exact ⟨a, vs, i, v, rfl, r2.int_inv, .inl (.inl (I.fh _ _ hF)), hv, q v F H z I (.refl _) rv k⟩
theorem ed_ixT (ha : EvD C ta Γ (.tup ds)) (hb : EvD C tb Γ (.int i)) (h : atI ds i = some d) : EvD C (tOp (rIxT K) ta tb) Γ d := en_ixT ha hb fun _ _ h1 h2 => ⟨ds, i, d, h1, h2, h, rfl⟩
theorem ed_ixL (ha : EvD C ta Γ (.lst ds)) (hb : EvD C tb Γ (.int i)) (h : atI ds i = some d) : EvD C (tOp (rIxL K) ta tb) Γ d := en_ixL ha hb fun _ _ h1 h2 => ⟨ds, i, d, h1, h2, h, rfl⟩
/-- an own list's item -/
theorem ed_ixO {n : Nat} (ho : Γ[n]? = some (.own ds)) (hb : EvD C tb Γ (.int i)) (h : atI ds i = some d) : EvD C (tOp (rIxL K) (tVar n) tb) Γ d := fun σ F H I Q q => by
  obtain ⟨o, ho1, p, vs, e1, e2, e3, e4, r⟩ := I.sl n _ ho
  subst e1
  refine ⟨.ref p, ho1, hb σ F H I _ fun y F1 H1 e I1 s1 r1 k1 => ?_⟩
  subst k1
  cases r1.int_inv
  obtain ⟨o', ho2, p2, vs', e1, e2, e3, e4, r⟩ := I1.sl n _ ho
  rw [ho1, e1] at ho2
  cases Option.some.inj ho2
  obtain ⟨v, hv, rv⟩ := rep_at r h
  exact ⟨p, vs', i, v, rfl, rfl, .inl (.inl e2), hv, q v F1 H1 d I1 s1 rv rfl⟩
/-! ### arguments, displays -/
theorem ea_nil : EaD C tNil Γ [] := fun σ F H I Q q => q [] F H [] I (.refl _) .nil rfl
theorem en_cons {tr : TA} {Ra : Dt → Prop} {Rs : List Dt → Prop} (h : EvN C ta Γ Ra) (hr : EvA C tr Γ Rs) : EvA C (tCons ta tr) Γ (fun l => ∃ d ds, l = d :: ds ∧ Ra d ∧ Rs ds) := fun σ F H I Q q =>
  h σ F H I _ fun x F1 H1 d I1 s1 r1 k1 => hr σ F1 H1 I1 _ fun xs F2 H2 ds I2 s2 r2 k2 => q _ F2 H2 _ I2 (s1.trans s2) (.cons (r1.mono s2) r2) ⟨d, ds, rfl, k1, k2⟩
theorem ea_cons {tr : TA} (h : EvD C ta Γ d) (hr : EaD C tr Γ ds) : EaD C (tCons ta tr) Γ (d :: ds) := fun σ F H I Q q =>
  en_cons h hr σ F H I Q fun vs F' H' l I' s r ⟨d', ds', e, e1, e2⟩ => q vs F' H' l I' s r (by rw [e, e1, e2])
theorem EvA.imp {tr : TA} {Rs Rt : List Dt → Prop} (h : EvA C tr Γ Rs) (k : ∀ l, Rs l → Rt l) : EvA C tr Γ Rt := fun σ F H I Q q => h σ F H I Q fun vs F' H' ds I' s r z => q vs F' H' ds I' s r (k ds z)
theorem en_tup {tr : TA} {Rs : List Dt → Prop} (h : EvA C tr Γ Rs) (hl : ∀ ds, Rs ds → ds.length ≤ 1000 ∧ R (.tup ds)) : EvN C (tTup tr) Γ R := fun σ F H I Q q => h σ F H I _ fun vs F1 H1 ds I1 s1 r1 k1 => by
  obtain ⟨hz, hR⟩ := hl ds k1
  refine ⟨by rw [r1.length]; exact Nat.le_of_lt (small1000 hz), fun p hp => ?_⟩
  have g := grow_new (o := .tup vs) I1.fh hp
  exact q _ _ _ (.tup ds) (I1.grow g) (s1.trans g.ff) (.tup upd_same (r1.mono g.ff)) hR
theorem ed_tup {tr : TA} (h : EaD C tr Γ ds) (hl : ds.length ≤ 1000 := by exact Nat.le_of_ble_eq_true rfl) : EvD C (tTup tr) Γ (.tup ds) := en_tup h fun _ z => by subst z; exact ⟨hl, rfl⟩
theorem notOwn_new {σ : L2.St} {F H : Hp} {p : Addr} (I : IV C σ F H Γ) (h : H p = none) : ¬ Owns σ Γ p := fun z => by
  obtain ⟨vs, e, _⟩ := I.ownH z
  rw [h] at e
  cases e
theorem el_lst {tr : TA} {Rs : List Dt → Prop} (h : EvA C tr Γ Rs) (hl : ∀ ds, Rs ds → ds.length ≤ 1000) : EvL C (tLst tr) Γ Rs := fun σ F H I Q q => h σ F H I _ fun vs F1 H1 ds I1 s1 r1 k1 => by
  refine ⟨by rw [r1.length]; exact Nat.le_of_lt (small1000 (hl ds k1)), fun p hp => ?_⟩
  have g := grow_new0 (o := .lst vs) I1.fh hp
  exact q p vs F1 _ ds (I1.grow g) s1 upd_same (free_F I1.fh hp) (I1.fresh0 hp) (notOwn_new I1 hp) r1 k1
theorem eld_lst {tr : TA} (h : EaD C tr Γ ds) (hl : ds.length ≤ 1000 := by exact Nat.le_of_ble_eq_true rfl) : ElD C (tLst tr) Γ ds := el_lst h fun _ z => by subst z; exact hl
/-- a new list as data -/
theorem EvL.ev {Rs : List Dt → Prop} (h : EvL C te Γ Rs) (k : ∀ ds, Rs ds → R (.lst ds)) : EvN C te Γ R := fun σ F H I Q q =>
  h σ F H I Q fun p vs F1 H1 ds I1 s1 hp hf h0 no r z => q _ _ _ (.lst ds) (I1.freeze hp hf h0 no) (s1.trans (same_upd hf)) (.lst upd_same (r.mono (same_upd hf))) (k ds z)
theorem ElD.ed (h : ElD C te Γ ds) : EvD C te Γ (.lst ds) := EvL.ev h fun _ z => by rw [z]
/-! ### a list made by a rule: any free place -/
theorem el_new {te : TE} {Rs : List Dt → Prop} (h : ∀ σ F H, IV C σ F H Γ → ∀ Q : VK, (∀ p vs F1 H1 ds, IV C σ F1 H1 Γ → Same F F1 → Reps F1 vs ds → Rs ds → H1 p = none → Q (.ref p) (upd H1 p (.lst vs))) → te σ H Q) : EvL C te Γ Rs := fun σ F H I Q q =>
  h σ F H I Q fun p vs F1 H1 ds I1 s1 r1 k1 hp => by
    have g := grow_new0 (o := .lst vs) I1.fh hp
    exact q p vs F1 _ ds (I1.grow g) s1 upd_same (free_F I1.fh hp) (I1.fresh0 hp) (notOwn_new I1 hp) r1 k1
theorem eo_none : EvO C tNoPart Γ none := fun σ F H I Q q => q F H I (.refl _)
theorem eo_some (h : EvD C te Γ (.int i)) : EvO C (tPart te) Γ (some i) := fun σ F H I Q q => h σ F H I _ fun x F1 H1 d I1 s1 r1 k1 => by
  subst k1
  exact ⟨i, r1.int_inv, q F1 H1 I1 s1⟩
/-- a slice, on data -/
def cutD (ds : List Dt) (lo hi : Option Int) : List Dt := (ds.drop (HT.sIx ds.length 0 lo)).take (HT.sIx ds.length ds.length hi - HT.sIx ds.length 0 lo)
theorem reps_cut {F : Hp} {vs : List V} {ds : List Dt} (r : Reps F vs ds) (lo hi : Option Int) : Reps F (cutV vs lo hi) (cutD ds lo hi) := by
  unfold cutV cutD
  rw [r.length]
  exact (r.drop _).take _
theorem eld_sl {tl th : TO} {lo hi : Option Int} (h : EvD C te Γ (.lst ds)) (h1 : EvO C tl Γ lo) (h2 : EvO C th Γ hi) : ElD C (tSl (rSlL K) te tl th) Γ (cutD ds lo hi) := el_new fun σ F H I Q q =>
  h σ F H I _ fun x F1 H1 d I1 s1 r1 k1 => h1 σ F1 H1 I1 _ fun F2 H2 I2 s2 => h2 σ F2 H2 I2 _ fun F3 H3 I3 s3 => by
    subst k1
    obtain ⟨a, vs, rfl, hF, rs⟩ := (r1.mono (s2.trans s3)).lst_inv
    exact ⟨a, vs, rfl, .inl (.inl (I3.fh _ _ hF)), fun p hp => q p _ F3 H3 _ I3 ((s1.trans s2).trans s3) (reps_cut rs lo hi) rfl hp⟩
theorem eld_rev (h : EvD C te Γ (.lst ds)) : ElD C (tRevL K te) Γ ds.reverse := el_new fun σ F H I Q q =>
  h σ F H I _ fun x F1 H1 d I1 s1 r1 k1 => by
    subst k1
    obtain ⟨a, vs, rfl, hF, rs⟩ := r1.lst_inv
    exact ⟨a, vs, rfl, .inl (.inl (I1.fh _ _ hF)), fun p hp => q p _ F1 H1 _ I1 s1 rs.rev rfl hp⟩
theorem eld_cat (ha : EvD C ta Γ (.lst ds)) (hb : EvD C tb Γ (.lst es)) (hl : ds.length + es.length ≤ 1000) : ElD C (tOp rCat ta tb) Γ (ds ++ es) := el_new fun σ F H I Q q =>
  ha σ F H I _ fun x F1 H1 d I1 s1 r1 k1 => hb σ F1 H1 I1 _ fun y F2 H2 e I2 s2 r2 k2 => by
    subst k1 k2
    obtain ⟨a, vs, rfl, hF, rs⟩ := (r1.mono s2).lst_inv
    obtain ⟨b, ws, rfl, hG, rt⟩ := r2.lst_inv
    exact ⟨a, b, vs, ws, rfl, rfl, I2.fh _ _ hF, I2.fh _ _ hG, by rw [rs.length, rt.length]; exact Nat.le_of_lt (small1000 hl), fun p hp => q p _ F2 H2 _ I2 (s1.trans s2) (rs.append rt) rfl hp⟩
theorem ed_catT (ha : EvD C ta Γ (.tup ds)) (hb : EvD C tb Γ (.tup es)) (h0 : ds ≠ []) (hl : ds.length + es.length ≤ 1000) (h1 : es ≠ []) : EvD C (tOp (rCatT K) ta tb) Γ (.tup (ds ++ es)) :=
  en_op ha hb fun d e k1 k2 σ F H I x y r1 r2 Q q => by
    subst k1 k2
    obtain ⟨a, vs, rfl, hF, rs⟩ := r1.tup_inv
    obtain ⟨b, ws, rfl, hG, rt⟩ := r2.tup_inv
    refine ⟨a, b, vs, ws, rfl, rfl, .inl (.inl (I.fh _ _ hF)), .inl (.inl (I.fh _ _ hG)), fun z => ?_, by rw [rs.length, rt.length]; exact Nat.le_of_lt (small1000 hl), fun z => ?_, fun z p hp => ?_⟩
    · rw [z] at rs
      cases rs
      exact h0 rfl
    · rw [z] at rt
      cases rt
      exact absurd rfl h1
    · have g := grow_new (o := .tup (vs ++ ws)) I.fh hp
      exact q _ _ _ _ (I.grow g) g.ff (.tup upd_same ((rs.append rt).mono g.ff)) rfl
/-! ### built-in calls -/
theorem ed_cb1 {r : List V → Hp → VK → Prop} (ha : EvD C ta Γ d) (hr : ∀ σ F H, IV C σ F H Γ → ∀ x, Rep F x d → ∀ Q : VK, (∀ v F' H', IV C σ F' H' Γ → Same F F' → Rep F' v e → Q v H') → r [x] H Q) : EvD C (tCB r (tCons ta tNil)) Γ e := fun σ F H I Q q =>
  ha σ F H I _ fun x F1 H1 d' I1 s1 r1 k1 => by
    subst k1
    exact hr σ F1 H1 I1 x r1 Q fun v F2 H2 I2 s2 r2 => q v F2 H2 e I2 (s1.trans s2) r2 rfl
theorem ed_abs (ha : EvD C ta Γ (.int i)) : EvD C (tCB (fun xs H Q => ∃ i, xs = [.int i] ∧ Q (.int (if i < 0 then -i else i)) H) (tCons ta tNil)) Γ (.int (i.natAbs : Int)) :=
  ed_cb1 ha fun σ F H I x r Q q => ⟨i, by rw [r.int_inv], by
    have e : (if i < 0 then -i else i) = (i.natAbs : Int) := by
      by_cases h : i < 0
      · rw [if_pos h]; omega
      · rw [if_neg h]; omega
    rw [e]
    exact q _ F H I (.refl _) (.int _)⟩
theorem ed_intI (ha : EvD C ta Γ (.int i)) : EvD C (tCB (fun xs H Q => (∃ i, xs = [.int i] ∧ Q (.int i) H) ∨ ∃ k, xs = [.bl k] ∧ Q (.int (if k then 1 else 0)) H) (tCons ta tNil)) Γ (.int i) :=
  ed_cb1 ha fun σ F H I x r Q q => .inl ⟨i, by rw [r.int_inv], q _ F H I (.refl _) (.int _)⟩
theorem ed_intB {b : Bool} (ha : EvD C ta Γ (.bl b)) : EvD C (tCB (fun xs H Q => (∃ i, xs = [.int i] ∧ Q (.int i) H) ∨ ∃ k, xs = [.bl k] ∧ Q (.int (if k then 1 else 0)) H) (tCons ta tNil)) Γ (.int (if b then 1 else 0)) :=
  ed_cb1 ha fun σ F H I x r Q q => .inr ⟨b, by rw [r.bl_inv], q _ F H I (.refl _) (.int _)⟩
theorem ed_min2 (ha : EvD C ta Γ (.int i)) (hb : EvD C tb Γ (.int j)) : EvD C (tCB (fun xs H Q => ∃ i j, xs = [.int i, .int j] ∧ Q (.int (if j < i then j else i)) H) (tCons ta (tCons tb tNil))) Γ (.int (if j < i then j else i)) := fun σ F H I Q q =>
  ha σ F H I _ fun x F1 H1 d' I1 s1 r1 k1 => hb σ F1 H1 I1 _ fun y F2 H2 d2 I2 s2 r2 k2 => by
    subst k1 k2
    exact ⟨i, j, by rw [r1.int_inv, r2.int_inv], q _ F2 H2 _ I2 (s1.trans s2) (.int _) rfl⟩
theorem ed_lenL (ha : EvD C ta Γ (.lst ds)) : EvD C (tCB (fun xs H Q => ∃ p ys, xs = [.ref p] ∧ (SqL K H p ys ∨ SqT K H p ys) ∧ Q (.int ys.length) H) (tCons ta tNil)) Γ (.int (ds.length : Int)) :=
  ed_cb1 ha fun σ F H I x r Q q => by
    obtain ⟨a, vs, rfl, hF, rs⟩ := r.lst_inv
    exact ⟨a, vs, rfl, .inl (.inl (.inl (I.fh _ _ hF))), by rw [rs.length]; exact q _ F H I (.refl _) (.int _)⟩
theorem ed_lenT (ha : EvD C ta Γ (.tup ds)) : EvD C (tCB (fun xs H Q => ∃ p ys, xs = [.ref p] ∧ (SqL K H p ys ∨ SqT K H p ys) ∧ Q (.int ys.length) H) (tCons ta tNil)) Γ (.int (ds.length : Int)) :=
  ed_cb1 ha fun σ F H I x r Q q => by
    obtain ⟨a, vs, rfl, hF, rs⟩ := r.tup_inv
    exact ⟨a, vs, rfl, .inr (.inl (.inl (I.fh _ _ hF))), by rw [rs.length]; exact q _ F H I (.refl _) (.int _)⟩
theorem ed_lenO {n : Nat} (ho : Γ[n]? = some (.own ds)) : EvD C (tCB (fun xs H Q => ∃ p ys, xs = [.ref p] ∧ (SqL K H p ys ∨ SqT K H p ys) ∧ Q (.int ys.length) H) (tCons (tVar n) tNil)) Γ (.int (ds.length : Int)) := fun σ F H I Q q => by
  obtain ⟨o, ho1, p, vs, e1, e2, e3, e4, r⟩ := I.sl n _ ho
  subst e1
  exact ⟨.ref p, ho1, p, vs, rfl, .inl (.inl (.inl e2)), by rw [r.length]; exact q _ F H _ I (.refl _) (.int _) rfl⟩
theorem eld_list (ha : EvD C ta Γ (.lst ds)) : ElD C (tCB (fun xs H Q => ∃ p ys, xs = [.ref p] ∧ (SqL K H p ys ∨ SqT K H p ys) ∧ ∀ l, H l = none → Q (.ref l) (upd H l (.lst ys))) (tCons ta tNil)) Γ ds := el_new fun σ F H I Q q =>
  ha σ F H I _ fun x F1 H1 d I1 s1 r1 k1 => by
    subst k1
    obtain ⟨a, vs, rfl, hF, rs⟩ := r1.lst_inv
    exact ⟨a, vs, rfl, .inl (.inl (.inl (I1.fh _ _ hF))), fun p hp => q p _ F1 H1 _ I1 s1 rs rfl hp⟩
theorem ed_tuple (ha : EvD C ta Γ (.lst ds)) : EvD C (tCB (fun xs H Q => ∃ p ys, xs = [.ref p] ∧ ((SqL K H p ys ∧ ∀ l, H l = none → Q (.ref l) (upd H l (.tup ys))) ∨ (SqT K H p ys ∧ Q (.ref p) H))) (tCons ta tNil)) Γ (.tup ds) :=
  ed_cb1 ha fun σ F H I x r Q q => by
    obtain ⟨a, vs, rfl, hF, rs⟩ := r.lst_inv
    refine ⟨a, vs, rfl, .inl ⟨.inl (.inl (I.fh _ _ hF)), fun p hp => ?_⟩⟩
    have g := grow_new (o := .tup vs) I.fh hp
    exact q _ _ _ (I.grow g) g.ff (.tup upd_same (rs.mono g.ff))
theorem ed_sum {ns : List Int} (ha : EvD C ta Γ (.lst (ns.map Dt.int))) : EvD C (tCB (rSum K) (tCons ta tNil)) Γ (.int ns.sum) :=
  ed_cb1 ha fun σ F H I x r Q q => by
    obtain ⟨a, vs, rfl, hF, rs⟩ := r.lst_inv
    rw [rs.ints] at hF
    exact ⟨a, ns, rfl, .inl (.inl (I.fh _ _ hF)), q _ F H I (.refl _) (.int _)⟩
theorem ed_all {bs : List Bool} (ha : EvD C ta Γ (.lst (bs.map Dt.bl))) : EvD C (tCB (rAll K) (tCons ta tNil)) Γ (.bl (bs.all id)) :=
  ed_cb1 ha fun σ F H I x r Q q => by
    obtain ⟨a, vs, rfl, hF, rs⟩ := r.lst_inv
    rw [rs.bls] at hF
    exact ⟨a, bs, rfl, .inl (.inl (I.fh _ _ hF)), q _ F H I (.refl _) (.bl _)⟩
/-! ### fields -/
theorem lookup_zip {f : Str} : ∀ {ns : List Str} {vs : List V} {k : Nat}, vs.length = ns.length → ns[k]? = some f → (∀ j, j < k → ns[j]? ≠ some f) → (ns.zip vs).lookup f = vs[k]?
  | [], _, _, _, h, _ => (by simp at h)
  | n :: ns, [], _, hl, _, _ => by simp at hl
  | n :: ns, v :: vs, 0, _, h, _ => by
    have e : n = f := Option.some.inj h
    subst e
    show List.lookup n ((n, v) :: ns.zip vs) = some v
    simp [List.lookup]
  | n :: ns, v :: vs, k + 1, hl, h, hb => by
    have n0 : ¬ n = f := fun e => hb 0 (Nat.succ_pos _) (congrArg some e)
    have nb : (f == n) = false := by simpa using fun e : f = n => n0 e.symm
    show List.lookup f ((n, v) :: ns.zip vs) = vs[k]?
    rw [List.lookup_cons, nb]
    exact lookup_zip (Nat.succ.inj hl) h fun j hj => hb (j + 1) (Nat.succ_lt_succ hj)
theorem ed_fld {A : Addr} {ns : List Str} {f : Str} {k : Nat} (ha : EvD C ta Γ (.ins A ns ds)) (hc : Cls K A) (hn : NoAttr K A f) (hk : ns[k]? = some f) (hb : ∀ j, j < k → ns[j]? ≠ some f) (hd : ds[k]? = some d) : EvD C (tFld K ta f) Γ d := fun σ F H I Q q =>
  ha σ F H I _ fun x F1 H1 d' I1 s1 r1 k1 => by
    subst k1
    obtain ⟨a, dx, vs, rfl, hF, hl, rs⟩ := r1.ins_inv
    obtain ⟨v, hv, rv⟩ := rs.get hd
    exact ⟨a, A, dx, _, v, rfl, I1.fh _ _ hF, hc, hn, by rw [lookup_zip hl hk hb, hv], q v F1 H1 d I1 s1 rv rfl⟩
/-! ### tests -/
theorem EvT.imp {R R' : Bool → Prop} (h : EvT C t Γ R) (k : ∀ b, R b → R' b) : EvT C t Γ R' := fun σ F H I Q q => h σ F H I Q fun b F' H' I' s z => q b F' H' I' s (k b z)
theorem EvT.is {b c : Bool} (h : EtD C t Γ b) (k : b = c) : EtD C t Γ c := k ▸ h
theorem et_test (h : EvN C te Γ Ra) {R : Bool → Prop} (k : ∀ d, Ra d → ∃ b, d = .bl b ∧ R b) : EvT C (tTest te) Γ R := fun σ F H I Q q => h σ F H I _ fun v F1 H1 d I1 s1 r1 k1 => by
  obtain ⟨b, rfl, z⟩ := k d k1
  exact ⟨b, r1.bl_inv, q b F1 H1 I1 s1 z⟩
theorem etd_test {b : Bool} (h : EvD C te Γ (.bl b)) : EtD C (tTest te) Γ b := et_test h fun _ z => ⟨b, z, rfl⟩
theorem etd_B {b : Bool} (h : EvD C te Γ (.bl b)) : EtD C (tB te) Γ b := fun σ F H I Q q => h σ F H I _ fun v F1 H1 d I1 s1 r1 k1 => by
  subst k1
  exact ⟨b, r1.bl_inv, q b F1 H1 I1 s1 rfl⟩
theorem et_and {R1 R2 R : Bool → Prop} (h1 : EvT C t Γ R1) (h2 : R1 true → EvT C u Γ R2) (k1 : ∀ b, R1 true → R2 b → R b) (k2 : R1 false → R false) : EvT C (tAnd t u) Γ R := fun σ F H I Q q => h1 σ F H I _ fun b F1 H1 I1 s1 z => by
  cases b with
  | true =>
    show u σ H1 Q
    exact h2 z σ F1 H1 I1 Q fun c F2 H2 I2 s2 y => q c F2 H2 I2 (s1.trans s2) (k1 c z y)
  | false =>
    show Q false H1
    exact q false F1 H1 I1 s1 (k2 z)
theorem et_or {R1 R2 R : Bool → Prop} (h1 : EvT C t Γ R1) (h2 : R1 false → EvT C u Γ R2) (k1 : ∀ b, R1 false → R2 b → R b) (k2 : R1 true → R true) : EvT C (tOr t u) Γ R := fun σ F H I Q q => h1 σ F H I _ fun b F1 H1 I1 s1 z => by
  cases b with
  | true =>
    show Q true H1
    exact q true F1 H1 I1 s1 (k2 z)
  | false =>
    show u σ H1 Q
    exact h2 z σ F1 H1 I1 Q fun c F2 H2 I2 s2 y => q c F2 H2 I2 (s1.trans s2) (k1 c z y)
theorem etd_and {a b : Bool} (h1 : EtD C t Γ a) (h2 : a = true → EtD C u Γ b) : EtD C (tAnd t u) Γ (a && b) :=
  et_and h1 (fun z => h2 z.symm) (fun c z y => by rw [← z, y]; rfl) (fun z => by rw [← z]; rfl)
theorem etd_or {a b : Bool} (h1 : EtD C t Γ a) (h2 : a = false → EtD C u Γ b) : EtD C (tOr t u) Γ (a || b) :=
  et_or h1 (fun z => h2 z.symm) (fun c z y => by rw [← z, y]; rfl) (fun z => by rw [← z]; rfl)
theorem etd_or1 {a : Bool} (h1 : EtD C t Γ a) (ha : a = true) : EtD C (tOr t u) Γ true :=
  et_or (R2 := fun _ => True) h1 (fun z => by rw [ha] at z; cases z) (fun c z y => by rw [ha] at z; cases z) (fun _ => rfl)
theorem etd_and0 {a : Bool} (h1 : EtD C t Γ a) (ha : a = false) : EtD C (tAnd t u) Γ false :=
  et_and (R2 := fun _ => True) h1 (fun z => by rw [ha] at z; cases z) (fun c z y => by rw [ha] at z; cases z) (fun _ => rfl)
theorem etd_not {a : Bool} (h1 : EtD C t Γ a) : EtD C (tNot t) Γ (!a) := fun σ F H I Q q => h1 σ F H I _ fun b F1 H1 I1 s1 z => q _ F1 H1 I1 s1 (by rw [z])
theorem et_not {R R' : Bool → Prop} (h1 : EvT C t Γ R) (k : ∀ b, R b → R' (!b)) : EvT C (tNot t) Γ R' := fun σ F H I Q q => h1 σ F H I _ fun b F1 H1 I1 s1 z => q _ F1 H1 I1 s1 (k b z)
theorem ed_andV {a b : Bool} (h1 : EvD C ta Γ (.bl a)) (h2 : a = true → EvD C tb Γ (.bl b)) : EvD C (tAndV ta tb) Γ (.bl (a && b)) := fun σ F H I Q q => h1 σ F H I _ fun x F1 H1 d I1 s1 r1 k1 => by
  subst k1
  refine ⟨a, r1.bl_inv, ?_⟩
  cases a with
  | true =>
    show tb σ H1 Q
    exact h2 rfl σ F1 H1 I1 Q fun v F2 H2 d I2 s2 r2 k2 => q v F2 H2 d I2 (s1.trans s2) r2 k2
  | false =>
    show Q (.bl false) H1
    exact q _ F1 H1 _ I1 s1 (.bl false) rfl
theorem ed_orV {a b : Bool} (h1 : EvD C ta Γ (.bl a)) (h2 : a = false → EvD C tb Γ (.bl b)) : EvD C (tOrV ta tb) Γ (.bl (a || b)) := fun σ F H I Q q => h1 σ F H I _ fun x F1 H1 d I1 s1 r1 k1 => by
  subst k1
  refine ⟨a, r1.bl_inv, ?_⟩
  cases a with
  | true =>
    show Q (.bl true) H1
    exact q _ F1 H1 _ I1 s1 (.bl true) rfl
  | false =>
    show tb σ H1 Q
    exact h2 rfl σ F1 H1 I1 Q fun v F2 H2 d I2 s2 r2 k2 => q v F2 H2 d I2 (s1.trans s2) r2 k2
theorem ed_andV0 {a : Bool} (h1 : EvD C ta Γ (.bl a)) (ha : a = false) : EvD C (tAndV ta tb) Γ (.bl false) := (ed_andV (b := false) h1 fun z => by rw [ha] at z; cases z).is (by rw [ha]; rfl)
theorem ed_orV1 {a : Bool} (h1 : EvD C ta Γ (.bl a)) (ha : a = true) : EvD C (tOrV ta tb) Γ (.bl true) := (ed_orV (b := true) h1 fun z => by rw [ha] at z; cases z).is (by rw [ha]; rfl)
theorem ed_notV {a : Bool} (h1 : EvD C ta Γ (.bl a)) : EvD C (tNotV ta) Γ (.bl (!a)) := fun σ F H I Q q => h1 σ F H I _ fun x F1 H1 d I1 s1 r1 k1 => by
  subst k1
  exact ⟨a, r1.bl_inv, q _ F1 H1 _ I1 s1 (.bl _) rfl⟩
theorem en_if {R1 : Bool → Prop} (h : EvT C t Γ R1) (h1 : R1 true → EvN C ta Γ R) (h2 : R1 false → EvN C tb Γ R) : EvN C (tIf t ta tb) Γ R := fun σ F H I Q q => h σ F H I _ fun b F1 H1 I1 s1 z => by
  cases b with
  | true =>
    show ta σ H1 Q
    exact h1 z σ F1 H1 I1 Q fun v F2 H2 d I2 s2 r2 k2 => q v F2 H2 d I2 (s1.trans s2) r2 k2
  | false =>
    show tb σ H1 Q
    exact h2 z σ F1 H1 I1 Q fun v F2 H2 d I2 s2 r2 k2 => q v F2 H2 d I2 (s1.trans s2) r2 k2
theorem ed_if {b : Bool} (h : EtD C t Γ b) (h1 : b = true → EvD C ta Γ d) (h2 : b = false → EvD C tb Γ d) : EvD C (tIf t ta tb) Γ d := en_if h (fun z => h1 z.symm) fun z => h2 z.symm
/-- a list's truth -/
theorem etd_truL (h : EvD C te Γ (.lst ds)) : EtD C (fun σ H Q => te σ H fun x H' => ∃ k, TruV K x H' k ∧ Q k H') Γ (!ds.isEmpty) := fun σ F H I Q q => h σ F H I _ fun x F1 H1 d I1 s1 r1 k1 => by
  subst k1
  obtain ⟨a, vs, rfl, hF, rs⟩ := r1.lst_inv
  refine ⟨!ds.isEmpty, .inl ⟨vs, .inl (.inl (I1.fh _ _ hF)), ?_⟩, q _ F1 H1 I1 s1 rfl⟩
  cases rs <;> rfl
theorem etd_truO {n : Nat} (ho : Γ[n]? = some (.own ds)) : EtD C (fun σ H Q => tVar n σ H fun x H' => ∃ k, TruV K x H' k ∧ Q k H') Γ (!ds.isEmpty) := fun σ F H I Q q => by
  obtain ⟨o, ho1, p, vs, e1, e2, e3, e4, r⟩ := I.sl n _ ho
  subst e1
  refine ⟨.ref p, ho1, !ds.isEmpty, .inl ⟨vs, .inl (.inl e2), ?_⟩, q _ F H I (.refl _) rfl⟩
  cases r <;> rfl
/-- a <= b < c, of ints -/
theorem ed_chain {f g : Int → Int → Bool} {k : Int} (ha : EvD C ta Γ (.int i)) (hb : EvD C tb Γ (.int j)) (hc : EvD C tc Γ (.int k)) :
    EvD C (tChain (rI0 fun i j => .bl (f i j)) (rI0 fun i j => .bl (g i j)) ta tb tc) Γ (.bl (f i j && g j k)) := fun σ F H I Q q =>
  ha σ F H I _ fun x F1 H1 d1 I1 s1 r1 k1 => hb σ F1 H1 I1 _ fun y F2 H2 d2 I2 s2 r2 k2 => by
    subst k1 k2
    refine ⟨i, j, r1.int_inv, r2.int_inv, f i j, rfl, ?_⟩
    cases e : f i j with
    | true =>
      show tc σ H2 _
      exact hc σ F2 H2 I2 _ fun z F3 H3 d3 I3 s3 r3 k3 => by
        subst k3
        exact ⟨j, k, r2.int_inv, r3.int_inv, q _ F3 H3 _ I3 ((s1.trans s2).trans s3) (.bl _) (by simp [e])⟩
    | false =>
      show Q (.bl false) H2
      exact q _ F2 H2 _ I2 (s1.trans s2) (.bl false) (by simp [e])
end
end Wk
-- Core3
/-! Statements, loops, comprehensions, calls, promises. -/
namespace Wk
open PySem PySem.Spec
open PyProof.Rows L2
section
variable {C C' : Ctx} {K : PySem.W.Frag} {Γ Γ' : List Slot} {ta tb tc te : TE} {t u : TT} {d e : Dt} {ds es : List Dt} {R Ra Rb : Dt → Prop} {D : Ends} {s1 s2 : TS} {Q : VK} {Post : Dt → Prop}
/-! ### statements -/
theorem nx_seq (h : NX C (s1 { D with nx := s2 D }) Γ) : NX C (tSeq s1 s2 D) Γ := h
theorem nx_next (h : NX C D.nx Γ) : NX C (tNext D) Γ := h
theorem nx_asgN {i : Nat} (h : EvN C te Γ R) (k : ∀ d, R d → NX C D.nx (Γ.set i (.val d))) : NX C (tAsg te (gName i) D) Γ := fun σ F H I =>
  h σ F H I _ fun v F1 H1 d I1 s1 r1 k1 => k d k1 _ F1 H1 (I1.setVal r1)
theorem nx_asg {i : Nat} (h : EvD C te Γ d) (k : NX C D.nx (Γ.set i (.val d))) : NX C (tAsg te (gName i) D) Γ := nx_asgN h fun _ z => by rw [z]; exact k
theorem nx_asgON {i : Nat} {Rs : List Dt → Prop} (h : EvL C te Γ Rs) (k : ∀ ds, Rs ds → NX C D.nx (Γ.set i (.own ds))) : NX C (tAsg te (gName i) D) Γ := fun σ F H I =>
  h σ F H I _ fun p vs F1 H1 ds I1 s1 hp hf h0 no r1 k1 => k ds k1 _ F1 H1 (I1.setOwn hp hf h0 no r1)
theorem nx_asgO {i : Nat} (h : ElD C te Γ ds) (k : NX C D.nx (Γ.set i (.own ds))) : NX C (tAsg te (gName i) D) Γ := nx_asgON h fun _ z => by rw [z]; exact k
/-- an own list is data from here on -/
theorem nx_freeze {P : L2.St → Hp → Prop} {i : Nat} (hi : Γ[i]? = some (.own ds)) (k : NX C P (Γ.set i (.val (.lst ds)))) : NX C P Γ := fun σ F H I => by
  obtain ⟨o, ho, p, vs, e1, e2, e3, e4, r⟩ := I.sl i _ hi
  subst e1
  have hlt : i < σ.length := (List.getElem?_eq_some_iff.mp ho).1
  have hs : σ.set i (some (.ref p)) = σ := by
    apply List.ext_getElem?
    intro j
    by_cases hj : i = j
    · subst hj
      rw [List.getElem?_set_self hlt, ho]
    · rw [List.getElem?_set_ne hj]
  have hlG : i < Γ.length := (List.getElem?_eq_some_iff.mp hi).1
  -- the slot is forgotten, then the list becomes data, then the slot is told anew
  have w : Wks Γ (Γ.set i .no) := by
    clear hi k I ho e2 e3 e4 r hs hlt
    induction Γ generalizing i with
    | nil => exact .nil
    | cons s g ih =>
      cases i with
      | zero => exact .drop (Wks.refl g)
      | succ i => exact .keep (ih (Nat.lt_of_succ_lt_succ hlG))
  have I1 : IV C σ F H (Γ.set i .no) := I.weak w
  have no : ¬ Owns σ (Γ.set i .no) p := fun ⟨j, ds', h1, h2⟩ => by
    by_cases hj : i = j
    · subst hj
      rw [List.getElem?_set_self hlG] at h1
      cases h1
    · rw [List.getElem?_set_ne hj] at h1
      exact hj (I.dj i j ds ds' p hi h1 ho h2)
  have I2 := (I1.freeze e2 e3 e4 no).setVal (i := i) (v := .ref p) (d := .lst ds) (.lst upd_same (r.mono (same_upd e3)))
  rw [hs] at I2
  have eg : (Γ.set i Slot.no).set i (Slot.val (.lst ds)) = Γ.set i (Slot.val (.lst ds)) := by rw [List.set_set]
  rw [eg] at I2
  exact k σ _ H I2
theorem nx_retN (hr : Rt C Q Post) (h : EvN C te Γ Post) (e : D.rt = Q := by rfl) : NX C (tRet te D) Γ := fun σ F H I =>
  h σ F H I _ fun v F1 H1 d I1 s1 r1 k1 => by
    rw [e]
    exact hr σ F1 H1 Γ v d I1 r1 k1
theorem nx_ret (hr : Rt C Q Post) (h : EvD C te Γ d) (k : Post d) (e : D.rt = Q := by rfl) : NX C (tRet te D) Γ := nx_retN hr (h.to k) e
theorem nx_dropN (h : EvN C te Γ R) (k : NX C D.nx Γ) : NX C (tDrop te D) Γ := fun σ F H I => h σ F H I _ fun v F1 H1 d I1 s1 r1 k1 => k σ F1 H1 I1
theorem nx_drop' (h : EvN C te Γ R) (k : (∃ d, R d) → NX C D.nx Γ) : NX C (tDrop te D) Γ := fun σ F H I => h σ F H I _ fun v F1 H1 d I1 s1 r1 k1 => k ⟨d, k1⟩ σ F1 H1 I1
theorem nx_ifN {Rb : Bool → Prop} (h : EvT C t Γ Rb) (h1 : Rb true → NX C (s1 D) Γ) (h2 : Rb false → NX C (s2 D) Γ) : NX C (tIfS t s1 s2 D) Γ := fun σ F H I => h σ F H I _ fun b F1 H1 I1 e1 z => by
  cases b with
  | true =>
    show s1 D σ H1
    exact h1 z σ F1 H1 I1
  | false =>
    show s2 D σ H1
    exact h2 z σ F1 H1 I1
theorem nx_if {b : Bool} (h : EtD C t Γ b) (h1 : b = true → NX C (s1 D) Γ) (h2 : b = false → NX C (s2 D) Γ) : NX C (tIfS t s1 s2 D) Γ := nx_ifN h (fun z => h1 z.symm) fun z => h2 z.symm
theorem nx_if_no (h : EtD C t Γ false) (h2 : NX C (s2 D) Γ) : NX C (tIfS t s1 s2 D) Γ := nx_if h (fun z => by cases z) fun _ => h2
theorem nx_if_yes (h : EtD C t Γ true) (h1 : NX C (s1 D) Γ) : NX C (tIfS t s1 s2 D) Γ := nx_if h (fun _ => h1) fun z => by cases z
theorem nx_par {i j : Nat} (h : EaD C ta' Γ [d, e]) (k : NX C D.nx ((Γ.set i (.val d)).set j (.val e))) : NX C (tPar i j ta' D) Γ := fun σ F H I => h σ F H I _ fun vs F1 H1 ds I1 s1 r1 k1 => by
  subst k1
  cases r1 with
  | cons rv r2 =>
    cases r2 with
    | cons rw r3 =>
      cases r3
      exact ⟨_, _, rfl, k _ F1 H1 ((I1.setVal rv).setVal rw)⟩
/-- xs.append(e), xs owned -/
theorem nx_app {i : Nat} (hi : Γ[i]? = some (.own ds)) (h : EvD C te Γ d) (hz : ds.length < 1000) (k : NX C D.nx (Γ.set i (.own (ds ++ [d])))) : NX C (tDrop (tBM K "list" rAppend (tVar i) (tCons te tNil)) D) Γ := fun σ F H I => by
  obtain ⟨o, ho, p, vs, e1, e2, e3, e4, r⟩ := I.sl i _ hi
  subst e1
  refine ⟨.ref p, ho, .inl ⟨rfl, vs, .inl (.inl e2)⟩, h σ F H I _ fun v F1 H1 d' I1 s1 r1 k1 => ?_⟩
  subst k1
  obtain ⟨o', ho', p', vs', e1', e2', e3', e4', r'⟩ := I1.sl i _ hi
  rw [ho, e1'] at ho'
  cases Option.some.inj ho'
  refine ⟨p, vs', v, rfl, rfl, e2', by rw [r'.length]; exact small1000 (Nat.le_of_lt hz), ?_⟩
  exact k σ F1 _ (I1.put hi ho (r'.append (.cons r1 .nil)))
/-- xs[n] = e, xs owned -/
theorem nx_setItem {i n : Nat} {z : Int} (hi : Γ[i]? = some (.own ds)) (h : EvD C te Γ d) (hx : EvD C tb Γ (.int z)) (hn : ixN ds.length z = some n) (k : NX C D.nx (Γ.set i (.own (ds.set n d)))) : NX C (tAsg te (gSub (tVar i) tb rSetL) D) Γ := fun σ F H I =>
  h σ F H I _ fun v F1 H1 d' I1 s1 r1 k1 => by
    subst k1
    obtain ⟨o, ho, p, vs, e1, e2, e3, e4, r⟩ := I1.sl i _ hi
    subst e1
    refine ⟨.ref p, ho, hx σ F1 H1 I1 _ fun y F2 H2 e' I2 s2 r2 k2 => ?_⟩
    subst k2
    cases r2.int_inv
    obtain ⟨o', ho', p', vs', e1', e2', e3', e4', r'⟩ := I2.sl i _ hi
    rw [ho, e1'] at ho'
    cases Option.some.inj ho'
    refine ⟨p, vs', z, n, rfl, rfl, e2', by rw [r'.length]; exact hn, ?_⟩
    exact k σ F2 _ (I2.put hi ho (r'.set (r1.mono s2) n))
/-! ### targets -/
def AsgG (C : Ctx) (g : TG) (d : Dt) (Γ Γ' : List Slot) (vs : List Nat) : Prop := ∀ σ F H v, IV C σ F H Γ → Rep F v d → ∀ Q : L2.St → Hp → Prop, (∀ σ', IV C σ' F H Γ' → wipe σ' vs = wipe σ vs → Q σ' H) → g v σ H Q
theorem wipe_set {σ : L2.St} {o : Option V} : ∀ {vs : List Nat} {j : Nat}, j ∈ vs → wipe (σ.set j o) vs = wipe σ vs
  | v :: vs, j, h => by
    unfold wipe
    by_cases e : j = v
    · subst e
      by_cases hm : j ∈ vs
      · rw [wipe_set hm]
      · have key : ∀ ws : List Nat, (wipe (σ.set j o) ws).set j none = (wipe σ ws).set j none := fun ws => by
          induction ws with
          | nil =>
            show (σ.set j o).set j none = σ.set j none
            rw [List.set_set]
          | cons w ws ih =>
            show ((wipe (σ.set j o) ws).set w none).set j none = ((wipe σ ws).set w none).set j none
            by_cases e : w = j
            · subst e
              rw [List.set_set, List.set_set]
              exact ih
            · rw [List.set_comm _ _ e, ih, List.set_comm _ _ (Ne.symm e)]
        exact key vs
    · rcases List.mem_cons.mp h with q | q
      · exact absurd q e
      · rw [wipe_set q]
theorem asg_name {j : Nat} {vs : List Nat} (hj : j ∈ vs := by simp) : AsgG C (gName j) d Γ (Γ.set j (.val d)) vs := fun σ F H v I r Q q => q _ (I.setVal r) (wipe_set hj)
theorem asg_tup2 {i j : Nat} {d1 d2 : Dt} {vs : List Nat} (hi : i ∈ vs := by simp) (hj : j ∈ vs := by simp) : AsgG C (gTup K 2 (gCons (gName i) (gCons (gName j) gNil))) (.tup [d1, d2]) Γ ((Γ.set i (.val d1)).set j (.val d2)) vs := fun σ F H v I r Q q => by
  obtain ⟨a, ws, rfl, hF, rs⟩ := r.tup_inv
  cases rs with
  | cons r1 rs =>
    cases rs with
    | cons r2 rs =>
      cases rs
      exact ⟨a, _, rfl, .inl (.inl (I.fh _ _ hF)), rfl, _, _, rfl, _, _, rfl, rfl, q _ ((I.setVal r1).setVal r2) (by rw [wipe_set hj, wipe_set hi])⟩
theorem nx_asgG {g : TG} (h : EvD C te Γ d) (vs : List Nat) (hg : AsgG C g d Γ Γ' vs) (k : NX C D.nx Γ') : NX C (tAsg te g D) Γ := fun σ F H I =>
  h σ F H I _ fun v F1 H1 d' I1 s1 r1 k1 => by
    subst k1
    exact hg σ F1 H1 v I1 r1 _ fun σ' I2 _ => k σ' F1 H1 I2
theorem nx_asg2 {i j : Nat} {d1 d2 : Dt} (h : EvD C te Γ (.tup [d1, d2])) (k : NX C D.nx ((Γ.set i (.val d1)).set j (.val d2))) : NX C (tAsg te (gTup K 2 (gCons (gName i) (gCons (gName j) gNil))) D) Γ := nx_asgG h [i, j] asg_tup2 k
theorem nx_asg2N {i j : Nat} (h : EvN C te Γ R) (k : ∀ d, R d → ∃ d1 d2, d = .tup [d1, d2] ∧ NX C D.nx ((Γ.set i (.val d1)).set j (.val d2))) : NX C (tAsg te (gTup K 2 (gCons (gName i) (gCons (gName j) gNil))) D) Γ := fun σ F H I =>
  h σ F H I _ fun v F1 H1 d' I1 s1 r1 k1 => by
    obtain ⟨d1, d2, rfl, k2⟩ := k d' k1
    exact (asg_tup2 (vs := [i, j]) : AsgG C _ _ Γ _ _) σ F1 H1 v I1 r1 _ fun σ' I2 _ => k2 σ' F1 H1 I2
theorem nx_asg3 {i j l : Nat} {d1 d2 d3 : Dt} (h : EvD C te Γ (.tup [d1, d2, d3])) (k : NX C D.nx (((Γ.set i (.val d1)).set j (.val d2)).set l (.val d3))) : NX C (tAsg te (gTup K 3 (gCons (gName i) (gCons (gName j) (gCons (gName l) gNil)))) D) Γ := fun σ F H I =>
  h σ F H I _ fun v F1 H1 d' I1 s1 r1 k1 => by
    subst k1
    obtain ⟨a, ws, rfl, hF, rs⟩ := r1.tup_inv
    cases rs with
    | cons r1 rs =>
      cases rs with
      | cons r2 rs =>
        cases rs with
        | cons r3 rs =>
          cases rs
          exact ⟨a, _, rfl, .inl (.inl (I1.fh _ _ hF)), rfl, _, _, rfl, _, _, rfl, _, _, rfl, rfl, k _ F1 H1 (((I1.setVal r1).setVal r2).setVal r3)⟩
/-! ### what is walked -/
def EvI (C : Ctx) (wi : TI) (Γ : List Slot) (n : Nat) (item : Nat → Dt) : Prop := ∀ σ F H, IV C σ F H Γ → ∀ R : It → Hp → Prop,
  (∀ J F1 H1 G Y, IV C σ F1 H1 Γ → Same F F1 → Walk J n G Y → (∀ H', Same F1 H' → G H') →
    (∀ (C' : Ctx) σ' F2 H2 Γ' i x H3, IV C' σ' F2 H2 Γ' → Same F1 F2 → i < n → Y i H2 x H3 → ∃ F3, IV C' σ' F3 H3 Γ' ∧ Same F2 F3 ∧ Same H2 H3 ∧ (∀ a, H2 a ≠ none → F2 a = none → F3 a = none) ∧ Rep F3 x (item i)) → R J H1) → wi σ H R
theorem ei_list {tl : TE} (h : EvD C tl Γ (.lst ds)) : EvI C (iList K tl) Γ ds.length (fun i => ds.getD i .non) := fun σ F H I R q => h σ F H I _ fun v F1 H1 d' I1 s1 r1 k1 => by
  subst k1
  obtain ⟨a, vs, rfl, hF, rs⟩ := r1.lst_inv
  refine ⟨a, rfl, ⟨vs, .inl (.inl (I1.fh _ _ hF))⟩, q _ F1 H1 (fun H => SqL K H a vs) (YAt vs) I1 s1 (by rw [← rs.length]; exact walk_list) (fun H' e => .inl (.inl (e _ _ hF))) ?_⟩
  rintro C' σ' F2 H2 Γ' i x H3 I2 e2 hi ⟨rfl, hx⟩
  obtain ⟨d, hd, rd⟩ := rs.getV hx
  refine ⟨F2, I2, .refl _, .refl _, fun _ _ z => z, ?_⟩
  show Rep F2 x (ds.getD i .non)
  rw [List.getD_eq_getElem?_getD, hd]
  exact rd.mono e2
theorem ei_tup {tl : TE} (h : EvD C tl Γ (.tup ds)) : EvI C (iTup K tl) Γ ds.length (fun i => ds.getD i .non) := fun σ F H I R q => h σ F H I _ fun v F1 H1 d' I1 s1 r1 k1 => by
  subst k1
  obtain ⟨a, vs, rfl, hF, rs⟩ := r1.tup_inv
  refine ⟨a, rfl, ⟨vs, .inl (.inl (I1.fh _ _ hF))⟩, q _ F1 H1 (fun H => SqT K H a vs) (YAt vs) I1 s1 (by rw [← rs.length]; exact walk_tup) (fun H' e => .inl (.inl (e _ _ hF))) ?_⟩
  rintro C' σ' F2 H2 Γ' i x H3 I2 e2 hi ⟨rfl, hx⟩
  obtain ⟨d, hd, rd⟩ := rs.getV hx
  refine ⟨F2, I2, .refl _, .refl _, fun _ _ z => z, ?_⟩
  show Rep F2 x (ds.getD i .non)
  rw [List.getD_eq_getElem?_getD, hd]
  exact rd.mono e2
theorem ei_range1 {tr : TA} {n : Int} (h : EaD C tr Γ [.int n]) (h0 : -(2 ^ 62) ≤ n ∧ n < 2 ^ 62) : EvI C (iRng1 tr) Γ n.toNat (fun i => .int (i : Int)) := fun σ F H I R q => h σ F H I _ fun vs F1 H1 ds I1 s1 r1 k1 => by
  subst k1
  cases r1 with
  | cons rv r2 =>
    cases r2
    cases rv.int_inv
    refine ⟨n, rfl, h0.1, h0.2, q _ F1 H1 _ _ I1 s1 walk_range (fun _ _ => trivial) ?_⟩
    rintro C' σ' F2 H2 Γ' i x H3 I2 e2 hi ⟨rfl, rfl⟩
    refine ⟨F2, I2, .refl _, .refl _, fun _ _ z => z, ?_⟩
    show Rep F2 (.int (0 + (i : Int))) (.int (i : Int))
    rw [Int.zero_add]
    exact .int _
theorem ei_range2 {tr : TA} {m n : Int} (h : EaD C tr Γ [.int m, .int n]) (h0 : -(2 ^ 62) ≤ m ∧ m < 2 ^ 62 ∧ -(2 ^ 62) ≤ n ∧ n < 2 ^ 62) : EvI C (iRng2 tr) Γ (n - m).toNat (fun i => .int (m + (i : Int))) := fun σ F H I R q => h σ F H I _ fun vs F1 H1 ds I1 s1 r1 k1 => by
  subst k1
  cases r1 with
  | cons rv r2 =>
    cases r2 with
    | cons rw r3 =>
      cases r3
      cases rv.int_inv
      cases rw.int_inv
      refine ⟨m, n, rfl, h0, q _ F1 H1 _ _ I1 s1 walk_range (fun _ _ => trivial) ?_⟩
      rintro C' σ' F2 H2 Γ' i x H3 I2 e2 hi ⟨rfl, rfl⟩
      exact ⟨F2, I2, .refl _, .refl _, fun _ _ z => z, .int _⟩
theorem ei_enum {tr : TA} (h : EaD C tr Γ [.lst ds]) : EvI C (iEnum K tr) Γ ds.length (fun i => .tup [.int (i : Int), ds.getD i .non]) := fun σ F H I R q => h σ F H I _ fun vs F1 H1 ds' I1 s1 r1 k1 => by
  subst k1
  cases r1 with
  | cons rv r2 =>
    cases r2
    obtain ⟨a, vs, rfl, hF, rs⟩ := rv.lst_inv
    refine ⟨a, vs, rfl, .inl (.inl (I1.fh _ _ hF)), q _ F1 H1 (fun H => SqL K H a vs) _ I1 s1 (by rw [← rs.length]; exact walk_enum) (fun H' e => .inl (.inl (e _ _ hF))) ?_⟩
    rintro C' σ' F2 H2 Γ' i x H3 I2 e2 hi ⟨T, y, z, rfl, hT, rfl, e3, e4⟩
    have g := grow_new (o := .tup [y, z]) I2.fh hT
    obtain ⟨d, hd, rd⟩ := rs.getV e4
    refine ⟨_, I2.grow g, g.ff, g.hh, g.fn, .tup upd_same (.cons ?_ (.cons ?_ .nil))⟩
    · rw [← Option.some.inj e3]
      exact .int _
    · rw [List.getD_eq_getElem?_getD, hd]
      exact (rd.mono e2).mono g.ff
/-! ### for -/
theorem nx_for {wi : TI} {tg : TG} {tb : TS} {n : Nat} {item : Nat → Dt} (hi : EvI C wi Γ n item) (g : Nat → List Slot) (h0 : Wks Γ (g 0))
    (hs : ∀ C', Le C C' → ∀ i, i < n → ∀ N, NX C' N (g (i + 1)) → ∃ Γ2 vs, AsgG C' tg (item i) (g i) Γ2 vs ∧ NX C' (tb { D with nx := N, ct := N, bk := D.nx }) Γ2) (hd : NX C D.nx (g n)) : NX C (tFor wi tg tb D) Γ := fun σ F H I =>
  hi σ F H I _ fun J F1 H1 G Y I1 s1 w hG hY => by
    obtain ⟨IB, le⟩ := I1.base
    refine for_it w (fun i σ H => ∃ F, IV { C with F0 := F1 } σ F H (g i)) ⟨F1, IB.weak h0⟩ (fun i σ H _ ⟨F, J⟩ => hG H (J.f0.trans J.fh)) ?_ (fun σ H ⟨F, J⟩ => hd σ F H (le _ _ _ _ J))
    rintro i x σ2 H2 H3 hin ⟨F2, I2⟩ y
    obtain ⟨F3, I3, _, _, _, rx⟩ := hY _ σ2 F2 H2 _ i x H3 I2 I2.f0 hin y
    obtain ⟨Γ2, vs, ha, hb⟩ := hs _ le i hin (fun σ H => ∃ F, IV { C with F0 := F1 } σ F H (g (i + 1))) (fun σ F H J => ⟨F, J⟩)
    exact ha σ2 F3 H3 x I3 rx _ fun σ' I4 _ => hb σ' F3 H3 I4
/-- .. the state behind each turn open -/
theorem nx_forE {wi : TI} {tg : TG} {tb : TS} {n : Nat} {item : Nat → Dt} (hi : EvI C wi Γ n item) {ι : Type} (g : Nat → ι → List Slot) (P : Nat → ι → Prop) (x0 : ι) (p0 : P 0 x0) (h0 : Wks Γ (g 0 x0))
    (hs : ∀ C', Le C C' → ∀ i, i < n → ∀ x, P i x → ∀ N, (∀ y, P (i + 1) y → NX C' N (g (i + 1) y)) → ∃ Γ2 vs, AsgG C' tg (item i) (g i x) Γ2 vs ∧ NX C' (tb { D with nx := N, ct := N, bk := D.nx }) Γ2) (hd : ∀ x, P n x → NX C D.nx (g n x)) : NX C (tFor wi tg tb D) Γ := fun σ F H I =>
  hi σ F H I _ fun J F1 H1 G Y I1 s1 w hG hY => by
    obtain ⟨IB, le⟩ := I1.base
    refine for_it w (fun i σ H => ∃ F x, P i x ∧ IV { C with F0 := F1 } σ F H (g i x)) ⟨F1, x0, p0, IB.weak h0⟩ (fun i σ H _ ⟨F, _, _, J⟩ => hG H (J.f0.trans J.fh)) ?_ (fun σ H ⟨F, x, px, J⟩ => hd x px σ F H (le _ _ _ _ J))
    rintro i x σ2 H2 H3 hin ⟨F2, z, pz, I2⟩ y
    obtain ⟨F3, I3, _, _, _, rx⟩ := hY _ σ2 F2 H2 _ i x H3 I2 I2.f0 hin y
    obtain ⟨Γ2, vs, ha, hb⟩ := hs _ le i hin z pz (fun σ H => ∃ F x, P (i + 1) x ∧ IV { C with F0 := F1 } σ F H (g (i + 1) x)) (fun y py σ F H J => ⟨F, y, py, J⟩)
    exact ha σ2 F3 H3 x I3 rx _ fun σ' I4 _ => hb σ' F3 H3 I4
/-- for over range(n), n open -/
theorem nx_forRN {tr : TA} {tg : TG} {tb : TS} {Rn : Int → Prop} (ha : EvA C tr Γ fun ds => ∃ n, ds = [.int n] ∧ Rn n) (k : ∀ n, Rn n → NX C (tFor (iRng1 (fun _ H Q => Q [.int n] H)) tg tb D) Γ) : NX C (tFor (iRng1 tr) tg tb D) Γ := fun σ F H I =>
  ha σ F H I _ fun vs F1 H1 ds I1 s1 r1 ⟨n, e, hn⟩ => by
    subst e
    cases r1 with
    | cons rv r2 =>
      cases r2
      cases rv.int_inv
      exact k n hn σ F1 H1 I1
theorem ea_const {n : Int} : EaD C (fun _ H Q => Q [V.int n] H) Γ [.int n] := fun σ F H I Q q => q _ F H _ I (.refl _) (.cons (.int n) .nil) rfl
/-- while: x tells the state, μ falls -/
theorem nx_while {tt : TT} {tb : TS} {ι : Type} (g : ι → List Slot) (P : ι → Prop) (μ : ι → Nat) (x0 : ι) (p0 : P x0) (h0 : Wks Γ (g x0))
    (hs : ∀ x, P x → ∃ b, EtD C tt (g x) b ∧ (b = true → ∀ N, (∀ y, P y → μ y < μ x → NX C N (g y)) → NX C (tb { D with nx := N, ct := N, bk := D.nx }) (g x)) ∧ (b = false → NX C D.nx (g x))) : NX C (tWhile tt tb D) Γ := fun σ F H I => by
  refine ⟨fun m σ H => ∃ x F, P x ∧ μ x = m ∧ IV C σ F H (g x), ⟨μ x0, x0, F, p0, rfl, I.weak h0⟩, ?_⟩
  rintro m σ2 H2 ⟨x, F2, px, rfl, I2⟩
  obtain ⟨b, hb, h1, h2⟩ := hs x px
  refine hb σ2 F2 H2 I2 _ fun c F3 H3 I3 _ z => ?_
  subst z
  cases c with
  | true =>
    show ∃ N : L2.St → Hp → Prop, _ ∧ _
    exact ⟨fun σ H => ∃ y F, P y ∧ μ y < μ x ∧ IV C σ F H (g y), fun σ' H' ⟨y, F, py, hl, J⟩ => ⟨μ y, hl, y, F, py, rfl, J⟩, h1 rfl _ (fun y py hl σ F H J => ⟨y, F, py, hl, J⟩) σ2 F3 H3 I3⟩
  | false =>
    show D.nx σ2 H3
    exact h2 rfl σ2 F3 H3 I3
/-! ### comprehensions -/
def noOwn (Γ : List Slot) : Bool := Γ.all fun s => match s with
  | .own _ => false
  | _ => true
theorem noOwn_no {σ : L2.St} {p : Addr} (h : noOwn Γ = true) : ¬ Owns σ Γ p := fun ⟨i, ds, h1, _⟩ => by
  have := List.all_eq_true.mp h _ (List.mem_of_getElem? h1)
  cases this
/-- the heap at hand is the entry from here on -/
theorem IV.base2 {σ : L2.St} {F H : Hp} (I : IV C σ F H Γ) (no : noOwn Γ = true) : IV { C with F0 := F, H0 := H } σ F H Γ ∧ Le C { C with F0 := F, H0 := H } :=
  ⟨⟨fun p h => I.taken (I.cS p h), fun q h => I.taken (I.cT q h), .refl _, I.fh, fun _ _ h _ _ => h, fun _ _ h => h, I.st, I.tb, I.ft, I.len, fun i s hs => by
      obtain ⟨o, ho, k⟩ := I.sl i s hs
      refine ⟨o, ho, ?_⟩
      cases s with
      | no => trivial
      | val d => exact k
      | own ds =>
        have := List.all_eq_true.mp no _ (List.mem_of_getElem? hs)
        cases this
      | sto => exact k
      | raw v => exact k, I.dj⟩, fun σ' F' H' Γ' J =>
    ⟨I.cS, I.cT, I.f0.trans J.f0, J.fh, fun a o h h1 h2 => J.hh a o (I.hh a o h h1 h2) h1 h2, fun a h h0 => J.fn a (I.taken h) (I.fn a h h0), J.st, J.tb, J.ft, J.len, fun i s hs => by
      obtain ⟨o, ho, k⟩ := J.sl i s hs
      refine ⟨o, ho, ?_⟩
      cases s with
      | no => trivial
      | val d => exact k
      | own ds =>
        obtain ⟨p, vs, k1, k2, k3, k4, k5⟩ := k
        exact ⟨p, vs, k1, k2, k3, I.fresh0 k4, k5⟩
      | sto => exact k
      | raw v => exact k, J.dj⟩⟩
/-- a list that is no slot's and no data's changes -/
theorem IV.upd0 {σ : L2.St} {F H : Hp} (I : IV C σ F H Γ) {p : Addr} {vs ws : List V} (hp : H p = some (.lst vs)) (hf : F p = none) (h0 : C.H0 p = none) (no : ¬ Owns σ Γ p) : IV C σ F (upd H p (.lst ws)) Γ := by
  refine ⟨I.cS, I.cT, I.f0, fun a o z => ?_, fun a o z z1 z2 => ?_, I.fn, fun q hq => ?_, tabS_but I.tb hp fun a o z n => by rw [upd_ne n]; exact z, I.ft, I.len, fun i s hs => ?_, I.dj⟩
  · have n : a ≠ p := fun w => by
      rw [w, hf] at z
      cases z
    rw [upd_ne n]
    exact I.fh a o z
  · have n : a ≠ p := fun w => by
      rw [w, h0] at z
      cases z
    rw [upd_ne n]
    exact I.hh a o z z1 z2
  · have n : q ≠ p := fun w => I.cS q hq (w ▸ h0)
    refine (I.st q hq).mono (.refl _) (I.st q hq).1 fun o z => ?_
    rw [upd_ne n]
    exact z
  · obtain ⟨o, ho, k⟩ := I.sl i s hs
    refine ⟨o, ho, ?_⟩
    cases s with
    | no => trivial
    | val d => exact k
    | own ds =>
      obtain ⟨q, us, k1, k2, k3, k4, k5⟩ := k
      have n : q ≠ p := fun w => no ⟨i, ds, hs, by rw [ho, k1, w]⟩
      exact ⟨q, us, k1, by rw [upd_ne n]; exact k2, k3, k4, k5⟩
    | sto => exact k
    | raw v => exact k
def wipeG (Γ : List Slot) : List Nat → List Slot
  | [] => Γ
  | v :: vs => (wipeG Γ vs).set v .no
theorem wipeG_len (Γ : List Slot) : ∀ vs, (wipeG Γ vs).length = Γ.length
  | [] => rfl
  | v :: vs => by
    unfold wipeG
    rw [List.length_set, wipeG_len Γ vs]
theorem wipeG_get {Γ : List Slot} {i : Nat} {s : Slot} : ∀ {vs : List Nat}, (wipeG Γ vs)[i]? = some s → s = .no ∨ (Γ[i]? = some s ∧ i ∉ vs)
  | [], h => .inr ⟨h, by simp⟩
  | v :: vs, h => by
    unfold wipeG at h
    by_cases e : v = i
    · subst e
      have hlt : v < (wipeG Γ vs).length := by
        have := (List.getElem?_eq_some_iff.mp h).1
        rwa [List.length_set] at this
      rw [List.getElem?_set_self hlt] at h
      exact .inl (Option.some.inj h).symm
    · rw [List.getElem?_set_ne e] at h
      rcases wipeG_get h with z | ⟨z1, z2⟩
      · exact .inl z
      · exact .inr ⟨z1, by simp only [List.mem_cons, not_or]; exact ⟨fun q => e q.symm, z2⟩⟩
theorem wipe_at {σ : L2.St} {i : Nat} : ∀ {vs : List Nat}, i ∉ vs → (wipe σ vs)[i]? = σ[i]?
  | [], _ => rfl
  | v :: vs, h => by
    have h' : i ≠ v ∧ i ∉ vs := by simpa only [List.mem_cons, not_or] using h
    unfold wipe
    rw [List.getElem?_set_ne (Ne.symm h'.1), wipe_at h'.2]
theorem IV.wipes {σ : L2.St} {F H : Hp} (I : IV C σ F H Γ) (vs : List Nat) : IV C (wipe σ vs) F H (wipeG Γ vs) :=
  ⟨I.cS, I.cT, I.f0, I.fh, I.hh, I.fn, I.st, I.tb, I.ft, by rw [wipe_length, wipeG_len]; exact I.len, fun i s hs => by
    rcases wipeG_get hs with e | ⟨e1, e2⟩
    · subst e
      have hlt : i < (wipe σ vs).length := by
        rw [wipe_length, I.len, ← wipeG_len Γ vs]
        exact (List.getElem?_eq_some_iff.mp hs).1
      exact ⟨_, List.getElem?_eq_getElem hlt, trivial⟩
    · rw [wipe_at e2]
      exact I.sl i s e1, fun i j d1 d2 p h1 h2 h3 h4 => by
    rcases wipeG_get h1 with e | ⟨e1, e2⟩
    · cases e
    · rcases wipeG_get h2 with e' | ⟨e1', e2'⟩
      · cases e'
      · rw [wipe_at e2] at h3
        rw [wipe_at e2'] at h4
        exact I.dj i j d1 d2 p e1 e1' h3 h4⟩
/-- [te for tg in wi if tt]: A tells what lists may stand behind i turns -/
theorem el_lcN {wi : TI} {tg : TG} {tt : TT} {vs : List Nat} {n : Nat} {item : Nat → Dt} (A : Nat → List Dt → Prop) (hi : EvI C wi Γ n item) (no : noOwn Γ = true) (hn : n ≤ 1000) (a0 : A 0 [])
    (hs : ∀ C', Le C C' → ∀ i, i < n → ∃ Γ2, AsgG C' tg (item i) (wipeG Γ vs) Γ2 vs ∧ ∃ Rb : Bool → Prop, EvT C' tt Γ2 Rb ∧ (Rb true → EvN C' te Γ2 fun d => ∀ l, A i l → A (i + 1) (l ++ [d])) ∧ (Rb false → ∀ l, A i l → A (i + 1) l)) :
    EvL C (tLc wi tg tt te vs) Γ (A n) := fun σ F H I Q q => hi σ F H I _ fun J F1 H1 G Y I1 s1 w hG hY Dl hD => by
  have I1w := I1.wipes vs
  have g0 := grow_new0 (o := .lst []) I1.fh hD
  have h00 : C.H0 Dl = none := I1.fresh0 hD
  have noD : ¬ Owns (wipe σ vs) (wipeG Γ vs) Dl := notOwn_new I1w hD
  have noW : noOwn (wipeG Γ vs) = true := List.all_eq_true.mpr fun s hs => by
    obtain ⟨i, hi'⟩ := List.mem_iff_getElem?.mp hs
    rcases wipeG_get hi' with e | ⟨e, _⟩
    · rw [e]
    · exact List.all_eq_true.mp no s (List.mem_of_getElem? e)
  refine lc_it w (fun i H => ∃ F acc ds, Same F1 F ∧ IV C (wipe σ vs) F H (wipeG Γ vs) ∧ H Dl = some (.lst acc) ∧ F Dl = none ∧ Reps F acc ds ∧ ds.length ≤ i ∧ A i ds ∧ (∀ b o, H1 b = some o → (∀ p, C.S p → b ≠ p) → (∀ x ∈ C.T, x.1 ≠ b) → H b = some o) ∧ IV C σ F H Γ) ⟨F1, [], [], .refl _, I1w.grow g0, upd_same, free_F I1.fh hD, .nil, Nat.le_refl _, a0, fun b o h _ _ => g0.hh b o h, I1.grow g0⟩ (fun i H _ ⟨F, acc, ds, e1, J, _⟩ => hG H (e1.trans J.fh)) ?_ ?_
  · rintro i x H2 H3 hin ⟨F2, acc, ds, e1, J, hDl, hFD, ra, hl, hA, hk, JJ⟩ y
    obtain ⟨Jb, le⟩ := J.base2 noW
    obtain ⟨F3, J3, e3, h3, n3, rx⟩ := hY _ _ F2 H2 _ i x H3 Jb e1 hin y
    obtain ⟨Γ2, ha, Rb, ht, h1, h2⟩ := hs _ le i hin
    have upJ : ∀ {F' H'}, IV { C with F0 := F2, H0 := H2 } (wipe σ vs) F' H' (wipeG Γ vs) → Same F2 F' → IV C σ F' H' Γ := fun {F' H'} z eF => by
      have z' := le _ _ _ _ z
      refine ⟨z'.cS, z'.cT, z'.f0, z'.fh, z'.hh, z'.fn, z'.st, z'.tb, z'.ft, JJ.len, fun k s hk2 => ?_, JJ.dj⟩
      obtain ⟨o, ho, kk⟩ := JJ.sl k s hk2
      refine ⟨o, ho, ?_⟩
      cases s with
      | no => trivial
      | val d =>
        obtain ⟨v, k1, k2⟩ := kk
        exact ⟨v, k1, k2.mono eF⟩
      | own ds =>
        have := List.all_eq_true.mp no _ (List.mem_of_getElem? hk2)
        cases this
      | sto => exact kk
      | raw v => exact kk
    refine ha _ F3 H3 x J3 rx _ fun σ2 J4 hw => ?_
    have back : ∀ {F' H'}, IV { C with F0 := F2, H0 := H2 } σ2 F' H' Γ2 → IV { C with F0 := F2, H0 := H2 } (wipe σ vs) F' H' (wipeG Γ vs) := fun {F' H'} z => by
      refine ⟨z.cS, z.cT, z.f0, z.fh, z.hh, z.fn, z.st, z.tb, z.ft, J.len, fun k s hk2 => ?_, J.dj⟩
      obtain ⟨o, ho, kk⟩ := Jb.sl k s hk2
      refine ⟨o, ho, ?_⟩
      cases s with
      | no => trivial
      | val d =>
        obtain ⟨v, k1, k2⟩ := kk
        exact ⟨v, k1, k2.mono z.f0⟩
      | own ds =>
        have := List.all_eq_true.mp noW _ (List.mem_of_getElem? hk2)
        cases this
      | sto => exact kk
      | raw v => exact kk
    have kD : ∀ {F' H'}, IV { C with F0 := F2, H0 := H2 } σ2 F' H' Γ2 → H' Dl = some (.lst acc) ∧ F' Dl = none := fun {F' H'} z =>
      ⟨z.hh Dl _ hDl (fun s => J.cS Dl s h00) (fun x hx e => J.cT x hx (by rw [e]; exact h00)), z.fn Dl (show H2 Dl ≠ none by rw [hDl]; simp) hFD⟩
    refine ⟨by rw [hw]; exact Eq.symm (by
      have : wipe (wipe σ vs) vs = wipe σ vs := by
        apply List.ext_getElem?
        intro k
        by_cases hk2 : k ∈ vs
        · have key : ∀ (ws : List Nat) (τ : L2.St), k ∈ ws → k < τ.length → (wipe τ ws)[k]? = some none := fun ws => by
            induction ws with
            | nil => intro τ h; simp at h
            | cons v ws ih =>
              intro τ h hlt
              unfold wipe
              by_cases e : v = k
              · subst e
                rw [List.getElem?_set_self (by rw [wipe_length]; exact hlt)]
              · rw [List.getElem?_set_ne e]
                (rcases List.mem_cons.mp h with z | z)
                · exact absurd z.symm e
                · exact ih τ z hlt
          by_cases hlt : k < σ.length
          · rw [key vs _ hk2 (by rw [wipe_length]; exact hlt), key vs _ hk2 hlt]
          · rw [List.getElem?_eq_none (by rw [wipe_length, wipe_length]; omega), List.getElem?_eq_none (by rw [wipe_length]; omega)]
        · rw [wipe_at hk2]
      exact this.symm), ?_⟩
    refine ht σ2 F3 H3 J4 _ fun b F4 H4 J5 e5 z => ?_
    cases b with
    | true =>
      show te σ2 H4 _
      refine h1 z σ2 F4 H4 J5 _ fun v F5 H5 d J6 e6 r6 k6 => ?_
      obtain ⟨kd1, kd2⟩ := kD J6
      have Jw := back J6
      have Jc := le _ _ _ _ Jw
      have eF : Same F2 F5 := J6.f0
      have JJ5 := upJ Jw eF
      refine ⟨acc, kd1, by rw [ra.length]; exact small1000 (by omega), F5, acc ++ [v], ds ++ [d], e1.trans eF, Jc.upd0 kd1 kd2 h00 noD, upd_same, kd2, (ra.mono eF).append (.cons r6 .nil), by rw [List.length_append]; simp; exact hl, k6 ds hA, fun b o hb hS hT => ?_, JJ5.upd0 kd1 kd2 h00 (noOwn_no no)⟩
      have nb : b ≠ Dl := ne_of_none hb hD
      rw [upd_ne nb]
      exact J6.hh b o (hk b o hb hS hT) (fun s => hS b s rfl) hT
    | false =>
      show ∃ F acc ds, _
      obtain ⟨kd1, kd2⟩ := kD J5
      have Jw := back J5
      exact ⟨F4, acc, ds, e1.trans J5.f0, le _ _ _ _ Jw, kd1, kd2, ra.mono J5.f0, Nat.le_succ_of_le hl, h2 z ds hA, fun b o hb hS hT => J5.hh b o (hk b o hb hS hT) (fun s => hS b s rfl) hT, upJ Jw J5.f0⟩
  · rintro H2 ⟨F2, acc, ds, e1, J, hDl, hFD, ra, hl, hA, hk, JJ⟩
    exact q Dl acc F2 H2 ds JJ (s1.trans e1) hDl hFD h00 (noOwn_no no) ra hA
/-- .. without tests, the list told by its beginnings -/
theorem eld_lc {wi : TI} {tg : TG} {vs : List Nat} {n : Nat} {item : Nat → Dt} (f : Nat → Dt) (hi : EvI C wi Γ n item) (no : noOwn Γ = true) (hn : n ≤ 1000)
    (hs : ∀ C', Le C C' → ∀ i, i < n → ∃ Γ2, AsgG C' tg (item i) (wipeG Γ vs) Γ2 vs ∧ EvD C' te Γ2 (f i)) : ElD C (tLc wi tg tYes te vs) Γ ((List.range n).map f) := by
  refine el_lcN (fun i l => l = (List.range i).map f) hi no hn rfl fun C' le i hin => ?_
  obtain ⟨Γ2, h1, h2⟩ := hs C' le i hin
  refine ⟨Γ2, h1, fun b => b = true, fun σ F H I Q q => q true F H I (.refl _) rfl, fun _ => h2.imp ?_, fun z => by cases z⟩
  rintro d rfl l rfl
  rw [List.range_succ, List.map_append]
  rfl
theorem range_getD {ds : List Dt} {f : Dt → Dt} : (List.range ds.length).map (fun i => f (ds.getD i .non)) = ds.map f := by
  apply List.ext_getElem?
  intro i
  by_cases h : i < ds.length
  · rw [List.getElem?_map, List.getElem?_map, List.getElem?_range h, List.getElem?_eq_getElem h, Option.map_some, Option.map_some, List.getD_eq_getElem?_getD, List.getElem?_eq_getElem h, Option.getD_some]
  · rw [List.getElem?_eq_none (by simpa using h), List.getElem?_eq_none (by simpa using h)]
/-- .. over a list of data -/
theorem eld_lcL {tl : TE} {j : Nat} {vs : List Nat} (f : Dt → Dt) (h : EvD C tl Γ (.lst ds)) (no : noOwn Γ = true) (hn : ds.length ≤ 1000) (hj : j ∈ vs)
    (hs : ∀ C', Le C C' → ∀ d, d ∈ ds → EvD C' te ((wipeG Γ vs).set j (.val d)) (f d)) : ElD C (tLc (iList K tl) (gName j) tYes te vs) Γ (ds.map f) := by
  rw [← range_getD]
  refine eld_lc (fun i => f (ds.getD i .non)) (ei_list h) no hn fun C' le i hin => ⟨_, asg_name hj, ?_⟩
  refine hs C' le _ ?_
  rw [List.getD_eq_getElem?_getD, List.getElem?_eq_getElem hin]
  exact List.getElem_mem hin
end
/-! #### the same, something behind -/
section
variable {C C' : Ctx} {K : PySem.W.Frag} {Γ Γ' : List Slot} {tb te : TE} {tr : TA} {t : TT} {d e : Dt} {ds es : List Dt} {R : Dt → Prop} {D : Ends} {s1 s2 u : TS}
theorem sq_asg {i : Nat} (h : EvD C te Γ d) (k : NX C (u D) (Γ.set i (.val d))) : NX C (tSeq (tAsg te (gName i)) u D) Γ := nx_asg (D := { D with nx := u D }) h k
theorem sq_asgN {i : Nat} (h : EvN C te Γ R) (k : ∀ d, R d → NX C (u D) (Γ.set i (.val d))) : NX C (tSeq (tAsg te (gName i)) u D) Γ := nx_asgN (D := { D with nx := u D }) h k
theorem sq_asgO {i : Nat} (h : ElD C te Γ ds) (k : NX C (u D) (Γ.set i (.own ds))) : NX C (tSeq (tAsg te (gName i)) u D) Γ := nx_asgO (D := { D with nx := u D }) h k
theorem sq_asgON {i : Nat} {Rs : List Dt → Prop} (h : EvL C te Γ Rs) (k : ∀ ds, Rs ds → NX C (u D) (Γ.set i (.own ds))) : NX C (tSeq (tAsg te (gName i)) u D) Γ := nx_asgON (D := { D with nx := u D }) h k
theorem sq_asg2 {i j : Nat} {d1 d2 : Dt} (h : EvD C te Γ (.tup [d1, d2])) (k : NX C (u D) ((Γ.set i (.val d1)).set j (.val d2))) : NX C (tSeq (tAsg te (gTup K 2 (gCons (gName i) (gCons (gName j) gNil)))) u D) Γ := nx_asg2 (D := { D with nx := u D }) h k
theorem sq_asg2N {i j : Nat} (h : EvN C te Γ R) (k : ∀ d, R d → ∃ d1 d2, d = .tup [d1, d2] ∧ NX C (u D) ((Γ.set i (.val d1)).set j (.val d2))) : NX C (tSeq (tAsg te (gTup K 2 (gCons (gName i) (gCons (gName j) gNil)))) u D) Γ := nx_asg2N (D := { D with nx := u D }) h k
theorem sq_asg3 {i j l : Nat} {d1 d2 d3 : Dt} (h : EvD C te Γ (.tup [d1, d2, d3])) (k : NX C (u D) (((Γ.set i (.val d1)).set j (.val d2)).set l (.val d3))) : NX C (tSeq (tAsg te (gTup K 3 (gCons (gName i) (gCons (gName j) (gCons (gName l) gNil))))) u D) Γ := nx_asg3 (D := { D with nx := u D }) h k
theorem sq_par {i j : Nat} (h : EaD C tr Γ [d, e]) (k : NX C (u D) ((Γ.set i (.val d)).set j (.val e))) : NX C (tSeq (tPar i j tr) u D) Γ := nx_par (D := { D with nx := u D }) h k
theorem sq_if {b : Bool} (h : EtD C t Γ b) (h1 : b = true → NX C (s1 { D with nx := u D }) Γ) (h2 : b = false → NX C (s2 { D with nx := u D }) Γ) : NX C (tSeq (tIfS t s1 s2) u D) Γ := nx_if (D := { D with nx := u D }) h h1 h2
theorem sq_ifN {Rb : Bool → Prop} (h : EvT C t Γ Rb) (h1 : Rb true → NX C (s1 { D with nx := u D }) Γ) (h2 : Rb false → NX C (s2 { D with nx := u D }) Γ) : NX C (tSeq (tIfS t s1 s2) u D) Γ := nx_ifN (D := { D with nx := u D }) h h1 h2
/-- an if whose test fails, without else -/
theorem sq_no {b : Bool} (h : EtD C t Γ b) (hb : b = false) (k : NX C (u D) Γ) : NX C (tSeq (tIfS t s1 tNext) u D) Γ := sq_if h (fun z => by rw [hb] at z; cases z) fun _ => k
theorem sq_yes {b : Bool} (h : EtD C t Γ b) (hb : b = true) (k : NX C (s1 { D with nx := u D }) Γ) : NX C (tSeq (tIfS t s1 s2) u D) Γ := sq_if h (fun _ => k) fun z => by rw [hb] at z; cases z
theorem sq_when {b : Bool} (h : EtD C t Γ b) (h1 : b = true → NX C (s1 { D with nx := u D }) Γ) (h2 : b = false → NX C (u D) Γ) : NX C (tSeq (tIfS t s1 tNext) u D) Γ := sq_if h h1 h2
theorem nx_no {b : Bool} (h : EtD C t Γ b) (hb : b = false) (k : NX C D.nx Γ) : NX C (tIfS t s1 tNext D) Γ := nx_if h (fun z => by rw [hb] at z; cases z) fun _ => k
theorem nx_yes {b : Bool} (h : EtD C t Γ b) (hb : b = true) (k : NX C (s1 D) Γ) : NX C (tIfS t s1 s2 D) Γ := nx_if h (fun _ => k) fun z => by rw [hb] at z; cases z
theorem sq_app {i : Nat} (hi : Γ[i]? = some (.own ds)) (h : EvD C te Γ d) (hz : ds.length < 1000) (k : NX C (u D) (Γ.set i (.own (ds ++ [d])))) : NX C (tSeq (tDrop (tBM K "list" rAppend (tVar i) (tCons te tNil))) u D) Γ := nx_app (D := { D with nx := u D }) hi h hz k
theorem sq_setItem {i n : Nat} {z : Int} (hi : Γ[i]? = some (.own ds)) (h : EvD C te Γ d) (hx : EvD C tb Γ (.int z)) (hn : ixN ds.length z = some n) (k : NX C (u D) (Γ.set i (.own (ds.set n d)))) : NX C (tSeq (tAsg te (gSub (tVar i) tb rSetL)) u D) Γ := nx_setItem (D := { D with nx := u D }) hi h hx hn k
theorem sq_drop (h : EvN C te Γ R) (k : NX C (u D) Γ) : NX C (tSeq (tDrop te) u D) Γ := nx_dropN (D := { D with nx := u D }) h k
theorem sq_drop' (h : EvN C te Γ R) (k : (∃ d, R d) → NX C (u D) Γ) : NX C (tSeq (tDrop te) u D) Γ := nx_drop' (D := { D with nx := u D }) h k
theorem sq_for {wi : TI} {tg : TG} {tb : TS} {n : Nat} {item : Nat → Dt} (hi : EvI C wi Γ n item) (g : Nat → List Slot) (h0 : Wks Γ (g 0))
    (hs : ∀ C', Le C C' → ∀ i, i < n → ∀ N, NX C' N (g (i + 1)) → ∃ Γ2 vs, AsgG C' tg (item i) (g i) Γ2 vs ∧ NX C' (tb { D with nx := N, ct := N, bk := u D }) Γ2) (hd : NX C (u D) (g n)) : NX C (tSeq (tFor wi tg tb) u D) Γ := nx_for (D := { D with nx := u D }) hi g h0 hs hd
theorem sq_while {tt : TT} {tb : TS} {ι : Type} (g : ι → List Slot) (P : ι → Prop) (μ : ι → Nat) (x0 : ι) (p0 : P x0) (h0 : Wks Γ (g x0))
    (hs : ∀ x, P x → ∃ b, EtD C tt (g x) b ∧ (b = true → ∀ N, (∀ y, P y → μ y < μ x → NX C N (g y)) → NX C (tb { D with nx := N, ct := N, bk := u D }) (g x)) ∧ (b = false → NX C (u D) (g x))) : NX C (tSeq (tWhile tt tb) u D) Γ := nx_while (D := { D with nx := u D }) g P μ x0 p0 h0 hs
/-- two ways meet again -/
theorem sq_cut (M : List Slot) (h : ∀ N, NX C N M → NX C (s1 { D with nx := N }) Γ) (k : NX C (u D) M) : NX C (C8.tCut s1 u D) Γ := fun σ F H I =>
  ⟨fun σ H => ∃ F, IV C σ F H M, h _ (fun σ F H J => ⟨F, J⟩) σ F H I, fun σ' H' ⟨F', J⟩ => k σ' F' H' J⟩
theorem sq_join (M : List Slot) (h : NX C (u D) M → NX C (s1 { D with nx := u D }) Γ) (k : NX C (u D) M) : NX C (tSeq s1 u D) Γ := h k
theorem sq_joinI {ι : Type} (M : ι → List Slot) (h : (∀ x, NX C (u D) (M x)) → NX C (s1 { D with nx := u D }) Γ) (k : ∀ x, NX C (u D) (M x)) : NX C (tSeq s1 u D) Γ := h k
theorem sq_forE {wi : TI} {tg : TG} {tb : TS} {n : Nat} {item : Nat → Dt} (hi : EvI C wi Γ n item) {ι : Type} (g : Nat → ι → List Slot) (P : Nat → ι → Prop) (x0 : ι) (p0 : P 0 x0) (h0 : Wks Γ (g 0 x0))
    (hs : ∀ C', Le C C' → ∀ i, i < n → ∀ x, P i x → ∀ N, (∀ y, P (i + 1) y → NX C' N (g (i + 1) y)) → ∃ Γ2 vs, AsgG C' tg (item i) (g i x) Γ2 vs ∧ NX C' (tb { D with nx := N, ct := N, bk := u D }) Γ2) (hd : ∀ x, P n x → NX C (u D) (g n x)) : NX C (tSeq (tFor wi tg tb) u D) Γ := nx_forE (D := { D with nx := u D }) hi g P x0 p0 h0 hs hd
theorem sq_forRN {tr : TA} {tg : TG} {tb : TS} {Rn : Int → Prop} (ha : EvA C tr Γ fun ds => ∃ n, ds = [.int n] ∧ Rn n) (k : ∀ n, Rn n → NX C (tSeq (tFor (iRng1 (fun _ H Q => Q [.int n] H)) tg tb) u D) Γ) : NX C (tSeq (tFor (iRng1 tr) tg tb) u D) Γ := nx_forRN (D := { D with nx := u D }) ha k
end
end Wk
-- Core4
/-! Promises, calls, the entry of a def. -/
namespace Wk
open PySem PySem.Spec
open PyProof.Rows L2
/-! ### errors -/
inductive Exc where
  | bad (what : Str) | many (n : Int) | endless
structure Ecl where
  bad : Addr
  many : Addr
  endless : Addr
def ERep (c : Ecl) (H : Hp) (cls : Value) (d : Option Addr) : Exc → Prop
  | .bad z => cls = .ref c.bad ∧ ∃ dd, d = some dd ∧ H dd = some (.xd [("what", .str z)])
  | .many n => cls = .ref c.many ∧ ∃ dd, d = some dd ∧ H dd = some (.xd [("limit", .int n)])
  | .endless => cls = .ref c.endless ∧ d = none
/-! ### promises -/
abbrev Rel := List Dt → (Dt → Prop) → Prop
def spP (Rl : Rel) : Sp := fun vs H Q _ => ∃ F ds Post, Same F H ∧ Reps F vs ds ∧ Rl ds Post ∧ ∀ v F' H' d, Grow F H F' H' → Rep F' v d → Post d → Q v H'
structure GrowS (p : Addr) (F H F' H' : Hp) : Prop where
  ff : Same F F'
  fh : Same F' H'
  hh : ∀ a o, H a = some o → a ≠ p → H' a = some o
  fn : ∀ a, H a ≠ none → F a = none → F' a = none
def spS (Rl : Rel) : Sp := fun vs H Q _ => ∃ p vs' F ds Post, vs = .ref p :: vs' ∧ Same F H ∧ StoreAt F H p ∧ Reps F vs' ds ∧ Rl ds Post ∧
  ∀ v F' H' d, GrowS p F H F' H' → StoreAt F' H' p → Rep F' v d → Post d → Q v H'
abbrev RelX := List Dt → (Dt → Prop) → (Exc → Prop) → Prop
def spX (c : Ecl) (Rl : RelX) : Sp := fun vs H Q E => ∃ F ds Post PE, Same F H ∧ Reps F vs ds ∧ Rl ds Post PE ∧ (∀ v F' H' d, Grow F H F' H' → Rep F' v d → Post d → Q v H') ∧
  ∀ cls dd H' x, Same H H' → ERep c H' cls dd x → PE x → E cls dd H'
def Eh (C : Ctx) (E : XK) (c : Ecl) (PE : Exc → Prop) : Prop := ∀ σ F H Γ cls dd x, IV C σ F H Γ → ERep c H cls dd x → PE x → E cls dd H
section
variable {C C' : Ctx} {K : PySem.W.Frag} {Γ Γ' : List Slot} {ta : TA} {te : TE} {d e : Dt} {ds es : List Dt} {R : Dt → Prop} {E : XK} {c : Ecl}
theorem Eh.up {PE : Exc → Prop} (h : Eh C E c PE) (l : Le C C') : Eh C' E c PE := fun σ F H Γ cls dd x I => h σ F H Γ cls dd x (l _ _ _ _ I)
theorem en_call {Rl : Rel} (ha : EvA C ta Γ fun ds => Rl ds R) : EvN C (tCall (spP Rl) [] E ta) Γ R := fun σ F H I Q q =>
  ha σ F H I _ fun vs F1 H1 ds I1 s1 r1 k1 => by
    rw [List.append_nil]
    exact ⟨F1, ds, R, I1.fh, r1, k1, fun v F2 H2 d g rv kd => q v F2 H2 d (I1.grow g) (s1.trans g.ff) rv kd⟩
theorem ed_call {Rl : Rel} (ha : EaD C ta Γ ds) (h : Rl ds (fun e => e = d)) : EvD C (tCall (spP Rl) [] E ta) Γ d := en_call (ha.imp fun _ z => by rw [z]; exact h)
theorem en_callD {Rl : Rel} (ha : EaD C ta Γ ds) (h : Rl ds R) : EvN C (tCall (spP Rl) [] E ta) Γ R := en_call (ha.imp fun _ z => by rw [z]; exact h)
theorem en_callI {Rl : Rel} (ha : EvA C ta Γ fun ds => ∃ Pz, Rl ds Pz ∧ ∀ e, Pz e → R e) : EvN C (tCall (spP Rl) [] E ta) Γ R := fun σ F H I Q q =>
  ha σ F H I _ fun vs F1 H1 ds I1 s1 r1 ⟨Pz, k1, k2⟩ => by
    rw [List.append_nil]
    exact ⟨F1, ds, Pz, I1.fh, r1, k1, fun v F2 H2 d g rv kd => q v F2 H2 d (I1.grow g) (s1.trans g.ff) rv (k2 d kd)⟩
theorem en_callDI {Rl : Rel} {Pz : Dt → Prop} (ha : EaD C ta Γ ds) (h : Rl ds Pz) (k : ∀ e, Pz e → R e) : EvN C (tCall (spP Rl) [] E ta) Γ R := en_callI (ha.imp fun _ z => ⟨Pz, by rw [z]; exact h, k⟩)
/-- behind a step on one store -/
theorem IV.growS {σ : L2.St} {F H F' H' : Hp} {p : Addr} (I : IV C σ F H Γ) (hp : C.S p) (g : GrowS p F H F' H') (s : StoreAt F' H' p) : IV C σ F' H' Γ := by
  obtain ⟨hf, vs, ds, h1, _⟩ := I.st p hp
  exact I.step (fun a => a = p) (fun a z => z ▸ hp) g.ff g.fh (fun a o h n => g.hh a o h n) g.fn (fun a z => z ▸ s) (tabS_but I.tb h1 fun a o h n => g.hh a o h n)
theorem en_callS {Rl : Rel} {i : Nat} (ho : Γ[i]? = some .sto) (ha : EvA C ta Γ fun ds => Rl ds R) : EvN C (tCall (spS Rl) [] E (tCons (tVar i) ta)) Γ R := fun σ F H I Q q => by
  obtain ⟨o, ho1, p, e1, hp⟩ := I.sl i _ ho
  subst e1
  refine ⟨.ref p, ho1, ha σ F H I _ fun vs F1 H1 ds I1 s1 r1 k1 => ?_⟩
  show spS Rl ((.ref p :: vs) ++ []) H1 Q E
  rw [List.append_nil]
  exact ⟨p, vs, F1, ds, R, rfl, I1.fh, I1.st p hp, r1, k1, fun v F2 H2 d g st rv kd => q v F2 H2 d (I1.growS hp g st) (s1.trans g.ff) rv kd⟩
theorem en_callX {Rl : RelX} {PEo : Exc → Prop} (hE : Eh C E c PEo) (ha : EvA C ta Γ fun ds => ∃ PE, Rl ds R PE ∧ ∀ x, PE x → PEo x) : EvN C (tCall (spX c Rl) [] E ta) Γ R := fun σ F H I Q q =>
  ha σ F H I _ fun vs F1 H1 ds I1 s1 r1 ⟨PE, k1, k2⟩ => by
    rw [List.append_nil]
    exact ⟨F1, ds, R, PE, I1.fh, r1, k1, fun v F2 H2 d g rv kd => q v F2 H2 d (I1.grow g) (s1.trans g.ff) rv kd, fun cls dd H2 x sm er px =>
      hE σ F1 H2 Γ cls dd x (I1.grow ⟨.refl _, I1.fh.trans sm, sm, fun _ _ z => z⟩) er (k2 x px)⟩
theorem en_callXD {Rl : RelX} {PEo : Exc → Prop} (hE : Eh C E c PEo) (ha : EaD C ta Γ ds) (h : Rl ds R PEo) : EvN C (tCall (spX c Rl) [] E ta) Γ R := en_callX hE (ha.imp fun _ z => ⟨PEo, by rw [z]; exact h, fun _ z => z⟩)
end
/-! ### the entry of a def -/
def ctx0 (F H : Hp) : Ctx := ⟨fun _ => False, [], F, H⟩
def ctxS (p : Addr) (F H : Hp) : Ctx := ⟨fun a => a = p, [], F, H⟩
def slots (N : List Str) (l : List Slot) : List Slot := l ++ List.replicate (N.length - l.length) .no
theorem slot_start {N : List Str} {vs : List V} {l : List Slot} {C : Ctx} {F H : Hp} (hl : vs.length = l.length) (h : ∀ (i : Nat) s, l[i]? = some s → ∃ v, vs[i]? = some v ∧ SlotOk C F H (some v) s) :
    (L2.start N vs).length = (slots N l).length ∧ ∀ (i : Nat) s, (slots N l)[i]? = some s → ∃ o, (L2.start N vs)[i]? = some o ∧ SlotOk C F H o s := by
  have e1 : (L2.start N vs).length = (slots N l).length := by
    unfold L2.start slots
    rw [List.length_append, List.length_append, List.length_map, List.length_replicate, List.length_replicate, hl]
  refine ⟨e1, fun i s hs => ?_⟩
  by_cases hi : i < l.length
  · have h1 : (slots N l)[i]? = l[i]? := List.getElem?_append_left hi
    rw [h1] at hs
    obtain ⟨v, hv, k⟩ := h i s hs
    refine ⟨some v, ?_, k⟩
    unfold L2.start
    rw [List.getElem?_append_left (by rw [List.length_map, hl]; exact hi), List.getElem?_map, hv]
    rfl
  · have hlt : i < (slots N l).length := (List.getElem?_eq_some_iff.mp hs).1
    have hs2 : s = .no := by
      unfold slots at hs
      rw [List.getElem?_append_right (by omega), List.getElem?_replicate] at hs
      split at hs
      · exact (Option.some.inj hs).symm
      · cases hs
    subst hs2
    exact ⟨_, List.getElem?_eq_getElem (by rw [e1]; exact hlt), trivial⟩
section
variable {N : List Str} {t : TS} {vs : List V} {H : Hp} {Q : VK} {E : XK}
theorem iv0 {F : Hp} {ds : List Dt} (hF : Same F H) (hr : Reps F vs ds) : IV (ctx0 F H) (L2.start N vs) F H (slots N (ds.map .val)) := by
  obtain ⟨h1, h2⟩ := slot_start (N := N) (vs := vs) (l := ds.map Slot.val) (C := ctx0 F H) (F := F) (H := H) (by rw [List.length_map, hr.length]) fun i s hs => by
    rw [List.getElem?_map] at hs
    cases e : ds[i]? with
    | none =>
      rw [e] at hs
      cases hs
    | some d =>
      rw [e] at hs
      cases Option.some.inj hs
      obtain ⟨v, hv, r⟩ := hr.get e
      exact ⟨v, hv, v, rfl, r⟩
  refine ⟨fun _ z => z.elim, fun q z => absurd z (by simp [ctx0]), .refl _, hF, fun _ _ h _ _ => h, fun _ _ h => h, fun _ z => z.elim, fun q z => absurd z (by simp [ctx0]), fun q z => absurd z (by simp [ctx0]), h1, h2, fun i j d1 d2 p e1 => ?_⟩
  have no : noOwn (slots N (ds.map Slot.val)) = true := by
    unfold noOwn slots
    rw [List.all_append]
    simp [List.all_eq_true]
  have := List.all_eq_true.mp no _ (List.mem_of_getElem? e1)
  cases this
theorem enterP {Rl : Rel} (h : spP Rl vs H Q E) (k : ∀ C ds Post, Rl ds Post → Rt C Q Post → NX C (t { nx := fun _ H' => Q .non H', rt := Q }) (slots N (ds.map .val))) : t { nx := fun _ H' => Q .non H', rt := Q } (L2.start N vs) H := by
  obtain ⟨F, ds, Post, hF, hr, hR, hq⟩ := h
  exact k (ctx0 F H) ds Post hR (fun σ F' H' Γ v d I r p => hq v F' H' d ⟨I.f0, I.fh, fun a o z => I.hh a o z (fun z => z) (fun q z => absurd z (by simp [ctx0])), I.fn⟩ r p) _ F H (iv0 hF hr)
theorem enterX {Rl : RelX} {c : Ecl} (h : spX c Rl vs H Q E) (k : ∀ C ds Post PE, Rl ds Post PE → Rt C Q Post → Eh C E c PE → NX C (t { nx := fun _ H' => Q .non H', rt := Q }) (slots N (ds.map .val))) : t { nx := fun _ H' => Q .non H', rt := Q } (L2.start N vs) H := by
  obtain ⟨F, ds, Post, PE, hF, hr, hR, hq, he⟩ := h
  exact k (ctx0 F H) ds Post PE hR (fun σ F' H' Γ v d I r p => hq v F' H' d ⟨I.f0, I.fh, fun a o z => I.hh a o z (fun z => z) (fun q z => absurd z (by simp [ctx0])), I.fn⟩ r p)
    (fun σ F' H' Γ cls dd x I er px => he cls dd H' x (fun a o z => I.hh a o z (fun z => z) (fun q z => absurd z (by simp [ctx0]))) er px) _ F H (iv0 hF hr)
theorem enterS {Rl : Rel} (h : spS Rl vs H Q E) (k : ∀ C ds Post, Rl ds Post → Rt C Q Post → NX C (t { nx := fun _ H' => Q .non H', rt := Q }) (slots N (.sto :: ds.map .val))) : t { nx := fun _ H' => Q .non H', rt := Q } (L2.start N vs) H := by
  obtain ⟨p, vs', F, ds, Post, rfl, hF, hst, hr, hR, hq⟩ := h
  have hp : H p ≠ none := by
    obtain ⟨_, us, es, e, _⟩ := hst
    rw [e]
    simp
  obtain ⟨h1, h2⟩ := slot_start (N := N) (vs := .ref p :: vs') (l := .sto :: ds.map Slot.val) (C := ctxS p F H) (F := F) (H := H) (by rw [List.length_cons, List.length_cons, List.length_map, hr.length]) fun i s hs => by
    cases i with
    | zero =>
      cases Option.some.inj hs
      exact ⟨_, rfl, p, rfl, rfl⟩
    | succ i =>
      have hs' : (ds.map Slot.val)[i]? = some s := hs
      rw [List.getElem?_map] at hs'
      cases e : ds[i]? with
      | none =>
        rw [e] at hs'
        cases hs'
      | some d =>
        rw [e] at hs'
        cases Option.some.inj hs'
        obtain ⟨v, hv, r⟩ := hr.get e
        exact ⟨v, hv, v, rfl, r⟩
  have no : noOwn (slots N (.sto :: ds.map Slot.val)) = true := by
    unfold noOwn slots
    rw [List.all_append]
    simp [List.all_eq_true]
  refine k (ctxS p F H) ds Post hR (fun σ F' H' Γ v d I r pd => hq v F' H' d ⟨I.f0, I.fh, fun a o z n => I.hh a o z n (fun q z => absurd z (by simp [ctxS])), I.fn⟩ (I.st p rfl) r pd) _ F H
    ⟨fun q z => by rw [show q = p from z]; exact hp, fun q z => absurd z (by simp [ctxS]), .refl _, hF, fun _ _ h _ _ => h, fun _ _ h => h, fun q z => by rw [show q = p from z]; exact hst, fun q z => absurd z (by simp [ctxS]), fun q z => absurd z (by simp [ctxS]), h1, h2, fun i j d1 d2 p e1 => ?_⟩
  have := List.all_eq_true.mp no _ (List.mem_of_getElem? e1)
  cases this
end
/-- a def without return -/
theorem nx_end {C : Ctx} {Q : VK} {Post : Dt → Prop} {Γ : List Slot} (hr : Rt C Q Post) (k : Post .non) : NX C (fun _ H' => Q .non H') Γ := fun σ F H I => hr σ F H Γ _ _ I .non k
theorem slots_eq (N : List Str) (l : List Slot) : slots N l = l ++ List.replicate (N.length - l.length) .no := rfl
/-! ### defs by their names -/
structure Cl (P : Program) (w : World) (K : PySem.W.Frag) (mg : Str → Option Value) (base : Heap) (CX : CXT) (k : Nat) (x : Str) (sp : Sp) (dvs : List V) : Prop where
  ex : ∃ (f : Addr) (fd : FuncData) (ps : List Str) (us : List Value), FnOk P w K mg base CX k f fd ps sp ∧ mg x = some (.ref f) ∧ PySem.W.keepIn K (.ref f) = true ∧ Binds K fd ps us ∧ Vals dvs us
section
variable {P : Program} {w : World} {K : PySem.W.Frag} {mg : Str → Option Value} {base : Heap} {CX : CXT}
theorem cl_of {x : Str} {st : Stmt} {f : Addr} {k : Nat} {sp : Sp} {N ps : List Str} (hf : ∃ fd, FunD K x x (defArgs st) (defBody st) (defScope st) [] [] f fd) (hm : mg x = some (.ref f)) (hs : C8.scC N ps (defScope st) = true)
    (hb : ∀ (kV doc pm : Value) (an : Option Addr) (cdv ct : Value) (us : List Value), us.length = ps.length → bindArgs (PySem.W.fnOf x x (defArgs st) (defBody st) (defScope st) .none kV doc pm an cdv ct) ⟨us, []⟩ = pure (ps.zip us)) (len : ∀ vs H Q E, sp vs H Q E → vs.length = ps.length)
    (hbody : ∀ (f : Addr) (cdv : Value) (A : Around) (outer : List Env) (s : Shared) (H : Hp) (vs : List V) (Q : VK) (E : XK), Room k (A.deeper (envOfC x (defScope st) s.heap.objs.size f cdv)) → sp vs H Q E →
      ∃ t, PSs (cxOf CX P w K mg base N x (defScope st) f cdv A outer s H E) (defBody st) t ∧ t { nx := fun _ H' => Q .non H', rt := Q } (L2.start N vs) H) : Cl P w K mg base CX (k + 1) x sp [] := by
  obtain ⟨fd, F⟩ := hf
  exact ⟨f, fd, ps, [], F.ok (C8.fnScope_by hs) len (fun cdv A outer s H vs Q E hr h => hbody f cdv A outer s H vs Q E hr h), hm, F.kp, F.bindsN hb, .nil⟩
end
section
variable {X : Cx} {CX : CXT} {k j : Nat} {x : Str} {sp : Sp} {dvs : List V} {p pos : Pos} {e : Expr} {es : List Expr} {t : TA} {E : XK}
theorem pe_cl (c : Cl X.prog X.w X.K X.mg X.base CX k x sp dvs) (hr : Room j X.A) (hk : k ≤ j) (hx : Passes CX X E) (ha : PA X (e :: es) t) (hg : Gl X x := by rfl) (hdb : (x == ("__debug__" : Str)) = false := by decide) (he : starEach (e :: es) X.env = (false, eval e X.env) :: starEach es X.env := by rfl) (hpl : (backTo pos (starEach es X.env)).any (·.1) = false := by rfl) : PE X (.Call (.Name x p) (e :: es) [] pos) (tCall sp dvs E t) := by
  (obtain ⟨f, fd, ps, ds, F, hm, kp, b, d⟩ := c.ex)
  exact pe_call F (hr.mono hk) hg hm kp b d hx ha hdb he hpl
end
/-- // by any divisor but 0 below 2 ^ 9000 in size -/
def CDivZ (_ j : Int) : Prop := j ≠ 0 ∧ j.natAbs.log2 < 9000
theorem op_fdivZ {X : Cx} : OpR X (binaryOp .FloorDiv) (rI CDivZ fun i j => .int (i.fdiv j)) := opI fun i j _ _ _ _ _ hc q => floordiv_int hc.1 q (.inl (PyProof.noPylong_of_log2 hc.2))
end Wk
-- CoreE
/-! Facts of the written part that are asked as one truth value. -/
namespace Wk
open PySem PySem.Spec
open PyProof.Rows L2
/-- what must be known of a class, so that isinstance may be asked of its instances -/
structure IsK (K : PySem.W.Frag) (A : Addr) : Prop where
  cl : Cls K A
  ha : PySem.W.findIn K (.ref A) "__class__" = some (some (.builtin "object.__class__"))
  hn : (PySem.W.specialIn K (.builtin "object.__class__") "__get__" = some (some (.builtin "getset_descriptor.__get__")))
  ht : (PySem.W.takesIn K (.builtin "object.__class__") = some true)
  hm : PySem.W.mroIn K A (.type "object") = some true
  self : PySem.W.kitOne K (.ref A) (.ref A) = some true
def isKB (K : PySem.W.Frag) (A : Addr) : Bool :=
  He.eqO (PySem.W.findIn K (.ref A) "__class__") (some (some (.builtin "object.__class__"))) && (He.eqO (PySem.W.specialIn K (.builtin "object.__class__") "__get__") (some (some (.builtin "getset_descriptor.__get__"))) && (decide (PySem.W.takesIn K (.builtin "object.__class__") = some true) && (decide (PySem.W.mroIn K A (.type "object") = some true) && decide (PySem.W.kitOne K (.ref A) (.ref A) = some true))))
theorem isKB_ok {K : PySem.W.Frag} {A : Addr} (c : Cls K A) (h : isKB K A = true) : IsK K A := by
  obtain ⟨h1, h⟩ := He.ba h
  obtain ⟨h2, h⟩ := He.ba h
  obtain ⟨h3, h⟩ := He.ba h
  obtain ⟨h4, h5⟩ := He.ba h
  exact ⟨c, He.eqO_ok h1, He.eqO_ok h2, of_decide_eq_true h3, of_decide_eq_true h4, of_decide_eq_true h5⟩
/-- an own class of errors over ValueError with an own __init__ -/
def oexSl : List (Option Value) → Bool
  | [_, _, _, _, some (.builtin n), _] => decide (n = "ValueError.__new__")
  | _ => false
def oexMro (C : Addr) : List Value → Bool
  | .ref c :: bm => decide (c = C) && PySem.HandSPX.refsVE bm
  | _ => false
def oexO (C : Addr) : Option Obj → Bool
  | some ⟨.type t, _, .cls cd, sl⟩ => decide (t = "type") && (oexMro C cd.mro && (cd.hasDict && (!cd.hasDel && oexSl sl.toList)))
  | _ => false
theorem oexO_ok {C : Addr} {x : Option Obj} (h : oexO C x = true) : ∃ nm q N bs bm sn sub ab col dd k0 k1 k2 k3 k5, x = some (excClassObj nm q C N bs bm true sn sub ab col dd k0 k1 k2 k3 k5 "ValueError.__new__") ∧ PySem.HandSPX.refsVE bm = true := by
  rcases x with _ | ⟨cv, dd, dt, sl⟩
  · cases h
  cases cv with
  | type t =>
    cases dt with
    | cls cd =>
      obtain ⟨h1, h⟩ := He.ba h
      obtain ⟨h2, h⟩ := He.ba h
      obtain ⟨h3, h⟩ := He.ba h
      obtain ⟨h4, h5⟩ := He.ba h
      (obtain ⟨nm, bs, mro, ns, qn, hd, sn, sub, ab, col, del⟩ := cd)
      have e1 : t = "type" := of_decide_eq_true h1
      have e3 : hd = true := h3
      have e4 : del = false := by
        have : (!del) = true := h4
        cases del
        · rfl
        · cases this
      subst e1 e3 e4
      cases mro with
      | nil => cases h2
      | cons m0 bm =>
        cases m0 with
        | ref c =>
          obtain ⟨a1, a2⟩ := He.ba h2
          have : c = C := of_decide_eq_true a1
          subst this
          obtain ⟨l⟩ := sl
          have h5' : oexSl l = true := h5
          match l, h5' with
          | [k0, k1, k2, k3, some (.builtin n), k5], h6 =>
            have : n = "ValueError.__new__" := of_decide_eq_true h6
            subst this
            exact ⟨nm, qn, ns, bs, bm, sn, sub, ab, col, dd, k0, k1, k2, k3, k5, rfl, a2⟩
        | _ => cases h2
    | _ => cases h
  | _ => cases h
def excB (K : PySem.W.Frag) (C : Addr) : Bool :=
  decide (PySem.W.subIn K (.ref C) (.type "BaseException") = some true) && (decide (PySem.W.typeIn K (.ref C) = some (.type "type")) && PySem.W.keepIn K (.ref C))
def oexB (K : PySem.W.Frag) (C fI : Addr) : Bool :=
  oexO C (K.lookup C) && (He.eqO (PySem.W.findIn K (.ref C) "__setattr__") (some (some (.builtin "object.__setattr__"))) && (excB K C && (He.eqO (PySem.W.findIn K (.ref C) "__init__") (some (some (.ref fI))) && decide (PySem.W.typeIn K (.ref fI) = some (.type "function")))))
theorem oexB_ok {K : PySem.W.Frag} {C fI : Addr} (h : oexB K C fI = true) : OexC K C ∧ PySem.W.findIn K (.ref C) "__init__" = some (some (.ref fI)) ∧ PySem.W.typeIn K (.ref fI) = some (.type "function") := by
  obtain ⟨h1, h⟩ := He.ba h
  obtain ⟨h2, h⟩ := He.ba h
  obtain ⟨h3, h⟩ := He.ba h
  obtain ⟨h4, h5⟩ := He.ba h
  obtain ⟨a1, a⟩ := He.ba h3
  obtain ⟨a2, a3⟩ := He.ba a
  exact ⟨⟨oexO_ok h1, He.eqO_ok h2, of_decide_eq_true a1, of_decide_eq_true a2, a3⟩, He.eqO_ok h4, of_decide_eq_true h5⟩
/-- what isinstance asks of a caught error -/
def eisB (K : PySem.W.Frag) (D : Addr) : Bool :=
  He.eqO (PySem.W.findIn K (.ref D) "__getattribute__") (some (some (.builtin "BaseException.__getattribute__"))) && (He.eqO (PySem.W.findIn K (.ref D) "__getattr__") (some none) && (decide (PySem.W.subIn K (.ref D) (.type "BaseException") = some true) && (PySem.W.hasDictIn K D && (He.eqO (PySem.W.findIn K (.ref D) "__class__") (some (some (.builtin "object.__class__"))) && (He.eqO (PySem.W.specialIn K (.builtin "object.__class__") "__get__") (some (some (.builtin "getset_descriptor.__get__"))) && (decide (PySem.W.takesIn K (.builtin "object.__class__") = some true) && decide (PySem.W.mroIn K D (.type "object") = some true)))))))
theorem eisB_ok {K : PySem.W.Frag} {D : Addr} (h : eisB K D = true) : ExcC K D := by
  obtain ⟨h1, h⟩ := He.ba h
  obtain ⟨h2, h⟩ := He.ba h
  obtain ⟨h3, h⟩ := He.ba h
  obtain ⟨h4, h⟩ := He.ba h
  obtain ⟨h5, h⟩ := He.ba h
  obtain ⟨h6, h⟩ := He.ba h
  obtain ⟨h7, h8⟩ := He.ba h
  exact ⟨He.eqO_ok h1, He.eqO_ok h2, of_decide_eq_true h3, h4, He.eqO_ok h5, He.eqO_ok h6, of_decide_eq_true h7, of_decide_eq_true h8⟩
def others : List Str := ["Mismatch", "Still", "NoName", "Taken", "Locked", "Looped", "Broken", "ReadError", "BadValue", "TooMany", "Endless"]
def oneB (K : PySem.W.Frag) (D : Str) : Bool :=
  eisB K (He.ga K D) && (decide (PySem.W.exmOne K (.ref (He.ga K D)) (.ref (He.ga K "SkyError")) = some true) && (decide (PySem.W.kitOne K (.ref (He.ga K D)) (.type "ValueError") = some true) && others.all fun E => decide (PySem.W.kitOne K (.ref (He.ga K D)) (.ref (He.ga K E)) = some (decide (D = E)))))
structure OneX (K : PySem.W.Frag) (D : Str) : Prop where
  c : ExcC K (He.ga K D)
  sky : PySem.W.exmOne K (.ref (He.ga K D)) (.ref (He.ga K "SkyError")) = some true
  ve : PySem.W.kitOne K (.ref (He.ga K D)) (.type "ValueError") = some true
  ot : ∀ E ∈ others, PySem.W.kitOne K (.ref (He.ga K D)) (.ref (He.ga K E)) = some (decide (D = E))
theorem oneB_ok {K : PySem.W.Frag} {D : Str} (h : oneB K D = true) : OneX K D := by
  obtain ⟨h1, h⟩ := He.ba h
  obtain ⟨h2, h⟩ := He.ba h
  obtain ⟨h3, h4⟩ := He.ba h
  exact ⟨eisB_ok h1, of_decide_eq_true h2, of_decide_eq_true h3, fun E hE => of_decide_eq_true (List.all_eq_true.mp h4 E hE)⟩
def fldB (K : PySem.W.Frag) (D f : Str) : Bool := oexB K (He.ga K D) (He.ma K (He.ga K D) "__init__") && (xfB K (He.ga K D) && He.eqO (PySem.W.findIn K (.ref (He.ga K D)) f) (some none))
structure FldX (K : PySem.W.Frag) (D f : Str) : Prop where
  o : OexC K (He.ga K D)
  i : PySem.W.findIn K (.ref (He.ga K D)) "__init__" = some (some (.ref (He.ma K (He.ga K D) "__init__")))
  t : PySem.W.typeIn K (.ref (He.ma K (He.ga K D) "__init__")) = some (.type "function")
  x : XfC K (He.ga K D)
  n : PySem.W.findIn K (.ref (He.ga K D)) f = some none
theorem fldB_ok {K : PySem.W.Frag} {D f : Str} (h : fldB K D f = true) : FldX K D f := by
  obtain ⟨h1, h⟩ := He.ba h
  obtain ⟨h2, h3⟩ := He.ba h
  obtain ⟨a, b, c⟩ := oexB_ok h1
  exact ⟨a, b, c, xfB_ok h2, He.eqO_ok h3⟩
def exB (K : PySem.W.Frag) : Bool := isKB K (He.ga K "Span") && (isKB K (He.ga K "Cycle") && (oneB K "BadValue" && (oneB K "TooMany" && (oneB K "Endless" && (fldB K "BadValue" "what" && fldB K "TooMany" "limit")))))
/-- the defs that make lambdas -/
def tf : List He.Defn := [("_law_ordered", none), ("_law_first_right", none), ("_law_days_right", none), ("_law_refused_right", none), ("law", none)]
end Wk
-- Base
/-! The text by its places, what the top leaves of it. -/
namespace Wk
open PySem PySem.Spec
open PyProof.Rows L2
def top (i : Nat) : Stmt := PySem.Challenge.pw_wheelsky_k91_near_spans_of_width_zero_wh.main.body.getD i (.Pass ⟨0, 0, 0, 0⟩)
def glob (x : Str) (i : Nat) (dfl : List He.Dv := []) : He.DefD := ⟨(x, none), x, x, defArgs (top i), defBody (top i), defScope (top i), dfl, []⟩
def meth (c x q : Str) (i j : Nat) (dfl : List He.Dv := []) : He.DefD := ⟨(c, some x), x, q, defArgs (inClass (top i) j), defBody (inClass (top i) j), defScope (inClass (top i) j), dfl, []⟩
def fn0 : List He.DefD := [glob "whole_number" 15, glob "common_divisor" 16, glob "lowest" 17, glob "precedes" 18, glob "weighted_divisor" 19, glob "joint_measure" 20, glob "fraction" 23 [.int 1], glob "is_fraction" 24, glob "check_pair" 25, glob "check_value" 26, glob "plus" 27, glob "minus" 28, glob "times" 29, glob "over" 30, glob "compare" 31, glob "floor_of" 32, glob "part_of" 33, glob "check_values" 34, glob "measure_paper" 35, glob "need_fraction" 43, glob "need_place" 44, glob "need_span" 45, glob "next_step" 46, glob "steps_within" 47, glob "check_cycles" 51, glob "check_moment" 52, glob "check_span" 53, glob "check_width" 54, glob "lines_of" 55, glob "turns_on" 56]
def fn1 : List He.DefD := [glob "is_within" 57, glob "whole_near" 58, glob "line_is_near" 59, glob "lines_are_near" 60, glob "is_earlier" 61, glob "turned_bounds" 62, glob "wholes_met" 63, glob "line_spans" 64, glob "common_rows" 65, glob "all_line_spans" 66, glob "shared_rows" 67, glob "is_near" 68, glob "near_spans" 69, glob "next_near" 70, glob "near_days" 71, glob "need_cycles" 75, glob "weighed" 76, glob "never_weights" 77, glob "meeting_rule" 78, glob "meeting_paper" 79, glob "meetings" 80, glob "next_meeting" 81, glob "_law_mixed" 83, glob "_law_store" 84, glob "_law_take" 85, glob "_law_pick" 86, glob "_law_size" 87, glob "_law_gcd" 88, glob "_law_bezout" 89, glob "_law_lowest" 90]
def fn2 : List He.DefD := [glob "_law_plus" 91, glob "_law_minus" 92, glob "_law_times" 93, glob "_law_over" 94, glob "_law_sign" 95, glob "_law_floor" 96, glob "_law_part" 97, glob "_law_offset" 98, glob "_law_distance" 99, glob "_law_scale" 100, glob "_law_ordered" 101, glob "_law_whole" 102, glob "_law_frac" 103, glob "_law_place" 104, glob "_law_moment" 105, glob "_law_span_over" 106, glob "_law_turns" 107, glob "_law_met" 108, glob "_law_rule" 109, glob "_law_near" 110, glob "_law_near_many" 111, glob "_law_alike" 112, glob "_law_answer" 113, glob "_law_numbers_in" 114, glob "_law_meetings_due" 115, glob "_law_sky_for" 116, glob "_law_short_span" 117, glob "_law_ends_for" 118, glob "_law_spans_due" 119, glob "_law_spans_told" 120]
def fn3 : List He.DefD := [glob "_law_first_right" 121, glob "_law_days_right" 122, glob "_law_refused_right" 123, glob "law" 124, meth "BadValue" "__init__" "BadValue.__init__" 3 0, meth "TooMany" "__init__" "TooMany.__init__" 7 0, meth "Span" "__init__" "Span.__init__" 40 0, meth "Span" "days" "Span.days" 40 6, meth "Cycle" "__init__" "Cycle.__init__" 48 0 [.adr (He.dflAt ("Cycle", some "__init__") 0)]]
def fn : List He.DefD := fn0 ++ fn1 ++ fn2 ++ fn3
def fa0 : List He.Fa := [.glo "whole_number", .glo "common_divisor", .glo "lowest", .glo "precedes", .glo "weighted_divisor", .glo "joint_measure", .glo "fraction", .glo "is_fraction", .glo "check_pair", .glo "check_value", .glo "plus", .glo "minus", .glo "times", .glo "over", .glo "compare", .glo "floor_of", .glo "part_of", .glo "check_values", .glo "measure_paper", .glo "need_fraction", .glo "need_place", .glo "need_span", .glo "next_step", .glo "steps_within", .glo "check_cycles", .glo "check_moment", .glo "check_span", .glo "check_width", .glo "lines_of", .glo "turns_on"]
def fa1 : List He.Fa := [.glo "is_within", .glo "whole_near", .glo "line_is_near", .glo "lines_are_near", .glo "is_earlier", .glo "turned_bounds", .glo "wholes_met", .glo "line_spans", .glo "common_rows", .glo "all_line_spans", .glo "shared_rows", .glo "is_near", .glo "near_spans", .glo "next_near", .glo "near_days", .glo "need_cycles", .glo "weighed", .glo "never_weights", .glo "meeting_rule", .glo "meeting_paper", .glo "meetings", .glo "next_meeting", .glo "_law_mixed", .glo "_law_store", .glo "_law_take", .glo "_law_pick", .glo "_law_size", .glo "_law_gcd", .glo "_law_bezout", .glo "_law_lowest"]
def fa2 : List He.Fa := [.glo "_law_plus", .glo "_law_minus", .glo "_law_times", .glo "_law_over", .glo "_law_sign", .glo "_law_floor", .glo "_law_part", .glo "_law_offset", .glo "_law_distance", .glo "_law_scale", .glo "_law_ordered", .glo "_law_whole", .glo "_law_frac", .glo "_law_place", .glo "_law_moment", .glo "_law_span_over", .glo "_law_turns", .glo "_law_met", .glo "_law_rule", .glo "_law_near", .glo "_law_near_many", .glo "_law_alike", .glo "_law_answer", .glo "_law_numbers_in", .glo "_law_meetings_due", .glo "_law_sky_for", .glo "_law_short_span", .glo "_law_ends_for", .glo "_law_spans_due", .glo "_law_spans_told"]
def fa3 : List He.Fa := [.glo "_law_first_right", .glo "_law_days_right", .glo "_law_refused_right", .glo "law", .glo "SkyError", .glo "BadValue", .glo "Mismatch", .glo "Still", .glo "Endless", .glo "TooMany", .glo "NoName", .glo "Taken", .glo "Locked", .glo "Looped", .glo "Broken", .glo "ReadError", .glo "Span", .glo "Cycle", .free "len", .free "range", .free "abs", .free "isinstance", .free "int", .free "bool", .free "list", .free "tuple", .free "str", .free "zip", .free "enumerate", .free "all"]
def fa4 : List He.Fa := [.free "sum", .free "min", .free "sorted", .free "ValueError", .int "MOST_VALUES" 12, .int "MOST_DAYS" 400, .int "MOST_MOMENTS" 400, .int "MOST_NEAR" 200, .int "LEAST_CYCLES" 2, .int "MOST_CYCLES" 6, .cls "Span", .cls "Cycle", .mkr "Span", .mkr "Cycle", .meth "Span" "days", .noat "Cycle" "rate", .noat "Cycle" "start", .noat "Cycle" "period", .noat "Span" "first", .noat "Span" "last", .noat "Span" "length", .exc "Endless"]
def fa : List He.Fa := fa0 ++ fa1 ++ fa2 ++ fa3 ++ fa4
/-- what the walk leans on: the head's facts of the written part K and of the module's names mg -/
structure Bs (K : PySem.W.Frag) (mg : Str → Option Value) : Prop where
  df : ∀ (i : Nat) d, fn[i]? = some d → ∃ fd, FunD K d.name d.qual d.params d.body d.scope (d.dvs K) (d.kws K) (He.fAd K d.at_) fd
  gl : ∀ (i : Nat) x, fa[i]? = some (.glo x) → mg x = some (.ref (He.ga K x))
  fr : ∀ (i : Nat) x, fa[i]? = some (.free x) → mg x = none
  nt : ∀ (i : Nat) x n, fa[i]? = some (.int x n) → ∃ u, mg x = some u ∧ RelV (.int n) u
  ok : ∀ (i : Nat) f, fa[i]? = some f → f.ok K = true
  ex : exB K = true
  hd : ∀ p ∈ tf, PySem.W.codeHdIn K (He.cT K p).1 (He.cT K p).2 = true
  out : ∀ p ∈ tf, K.lookup (He.cT K p).2 = none
section
variable {K : PySem.W.Frag} {mg : Str → Option Value} (B : Bs K mg)
include B
theorem Bs.g_whole_number : mg "whole_number" = some (.ref (He.ga K "whole_number")) := B.gl 0 _ rfl
theorem Bs.g_common_divisor : mg "common_divisor" = some (.ref (He.ga K "common_divisor")) := B.gl 1 _ rfl
theorem Bs.g_lowest : mg "lowest" = some (.ref (He.ga K "lowest")) := B.gl 2 _ rfl
theorem Bs.g_precedes : mg "precedes" = some (.ref (He.ga K "precedes")) := B.gl 3 _ rfl
theorem Bs.g_weighted_divisor : mg "weighted_divisor" = some (.ref (He.ga K "weighted_divisor")) := B.gl 4 _ rfl
theorem Bs.g_joint_measure : mg "joint_measure" = some (.ref (He.ga K "joint_measure")) := B.gl 5 _ rfl
theorem Bs.g_fraction : mg "fraction" = some (.ref (He.ga K "fraction")) := B.gl 6 _ rfl
theorem Bs.g_is_fraction : mg "is_fraction" = some (.ref (He.ga K "is_fraction")) := B.gl 7 _ rfl
theorem Bs.g_check_pair : mg "check_pair" = some (.ref (He.ga K "check_pair")) := B.gl 8 _ rfl
theorem Bs.g_check_value : mg "check_value" = some (.ref (He.ga K "check_value")) := B.gl 9 _ rfl
theorem Bs.g_plus : mg "plus" = some (.ref (He.ga K "plus")) := B.gl 10 _ rfl
theorem Bs.g_minus : mg "minus" = some (.ref (He.ga K "minus")) := B.gl 11 _ rfl
theorem Bs.g_times : mg "times" = some (.ref (He.ga K "times")) := B.gl 12 _ rfl
theorem Bs.g_over : mg "over" = some (.ref (He.ga K "over")) := B.gl 13 _ rfl
theorem Bs.g_compare : mg "compare" = some (.ref (He.ga K "compare")) := B.gl 14 _ rfl
theorem Bs.g_floor_of : mg "floor_of" = some (.ref (He.ga K "floor_of")) := B.gl 15 _ rfl
theorem Bs.g_part_of : mg "part_of" = some (.ref (He.ga K "part_of")) := B.gl 16 _ rfl
theorem Bs.g_check_values : mg "check_values" = some (.ref (He.ga K "check_values")) := B.gl 17 _ rfl
theorem Bs.g_measure_paper : mg "measure_paper" = some (.ref (He.ga K "measure_paper")) := B.gl 18 _ rfl
theorem Bs.g_need_fraction : mg "need_fraction" = some (.ref (He.ga K "need_fraction")) := B.gl 19 _ rfl
theorem Bs.g_need_place : mg "need_place" = some (.ref (He.ga K "need_place")) := B.gl 20 _ rfl
theorem Bs.g_need_span : mg "need_span" = some (.ref (He.ga K "need_span")) := B.gl 21 _ rfl
theorem Bs.g_next_step : mg "next_step" = some (.ref (He.ga K "next_step")) := B.gl 22 _ rfl
theorem Bs.g_steps_within : mg "steps_within" = some (.ref (He.ga K "steps_within")) := B.gl 23 _ rfl
theorem Bs.g_check_cycles : mg "check_cycles" = some (.ref (He.ga K "check_cycles")) := B.gl 24 _ rfl
theorem Bs.g_check_moment : mg "check_moment" = some (.ref (He.ga K "check_moment")) := B.gl 25 _ rfl
theorem Bs.g_check_span : mg "check_span" = some (.ref (He.ga K "check_span")) := B.gl 26 _ rfl
theorem Bs.g_check_width : mg "check_width" = some (.ref (He.ga K "check_width")) := B.gl 27 _ rfl
theorem Bs.g_lines_of : mg "lines_of" = some (.ref (He.ga K "lines_of")) := B.gl 28 _ rfl
theorem Bs.g_turns_on : mg "turns_on" = some (.ref (He.ga K "turns_on")) := B.gl 29 _ rfl
theorem Bs.g_is_within : mg "is_within" = some (.ref (He.ga K "is_within")) := B.gl 30 _ rfl
theorem Bs.g_whole_near : mg "whole_near" = some (.ref (He.ga K "whole_near")) := B.gl 31 _ rfl
theorem Bs.g_line_is_near : mg "line_is_near" = some (.ref (He.ga K "line_is_near")) := B.gl 32 _ rfl
theorem Bs.g_lines_are_near : mg "lines_are_near" = some (.ref (He.ga K "lines_are_near")) := B.gl 33 _ rfl
theorem Bs.g_is_earlier : mg "is_earlier" = some (.ref (He.ga K "is_earlier")) := B.gl 34 _ rfl
theorem Bs.g_turned_bounds : mg "turned_bounds" = some (.ref (He.ga K "turned_bounds")) := B.gl 35 _ rfl
theorem Bs.g_wholes_met : mg "wholes_met" = some (.ref (He.ga K "wholes_met")) := B.gl 36 _ rfl
theorem Bs.g_line_spans : mg "line_spans" = some (.ref (He.ga K "line_spans")) := B.gl 37 _ rfl
theorem Bs.g_common_rows : mg "common_rows" = some (.ref (He.ga K "common_rows")) := B.gl 38 _ rfl
theorem Bs.g_all_line_spans : mg "all_line_spans" = some (.ref (He.ga K "all_line_spans")) := B.gl 39 _ rfl
theorem Bs.g_shared_rows : mg "shared_rows" = some (.ref (He.ga K "shared_rows")) := B.gl 40 _ rfl
theorem Bs.g_is_near : mg "is_near" = some (.ref (He.ga K "is_near")) := B.gl 41 _ rfl
theorem Bs.g_near_spans : mg "near_spans" = some (.ref (He.ga K "near_spans")) := B.gl 42 _ rfl
theorem Bs.g_next_near : mg "next_near" = some (.ref (He.ga K "next_near")) := B.gl 43 _ rfl
theorem Bs.g_near_days : mg "near_days" = some (.ref (He.ga K "near_days")) := B.gl 44 _ rfl
theorem Bs.g_need_cycles : mg "need_cycles" = some (.ref (He.ga K "need_cycles")) := B.gl 45 _ rfl
theorem Bs.g_weighed : mg "weighed" = some (.ref (He.ga K "weighed")) := B.gl 46 _ rfl
theorem Bs.g_never_weights : mg "never_weights" = some (.ref (He.ga K "never_weights")) := B.gl 47 _ rfl
theorem Bs.g_meeting_rule : mg "meeting_rule" = some (.ref (He.ga K "meeting_rule")) := B.gl 48 _ rfl
theorem Bs.g_meeting_paper : mg "meeting_paper" = some (.ref (He.ga K "meeting_paper")) := B.gl 49 _ rfl
theorem Bs.g_meetings : mg "meetings" = some (.ref (He.ga K "meetings")) := B.gl 50 _ rfl
theorem Bs.g_next_meeting : mg "next_meeting" = some (.ref (He.ga K "next_meeting")) := B.gl 51 _ rfl
theorem Bs.g_law_mixed : mg "_law_mixed" = some (.ref (He.ga K "_law_mixed")) := B.gl 52 _ rfl
theorem Bs.g_law_store : mg "_law_store" = some (.ref (He.ga K "_law_store")) := B.gl 53 _ rfl
theorem Bs.g_law_take : mg "_law_take" = some (.ref (He.ga K "_law_take")) := B.gl 54 _ rfl
theorem Bs.g_law_pick : mg "_law_pick" = some (.ref (He.ga K "_law_pick")) := B.gl 55 _ rfl
theorem Bs.g_law_size : mg "_law_size" = some (.ref (He.ga K "_law_size")) := B.gl 56 _ rfl
theorem Bs.g_law_gcd : mg "_law_gcd" = some (.ref (He.ga K "_law_gcd")) := B.gl 57 _ rfl
theorem Bs.g_law_bezout : mg "_law_bezout" = some (.ref (He.ga K "_law_bezout")) := B.gl 58 _ rfl
theorem Bs.g_law_lowest : mg "_law_lowest" = some (.ref (He.ga K "_law_lowest")) := B.gl 59 _ rfl
theorem Bs.g_law_plus : mg "_law_plus" = some (.ref (He.ga K "_law_plus")) := B.gl 60 _ rfl
theorem Bs.g_law_minus : mg "_law_minus" = some (.ref (He.ga K "_law_minus")) := B.gl 61 _ rfl
theorem Bs.g_law_times : mg "_law_times" = some (.ref (He.ga K "_law_times")) := B.gl 62 _ rfl
theorem Bs.g_law_over : mg "_law_over" = some (.ref (He.ga K "_law_over")) := B.gl 63 _ rfl
theorem Bs.g_law_sign : mg "_law_sign" = some (.ref (He.ga K "_law_sign")) := B.gl 64 _ rfl
theorem Bs.g_law_floor : mg "_law_floor" = some (.ref (He.ga K "_law_floor")) := B.gl 65 _ rfl
theorem Bs.g_law_part : mg "_law_part" = some (.ref (He.ga K "_law_part")) := B.gl 66 _ rfl
theorem Bs.g_law_offset : mg "_law_offset" = some (.ref (He.ga K "_law_offset")) := B.gl 67 _ rfl
theorem Bs.g_law_distance : mg "_law_distance" = some (.ref (He.ga K "_law_distance")) := B.gl 68 _ rfl
theorem Bs.g_law_scale : mg "_law_scale" = some (.ref (He.ga K "_law_scale")) := B.gl 69 _ rfl
theorem Bs.g_law_ordered : mg "_law_ordered" = some (.ref (He.ga K "_law_ordered")) := B.gl 70 _ rfl
theorem Bs.g_law_whole : mg "_law_whole" = some (.ref (He.ga K "_law_whole")) := B.gl 71 _ rfl
theorem Bs.g_law_frac : mg "_law_frac" = some (.ref (He.ga K "_law_frac")) := B.gl 72 _ rfl
theorem Bs.g_law_place : mg "_law_place" = some (.ref (He.ga K "_law_place")) := B.gl 73 _ rfl
theorem Bs.g_law_moment : mg "_law_moment" = some (.ref (He.ga K "_law_moment")) := B.gl 74 _ rfl
theorem Bs.g_law_span_over : mg "_law_span_over" = some (.ref (He.ga K "_law_span_over")) := B.gl 75 _ rfl
theorem Bs.g_law_turns : mg "_law_turns" = some (.ref (He.ga K "_law_turns")) := B.gl 76 _ rfl
theorem Bs.g_law_met : mg "_law_met" = some (.ref (He.ga K "_law_met")) := B.gl 77 _ rfl
theorem Bs.g_law_rule : mg "_law_rule" = some (.ref (He.ga K "_law_rule")) := B.gl 78 _ rfl
theorem Bs.g_law_near : mg "_law_near" = some (.ref (He.ga K "_law_near")) := B.gl 79 _ rfl
theorem Bs.g_law_near_many : mg "_law_near_many" = some (.ref (He.ga K "_law_near_many")) := B.gl 80 _ rfl
theorem Bs.g_law_alike : mg "_law_alike" = some (.ref (He.ga K "_law_alike")) := B.gl 81 _ rfl
theorem Bs.g_law_answer : mg "_law_answer" = some (.ref (He.ga K "_law_answer")) := B.gl 82 _ rfl
theorem Bs.g_law_numbers_in : mg "_law_numbers_in" = some (.ref (He.ga K "_law_numbers_in")) := B.gl 83 _ rfl
theorem Bs.g_law_meetings_due : mg "_law_meetings_due" = some (.ref (He.ga K "_law_meetings_due")) := B.gl 84 _ rfl
theorem Bs.g_law_sky_for : mg "_law_sky_for" = some (.ref (He.ga K "_law_sky_for")) := B.gl 85 _ rfl
theorem Bs.g_law_short_span : mg "_law_short_span" = some (.ref (He.ga K "_law_short_span")) := B.gl 86 _ rfl
theorem Bs.g_law_ends_for : mg "_law_ends_for" = some (.ref (He.ga K "_law_ends_for")) := B.gl 87 _ rfl
theorem Bs.g_law_spans_due : mg "_law_spans_due" = some (.ref (He.ga K "_law_spans_due")) := B.gl 88 _ rfl
theorem Bs.g_law_spans_told : mg "_law_spans_told" = some (.ref (He.ga K "_law_spans_told")) := B.gl 89 _ rfl
theorem Bs.g_law_first_right : mg "_law_first_right" = some (.ref (He.ga K "_law_first_right")) := B.gl 90 _ rfl
theorem Bs.g_law_days_right : mg "_law_days_right" = some (.ref (He.ga K "_law_days_right")) := B.gl 91 _ rfl
theorem Bs.g_law_refused_right : mg "_law_refused_right" = some (.ref (He.ga K "_law_refused_right")) := B.gl 92 _ rfl
theorem Bs.g_law : mg "law" = some (.ref (He.ga K "law")) := B.gl 93 _ rfl
theorem Bs.g_SkyError : mg "SkyError" = some (.ref (He.ga K "SkyError")) := B.gl 94 _ rfl
theorem Bs.g_BadValue : mg "BadValue" = some (.ref (He.ga K "BadValue")) := B.gl 95 _ rfl
theorem Bs.g_Mismatch : mg "Mismatch" = some (.ref (He.ga K "Mismatch")) := B.gl 96 _ rfl
theorem Bs.g_Still : mg "Still" = some (.ref (He.ga K "Still")) := B.gl 97 _ rfl
theorem Bs.g_Endless : mg "Endless" = some (.ref (He.ga K "Endless")) := B.gl 98 _ rfl
theorem Bs.g_TooMany : mg "TooMany" = some (.ref (He.ga K "TooMany")) := B.gl 99 _ rfl
theorem Bs.g_NoName : mg "NoName" = some (.ref (He.ga K "NoName")) := B.gl 100 _ rfl
theorem Bs.g_Taken : mg "Taken" = some (.ref (He.ga K "Taken")) := B.gl 101 _ rfl
theorem Bs.g_Locked : mg "Locked" = some (.ref (He.ga K "Locked")) := B.gl 102 _ rfl
theorem Bs.g_Looped : mg "Looped" = some (.ref (He.ga K "Looped")) := B.gl 103 _ rfl
theorem Bs.g_Broken : mg "Broken" = some (.ref (He.ga K "Broken")) := B.gl 104 _ rfl
theorem Bs.g_ReadError : mg "ReadError" = some (.ref (He.ga K "ReadError")) := B.gl 105 _ rfl
theorem Bs.g_Span : mg "Span" = some (.ref (He.ga K "Span")) := B.gl 106 _ rfl
theorem Bs.g_Cycle : mg "Cycle" = some (.ref (He.ga K "Cycle")) := B.gl 107 _ rfl
theorem Bs.z_len : mg "len" = none := B.fr 108 _ rfl
theorem Bs.z_range : mg "range" = none := B.fr 109 _ rfl
theorem Bs.z_abs : mg "abs" = none := B.fr 110 _ rfl
theorem Bs.z_isinstance : mg "isinstance" = none := B.fr 111 _ rfl
theorem Bs.z_int : mg "int" = none := B.fr 112 _ rfl
theorem Bs.z_bool : mg "bool" = none := B.fr 113 _ rfl
theorem Bs.z_list : mg "list" = none := B.fr 114 _ rfl
theorem Bs.z_tuple : mg "tuple" = none := B.fr 115 _ rfl
theorem Bs.z_str : mg "str" = none := B.fr 116 _ rfl
theorem Bs.z_zip : mg "zip" = none := B.fr 117 _ rfl
theorem Bs.z_enumerate : mg "enumerate" = none := B.fr 118 _ rfl
theorem Bs.z_all : mg "all" = none := B.fr 119 _ rfl
theorem Bs.z_sum : mg "sum" = none := B.fr 120 _ rfl
theorem Bs.z_min : mg "min" = none := B.fr 121 _ rfl
theorem Bs.z_sorted : mg "sorted" = none := B.fr 122 _ rfl
theorem Bs.z_ValueError : mg "ValueError" = none := B.fr 123 _ rfl
theorem Bs.i_MOST_VALUES : ∃ u, mg "MOST_VALUES" = some u ∧ RelV (.int 12) u := B.nt 124 _ _ rfl
theorem Bs.i_MOST_DAYS : ∃ u, mg "MOST_DAYS" = some u ∧ RelV (.int 400) u := B.nt 125 _ _ rfl
theorem Bs.i_MOST_MOMENTS : ∃ u, mg "MOST_MOMENTS" = some u ∧ RelV (.int 400) u := B.nt 126 _ _ rfl
theorem Bs.i_MOST_NEAR : ∃ u, mg "MOST_NEAR" = some u ∧ RelV (.int 200) u := B.nt 127 _ _ rfl
theorem Bs.i_LEAST_CYCLES : ∃ u, mg "LEAST_CYCLES" = some u ∧ RelV (.int 2) u := B.nt 128 _ _ rfl
theorem Bs.i_MOST_CYCLES : ∃ u, mg "MOST_CYCLES" = some u ∧ RelV (.int 6) u := B.nt 129 _ _ rfl
theorem Bs.d_whole_number : ∃ fd, FunD K "whole_number" "whole_number" (defArgs (top 15)) (defBody (top 15)) (defScope (top 15)) [] [] (He.ga K "whole_number") fd := B.df 0 _ rfl
theorem Bs.d_common_divisor : ∃ fd, FunD K "common_divisor" "common_divisor" (defArgs (top 16)) (defBody (top 16)) (defScope (top 16)) [] [] (He.ga K "common_divisor") fd := B.df 1 _ rfl
theorem Bs.d_lowest : ∃ fd, FunD K "lowest" "lowest" (defArgs (top 17)) (defBody (top 17)) (defScope (top 17)) [] [] (He.ga K "lowest") fd := B.df 2 _ rfl
theorem Bs.d_precedes : ∃ fd, FunD K "precedes" "precedes" (defArgs (top 18)) (defBody (top 18)) (defScope (top 18)) [] [] (He.ga K "precedes") fd := B.df 3 _ rfl
theorem Bs.d_weighted_divisor : ∃ fd, FunD K "weighted_divisor" "weighted_divisor" (defArgs (top 19)) (defBody (top 19)) (defScope (top 19)) [] [] (He.ga K "weighted_divisor") fd := B.df 4 _ rfl
theorem Bs.d_joint_measure : ∃ fd, FunD K "joint_measure" "joint_measure" (defArgs (top 20)) (defBody (top 20)) (defScope (top 20)) [] [] (He.ga K "joint_measure") fd := B.df 5 _ rfl
theorem Bs.d_fraction : ∃ fd, FunD K "fraction" "fraction" (defArgs (top 23)) (defBody (top 23)) (defScope (top 23)) [.int 1] [] (He.ga K "fraction") fd := B.df 6 _ rfl
theorem Bs.d_is_fraction : ∃ fd, FunD K "is_fraction" "is_fraction" (defArgs (top 24)) (defBody (top 24)) (defScope (top 24)) [] [] (He.ga K "is_fraction") fd := B.df 7 _ rfl
theorem Bs.d_check_pair : ∃ fd, FunD K "check_pair" "check_pair" (defArgs (top 25)) (defBody (top 25)) (defScope (top 25)) [] [] (He.ga K "check_pair") fd := B.df 8 _ rfl
theorem Bs.d_check_value : ∃ fd, FunD K "check_value" "check_value" (defArgs (top 26)) (defBody (top 26)) (defScope (top 26)) [] [] (He.ga K "check_value") fd := B.df 9 _ rfl
theorem Bs.d_plus : ∃ fd, FunD K "plus" "plus" (defArgs (top 27)) (defBody (top 27)) (defScope (top 27)) [] [] (He.ga K "plus") fd := B.df 10 _ rfl
theorem Bs.d_minus : ∃ fd, FunD K "minus" "minus" (defArgs (top 28)) (defBody (top 28)) (defScope (top 28)) [] [] (He.ga K "minus") fd := B.df 11 _ rfl
theorem Bs.d_times : ∃ fd, FunD K "times" "times" (defArgs (top 29)) (defBody (top 29)) (defScope (top 29)) [] [] (He.ga K "times") fd := B.df 12 _ rfl
theorem Bs.d_over : ∃ fd, FunD K "over" "over" (defArgs (top 30)) (defBody (top 30)) (defScope (top 30)) [] [] (He.ga K "over") fd := B.df 13 _ rfl
theorem Bs.d_compare : ∃ fd, FunD K "compare" "compare" (defArgs (top 31)) (defBody (top 31)) (defScope (top 31)) [] [] (He.ga K "compare") fd := B.df 14 _ rfl
theorem Bs.d_floor_of : ∃ fd, FunD K "floor_of" "floor_of" (defArgs (top 32)) (defBody (top 32)) (defScope (top 32)) [] [] (He.ga K "floor_of") fd := B.df 15 _ rfl
theorem Bs.d_part_of : ∃ fd, FunD K "part_of" "part_of" (defArgs (top 33)) (defBody (top 33)) (defScope (top 33)) [] [] (He.ga K "part_of") fd := B.df 16 _ rfl
theorem Bs.d_check_values : ∃ fd, FunD K "check_values" "check_values" (defArgs (top 34)) (defBody (top 34)) (defScope (top 34)) [] [] (He.ga K "check_values") fd := B.df 17 _ rfl
theorem Bs.d_measure_paper : ∃ fd, FunD K "measure_paper" "measure_paper" (defArgs (top 35)) (defBody (top 35)) (defScope (top 35)) [] [] (He.ga K "measure_paper") fd := B.df 18 _ rfl
theorem Bs.d_need_fraction : ∃ fd, FunD K "need_fraction" "need_fraction" (defArgs (top 43)) (defBody (top 43)) (defScope (top 43)) [] [] (He.ga K "need_fraction") fd := B.df 19 _ rfl
theorem Bs.d_need_place : ∃ fd, FunD K "need_place" "need_place" (defArgs (top 44)) (defBody (top 44)) (defScope (top 44)) [] [] (He.ga K "need_place") fd := B.df 20 _ rfl
theorem Bs.d_need_span : ∃ fd, FunD K "need_span" "need_span" (defArgs (top 45)) (defBody (top 45)) (defScope (top 45)) [] [] (He.ga K "need_span") fd := B.df 21 _ rfl
theorem Bs.d_next_step : ∃ fd, FunD K "next_step" "next_step" (defArgs (top 46)) (defBody (top 46)) (defScope (top 46)) [] [] (He.ga K "next_step") fd := B.df 22 _ rfl
theorem Bs.d_steps_within : ∃ fd, FunD K "steps_within" "steps_within" (defArgs (top 47)) (defBody (top 47)) (defScope (top 47)) [] [] (He.ga K "steps_within") fd := B.df 23 _ rfl
theorem Bs.d_check_cycles : ∃ fd, FunD K "check_cycles" "check_cycles" (defArgs (top 51)) (defBody (top 51)) (defScope (top 51)) [] [] (He.ga K "check_cycles") fd := B.df 24 _ rfl
theorem Bs.d_check_moment : ∃ fd, FunD K "check_moment" "check_moment" (defArgs (top 52)) (defBody (top 52)) (defScope (top 52)) [] [] (He.ga K "check_moment") fd := B.df 25 _ rfl
theorem Bs.d_check_span : ∃ fd, FunD K "check_span" "check_span" (defArgs (top 53)) (defBody (top 53)) (defScope (top 53)) [] [] (He.ga K "check_span") fd := B.df 26 _ rfl
theorem Bs.d_check_width : ∃ fd, FunD K "check_width" "check_width" (defArgs (top 54)) (defBody (top 54)) (defScope (top 54)) [] [] (He.ga K "check_width") fd := B.df 27 _ rfl
theorem Bs.d_lines_of : ∃ fd, FunD K "lines_of" "lines_of" (defArgs (top 55)) (defBody (top 55)) (defScope (top 55)) [] [] (He.ga K "lines_of") fd := B.df 28 _ rfl
theorem Bs.d_turns_on : ∃ fd, FunD K "turns_on" "turns_on" (defArgs (top 56)) (defBody (top 56)) (defScope (top 56)) [] [] (He.ga K "turns_on") fd := B.df 29 _ rfl
theorem Bs.d_is_within : ∃ fd, FunD K "is_within" "is_within" (defArgs (top 57)) (defBody (top 57)) (defScope (top 57)) [] [] (He.ga K "is_within") fd := B.df 30 _ rfl
theorem Bs.d_whole_near : ∃ fd, FunD K "whole_near" "whole_near" (defArgs (top 58)) (defBody (top 58)) (defScope (top 58)) [] [] (He.ga K "whole_near") fd := B.df 31 _ rfl
theorem Bs.d_line_is_near : ∃ fd, FunD K "line_is_near" "line_is_near" (defArgs (top 59)) (defBody (top 59)) (defScope (top 59)) [] [] (He.ga K "line_is_near") fd := B.df 32 _ rfl
theorem Bs.d_lines_are_near : ∃ fd, FunD K "lines_are_near" "lines_are_near" (defArgs (top 60)) (defBody (top 60)) (defScope (top 60)) [] [] (He.ga K "lines_are_near") fd := B.df 33 _ rfl
theorem Bs.d_is_earlier : ∃ fd, FunD K "is_earlier" "is_earlier" (defArgs (top 61)) (defBody (top 61)) (defScope (top 61)) [] [] (He.ga K "is_earlier") fd := B.df 34 _ rfl
theorem Bs.d_turned_bounds : ∃ fd, FunD K "turned_bounds" "turned_bounds" (defArgs (top 62)) (defBody (top 62)) (defScope (top 62)) [] [] (He.ga K "turned_bounds") fd := B.df 35 _ rfl
theorem Bs.d_wholes_met : ∃ fd, FunD K "wholes_met" "wholes_met" (defArgs (top 63)) (defBody (top 63)) (defScope (top 63)) [] [] (He.ga K "wholes_met") fd := B.df 36 _ rfl
theorem Bs.d_line_spans : ∃ fd, FunD K "line_spans" "line_spans" (defArgs (top 64)) (defBody (top 64)) (defScope (top 64)) [] [] (He.ga K "line_spans") fd := B.df 37 _ rfl
theorem Bs.d_common_rows : ∃ fd, FunD K "common_rows" "common_rows" (defArgs (top 65)) (defBody (top 65)) (defScope (top 65)) [] [] (He.ga K "common_rows") fd := B.df 38 _ rfl
theorem Bs.d_all_line_spans : ∃ fd, FunD K "all_line_spans" "all_line_spans" (defArgs (top 66)) (defBody (top 66)) (defScope (top 66)) [] [] (He.ga K "all_line_spans") fd := B.df 39 _ rfl
theorem Bs.d_shared_rows : ∃ fd, FunD K "shared_rows" "shared_rows" (defArgs (top 67)) (defBody (top 67)) (defScope (top 67)) [] [] (He.ga K "shared_rows") fd := B.df 40 _ rfl
theorem Bs.d_is_near : ∃ fd, FunD K "is_near" "is_near" (defArgs (top 68)) (defBody (top 68)) (defScope (top 68)) [] [] (He.ga K "is_near") fd := B.df 41 _ rfl
theorem Bs.d_near_spans : ∃ fd, FunD K "near_spans" "near_spans" (defArgs (top 69)) (defBody (top 69)) (defScope (top 69)) [] [] (He.ga K "near_spans") fd := B.df 42 _ rfl
theorem Bs.d_next_near : ∃ fd, FunD K "next_near" "next_near" (defArgs (top 70)) (defBody (top 70)) (defScope (top 70)) [] [] (He.ga K "next_near") fd := B.df 43 _ rfl
theorem Bs.d_near_days : ∃ fd, FunD K "near_days" "near_days" (defArgs (top 71)) (defBody (top 71)) (defScope (top 71)) [] [] (He.ga K "near_days") fd := B.df 44 _ rfl
theorem Bs.d_need_cycles : ∃ fd, FunD K "need_cycles" "need_cycles" (defArgs (top 75)) (defBody (top 75)) (defScope (top 75)) [] [] (He.ga K "need_cycles") fd := B.df 45 _ rfl
theorem Bs.d_weighed : ∃ fd, FunD K "weighed" "weighed" (defArgs (top 76)) (defBody (top 76)) (defScope (top 76)) [] [] (He.ga K "weighed") fd := B.df 46 _ rfl
theorem Bs.d_never_weights : ∃ fd, FunD K "never_weights" "never_weights" (defArgs (top 77)) (defBody (top 77)) (defScope (top 77)) [] [] (He.ga K "never_weights") fd := B.df 47 _ rfl
theorem Bs.d_meeting_rule : ∃ fd, FunD K "meeting_rule" "meeting_rule" (defArgs (top 78)) (defBody (top 78)) (defScope (top 78)) [] [] (He.ga K "meeting_rule") fd := B.df 48 _ rfl
theorem Bs.d_meeting_paper : ∃ fd, FunD K "meeting_paper" "meeting_paper" (defArgs (top 79)) (defBody (top 79)) (defScope (top 79)) [] [] (He.ga K "meeting_paper") fd := B.df 49 _ rfl
theorem Bs.d_meetings : ∃ fd, FunD K "meetings" "meetings" (defArgs (top 80)) (defBody (top 80)) (defScope (top 80)) [] [] (He.ga K "meetings") fd := B.df 50 _ rfl
theorem Bs.d_next_meeting : ∃ fd, FunD K "next_meeting" "next_meeting" (defArgs (top 81)) (defBody (top 81)) (defScope (top 81)) [] [] (He.ga K "next_meeting") fd := B.df 51 _ rfl
theorem Bs.d_law_mixed : ∃ fd, FunD K "_law_mixed" "_law_mixed" (defArgs (top 83)) (defBody (top 83)) (defScope (top 83)) [] [] (He.ga K "_law_mixed") fd := B.df 52 _ rfl
theorem Bs.d_law_store : ∃ fd, FunD K "_law_store" "_law_store" (defArgs (top 84)) (defBody (top 84)) (defScope (top 84)) [] [] (He.ga K "_law_store") fd := B.df 53 _ rfl
theorem Bs.d_law_take : ∃ fd, FunD K "_law_take" "_law_take" (defArgs (top 85)) (defBody (top 85)) (defScope (top 85)) [] [] (He.ga K "_law_take") fd := B.df 54 _ rfl
theorem Bs.d_law_pick : ∃ fd, FunD K "_law_pick" "_law_pick" (defArgs (top 86)) (defBody (top 86)) (defScope (top 86)) [] [] (He.ga K "_law_pick") fd := B.df 55 _ rfl
theorem Bs.d_law_size : ∃ fd, FunD K "_law_size" "_law_size" (defArgs (top 87)) (defBody (top 87)) (defScope (top 87)) [] [] (He.ga K "_law_size") fd := B.df 56 _ rfl
theorem Bs.d_law_gcd : ∃ fd, FunD K "_law_gcd" "_law_gcd" (defArgs (top 88)) (defBody (top 88)) (defScope (top 88)) [] [] (He.ga K "_law_gcd") fd := B.df 57 _ rfl
theorem Bs.d_law_bezout : ∃ fd, FunD K "_law_bezout" "_law_bezout" (defArgs (top 89)) (defBody (top 89)) (defScope (top 89)) [] [] (He.ga K "_law_bezout") fd := B.df 58 _ rfl
theorem Bs.d_law_lowest : ∃ fd, FunD K "_law_lowest" "_law_lowest" (defArgs (top 90)) (defBody (top 90)) (defScope (top 90)) [] [] (He.ga K "_law_lowest") fd := B.df 59 _ rfl
theorem Bs.d_law_plus : ∃ fd, FunD K "_law_plus" "_law_plus" (defArgs (top 91)) (defBody (top 91)) (defScope (top 91)) [] [] (He.ga K "_law_plus") fd := B.df 60 _ rfl
theorem Bs.d_law_minus : ∃ fd, FunD K "_law_minus" "_law_minus" (defArgs (top 92)) (defBody (top 92)) (defScope (top 92)) [] [] (He.ga K "_law_minus") fd := B.df 61 _ rfl
theorem Bs.d_law_times : ∃ fd, FunD K "_law_times" "_law_times" (defArgs (top 93)) (defBody (top 93)) (defScope (top 93)) [] [] (He.ga K "_law_times") fd := B.df 62 _ rfl
theorem Bs.d_law_over : ∃ fd, FunD K "_law_over" "_law_over" (defArgs (top 94)) (defBody (top 94)) (defScope (top 94)) [] [] (He.ga K "_law_over") fd := B.df 63 _ rfl
theorem Bs.d_law_sign : ∃ fd, FunD K "_law_sign" "_law_sign" (defArgs (top 95)) (defBody (top 95)) (defScope (top 95)) [] [] (He.ga K "_law_sign") fd := B.df 64 _ rfl
theorem Bs.d_law_floor : ∃ fd, FunD K "_law_floor" "_law_floor" (defArgs (top 96)) (defBody (top 96)) (defScope (top 96)) [] [] (He.ga K "_law_floor") fd := B.df 65 _ rfl
theorem Bs.d_law_part : ∃ fd, FunD K "_law_part" "_law_part" (defArgs (top 97)) (defBody (top 97)) (defScope (top 97)) [] [] (He.ga K "_law_part") fd := B.df 66 _ rfl
theorem Bs.d_law_offset : ∃ fd, FunD K "_law_offset" "_law_offset" (defArgs (top 98)) (defBody (top 98)) (defScope (top 98)) [] [] (He.ga K "_law_offset") fd := B.df 67 _ rfl
theorem Bs.d_law_distance : ∃ fd, FunD K "_law_distance" "_law_distance" (defArgs (top 99)) (defBody (top 99)) (defScope (top 99)) [] [] (He.ga K "_law_distance") fd := B.df 68 _ rfl
theorem Bs.d_law_scale : ∃ fd, FunD K "_law_scale" "_law_scale" (defArgs (top 100)) (defBody (top 100)) (defScope (top 100)) [] [] (He.ga K "_law_scale") fd := B.df 69 _ rfl
theorem Bs.d_law_ordered : ∃ fd, FunD K "_law_ordered" "_law_ordered" (defArgs (top 101)) (defBody (top 101)) (defScope (top 101)) [] [] (He.ga K "_law_ordered") fd := B.df 70 _ rfl
theorem Bs.d_law_whole : ∃ fd, FunD K "_law_whole" "_law_whole" (defArgs (top 102)) (defBody (top 102)) (defScope (top 102)) [] [] (He.ga K "_law_whole") fd := B.df 71 _ rfl
theorem Bs.d_law_frac : ∃ fd, FunD K "_law_frac" "_law_frac" (defArgs (top 103)) (defBody (top 103)) (defScope (top 103)) [] [] (He.ga K "_law_frac") fd := B.df 72 _ rfl
theorem Bs.d_law_place : ∃ fd, FunD K "_law_place" "_law_place" (defArgs (top 104)) (defBody (top 104)) (defScope (top 104)) [] [] (He.ga K "_law_place") fd := B.df 73 _ rfl
theorem Bs.d_law_moment : ∃ fd, FunD K "_law_moment" "_law_moment" (defArgs (top 105)) (defBody (top 105)) (defScope (top 105)) [] [] (He.ga K "_law_moment") fd := B.df 74 _ rfl
theorem Bs.d_law_span_over : ∃ fd, FunD K "_law_span_over" "_law_span_over" (defArgs (top 106)) (defBody (top 106)) (defScope (top 106)) [] [] (He.ga K "_law_span_over") fd := B.df 75 _ rfl
theorem Bs.d_law_turns : ∃ fd, FunD K "_law_turns" "_law_turns" (defArgs (top 107)) (defBody (top 107)) (defScope (top 107)) [] [] (He.ga K "_law_turns") fd := B.df 76 _ rfl
theorem Bs.d_law_met : ∃ fd, FunD K "_law_met" "_law_met" (defArgs (top 108)) (defBody (top 108)) (defScope (top 108)) [] [] (He.ga K "_law_met") fd := B.df 77 _ rfl
theorem Bs.d_law_rule : ∃ fd, FunD K "_law_rule" "_law_rule" (defArgs (top 109)) (defBody (top 109)) (defScope (top 109)) [] [] (He.ga K "_law_rule") fd := B.df 78 _ rfl
theorem Bs.d_law_near : ∃ fd, FunD K "_law_near" "_law_near" (defArgs (top 110)) (defBody (top 110)) (defScope (top 110)) [] [] (He.ga K "_law_near") fd := B.df 79 _ rfl
theorem Bs.d_law_near_many : ∃ fd, FunD K "_law_near_many" "_law_near_many" (defArgs (top 111)) (defBody (top 111)) (defScope (top 111)) [] [] (He.ga K "_law_near_many") fd := B.df 80 _ rfl
theorem Bs.d_law_alike : ∃ fd, FunD K "_law_alike" "_law_alike" (defArgs (top 112)) (defBody (top 112)) (defScope (top 112)) [] [] (He.ga K "_law_alike") fd := B.df 81 _ rfl
theorem Bs.d_law_answer : ∃ fd, FunD K "_law_answer" "_law_answer" (defArgs (top 113)) (defBody (top 113)) (defScope (top 113)) [] [] (He.ga K "_law_answer") fd := B.df 82 _ rfl
theorem Bs.d_law_numbers_in : ∃ fd, FunD K "_law_numbers_in" "_law_numbers_in" (defArgs (top 114)) (defBody (top 114)) (defScope (top 114)) [] [] (He.ga K "_law_numbers_in") fd := B.df 83 _ rfl
theorem Bs.d_law_meetings_due : ∃ fd, FunD K "_law_meetings_due" "_law_meetings_due" (defArgs (top 115)) (defBody (top 115)) (defScope (top 115)) [] [] (He.ga K "_law_meetings_due") fd := B.df 84 _ rfl
theorem Bs.d_law_sky_for : ∃ fd, FunD K "_law_sky_for" "_law_sky_for" (defArgs (top 116)) (defBody (top 116)) (defScope (top 116)) [] [] (He.ga K "_law_sky_for") fd := B.df 85 _ rfl
theorem Bs.d_law_short_span : ∃ fd, FunD K "_law_short_span" "_law_short_span" (defArgs (top 117)) (defBody (top 117)) (defScope (top 117)) [] [] (He.ga K "_law_short_span") fd := B.df 86 _ rfl
theorem Bs.d_law_ends_for : ∃ fd, FunD K "_law_ends_for" "_law_ends_for" (defArgs (top 118)) (defBody (top 118)) (defScope (top 118)) [] [] (He.ga K "_law_ends_for") fd := B.df 87 _ rfl
theorem Bs.d_law_spans_due : ∃ fd, FunD K "_law_spans_due" "_law_spans_due" (defArgs (top 119)) (defBody (top 119)) (defScope (top 119)) [] [] (He.ga K "_law_spans_due") fd := B.df 88 _ rfl
theorem Bs.d_law_spans_told : ∃ fd, FunD K "_law_spans_told" "_law_spans_told" (defArgs (top 120)) (defBody (top 120)) (defScope (top 120)) [] [] (He.ga K "_law_spans_told") fd := B.df 89 _ rfl
theorem Bs.d_law_first_right : ∃ fd, FunD K "_law_first_right" "_law_first_right" (defArgs (top 121)) (defBody (top 121)) (defScope (top 121)) [] [] (He.ga K "_law_first_right") fd := B.df 90 _ rfl
theorem Bs.d_law_days_right : ∃ fd, FunD K "_law_days_right" "_law_days_right" (defArgs (top 122)) (defBody (top 122)) (defScope (top 122)) [] [] (He.ga K "_law_days_right") fd := B.df 91 _ rfl
theorem Bs.d_law_refused_right : ∃ fd, FunD K "_law_refused_right" "_law_refused_right" (defArgs (top 123)) (defBody (top 123)) (defScope (top 123)) [] [] (He.ga K "_law_refused_right") fd := B.df 92 _ rfl
theorem Bs.d_law : ∃ fd, FunD K "law" "law" (defArgs (top 124)) (defBody (top 124)) (defScope (top 124)) [] [] (He.ga K "law") fd := B.df 93 _ rfl
theorem Bs.d_BadValue_init : ∃ fd, FunD K "__init__" "BadValue.__init__" (defArgs (inClass (top 3) 0)) (defBody (inClass (top 3) 0)) (defScope (inClass (top 3) 0)) [] [] (He.ma K (He.ga K "BadValue") "__init__") fd := B.df 94 _ rfl
theorem Bs.d_TooMany_init : ∃ fd, FunD K "__init__" "TooMany.__init__" (defArgs (inClass (top 7) 0)) (defBody (inClass (top 7) 0)) (defScope (inClass (top 7) 0)) [] [] (He.ma K (He.ga K "TooMany") "__init__") fd := B.df 95 _ rfl
theorem Bs.d_Span_init : ∃ fd, FunD K "__init__" "Span.__init__" (defArgs (inClass (top 40) 0)) (defBody (inClass (top 40) 0)) (defScope (inClass (top 40) 0)) [] [] (He.ma K (He.ga K "Span") "__init__") fd := B.df 96 _ rfl
theorem Bs.d_Span_days : ∃ fd, FunD K "days" "Span.days" (defArgs (inClass (top 40) 6)) (defBody (inClass (top 40) 6)) (defScope (inClass (top 40) 6)) [] [] (He.ma K (He.ga K "Span") "days") fd := B.df 97 _ rfl
theorem Bs.d_Cycle_init : ∃ fd, FunD K "__init__" "Cycle.__init__" (defArgs (inClass (top 48) 0)) (defBody (inClass (top 48) 0)) (defScope (inClass (top 48) 0)) [.ref (He.dflAt ("Cycle", some "__init__") 0 K)] [] (He.ma K (He.ga K "Cycle") "__init__") fd := B.df 98 _ rfl
theorem Bs.c_Span : Cls K (He.ga K "Span") := He.cls_ok (B.ok 130 _ rfl)
theorem Bs.c_Cycle : Cls K (He.ga K "Cycle") := He.cls_ok (B.ok 131 _ rfl)
theorem Bs.m_Span : Mk K (He.ga K "Span") (He.ma K (He.ga K "Span") "__init__") := He.mkr_ok (B.ok 132 _ rfl)
theorem Bs.m_Cycle : Mk K (He.ga K "Cycle") (He.ma K (He.ga K "Cycle") "__init__") := He.mkr_ok (B.ok 133 _ rfl)
theorem Bs.m_days : Meth K (He.ga K "Span") "days" (He.ma K (He.ga K "Span") "days") := He.meth_ok (B.ok 134 _ rfl)
theorem Bs.n_rate : NoAttr K (He.ga K "Cycle") "rate" := He.noat_ok (B.ok 135 _ rfl)
theorem Bs.n_start : NoAttr K (He.ga K "Cycle") "start" := He.noat_ok (B.ok 136 _ rfl)
theorem Bs.n_period : NoAttr K (He.ga K "Cycle") "period" := He.noat_ok (B.ok 137 _ rfl)
theorem Bs.n_first : NoAttr K (He.ga K "Span") "first" := He.noat_ok (B.ok 138 _ rfl)
theorem Bs.n_last : NoAttr K (He.ga K "Span") "last" := He.noat_ok (B.ok 139 _ rfl)
theorem Bs.n_length : NoAttr K (He.ga K "Span") "length" := He.noat_ok (B.ok 140 _ rfl)
theorem Bs.x0 : (IsK K (He.ga K "Span") ∧ IsK K (He.ga K "Cycle")) ∧ (OneX K "BadValue" ∧ OneX K "TooMany" ∧ OneX K "Endless") ∧ FldX K "BadValue" "what" ∧ FldX K "TooMany" "limit" := by
  obtain ⟨h1, h⟩ := He.ba B.ex
  obtain ⟨h2, h⟩ := He.ba h
  obtain ⟨h3, h⟩ := He.ba h
  obtain ⟨h4, h⟩ := He.ba h
  obtain ⟨h5, h⟩ := He.ba h
  obtain ⟨h6, h7⟩ := He.ba h
  exact ⟨⟨isKB_ok B.c_Span h1, isKB_ok B.c_Cycle h2⟩, ⟨oneB_ok h3, oneB_ok h4, oneB_ok h5⟩, fldB_ok h6, fldB_ok h7⟩
theorem Bs.k_Span : IsK K (He.ga K "Span") := B.x0.1.1
theorem Bs.k_Cycle : IsK K (He.ga K "Cycle") := B.x0.1.2
theorem Bs.x_BadValue : OneX K "BadValue" := B.x0.2.1.1
theorem Bs.x_TooMany : OneX K "TooMany" := B.x0.2.1.2.1
theorem Bs.x_Endless : OneX K "Endless" := B.x0.2.1.2.2
theorem Bs.f_BadValue : FldX K "BadValue" "what" := B.x0.2.2.1
theorem Bs.f_TooMany : FldX K "TooMany" "limit" := B.x0.2.2.2
theorem Bs.e_Endless : PySem.W.excIn K (He.ga K "Endless") He.veBase "ValueError.__new__" = true ∧ PySem.W.keepIn K (.ref (He.ga K "Endless")) = true ∧ PySem.W.subIn K (.ref (He.ga K "Endless")) (.type "BaseException") = some true ∧ PySem.W.typeIn K (.ref (He.ga K "Endless")) = some (.type "type") := He.exc_ok (B.ok 141 _ rfl)
end
end Wk
-- Core5
/-! isinstance; fractions as data. -/
namespace Wk
open PySem PySem.Spec
open PyProof.Rows L2
def tyN : Dt → String
  | .non => "NoneType"
  | .bl _ => "bool"
  | .int _ => "int"
  | .str _ => "str"
  | .tup _ => "tuple"
  | .lst _ => "list"
  | .ins _ _ _ => ""
def isB (a b : String) : Bool := a == b || (a == "bool" && b == "int")
theorem kit_tab : ∀ a ∈ ["NoneType", "bool", "int", "str", "tuple", "list"], ∀ b ∈ ["bool", "int", "str", "tuple", "list"], kitB a b = some (isB a b) := by decide +kernel
def isIns : Dt → Bool
  | .ins _ _ _ => true
  | _ => false
theorem tyN_mem {d : Dt} (h : isIns d = false) : tyN d ∈ ["NoneType", "bool", "int", "str", "tuple", "list"] := by
  cases d <;> first | (simp [tyN]; done) | cases h
section
variable {C : Ctx} {K : PySem.W.Frag} {Γ : List Slot} {ta tb : TE} {d : Dt} {ds : List Dt}
theorem ty_of {F H : Hp} {v : V} (r : Rep F v d) (e : Same F H) (h : isIns d = false) : TyX K H v (.type (tyN d)) := by
  cases r with
  | non => exact .base .non
  | bl b => exact .base (.bl b)
  | int i => exact .base (.int i)
  | str x => exact .base (.str x)
  | tup hF _ => exact .base (.tup (e _ _ hF))
  | lst hF _ => exact .base (.lst (e _ _ hF))
  | ins _ _ _ => cases h
theorem kit1 {n : String} (h : isIns d = false) (hn : n ∈ ["bool", "int", "str", "tuple", "list"]) : PySem.W.kitOne K (.type (tyN d)) (.type n) = some (isB (tyN d) n) := kit_ty (kit_tab _ (tyN_mem h) _ hn)
theorem ed_isT {n : String} (ha : EvD C ta Γ d) (h : isIns d = false) (hn : n ∈ ["bool", "int", "str", "tuple", "list"] := by simp) : EvD C (tCB (rIsi K) (tCons ta (tCons (tC (.ty n)) tNil))) Γ (.bl (isB (tyN d) n)) := fun σ F H I Q q =>
  ha σ F H I _ fun x F1 H1 d' I1 s1 r1 k1 => by
    subst k1
    exact ⟨x, .ty n, .type (tyN d'), .type n, isB (tyN d') n, rfl, .ty n, ty_of r1 I1.fh h, kit1 h hn, q _ F1 H1 _ I1 s1 (.bl _) rfl⟩
/-- isinstance(x, (list, tuple)) -/
theorem ed_isLT (ha : EvD C ta Γ d) (h : isIns d = false) : EvD C (tCB (rIsiT K) (tCons ta (tCons (tTup (tCons (tC (.ty "list")) (tCons (tC (.ty "tuple")) tNil))) tNil))) Γ (.bl (isB (tyN d) "list" || isB (tyN d) "tuple")) := fun σ F H I Q q =>
  ha σ F H I _ fun x F1 H1 d' I1 s1 r1 k1 => by
    subst k1
    (refine ⟨by show 2 ≤ sizeLine; decide, fun p hp => ?_⟩)
    have g := grow_new0 (o := .tup [V.ty "list", V.ty "tuple"]) I1.fh hp
    refine ⟨x, p, [.ty "list", .ty "tuple"], .type (tyN d'), [.type "list", .type "tuple"], _, rfl, upd_same, .cons (.ty _) (.cons (.ty _) .nil), ty_of r1 (I1.fh.trans g.hh) h, ?_, q _ F1 _ _ (I1.grow g) s1 (.bl _) rfl⟩
    refine kitAny_cons (kit1 h (by simp)) (fun e => kitAny_cons (kit1 h (by simp)) (fun e2 => ?_) fun e2 => by rw [e2]; simp) fun e => by rw [e]; rfl
    rw [e, e2]
    exact kitAny_nil
/-- isinstance(x, (list)) of the other pair -/
theorem ed_isIS (ha : EvD C ta Γ d) (h : isIns d = false) : EvD C (tCB (rIsiT K) (tCons ta (tCons (tTup (tCons (tC (.ty "int")) (tCons (tC (.ty "str")) tNil))) tNil))) Γ (.bl (isB (tyN d) "int" || isB (tyN d) "str")) := fun σ F H I Q q =>
  ha σ F H I _ fun x F1 H1 d' I1 s1 r1 k1 => by
    subst k1
    (refine ⟨by show 2 ≤ sizeLine; decide, fun p hp => ?_⟩)
    have g := grow_new0 (o := .tup [V.ty "int", V.ty "str"]) I1.fh hp
    refine ⟨x, p, [.ty "int", .ty "str"], .type (tyN d'), [.type "int", .type "str"], _, rfl, upd_same, .cons (.ty _) (.cons (.ty _) .nil), ty_of r1 (I1.fh.trans g.hh) h, ?_, q _ F1 _ _ (I1.grow g) s1 (.bl _) rfl⟩
    refine kitAny_cons (kit1 h (by simp)) (fun e => kitAny_cons (kit1 h (by simp)) (fun e2 => ?_) fun e2 => by rw [e2]; simp) fun e => by rw [e]; rfl
    rw [e, e2]
    exact kitAny_nil
theorem ed_isC {A : Addr} {ns : List Str} (T : IsK K A) (ha : EvD C ta Γ (.ins A ns ds)) : EvD C (tCB (rIsi K) (tCons ta (tCons (tC (.ref A)) tNil))) Γ (.bl true) := fun σ F H I Q q =>
  ha σ F H I _ fun x F1 H1 d' I1 s1 r1 k1 => by
    subst k1
    obtain ⟨a, dx, vs, rfl, hF, hl, rs⟩ := r1.ins_inv
    exact ⟨.ref a, .ref A, .ref A, .ref A, true, rfl, .own A, .base (.ins (I1.fh _ _ hF) T.cl T.ha T.hn T.ht T.hm), T.self, q _ F1 H1 _ I1 s1 (.bl _) rfl⟩
end
/-! ### fractions -/
def fr (q : Rat) : Dt := .tup [.int q.num, .int (q.den : Int)]
/-- below 2 ^ n above and below the line -/
def Bd (n : Nat) (q : Rat) : Prop := q.num.natAbs < 2 ^ n ∧ q.den < 2 ^ n
theorem Bd.pos {n : Nat} {q : Rat} (h : Bd n q) : 0 < n := by
  cases n with
  | zero =>
    have h2 : q.den < 1 := h.2
    have := q.den_pos
    omega
  | succ n => exact Nat.succ_pos _
theorem lt_two_pow {n m k : Nat} (h : k < 2 ^ n) (h2 : n ≤ m) : k < 2 ^ m := Nat.lt_of_lt_of_le h (Nat.pow_le_pow_right (by decide) h2)
theorem Bd.mono {n m : Nat} {q : Rat} (h : Bd n q) (h2 : n ≤ m) : Bd m q := ⟨lt_two_pow h.1 h2, lt_two_pow h.2 h2⟩
theorem bd_mk {n : Int} {d k : Nat} (h0 : d ≠ 0) (h1 : n.natAbs < 2 ^ k) (h2 : d < 2 ^ k) : Bd k (mkRat n d) := by
  rw [Bd, Rat.num_mkRat, Rat.den_mkRat, if_neg h0, if_neg h0]
  refine ⟨Nat.lt_of_le_of_lt ?_ h1, Nat.lt_of_le_of_lt (Nat.div_le_self _ _) h2⟩
  exact Int.natAbs_ediv_le_natAbs _ _
theorem bd_int {n : Int} {k : Nat} (h : n.natAbs < 2 ^ k) (h0 : 0 < k) : Bd k (n : Rat) := ⟨h, by
  show 1 < 2 ^ k
  exact Nat.one_lt_two_pow (by omega)⟩
theorem mul_lt_pow {a b n m : Nat} (h1 : a < 2 ^ n) (h2 : b < 2 ^ m) : a * b < 2 ^ (n + m) := by
  rw [Nat.pow_add]
  exact Nat.mul_lt_mul'' h1 h2
theorem add_lt_pow {a b n : Nat} (h1 : a < 2 ^ n) (h2 : b < 2 ^ n) : a + b < 2 ^ (n + 1) := by
  rw [Nat.pow_succ]
  omega
theorem Bd.add {n m : Nat} {a b : Rat} (ha : Bd n a) (hb : Bd m b) : Bd (n + m + 1) (a + b) := by
  rw [Rat.add_def']
  refine bd_mk (Nat.mul_ne_zero a.den_nz b.den_nz) ?_ (lt_two_pow (mul_lt_pow ha.2 hb.2) (by omega))
  refine Nat.lt_of_le_of_lt (Int.natAbs_add_le _ _) (add_lt_pow ?_ ?_)
  · rw [Int.natAbs_mul]
    exact mul_lt_pow ha.1 hb.2
  · rw [Int.natAbs_mul, Nat.add_comm n m]
    exact mul_lt_pow hb.1 ha.2
theorem Bd.neg {n : Nat} {a : Rat} (ha : Bd n a) : Bd n (-a) := ⟨by
  rw [Rat.neg_num, Int.natAbs_neg]
  exact ha.1, ha.2⟩
theorem Bd.sub {n m : Nat} {a b : Rat} (ha : Bd n a) (hb : Bd m b) : Bd (n + m + 1) (a - b) := by
  rw [Rat.sub_eq_add_neg]
  exact ha.add hb.neg
theorem Bd.mul {n m : Nat} {a b : Rat} (ha : Bd n a) (hb : Bd m b) : Bd (n + m) (a * b) := by
  rw [Rat.mul_def']
  refine bd_mk (Nat.mul_ne_zero a.den_nz b.den_nz) ?_ (mul_lt_pow ha.2 hb.2)
  rw [Int.natAbs_mul]
  exact mul_lt_pow ha.1 hb.1
theorem Bd.inv {n : Nat} {a : Rat} (ha : Bd n a) : Bd n a⁻¹ := by
  have h0 := ha.pos
  refine ⟨?_, ?_⟩
  · rw [Rat.num_inv, Int.natAbs_mul, Int.natAbs_natCast]
    have h1 : a.num.sign.natAbs ≤ 1 := by rw [Int.natAbs_sign]; split <;> omega
    exact Nat.lt_of_le_of_lt (Nat.mul_le_mul_right _ h1) (by rw [Nat.one_mul]; exact ha.2)
  · rw [Rat.den_inv]
    split
    · exact Nat.one_lt_two_pow (by omega)
    · exact ha.1
theorem Bd.div {n m : Nat} {a b : Rat} (ha : Bd n a) (hb : Bd m b) : Bd (n + m) (a / b) := by
  rw [Rat.div_def]
  exact ha.mul hb.inv
end Wk
-- Core6
/-! Sizes; what the arithmetic of fractions comes to. -/
namespace Wk
open PySem PySem.Spec
open PyProof.Rows L2
theorem len_P {Rl : Rel} {n : Nat} (h : ∀ ds Post, Rl ds Post → ds.length = n) : ∀ vs H Q E, spP Rl vs H Q E → vs.length = n := fun vs H Q E z => by
  obtain ⟨F, ds, Post, _, r, hR, _⟩ := z
  rw [r.length]
  exact h ds Post hR
theorem len_S {Rl : Rel} {n : Nat} (h : ∀ ds Post, Rl ds Post → ds.length = n) : ∀ vs H Q E, spS Rl vs H Q E → vs.length = n + 1 := fun vs H Q E z => by
  obtain ⟨p, vs', F, ds, Post, rfl, _, _, r, hR, _⟩ := z
  rw [List.length_cons, r.length, h ds Post hR]
theorem len_X {c : Ecl} {Rl : RelX} {n : Nat} (h : ∀ ds Post PE, Rl ds Post PE → ds.length = n) : ∀ vs H Q E, spX c Rl vs H Q E → vs.length = n := fun vs H Q E z => by
  obtain ⟨F, ds, Post, PE, _, r, hR, _⟩ := z
  rw [r.length]
  exact h ds Post PE hR
def ecl (K : PySem.W.Frag) : Ecl := ⟨He.ga K "BadValue", He.ga K "TooMany", He.ga K "Endless"⟩
class Bz (q : Rat) (n : outParam Nat) : Prop where
  h : Bd n q
theorem bz {q : Rat} {n : Nat} [i : Bz q n] : Bd n q := i.h
section
variable {a b : Rat} {n m : Nat}
instance [Bz a n] [Bz b m] : Bz (a + b) (n + m + 1) := ⟨bz.add bz⟩
instance [Bz a n] [Bz b m] : Bz (a - b) (n + m + 1) := ⟨bz.sub bz⟩
instance [Bz a n] [Bz b m] : Bz (a * b) (n + m) := ⟨bz.mul bz⟩
instance [Bz a n] [Bz b m] : Bz (a / b) (n + m) := ⟨bz.div bz⟩
instance [Bz a n] : Bz (-a) n := ⟨bz.neg⟩
instance : Bz (0 : Rat) 1 := ⟨by decide, by decide⟩
instance : Bz (1 : Rat) 1 := ⟨by decide, by decide⟩
/-- products -/
theorem mw_ii {i j : Int} (hi : i.natAbs < 2 ^ n) (hj : j.natAbs < 2 ^ m) (h0 : 0 < n) (h1 : 0 < m) (h : n + m ≤ 1000000) : CMulW i j := wide_mul hi hj h0 h1 h
theorem den_abs : ((a.den : Int)).natAbs = a.den := Int.natAbs_natCast _
theorem mw_nn [Bz a n] [Bz b m] (h : n + m ≤ 1000000 := by omega) : CMulW a.num b.num := mw_ii (bz (q := a)).1 (bz (q := b)).1 (bz (q := a)).pos (bz (q := b)).pos h
theorem mw_nd [Bz a n] [Bz b m] (h : n + m ≤ 1000000 := by omega) : CMulW a.num (b.den : Int) := mw_ii (bz (q := a)).1 (by rw [den_abs]; exact (bz (q := b)).2) (bz (q := a)).pos (bz (q := b)).pos h
theorem mw_dn [Bz a n] [Bz b m] (h : n + m ≤ 1000000 := by omega) : CMulW (a.den : Int) b.num := mw_ii (by rw [den_abs]; exact (bz (q := a)).2) (bz (q := b)).1 (bz (q := a)).pos (bz (q := b)).pos h
theorem mw_dd [Bz a n] [Bz b m] (h : n + m ≤ 1000000 := by omega) : CMulW (a.den : Int) (b.den : Int) := mw_ii (by rw [den_abs]; exact (bz (q := a)).2) (by rw [den_abs]; exact (bz (q := b)).2) (bz (q := a)).pos (bz (q := b)).pos h
/-- divisors -/
theorem dv_nat {k : Nat} {i : Int} (h0 : k ≠ 0) (h : k < 2 ^ n) (hn : n ≤ 9000) : CDivZ i (k : Int) := ⟨by omega, by
  have hp : 0 < n := by
    cases n with
    | zero =>
      have : k < 1 := h
      omega
    | succ n => exact Nat.succ_pos _
  rw [Int.natAbs_natCast]
  exact Nat.lt_of_lt_of_le (PySem.Flt.log2_lt_of hp h) hn⟩
theorem dv_int {i j : Int} (h0 : j ≠ 0) (h : j.natAbs < 2 ^ n) (hn : n ≤ 9000) : CDivZ i j := ⟨h0, by
  have hp : 0 < n := by
    cases n with
    | zero =>
      have : j.natAbs < 1 := h
      omega
    | succ n => exact Nat.succ_pos _
  exact Nat.lt_of_lt_of_le (PySem.Flt.log2_lt_of hp h) hn⟩
theorem dv_den {i : Int} [Bz a n] (h : n ≤ 9000 := by omega) : CDivZ i (a.den : Int) := dv_nat a.den_nz (bz (q := a)).2 h
end
theorem fdiv_den (i : Int) (q : Rat) : i.fdiv (q.den : Int) = i / (q.den : Int) := Int.fdiv_eq_ediv_of_nonneg _ (by omega)
theorem fmod_den (i : Int) (q : Rat) : i.fmod (q.den : Int) = i % (q.den : Int) := Int.fmod_eq_emod_of_nonneg _ (by omega)
/-- a fraction less its floor -/
def part0 (a : Rat) : Rat := a - (a.floor : Rat)
theorem fr_int (k : Int) : Dt.tup [.int k, .int 1] = fr (k : Rat) := rfl
theorem fr_lit {n : Int} {d : Int} {q : Rat} (h : q.num = n ∧ (q.den : Int) = d) : Dt.tup [.int n, .int d] = fr q := by
  rw [← h.1, ← h.2] <;> rfl
theorem Int.sign_mul_self_eq_natAbs' (d : Int) : d.sign * d = (d.natAbs : Int) := by
  rcases Int.lt_trichotomy d 0 with h | h | h
  · rw [Int.sign_eq_neg_one_of_neg h]; omega
  · subst h; rfl
  · rw [Int.sign_eq_one_of_pos h]; omega
/-- the fraction that lowest makes -/
theorem lowest_eq {n d : Int} (h : d ≠ 0) : (Dt.tup [.int (n.fdiv (if d < 0 then -((Int.gcd n d : Nat) : Int) else ((Int.gcd n d : Nat) : Int))), .int (d.fdiv (if d < 0 then -((Int.gcd n d : Nat) : Int) else ((Int.gcd n d : Nat) : Int)))]) = fr (Rat.divInt n d) := by
  have hg : (Int.gcd n d : Nat) ≠ 0 := fun z => h (Int.gcd_eq_zero_iff.mp z).2
  have hg2 : 0 < ((Int.gcd n d : Nat) : Int) := by omega
  have hdn : ((Int.gcd n d : Nat) : Int) ∣ n := Int.gcd_dvd_left ..
  have hdd : ((Int.gcd n d : Nat) : Int) ∣ d := Int.gcd_dvd_right ..
  have key : ∀ x : Int, ((Int.gcd n d : Nat) : Int) ∣ x → x.fdiv (if d < 0 then -((Int.gcd n d : Nat) : Int) else ((Int.gcd n d : Nat) : Int)) = d.sign * x / ((Int.gcd n d : Nat) : Int) := fun x hx => by
    obtain ⟨c, rfl⟩ := hx
    by_cases hd : d < 0
    · rw [if_pos hd, Int.sign_eq_neg_one_of_neg hd]
      have e1 : ((Int.gcd n d : Nat) : Int) * c = -((Int.gcd n d : Nat) : Int) * (-c) := by rw [Int.neg_mul_neg]
      rw [e1, Int.mul_fdiv_cancel_left _ (by omega)]
      have e2 : -1 * (-((Int.gcd n d : Nat) : Int) * -c) = ((Int.gcd n d : Nat) : Int) * (-c) := by rw [Int.neg_mul_neg, Int.mul_neg, Int.neg_mul, Int.one_mul]
      rw [e2, Int.mul_ediv_cancel_left _ (by omega)]
    · rw [if_neg hd, Int.sign_eq_one_of_pos (by omega), Int.one_mul, Int.mul_fdiv_cancel_left _ (by omega), Int.mul_ediv_cancel_left _ (by omega)]
  rw [key n hdn, key d hdd]
  unfold fr
  rw [Rat.num_divInt, Rat.den_divInt, if_neg h]
  have e1 : (d.gcd n : Int) = (Int.gcd n d : Nat) := by rw [Int.gcd_comm]
  have e2 : d.sign * d / ((Int.gcd n d : Nat) : Int) = ((d.natAbs / d.gcd n : Nat) : Int) := by
    rw [show d.sign * d = (d.natAbs : Int) from Int.sign_mul_self_eq_natAbs' d, Int.natCast_ediv, Int.gcd_comm d n]
  rw [e2, e1]
theorem divInt_nat {n : Int} {d : Nat} : Rat.divInt n (d : Int) = mkRat n d := Rat.divInt_ofNat _ _
end Wk
-- Core7
/-! Rules with their table given: for what stands inside a comprehension. -/
namespace Wk
open PySem PySem.Spec
open PyProof.Rows L2
section
variable {X : Cx} {K : PySem.W.Frag}
theorem ix_listK (h : X.K = K := by rfl) : IxR X (rIxL K) := by subst h; exact ix_list
theorem ix_tupK (h : X.K = K := by rfl) : IxR X (rIxT K) := by subst h; exact ix_tup
theorem op_catTK (h : X.K = K := by rfl) : OpR X (binaryOp Operator.Add) (rCatT K) := by subst h; exact op_catT
theorem pe_fldK {e : Expr} {f : Str} {pos : Pos} {ta : TE} (a : PE X e ta) (b : attributeBase e f X.env (eval e X.env) = eval e X.env) (h : X.K = K := by rfl) : PE X (e.Attribute f pos) (tFld K ta f) := by subst h; exact pe_fld a b
theorem call_isiK (h : X.K = K := by rfl) : CallR X (Value.builtin "isinstance") (rIsi K) := by subst h; exact call_isi
theorem call_isiTK (h : X.K = K := by rfl) : CallR X (Value.builtin "isinstance") (rIsiT K) := by subst h; exact call_isiT
theorem sl_listK (h : X.K = K := by rfl) : SlR X (rSlL K) := by subst h; exact sl_list
end
end Wk
-- Core8
/-! zip of a tuple and a list. -/
namespace Wk
open PySem PySem.Spec
open PyProof.Rows L2
/-- the tuple at p, the list at q, side by side -/
def ItMix (K : PySem.W.Frag) (p q : Addr) : It where
  go n Hh := ∃ (us ws : List V) (u w : V), SqT K Hh p us ∧ SqL K Hh q ws ∧ us[n]? = some u ∧ ws[n]? = some w
  yld n Hh r Hz := ∃ T u w, r = .ref T ∧ Hh T = none ∧ Hz = upd Hh T (.tup [u, w]) ∧ (∀ us, SqT K Hh p us → us[n]? = some u) ∧ ∀ ws, SqL K Hh q ws → ws[n]? = some w
  stop n Hh := ∃ us ws : List V, SqT K Hh p us ∧ SqL K Hh q ws ∧ (us.length = n ∧ ws.length = n)
structure MixAt (n0 p q : Nat) : Prop where
  hp : p < n0
  hq : q < n0
theorem nt {a b : Nat} (h : a < b ∨ b < a) : a ≠ b := by omega
theorem nmem2 {a x y : Nat} (h1 : a ≠ x) (h2 : a ≠ y) : a ∉ [x, y] := fun z => by
  rcases List.mem_cons.mp z with e | e
  · exact h1 e
  · exact h2 (List.mem_singleton.mp e)
theorem MixAt.sep {n0 p q : Nat} (m : MixAt n0 p q) : ZipSep2 (n0 + 4) (n0 + 2) (n0 + 3) n0 (n0 + 1) [n0, p] [n0 + 1, q] := by
  have h1 := m.hp
  have h2 := m.hq
  exact ⟨nt (by omega), nt (by omega), nt (by omega), nt (by omega), List.mem_cons_self, nmem2 (nt (by omega)) (nt (by omega)), nmem2 (nt (by omega)) (nt (by omega)), nt (by omega), List.mem_cons_self, nmem2 (nt (by omega)) (nt (by omega)), nmem2 (nt (by omega)) (nt (by omega)), nmem2 (nt (by omega)) (nt (by omega)), nmem2 (nt (by omega)) (nt (by omega))⟩
abbrev mixFp (n0 : Nat) : List Addr := [n0 + 4, n0 + 2, n0 + 3, n0, n0 + 1]
def MixTn (n0 p q : Nat) (n : Nat) (h : Heap) : Prop := IsZip h (n0 + 4) (n0 + 2) (n0 + 3) .none ∧ IsTupOf2 h (n0 + 2) (.ref n0) (.ref (n0 + 1)) ∧ (∃ u w, IsTupOf2 h (n0 + 3) u w) ∧ h.IsTupleIter n0 p n ∧ h.IsListIter (n0 + 1) q n
theorem mem_mix {n0 c : Nat} (h : c ∈ mixFp n0) : c = n0 + 4 ∨ c = n0 + 2 ∨ c = n0 + 3 ∨ c = n0 ∨ c = n0 + 1 := by simpa using h
theorem MixTn.old {n0 p q c : Nat} {n : Nat} {h : Heap} (t : MixTn n0 p q n h) (hc : c ∈ mixFp n0) : ∃ o, h.get? c = some o ∧ ∀ v, o.data ≠ .cell v := by
  obtain ⟨a1, a2, ⟨u, w, a3⟩, ⟨x, b1, _, b2⟩, ⟨y, c1, _, c2⟩⟩ := t
  rcases mem_mix hc with e | e | e | e | e <;> subst e
  · exact ⟨_, a1, by intro v z; cases z⟩
  · exact ⟨_, a2, by intro v z; cases z⟩
  · exact ⟨_, a3, by intro v z; cases z⟩
  · exact ⟨x, b1, by intro v z; rw [b2] at z; cases z⟩
  · exact ⟨y, c1, by intro v z; rw [c2] at z; cases z⟩
theorem MixTn.lt {n0 p q c : Nat} {n : Nat} {h : Heap} (t : MixTn n0 p q n h) (hc : c ∈ mixFp n0) : c < h.objs.size := by
  obtain ⟨o, e, _⟩ := t.old hc
  exact Heap.lt_size e
theorem turn_mix {P : Program} {w : World} {K : PySem.W.Frag} {es : List Expr} {kn : Nat} {tp : Pos} {n0 p q : Nat} (m : MixAt n0 p q) : Turn P w K (.Tuple es kn tp) (ItMix K p q) (mixFp n0) (n0 + 4) (MixTn n0 p q) where
  mem := List.mem_cons_self
  obj n h t c hc := t.old hc
  keep n h h' t k := by
    obtain ⟨a1, a2, ⟨u, w, a3⟩, a4, a5⟩ := t
    have kk : ∀ c, c ∈ mixFp n0 → ∀ o, h.get? c = some o → h'.get? c = some o := k
    have m1 : n0 + 4 ∈ mixFp n0 := by simp
    have m2 : n0 + 2 ∈ mixFp n0 := by simp
    have m3 : n0 + 3 ∈ mixFp n0 := by simp
    have m4 : n0 ∈ mixFp n0 := by simp
    have m5 : n0 + 1 ∈ mixFp n0 := by simp
    exact ⟨kk _ m1 _ a1, kk _ m2 _ a2, ⟨u, w, kk _ m3 _ a3⟩, a4.at (kk _ m4), a5.at (kk _ m5)⟩
  item := by
    rintro X rfl rfl rfl calm n pins s σ H E I hf t hgo
    have hall := fun c (hc : c ∈ mixFp n0) => t.lt hc
    obtain ⟨a1, a2, ⟨u0, w0, a3⟩, a4, a5⟩ := t
    obtain ⟨us, ws, u, w, q1, q2, e1, e2⟩ := hgo
    obtain ⟨i1, r1, t1, _⟩ := I.tuple q1
    obtain ⟨i2, r2, t2, _⟩ := I.list q2
    obtain ⟨x1, g1, v1⟩ := r1.get e1
    obtain ⟨x2, g2, v2⟩ := r2.get e2
    have z1 : n < i1.toArray.size := by rw [List.size_toArray]; exact (List.getElem?_eq_some_iff.mp g1).1
    have z2 : n < i2.toArray.size := by rw [List.size_toArray]; exact (List.getElem?_eq_some_iff.mp g2).1
    have D1 := Draws.tuple (prog := X.prog) (w := X.w) (A := X.A.in1) (I.ok.hd calm) n0 p (Nat.ne_of_lt m.hp) i1.toArray
    have D2 := Draws.list (prog := X.prog) (w := X.w) (A := X.A.in1) (I.ok.hd calm) (n0 + 1) q (nt (by have := m.hq; omega)) i2.toArray
    refine wpAny_pyNext_zipD2_item (i := n) m.sep D1 D2 a1 a2 a3 ⟨a4, t1⟩ ⟨a5, t2.isList⟩ z1 z2 fun y1 y2 h' tk k1 k2 b1 b2 b3 b4 b5 b6 b7 => ?_
    have ey1 : y1 = x1 := by
      have : i1.toArray[n]? = some y1 := k1
      rw [List.getElem?_toArray, g1] at this
      (exact (Option.some.inj this).symm)
    have ey2 : y2 = x2 := by
      have : i2.toArray[n]? = some y2 := k2
      rw [List.getElem?_toArray, g2] at this
      (exact (Option.some.inj this).symm)
    subst ey1 ey2
    refine ⟨_, rfl, wpAny_letOwnedTupleGo_zip (s := { s with heap := h', toks := tk }) b1 fun h2 c1 sb => ?_⟩
    have nz : ∀ {c}, c ≠ n0 + 4 → ∀ o, h'.get? c = some o → h2.get? c = some o := fun hc o e => (sb.2 _ hc).trans e
    have big : n0 + 4 < s.heap.objs.size := hall (n0 + 4) (by simp)
    have pair : h2.get? s.heap.objs.size = some { cls := .type "tuple", data := .seq #[y1, y2] } := nz (nt (by omega)) _ b5
    have ok2 : ObjOk X.prog X.w (upd H s.heap.objs.size (.tup [u, w])) h2 s.heap.objs.size (.tup [u, w]) := ⟨by show 2 ≤ sizeLine; decide, [y1, y2], .cons v1 (.cons v2 .nil), ⟨_, pair, rfl, _, rfl⟩⟩
    have far : ∀ c o, c ∉ mixFp n0 → s.heap.get? c = some o → h2.get? c = some o := fun c o hc e => by
      simp only [List.mem_cons, List.not_mem_nil, or_false, not_or] at hc
      exact nz hc.1 o (b7 c o hc.1 hc.2.2.1 hc.2.2.2.1 hc.2.2.2.2 e)
    have I2 : Inv X pins σ (upd H s.heap.objs.size (.tup [u, w])) { s with heap := h2, toks := tk } := I.turnedNew (t' := tk) (ch := mixFp n0) far hf (Nat.le_refl _) ok2
    have TI' := b7 (n0 + 2) _ (nt (by omega)) (nt (by omega)) (nt (by omega)) (nt (by omega)) a2
    refine ⟨.ref s.heap.objs.size, _, I2, rfl, ⟨_, u, w, rfl, I.hok.fresh (Nat.le_refl _), rfl, fun l hl => ?_, fun l hl => ?_⟩, ⟨c1, nz (nt (by omega)) _ TI', ⟨y1, y2, nz (nt (by omega)) _ b2⟩, b3.1.at (nz (nt (by omega))), b4.1.at (nz (nt (by omega)))⟩, fun c hc => ?_⟩
    · rw [I.tuple_inj hl q1]
      exact e1
    · rw [I.list_inj hl q2]
      exact e2
    · rw [upd_ne (Nat.ne_of_lt (hall c hc))]
      exact (hf c hc).1
  done := by
    rintro X rfl rfl rfl calm n pins s σ H E I hf t hst
    obtain ⟨a1, a2, ⟨u0, w0, a3⟩, a4, a5⟩ := t
    obtain ⟨us, ws, q1, q2, l1, l2⟩ := hst
    obtain ⟨i1, r1, t1, _⟩ := I.tuple q1
    obtain ⟨i2, r2, t2, _⟩ := I.list q2
    have z1 : i1.toArray.size = n := by rw [List.size_toArray, ← r1.length]; exact l1
    have z2 : i2.toArray.size = n := by rw [List.size_toArray, ← r2.length]; exact l2
    have D1 := Draws.tuple (prog := X.prog) (w := X.w) (A := X.A.in1) (I.ok.hd calm) n0 p (Nat.ne_of_lt m.hp) i1.toArray
    have D2 := Draws.list (prog := X.prog) (w := X.w) (A := X.A.in1) (I.ok.hd calm) (n0 + 1) q (nt (by have := m.hq; omega)) i2.toArray
    refine wpAny_pyNext_zipD2_end (i := n) m.sep D1 D2 a1 a2 a3 ⟨a4, t1⟩ ⟨a5, t2.isList⟩ (Nat.le_of_eq z1.symm) (Nat.le_of_eq z2.symm) (.inl z1.symm) fun h' tk k => ⟨rfl, ?_⟩
    refine I.turnedL (t' := tk) (ch := mixFp n0) (fun c o hc e => ?_) hf
    simp only [List.mem_cons, List.not_mem_nil, or_false, not_or] at hc
    exact k c o hc.1 hc.2.2.1 hc.2.2.2.1 hc.2.2.2.2 e
  self A n s Q E t k := wpAny_pyIter_zip t.1 k
def iMix (K : PySem.W.Frag) (ta : TA) : TI := fun σ H R => ta σ H fun vs H1 => ∃ p q us ws, vs = [.ref p, .ref q] ∧ SqT K H1 p us ∧ SqL K H1 q ws ∧ R (ItMix K p q) H1
theorem pi_zipX {X : Cx} {e1 e2 : Expr} {ta : TA} {np pos tp : Pos} {es : List Expr} {kn : Nat} (hg : Gl X "zip") (hm : X.mg "zip" = none) (ha : PA X [e1, e2] ta)
    (hs : starEach [e1, e2] X.env = (false, eval e1 X.env) :: starEach [e2] X.env := by rfl) (hl : (backTo pos (starEach [e2] X.env)).any (·.1) = false := by rfl) : PI X (.Tuple es kn tp) (.Call (.Name "zip" np) [e1, e2] [] pos) (iMix X.K ta) := by
  refine ⟨fun pins s σ H R I h => Call_ (ld_blt I hg hm PyProof.Rows.boot_zip (PyProof.Rows.callWith_type1 (thn (ha.run pos pins s σ H _ I h) ?_) hs hl))⟩
  rintro vals s1 ⟨vs, H1, I1, rv, p, q, us, ws, rfl, q1, q2, hR⟩
  cases rv with
  | cons ra rv =>
    cases rv with
    | cons rb rv =>
      cases rv
      cases ra
      cases rb
      obtain ⟨i1, r1, t1, _⟩ := I1.tuple q1
      obtain ⟨i2, r2, t2, _⟩ := I1.list q2
      obtain ⟨o1, ho1, _⟩ := id t1
      have m : MixAt s1.heap.objs.size p q := ⟨Heap.lt_size ho1, t2.lt⟩
      have t1' : s1.heap.IsTuple p i1.toArray := t1
      refine zip_begins2 (begins_tuple p i1.toArray) (begins_list q i2.toArray) t1' t2.isList fun h' b1 b2 b3 b4 b5 b6 b7 => wpAny_pyIter_zip b1 ?_
      have I2 : Inv X pins σ H1 { s1 with heap := h' } := I1.kept (t' := s1.toks) b7
      refine ⟨_, mixFp s1.heap.objs.size, MixTn s1.heap.objs.size p q, _, H1, rfl, I2, turn_mix m, ⟨b1, b2, ⟨_, _, b3⟩, ⟨_, b4, rfl, rfl⟩, ⟨_, b5, rfl, rfl⟩⟩, fun c hc => ?_, hR⟩
      have hle : (s1.heap.objs.size ≤ c) := by
        rcases mem_mix hc with e | e | e | e | e <;> rw [e]
        · exact Nat.le_add_right _ _
        · exact Nat.le_add_right _ _
        · exact Nat.le_add_right _ _
        · exact Nat.le_refl _
        · exact Nat.le_add_right _ _
      (exact I1.fpOk hle (I1.hok.fresh hle))
theorem walk_mix {K : PySem.W.Frag} {p q : Addr} {us ws : List V} {n : Nat} (h1 : us.length = n) (h2 : ws.length = n) : Walk (ItMix K p q) n (fun H => SqT K H p us ∧ SqL K H q ws) (YPair (fun i => us[i]?) (fun i => ws[i]?)) where
  goes i H hi g := ⟨us, ws, us[i], ws[i], g.1, g.2, by simp, by simp⟩
  stops H g := ⟨us, ws, g.1, g.2, h1, h2⟩
  yields i H x H' hi g y := by
    obtain ⟨T, u, w, k1, k2, k3, k4, k5⟩ := y
    exact ⟨T, u, w, k1, k2, k3, k4 us g.1, k5 ws g.2⟩
/-- the same, on data -/
theorem ei_mix {C : Ctx} {K : PySem.W.Frag} {Γ : List Slot} {tr : TA} {ds es : List Dt} {n : Nat} (h : EaD C tr Γ [.tup ds, .lst es]) (h1 : ds.length = n) (h2 : es.length = n) : EvI C (iMix K tr) Γ n (fun i => .tup [ds.getD i .non, es.getD i .non]) := fun σ F H I R q => h σ F H I _ fun vs F1 H1 ds' I1 s1 r1 k1 => by
  subst k1
  cases r1 with
  | cons rv r2 =>
    cases r2 with
    | cons rw r3 =>
      cases r3
      obtain ⟨a, us, rfl, hF, rs⟩ := rv.tup_inv
      obtain ⟨b, ws, rfl, hG, rt⟩ := rw.lst_inv
      refine ⟨a, b, us, ws, rfl, .inl (.inl (I1.fh _ _ hF)), .inl (.inl (I1.fh _ _ hG)), q _ F1 H1 _ _ I1 s1 (walk_mix (by rw [rs.length]; exact h1) (by rw [rt.length]; exact h2)) (fun H' e => ⟨.inl (.inl (e _ _ hF)), .inl (.inl (e _ _ hG))⟩) ?_⟩
      rintro C' σ' F2 H2 Γ' i x H3 I2 e2 hi ⟨T, y, z, rfl, hT, rfl, e3, e4⟩
      have g := grow_new (o := .tup [y, z]) I2.fh hT
      obtain ⟨d1, hd1, rd1⟩ := rs.getV e3
      obtain ⟨d2, hd2, rd2⟩ := rt.getV e4
      refine ⟨_, I2.grow g, g.ff, g.hh, g.fn, .tup upd_same (.cons ?_ (.cons ?_ .nil))⟩
      · rw [List.getD_eq_getElem?_getD, hd1]
        exact (rd1.mono e2).mono g.ff
      · rw [List.getD_eq_getElem?_getD, hd2]
        exact (rd2.mono e2).mono g.ff
end Wk
-- M1
namespace Wk
/-! ### fractions over a fixed denominator -/
def Grid (N b : Nat) (q : Rat) : Prop := ∃ z : Int, q * (N : Rat) = (z : Rat) ∧ z.natAbs ≤ b
theorem Grid.mono {N b c : Nat} {q : Rat} (h : Grid N b q) (hc : b ≤ c) : Grid N c q := by
  obtain ⟨z, h1, h2⟩ := h
  exact ⟨z, h1, Nat.le_trans h2 hc⟩
theorem natRat_ne {N : Nat} (h : 0 < N) : (N : Rat) ≠ 0 := by
  intro z
  have : N = 0 := Rat.natCast_eq_zero_iff.mp z
  omega
theorem Grid.eq {N b : Nat} {q : Rat} (hN : 0 < N) (h : Grid N b q) : ∃ z : Int, q = mkRat z N ∧ z.natAbs ≤ b := by
  obtain ⟨z, h1, h2⟩ := h
  refine ⟨z, ?_, h2⟩
  rw [Rat.mkRat_eq_div, ← h1]
  exact (Rat.mul_div_cancel (natRat_ne hN)).symm
theorem Grid.bd {N b n : Nat} {q : Rat} (h : Grid N b q) (hN : 0 < N) (h1 : N < 2 ^ n) (h2 : b < 2 ^ n) : Bd n q := by
  obtain ⟨z, rfl, h3⟩ := h.eq hN
  exact bd_mk (by omega) (by omega) h1
theorem Grid.sub {N b c : Nat} {q r : Rat} (h : Grid N b q) (k : Grid N c r) : Grid N (b + c) (q - r) := by
  obtain ⟨z, h1, h2⟩ := h
  obtain ⟨y, k1, k2⟩ := k
  refine ⟨z - y, ?_, by omega⟩
  rw [Rat.intCast_sub, ← h1, ← k1]
  grind
theorem Grid.add {N b c : Nat} {q r : Rat} (h : Grid N b q) (k : Grid N c r) : Grid N (b + c) (q + r) := by
  obtain ⟨z, h1, h2⟩ := h
  obtain ⟨y, k1, k2⟩ := k
  refine ⟨z + y, ?_, by omega⟩
  rw [Rat.intCast_add, ← h1, ← k1]
  grind
theorem Grid.mul {N M b c : Nat} {q r : Rat} (h : Grid N b q) (k : Grid M c r) : Grid (N * M) (b * c) (q * r) := by
  obtain ⟨z, h1, h2⟩ := h
  obtain ⟨y, k1, k2⟩ := k
  refine ⟨z * y, ?_, by rw [Int.natAbs_mul]; exact Nat.mul_le_mul h2 k2⟩
  rw [Rat.intCast_mul, ← h1, ← k1, Rat.natCast_mul]
  grind
theorem Grid.lift {N b : Nat} (M : Nat) {q : Rat} (h : Grid N b q) : Grid (N * M) (b * M) q := by
  obtain ⟨z, h1, h2⟩ := h
  refine ⟨z * (M : Int), ?_, by rw [Int.natAbs_mul, Int.natAbs_natCast]; exact Nat.mul_le_mul_right _ h2⟩
  rw [Rat.intCast_mul, ← h1, Rat.natCast_mul, Rat.intCast_natCast]
  grind
theorem part_unit (q : Rat) : 0 ≤ part0 q ∧ part0 q < 1 := by
  unfold part0
  have h1 := Rat.floor_le q
  have h2 := Rat.lt_floor_add_one q
  rw [Rat.intCast_add, Rat.intCast_one] at h2
  constructor
  · grind
  · grind
theorem Grid.part {N b : Nat} {q : Rat} (hN : 0 < N) (h : Grid N b q) : Grid N N (part0 q) := by
  obtain ⟨h0, h1⟩ := part_unit q
  obtain ⟨z, e1, e2⟩ := h
  have e : part0 q * (N : Rat) = ((z - q.floor * (N : Int) : Int) : Rat) := by
    unfold part0
    rw [Rat.intCast_sub, Rat.intCast_mul, ← e1, Rat.intCast_natCast]
    grind
  refine ⟨_, e, ?_⟩
  have hp : (0 : Rat) < (N : Rat) := Rat.natCast_pos.mpr hN
  have b0 : (0 : Rat) ≤ part0 q * (N : Rat) := Rat.mul_nonneg h0 (Rat.le_of_lt hp)
  have b1 : part0 q * (N : Rat) < (N : Rat) := by
    have := Rat.mul_lt_mul_of_pos_right h1 hp
    rwa [Rat.one_mul] at this
  rw [e] at b0 b1
  have c0 := Rat.intCast_nonneg.mp b0
  have c1 : z - q.floor * (N : Int) < (N : Int) := by
    rw [← Rat.intCast_natCast] at b1
    exact Rat.intCast_lt_intCast.mp b1
  omega
theorem grid_divInt {k b c : Int} (hb : b ≠ 0) (hc : b * c = 27720) : Rat.divInt k b * ((27720 : Nat) : Rat) = ((k * c : Int) : Rat) := by
  have e : ((27720 : Nat) : Rat) = (b : Rat) * (c : Rat) := by
    rw [← Rat.intCast_mul, hc]
    rfl
  have hb' : (b : Rat) ≠ 0 := fun z => hb (Rat.intCast_eq_zero_iff.mp z)
  rw [e, Rat.divInt_eq_div, Rat.intCast_mul, ← Rat.mul_assoc, Rat.div_mul_cancel hb']
/-- k / b, b at most 12, of size at most m -/
theorem grid12 {k b : Int} {m : Nat} (h0 : 1 ≤ b) (h1 : b ≤ 12) (hk : k.natAbs ≤ m * b.natAbs) : Grid 27720 (m * 27720) (Rat.divInt k b) := by
  have go : ∀ c : Int, 0 ≤ c → b * c = 27720 → Grid 27720 (m * 27720) (Rat.divInt k b) := fun c c0 hc => by
    refine ⟨k * c, grid_divInt (by omega) hc, ?_⟩
    rw [Int.natAbs_mul]
    have e : b.natAbs * c.natAbs = 27720 := by rw [← Int.natAbs_mul, hc]; rfl
    calc k.natAbs * c.natAbs ≤ m * b.natAbs * c.natAbs := Nat.mul_le_mul_right _ hk
      _ = m * 27720 := by rw [Nat.mul_assoc, e]
  have hb : b = 1 ∨ b = 2 ∨ b = 3 ∨ b = 4 ∨ b = 5 ∨ b = 6 ∨ b = 7 ∨ b = 8 ∨ b = 9 ∨ b = 10 ∨ b = 11 ∨ b = 12 := by omega
  rcases hb with rfl | rfl | rfl | rfl | rfl | rfl | rfl | rfl | rfl | rfl | rfl | rfl
  · exact go 27720 (by decide) (by decide)
  · exact go 13860 (by decide) (by decide)
  · exact go 9240 (by decide) (by decide)
  · exact go 6930 (by decide) (by decide)
  · exact go 5544 (by decide) (by decide)
  · exact go 4620 (by decide) (by decide)
  · exact go 3960 (by decide) (by decide)
  · exact go 3465 (by decide) (by decide)
  · exact go 3080 (by decide) (by decide)
  · exact go 2772 (by decide) (by decide)
  · exact go 2520 (by decide) (by decide)
  · exact go 2310 (by decide) (by decide)
theorem grid_int {k : Int} {m : Nat} (h : k.natAbs ≤ m) : Grid 27720 (m * 27720) (k : Rat) := by
  refine ⟨k * 27720, ?_, by rw [Int.natAbs_mul]; exact Nat.mul_le_mul_right _ h⟩
  rw [Rat.intCast_mul] <;> rfl
end Wk
-- M2
namespace Wk
/-! ### the extended algorithm of Euclid, by sizes and a sign -/
def sg (e : Bool) (n : Nat) : Int := if e then (n : Int) else -(n : Int)
structure Euc (A B n a c m b d : Nat) (e : Bool) : Prop where
  g : Nat.gcd n m = Nat.gcd A B
  i1 : sg e a * (A : Int) + sg (!e) c * (B : Int) = (n : Int)
  i2 : sg (!e) b * (A : Int) + sg e d * (B : Int) = (m : Int)
  s1 : a * m + b * n = B
  s2 : c * m + d * n = A
  la : a ≤ B + 1
  lb : b ≤ B + 1
  lc : c ≤ A + 1
  ld : d ≤ A + 1
theorem euc0 (A B : Nat) : Euc A B A 1 0 B 0 1 true := by
  refine ⟨rfl, ?_, ?_, ?_, ?_, ?_, ?_, ?_, ?_⟩ <;> simp [sg]
theorem Euc.step {A B n a c m b d : Nat} {e : Bool} (h : Euc A B n a c m b d e) (hm : 0 < m) : Euc A B m b d (n % m) (a + n / m * b) (c + n / m * d) (!e) := by
  obtain ⟨g, i1, i2, s1, s2, la, lb, lc, ld⟩ := h
  have hd := Nat.div_add_mod n m
  have hb : (a + n / m * b) * m + b * (n % m) = B := by
    have e1 : b * n = b * (m * (n / m) + n % m) := by rw [hd]
    rw [← s1, e1]
    grind
  have hd2 : (c + n / m * d) * m + d * (n % m) = A := by
    have e1 : d * n = d * (m * (n / m) + n % m) := by rw [hd]
    rw [← s2, e1]
    grind
  have kb : a + n / m * b ≤ B := by
    have : (a + n / m * b) * 1 ≤ (a + n / m * b) * m := Nat.mul_le_mul_left _ hm
    omega
  have kd : c + n / m * d ≤ A := by
    have : (c + n / m * d) * 1 ≤ (c + n / m * d) * m := Nat.mul_le_mul_left _ hm
    omega
  refine ⟨?_, ?_, ?_, by omega, by omega, by omega, by omega, by omega, by omega⟩
  · rw [← g, Nat.gcd_comm n m, Nat.gcd_rec m n, Nat.gcd_comm]
  · cases e <;> exact i2
  · have e2 : ((n % m : Nat) : Int) = (n : Int) - ((n / m : Nat) : Int) * (m : Int) := by
      have : (n : Int) = (m : Int) * ((n / m : Nat) : Int) + ((n % m : Nat) : Int) := by exact_mod_cast hd.symm
      grind
    rw [e2, ← i1, ← i2]
    cases e
    · simp only [sg, Bool.not_false, Bool.not_true, if_true, Bool.false_eq_true, if_false, Int.natCast_add, Int.natCast_mul]
      grind
    · simp only [sg, Bool.not_false, Bool.not_true, if_true, Bool.false_eq_true, if_false, Int.natCast_add, Int.natCast_mul]
      grind
theorem sg_neg (e : Bool) (n : Nat) : -sg e n = sg (!e) n := by cases e <;> simp [sg]
/-- the new coefficient, as the program reckons it -/
theorem sg_step (e : Bool) (a b q : Nat) : sg e a - (q : Int) * sg (!e) b = sg e (a + q * b) := by
  cases e
  · simp only [sg, Bool.not_false, Bool.not_true, if_true, Bool.false_eq_true, if_false, Int.natCast_add, Int.natCast_mul]
    grind
  · simp only [sg, Bool.not_false, Bool.not_true, if_true, Bool.false_eq_true, if_false, Int.natCast_add, Int.natCast_mul]
    grind
theorem sg_abs (e : Bool) (n : Nat) : (sg e n).natAbs = n := by cases e <;> simp [sg]
/-! ### whole numbers among the fractions -/
def Whole (q : Rat) : Prop := ∃ k : Int, q = (k : Rat)
theorem whole_den {q : Rat} : Whole q ↔ q.den = 1 := by
  constructor
  · rintro ⟨k, rfl⟩
    rfl
  · intro h
    refine ⟨q.num, ?_⟩
    apply Rat.ext
    · rfl
    · rw [h] <;> rfl
theorem Whole.add {a b : Rat} (h : Whole a) (k : Whole b) : Whole (a + b) := by
  obtain ⟨x, rfl⟩ := h
  obtain ⟨y, rfl⟩ := k
  exact ⟨x + y, (Rat.intCast_add x y).symm⟩
theorem Whole.neg {a : Rat} (h : Whole a) : Whole (-a) := by
  obtain ⟨x, rfl⟩ := h
  exact ⟨-x, (Rat.intCast_neg x).symm⟩
theorem Whole.sub {a b : Rat} (h : Whole a) (k : Whole b) : Whole (a - b) := by
  rw [Rat.sub_eq_add_neg]
  exact h.add k.neg
theorem Whole.mul {a b : Rat} (h : Whole a) (k : Whole b) : Whole (a * b) := by
  obtain ⟨x, rfl⟩ := h
  obtain ⟨y, rfl⟩ := k
  exact ⟨x * y, (Rat.intCast_mul x y).symm⟩
theorem whole_int (k : Int) : Whole (k : Rat) := ⟨k, rfl⟩
theorem cop_dvd {a b c : Int} (h : Int.gcd a b = 1) (hd : a ∣ b * c) : a ∣ c := by
  have h1 : a.natAbs ∣ b.natAbs * c.natAbs := by
    rw [← Int.natAbs_mul]
    exact Int.natAbs_dvd_natAbs.mpr hd
  exact Int.natAbs_dvd_natAbs.mp (Nat.Coprime.dvd_of_dvd_mul_left h h1)
/-- q * d is whole exactly if the denominator divides d -/
theorem whole_mul_den {q : Rat} {d : Int} : Whole (q * (d : Rat)) ↔ (q.den : Int) ∣ d := by
  constructor
  · rintro ⟨k, hk⟩
    have e : q.num * d = k * (q.den : Int) := by
      have h1 : q * (d : Rat) * (q.den : Rat) = (k : Rat) * (q.den : Rat) := by rw [hk]
      have h2 : q * (q.den : Rat) = (q.num : Rat) := by
        have := Rat.num_divInt_den q
        rw [Rat.divInt_eq_div] at this
        have hne : ((q.den : Int) : Rat) ≠ 0 := by
          rw [Rat.intCast_natCast]
          exact natRat_ne q.den_pos
        have h3 := Rat.div_mul_cancel (a := (q.num : Rat)) hne
        rw [this, Rat.intCast_natCast] at h3
        exact h3
      have h4 : ((q.num * d : Int) : Rat) = ((k * (q.den : Int) : Int) : Rat) := by
        rw [Rat.intCast_mul, Rat.intCast_mul, ← h2, Rat.intCast_natCast, ← h1]
        grind
      exact Rat.intCast_inj.mp h4
    have hd : (q.den : Int) ∣ q.num * d := ⟨k, by rw [e, Int.mul_comm]⟩
    exact cop_dvd (by rw [Int.gcd_comm]; exact q.reduced) hd
  · rintro ⟨c, rfl⟩
    refine ⟨q.num * c, ?_⟩
    have h2 : q * (q.den : Rat) = (q.num : Rat) := by
      have := Rat.num_divInt_den q
      rw [Rat.divInt_eq_div] at this
      have hne : ((q.den : Int) : Rat) ≠ 0 := by
        rw [Rat.intCast_natCast]
        exact natRat_ne q.den_pos
      have h3 := Rat.div_mul_cancel (a := (q.num : Rat)) hne
      rw [this, Rat.intCast_natCast] at h3
      exact h3
    rw [Rat.intCast_mul, Rat.intCast_mul, Rat.intCast_natCast, ← h2]
    grind
theorem num_eq (q : Rat) : (q.num : Rat) = q * (q.den : Rat) := by
  have := Rat.num_divInt_den q
  rw [Rat.divInt_eq_div] at this
  have hne : ((q.den : Int) : Rat) ≠ 0 := by
    rw [Rat.intCast_natCast]
    exact natRat_ne q.den_pos
  have h3 := Rat.div_mul_cancel (a := (q.num : Rat)) hne
  rw [this, Rat.intCast_natCast] at h3
  exact h3.symm
/-! ### meetings -/
def MtP (p0 : Rat × Rat) (l : List (Rat × Rat)) (m : Rat) : Prop := ∀ p ∈ l, Whole ((p.1 - p0.1) * m + (p.2 - p0.2))
def Mt : List (Rat × Rat) → Rat → Prop
  | [], _ => True
  | p0 :: l, m => MtP p0 l m
theorem mtP_snoc {p0 p : Rat × Rat} {l : List (Rat × Rat)} {m : Rat} : MtP p0 (l ++ [p]) m ↔ MtP p0 l m ∧ Whole ((p.1 - p0.1) * m + (p.2 - p0.2)) := by
  unfold MtP
  constructor
  · intro h
    exact ⟨fun q hq => h q (List.mem_append_left _ hq), h p (List.mem_append_right _ (List.mem_singleton.mpr rfl))⟩
  · rintro ⟨h1, h2⟩ q hq
    rcases List.mem_append.mp hq with h | h
    · exact h1 q h
    · rw [List.mem_singleton.mp h]
      exact h2
/-- none: never; (f, none): always; (f, some s): at f + k * s -/
abbrev Rule := Option (Rat × Option Rat)
def IsRule (rows : List (Rat × Rat)) : Rule → Prop
  | none => ∀ m, ¬ Mt rows m
  | some (f, none) => f = 0 ∧ ∀ m, Mt rows m
  | some (f, some s) => 0 < s ∧ 0 ≤ f ∧ f < s ∧ ∀ m, Mt rows m ↔ ∃ k : Int, m = f + (k : Rat) * s
theorem intRat_lt_one {k : Int} (h0 : (-1 : Rat) < (k : Rat)) (h1 : (k : Rat) < 1) : k = 0 := by
  have a : -1 < k := by
    have : ((-1 : Int) : Rat) < (k : Rat) := h0
    exact Rat.intCast_lt_intCast.mp this
  have b : k < 1 := by
    have : (k : Rat) < ((1 : Int) : Rat) := h1
    exact Rat.intCast_lt_intCast.mp this
  omega
theorem step_le {f f' s s' : Rat} (hs : 0 < s) (hs' : 0 < s') (h : ∀ m, (∃ k : Int, m = f + (k : Rat) * s) → ∃ k : Int, m = f' + (k : Rat) * s') : ∃ j : Int, s = (j : Rat) * s' ∧ 1 ≤ j := by
  obtain ⟨a, ha⟩ := h f ⟨0, by rw [Rat.intCast_zero]; grind⟩
  obtain ⟨b, hb⟩ := h (f + s) ⟨1, by rw [Rat.intCast_one]; grind⟩
  have e : s = ((b - a : Int) : Rat) * s' := by
    rw [Rat.intCast_sub]
    grind
  refine ⟨b - a, e, ?_⟩
  have hp : 0 < ((b - a : Int) : Rat) * s' := by rw [← e]; exact hs
  have := (Rat.mul_pos_iff_of_pos_right hs').mp hp
  have := Rat.intCast_pos.mp this
  omega
theorem rule_unique {rows : List (Rat × Rat)} {r r' : Rule} (h : IsRule rows r) (h' : IsRule rows r') : r = r' := by
  rcases r with _ | ⟨f, _ | s⟩ <;> rcases r' with _ | ⟨f', _ | s'⟩
  · rfl
  · exact absurd (h'.2 0) (h 0)
  · exact absurd ((h'.2.2.2 f').mpr ⟨0, by rw [Rat.intCast_zero]; grind⟩) (h f')
  · exact absurd (h.2 0) (h' 0)
  · rw [h.1, h'.1]
  · exfalso
    obtain ⟨hs, _, _, hm⟩ := h'
    obtain ⟨a, ha⟩ := (hm f').mp (h.2 _)
    obtain ⟨b, hb⟩ := (hm (f' + s' / 2)).mp (h.2 _)
    have e : (((2 * (b - a) : Int)) : Rat) * s' = ((1 : Int) : Rat) * s' := by
      rw [Rat.intCast_mul, Rat.intCast_sub, Rat.intCast_one]
      have : ((2 : Int) : Rat) = 2 := rfl
      rw [this]
      grind
    have e2 : 2 * (b - a) = 1 := by
      have hne : s' ≠ 0 := fun z => by rw [z] at hs; exact Rat.lt_irrefl hs
      have : ((2 * (b - a) : Int) : Rat) = ((1 : Int) : Rat) := by
        have h1 := congrArg (· / s') e
        simp only [Rat.mul_div_cancel hne] at h1
        exact h1
      exact Rat.intCast_inj.mp this
    omega
  · exact absurd ((h.2.2.2 f).mpr ⟨0, by rw [Rat.intCast_zero]; grind⟩) (h' f)
  · exfalso
    obtain ⟨hs, _, _, hm⟩ := h
    obtain ⟨a, ha⟩ := (hm f).mp (h'.2 _)
    obtain ⟨b, hb⟩ := (hm (f + s / 2)).mp (h'.2 _)
    have e : (((2 * (b - a) : Int)) : Rat) * s = ((1 : Int) : Rat) * s := by
      rw [Rat.intCast_mul, Rat.intCast_sub, Rat.intCast_one]
      have : ((2 : Int) : Rat) = 2 := rfl
      rw [this]
      grind
    have e2 : 2 * (b - a) = 1 := by
      have hne : s ≠ 0 := fun z => by rw [z] at hs; exact Rat.lt_irrefl hs
      have : ((2 * (b - a) : Int) : Rat) = ((1 : Int) : Rat) := by
        have h1 := congrArg (· / s) e
        simp only [Rat.mul_div_cancel hne] at h1
        exact h1
      exact Rat.intCast_inj.mp this
    omega
  · obtain ⟨hs, f0, f1, hm⟩ := h
    obtain ⟨hs', f0', f1', hm'⟩ := h'
    have eq : ∀ m, (∃ k : Int, m = f + (k : Rat) * s) ↔ ∃ k : Int, m = f' + (k : Rat) * s' := fun m => (hm m).symm.trans (hm' m)
    obtain ⟨j, ej, hj⟩ := step_le hs hs' fun m => (eq m).mp
    obtain ⟨i, ei, hi⟩ := step_le hs' hs fun m => (eq m).mpr
    have ss : s = s' := by
      have h1 : s' ≤ s := by
        have : ((1 : Int) : Rat) * s' ≤ (j : Rat) * s' := Rat.mul_le_mul_of_nonneg_right (Rat.intCast_le_intCast.mpr hj) (Rat.le_of_lt hs')
        rw [Rat.intCast_one, Rat.one_mul, ← ej] at this
        exact this
      have h2 : s ≤ s' := by
        have : ((1 : Int) : Rat) * s ≤ (i : Rat) * s := Rat.mul_le_mul_of_nonneg_right (Rat.intCast_le_intCast.mpr hi) (Rat.le_of_lt hs)
        rw [Rat.intCast_one, Rat.one_mul, ← ei] at this
        exact this
      exact Rat.le_antisymm h2 h1
    subst ss
    obtain ⟨a, ha⟩ := (eq f).mp ⟨0, by rw [Rat.intCast_zero]; grind⟩
    have : a = 0 := by
      have hne : s ≠ 0 := fun z => by rw [z] at hs; exact Rat.lt_irrefl hs
      apply intRat_lt_one
      · have h1 : -1 * s < (a : Rat) * s := by grind
        exact (Rat.mul_lt_mul_right hs).mp h1
      · have h1 : (a : Rat) * s < 1 * s := by grind
        exact (Rat.mul_lt_mul_right hs).mp h1
    subst this
    have : f = f' := by
      rw [Rat.intCast_zero] at ha
      grind
    rw [this]
end Wk
-- M3
namespace Wk
/-- 1 / |r| -/
def istep (r : Rat) : Rat := if 0 < r then r⁻¹ else -r⁻¹
theorem inv_ne {r : Rat} (h : r ≠ 0) : r⁻¹ ≠ 0 := by
  intro z
  have := Rat.mul_inv_cancel r h
  rw [z] at this
  simp at this
theorem istep_pos {r : Rat} (h : r ≠ 0) : 0 < istep r := by
  unfold istep
  by_cases p : 0 < r
  · rw [if_pos p]
    exact Rat.inv_pos.mpr p
  · rw [if_neg p]
    have hn : 0 < -r := by grind
    have := Rat.inv_pos.mpr hn
    have e : (-r)⁻¹ = -r⁻¹ := by
      apply Rat.inv_eq_of_mul_eq_one
      have := Rat.mul_inv_cancel r h
      grind
    rwa [e] at this
theorem istep_fr {r : Rat} (h : r ≠ 0) : Dt.tup [.int (r.den : Int), .int (r.num.natAbs : Int)] = fr (istep r) := by
  have hn : r.num ≠ 0 := fun z => h (Rat.num_eq_zero.mp z)
  refine fr_lit ?_
  unfold istep
  by_cases p : 0 < r
  · rw [if_pos p, Rat.num_inv, Rat.den_inv, if_neg hn]
    have hp : 0 < r.num := by
      have h1 : 0 ≤ r.num := Rat.num_nonneg.mpr (Rat.le_of_lt p)
      omega
    rw [Int.sign_eq_one_of_pos hp]
    exact ⟨by omega, rfl⟩
  · rw [if_neg p, Rat.neg_num, Rat.neg_den, Rat.num_inv, Rat.den_inv, if_neg hn]
    have hp : r.num < 0 := by
      have h1 : ¬ 0 ≤ r.num := fun z => by
        have h2 := Rat.num_nonneg.mp z
        grind
      omega
    rw [Int.sign_eq_neg_one_of_neg hp]
    exact ⟨by omega, rfl⟩
theorem Bd.istep {n : Nat} {r : Rat} (h : Bd n r) : Bd n (istep r) := by
  unfold Wk.istep
  by_cases p : 0 < r
  · rw [if_pos p]
    exact h.inv
  · rw [if_neg p]
    exact h.inv.neg
theorem istep_mul {r : Rat} (h : r ≠ 0) : ∃ e : Int, (e = 1 ∨ e = -1) ∧ r * istep r = (e : Rat) := by
  unfold istep
  have := Rat.mul_inv_cancel r h
  by_cases p : 0 < r
  · rw [if_pos p]
    exact ⟨1, .inl rfl, this⟩
  · rw [if_neg p]
    exact ⟨-1, .inr rfl, by rw [Rat.mul_neg, this]; rfl⟩
theorem rule_first {r g : Rat} (h : r ≠ 0) (m : Rat) : Whole (r * m + g) ↔ ∃ k : Int, m = (0 - g / r) + (k : Rat) * istep r := by
  obtain ⟨e, he, hm⟩ := istep_mul h
  have hg : r * (g / r) = g := by
    rw [Rat.mul_comm]
    exact Rat.div_mul_cancel h
  have ee : (e : Rat) * (e : Rat) = 1 := by rcases he with rfl | rfl <;> (rw [← Rat.intCast_mul]; rfl)
  constructor
  · rintro ⟨z, hz⟩
    refine ⟨z * e, ?_⟩
    have h1 : r * m = r * ((0 - g / r) + ((z * e : Int) : Rat) * istep r) := by
      rw [Rat.intCast_mul]
      grind
    have h2 := congrArg (r⁻¹ * ·) h1
    simp only [← Rat.mul_assoc, Rat.inv_mul_cancel r h, Rat.one_mul] at h2
    exact h2
  · rintro ⟨k, rfl⟩
    refine ⟨k * e, ?_⟩
    rw [Rat.intCast_mul]
    grind
/-- the next row, where none fits -/
theorem rule_none {l u : Rat} (h : ¬ ((l.den : Int) ∣ (u.den : Int))) (k : Int) : ¬ Whole (l + (k : Rat) * u) := by
  intro hw
  apply h
  rw [← whole_mul_den]
  have h1 : Whole ((k : Rat) * (u * ((u.den : Int) : Rat))) := by
    rw [show u * ((u.den : Int) : Rat) = (u.num : Rat) by rw [num_eq, Rat.intCast_natCast]]
    exact (whole_int k).mul (whole_int _)
  have h2 : Whole ((l + (k : Rat) * u) * ((u.den : Int) : Rat)) := hw.mul (whole_int _)
  have e : l * ((u.den : Int) : Rat) = (l + (k : Rat) * u) * ((u.den : Int) : Rat) - (k : Rat) * (u * ((u.den : Int) : Rat)) := by grind
  rw [e]
  exact h2.sub h1
/-- .. where some fit -/
theorem rule_some {l u : Rat} {x y c : Int} (h : (l.den : Int) ∣ (u.den : Int)) (hb : x * u.num + y * (u.den : Int) = 1) (hc : c = (-l.num * ((u.den : Int) / (l.den : Int)) * x) % (u.den : Int)) (k : Int) :
    Whole (l + (k : Rat) * u) ↔ ∃ j : Int, k = c + j * (u.den : Int) := by
  obtain ⟨q, hq⟩ := h
  have hl0 : (l.den : Int) ≠ 0 := by have := l.den_pos; omega
  have hq2 : (u.den : Int) / (l.den : Int) = q := by rw [hq, Int.mul_ediv_cancel_left _ hl0]
  rw [hq2] at hc
  have hu0 : (u.den : Int) ≠ 0 := by have := u.den_pos; omega
  have hune : ((u.den : Int) : Rat) ≠ 0 := fun z => hu0 (Rat.intCast_eq_zero_iff.mp z)
  -- (l + k u) * u.den = l.num * q + k * u.num
  have e1 : (l + (k : Rat) * u) * ((u.den : Int) : Rat) = ((l.num * q + k * u.num : Int) : Rat) := by
    rw [Rat.intCast_add, Rat.intCast_mul, Rat.intCast_mul, num_eq l, num_eq u]
    have : ((u.den : Int) : Rat) = (l.den : Rat) * (q : Rat) := by
      rw [hq, Rat.intCast_mul, Rat.intCast_natCast]
    have h3 : ((u.den : Int) : Rat) = (u.den : Rat) := Rat.intCast_natCast _
    grind
  have key : Whole (l + (k : Rat) * u) ↔ (u.den : Int) ∣ l.num * q + k * u.num := by
    constructor
    · rintro ⟨z, hz⟩
      rw [hz, ← Rat.intCast_mul] at e1
      exact ⟨z, by rw [← Rat.intCast_inj.mp e1, Int.mul_comm]⟩
    · rintro ⟨z, hz⟩
      rw [hz, Int.mul_comm, Rat.intCast_mul] at e1
      have := congrArg (· / ((u.den : Int) : Rat)) e1
      simp only [Rat.mul_div_cancel hune] at this
      exact ⟨z, this⟩
  rw [key]
  have hcm := Int.emod_add_mul_ediv (-l.num * q * x) (u.den : Int)
  rw [← hc] at hcm
  constructor
  · rintro ⟨z, hz⟩
    -- k = k (x num + y den) ≡ x * (k num) ≡ x * (- l.num q)
    refine ⟨x * z + y * k + (-l.num * q * x) / (u.den : Int), ?_⟩
    have h1 : k = k * (x * u.num + y * (u.den : Int)) := by rw [hb, Int.mul_one]
    grind
  · rintro ⟨j, hj⟩
    refine ⟨l.num * q * y + j * u.num - u.num * ((-l.num * q * x) / (u.den : Int)), ?_⟩
    have h1 : l.num * q = l.num * q * (x * u.num + y * (u.den : Int)) := by rw [hb, Int.mul_one]
    grind
/-- the last step: the first one from 0 on -/
theorem rule_last {b s : Rat} (hs : 0 < s) : 0 ≤ b - s * ((b / s).floor : Rat) ∧ b - s * ((b / s).floor : Rat) < s := by
  have h1 := Rat.floor_le (b / s)
  have h2 := Rat.lt_floor_add_one (b / s)
  rw [Rat.intCast_add, Rat.intCast_one] at h2
  have hne : s ≠ 0 := fun z => by rw [z] at hs; exact Rat.lt_irrefl hs
  have e : b / s * s = b := Rat.div_mul_cancel hne
  have h3 := Rat.mul_le_mul_of_nonneg_right h1 (Rat.le_of_lt hs)
  have h4 := Rat.mul_lt_mul_of_pos_right h2 hs
  rw [e] at h3 h4
  constructor <;> grind
theorem shift_iff {b s : Rat} (z : Int) (m : Rat) : (∃ k : Int, m = b + (k : Rat) * s) ↔ ∃ k : Int, m = (b - s * (z : Rat)) + (k : Rat) * s := by
  constructor
  · rintro ⟨k, rfl⟩
    exact ⟨k + z, by rw [Rat.intCast_add]; grind⟩
  · rintro ⟨k, rfl⟩
    exact ⟨k - z, by rw [Rat.intCast_sub]; grind⟩
/-- the sizes of a rule over rows on a grid -/
def NN : Nat := 27720
theorem rule_size {rows : List (Rat × Rat)} (hr : ∀ p ∈ rows, Grid 27720 (4 * 27720) p.1 ∧ Grid (27720 * 27720) (27720 * 27720) p.2) {f s : Rat} (h : IsRule rows (some (f, some s))) : Bd 70 f ∧ Bd 70 s ∧ s ≤ 27720 ∧ 1 ≤ 8 * s := by
  obtain ⟨hs, f0, f1, hm⟩ := h
  have hne : s ≠ 0 := fun z => by rw [z] at hs; exact Rat.lt_irrefl hs
  cases rows with
  | nil =>
    exfalso
    obtain ⟨a, ha⟩ := (hm f).mp trivial
    obtain ⟨b, hb⟩ := (hm (f + s / 2)).mp trivial
    have e : (((2 * (b - a) : Int)) : Rat) * s = ((1 : Int) : Rat) * s := by
      rw [Rat.intCast_mul, Rat.intCast_sub, Rat.intCast_one]
      have : ((2 : Int) : Rat) = 2 := rfl
      rw [this]
      grind
    have h1 := congrArg (· / s) e
    simp only [Rat.mul_div_cancel hne] at h1
    have := Rat.intCast_inj.mp h1
    omega
  | cons p0 l =>
    have g0 := hr p0 List.mem_cons_self
    have mt : ∀ m, MtP p0 l m ↔ ∃ k : Int, m = f + (k : Rat) * s := hm
    -- the period of the grid
    have per : ∃ j : Int, ((27720 : Nat) : Rat) = (j : Rat) * s ∧ 1 ≤ j := by
      have hf : MtP p0 l f := (mt f).mpr ⟨0, by rw [Rat.intCast_zero]; grind⟩
      have h2 : MtP p0 l (f + ((27720 : Nat) : Rat)) := fun p hp => by
        have := hf p hp
        obtain ⟨z, hz, _⟩ := (hr p (List.mem_cons_of_mem _ hp)).1.sub g0.1
        have e : (p.1 - p0.1) * (f + ((27720 : Nat) : Rat)) + (p.2 - p0.2) = ((p.1 - p0.1) * f + (p.2 - p0.2)) + (z : Rat) := by grind
        rw [e]
        exact this.add (whole_int z)
      obtain ⟨j, hj⟩ := (mt _).mp h2
      refine ⟨j, by grind, ?_⟩
      have hp : (0 : Rat) < (j : Rat) * s := by
        have : ((27720 : Nat) : Rat) = (j : Rat) * s := by grind
        rw [← this]
        exact Rat.natCast_pos.mpr (by decide)
      have := Rat.intCast_pos.mp ((Rat.mul_pos_iff_of_pos_right hs).mp hp)
      omega
    obtain ⟨j, hj, j1⟩ := per
    have sle : s ≤ ((27720 : Nat) : Rat) := by
      rw [hj]
      have : ((1 : Int) : Rat) * s ≤ (j : Rat) * s := Rat.mul_le_mul_of_nonneg_right (Rat.intCast_le_intCast.mpr j1) (Rat.le_of_lt hs)
      rw [Rat.intCast_one, Rat.one_mul] at this
      exact this
    -- some row has another rate
    have ⟨p, hp, hpr⟩ : ∃ p ∈ l, p.1 - p0.1 ≠ 0 := by
      apply Classical.byContradiction
      intro z
      have h0 : ∀ p ∈ l, p.1 - p0.1 = 0 := fun p hp => Classical.byContradiction fun y => z ⟨p, hp, y⟩
      have hf : MtP p0 l f := (mt f).mpr ⟨0, by rw [Rat.intCast_zero]; grind⟩
      have h2 : MtP p0 l (f + s / 2) := fun p hp => by
        have := hf p hp
        rw [h0 p hp] at this ⊢
        rw [Rat.zero_mul] at this ⊢
        exact this
      obtain ⟨b, hb⟩ := (mt _).mp h2
      have e : (((2 * b : Int)) : Rat) * s = ((1 : Int) : Rat) * s := by
        rw [Rat.intCast_mul, Rat.intCast_one]
        have : ((2 : Int) : Rat) = 2 := rfl
        rw [this]
        grind
      have h1 := congrArg (· / s) e
      simp only [Rat.mul_div_cancel hne] at h1
      have := Rat.intCast_inj.mp h1
      omega
    obtain ⟨a, ha, a1⟩ := (hr p (List.mem_cons_of_mem _ hp)).1.sub g0.1
    obtain ⟨c, hc, c1⟩ := (hr p (List.mem_cons_of_mem _ hp)).2.sub g0.2
    have wf : Whole ((p.1 - p0.1) * f + (p.2 - p0.2)) := (mt f).mpr ⟨0, by rw [Rat.intCast_zero]; grind⟩ p hp
    have wfs : Whole ((p.1 - p0.1) * (f + s) + (p.2 - p0.2)) := (mt (f + s)).mpr ⟨1, by rw [Rat.intCast_one]; grind⟩ p hp
    obtain ⟨x, hx⟩ := wf
    obtain ⟨y, hy⟩ := wfs
    have hN : ((27720 : Nat) : Rat) ≠ 0 := natRat_ne (by decide)
    have an : a ≠ 0 := fun z => by
      rw [z, Rat.intCast_zero] at ha
      rcases Rat.mul_eq_zero.mp ha with h | h
      · exact hpr h
      · exact hN h
    -- a * s = (y - x) * N
    have as : (a : Rat) * s = ((y - x : Int) : Rat) * ((27720 : Nat) : Rat) := by
      rw [Rat.intCast_sub, ← ha]
      grind
    -- a N N f = x N N N - c N
    have af : (a : Rat) * ((27720 : Nat) : Rat) * f = ((x * (27720 * 27720) - c : Int) : Rat) := by
      have h3 : ((27720 * 27720 : Nat) : Rat) = ((27720 : Nat) : Rat) * ((27720 : Nat) : Rat) := Rat.natCast_mul _ _
      have h4 : (((27720 * 27720 : Int)) : Rat) = ((27720 : Nat) : Rat) * ((27720 : Nat) : Rat) := (by rw [Rat.intCast_mul] <;> rfl)
      rw [Rat.intCast_sub, Rat.intCast_mul, ← hc, ← ha, h4, h3]
      grind
    have bound : ∀ {t : Rat} {D : Int} {z : Int}, D ≠ 0 → D.natAbs < 2 ^ 34 → (D : Rat) * t = (z : Rat) → 0 ≤ t → t ≤ ((27720 : Nat) : Rat) → Bd 70 t := fun {t D z} hD hDl hz t0 t1 => by
      have e : t = Rat.divInt z D := by
        have hD' : (D : Rat) ≠ 0 := fun w => hD (Rat.intCast_eq_zero_iff.mp w)
        rw [Rat.divInt_eq_div, ← hz, Rat.mul_comm]
        exact (Rat.mul_div_cancel hD').symm
      have zb : z.natAbs ≤ D.natAbs * 27720 := by
        by_cases dp : 0 ≤ D
        · have h5 : (0 : Rat) ≤ (D : Rat) := Rat.intCast_nonneg.mpr dp
          have h6 : (0 : Rat) ≤ (z : Rat) := by rw [← hz]; exact Rat.mul_nonneg h5 t0
          have h7 : (z : Rat) ≤ (D : Rat) * ((27720 : Nat) : Rat) := by rw [← hz]; exact Rat.mul_le_mul_of_nonneg_left t1 h5
          have h8 : (D : Rat) * ((27720 : Nat) : Rat) = ((D * 27720 : Int) : Rat) := (Rat.intCast_mul _ _).symm
          rw [h8] at h7
          have := Rat.intCast_le_intCast.mp h7
          have := Rat.intCast_nonneg.mp h6
          omega
        · have h5 : (0 : Rat) ≤ ((-D : Int) : Rat) := Rat.intCast_nonneg.mpr (by omega)
          have hz' : ((-D : Int) : Rat) * t = ((-z : Int) : Rat) := by rw [Rat.intCast_neg, Rat.intCast_neg, ← hz]; grind
          have h6 : (0 : Rat) ≤ ((-z : Int) : Rat) := by rw [← hz']; exact Rat.mul_nonneg h5 t0
          have h7 : ((-z : Int) : Rat) ≤ ((-D : Int) : Rat) * ((27720 : Nat) : Rat) := by rw [← hz']; exact Rat.mul_le_mul_of_nonneg_left t1 h5
          have h8 : ((-D : Int) : Rat) * ((27720 : Nat) : Rat) = ((-D * 27720 : Int) : Rat) := (Rat.intCast_mul _ _).symm
          rw [h8] at h7
          have := Rat.intCast_le_intCast.mp h7
          have := Rat.intCast_nonneg.mp h6
          omega
      rw [e]
      refine ⟨?_, ?_⟩
      · rw [Rat.num_divInt]
        refine Nat.lt_of_le_of_lt (Int.natAbs_ediv_le_natAbs _ _) ?_
        rw [Int.natAbs_mul]
        have hs1 : D.sign.natAbs ≤ 1 := by rw [Int.natAbs_sign]; split <;> omega
        have : D.sign.natAbs * z.natAbs ≤ 1 * z.natAbs := Nat.mul_le_mul_right _ hs1
        omega
      · rw [Rat.den_divInt, if_neg hD]
        refine Nat.lt_of_le_of_lt (Nat.div_le_self _ _) ?_
        omega
    have low : 1 ≤ 8 * s := by
      have Np : (0 : Rat) < ((27720 : Nat) : Rat) := Rat.natCast_pos.mpr (by decide)
      have go : ∀ (d k : Int), 0 < d → d ≤ 8 * 27720 → (d : Rat) * s = (k : Rat) * ((27720 : Nat) : Rat) → 1 ≤ 8 * s := fun d k d0 d1 e => by
        have h1 : (0 : Rat) < (k : Rat) * ((27720 : Nat) : Rat) := by rw [← e]; exact Rat.mul_pos (Rat.intCast_pos.mpr d0) hs
        have k1 : 1 ≤ k := by
          have := Rat.intCast_pos.mp ((Rat.mul_pos_iff_of_pos_right Np).mp h1)
          omega
        have h2 : ((1 : Int) : Rat) * ((27720 : Nat) : Rat) ≤ (k : Rat) * ((27720 : Nat) : Rat) := Rat.mul_le_mul_of_nonneg_right (Rat.intCast_le_intCast.mpr k1) (Rat.le_of_lt Np)
        have h3 : (d : Rat) * s ≤ ((8 * 27720 : Int) : Rat) * s := Rat.mul_le_mul_of_nonneg_right (Rat.intCast_le_intCast.mpr d1) (Rat.le_of_lt hs)
        have h4 : ((8 * 27720 : Int) : Rat) = 8 * ((27720 : Nat) : Rat) := (by rw [Rat.intCast_mul] <;> rfl)
        have h5 : ((27720 : Nat) : Rat) * 1 ≤ ((27720 : Nat) : Rat) * (8 * s) := by
          rw [Rat.intCast_one] at h2
          rw [e, h4] at h3
          grind
        exact Rat.le_of_mul_le_mul_left h5 Np
      by_cases ap : 0 < a
      · exact go a (y - x) ap (by omega) as
      · refine go (-a) (-(y - x)) (by omega) (by omega) ?_
        rw [Rat.intCast_neg, Rat.intCast_neg]
        grind
    refine ⟨?_, ?_, sle, low⟩
    · refine bound (D := a * 27720) (z := x * (27720 * 27720) - c) (by omega) (by omega) ?_ f0 (Rat.le_trans (Rat.le_of_lt f1) sle)
      rw [← af, Rat.intCast_mul]
      rfl
    · refine bound (D := a) (z := (y - x) * 27720) an (by omega) ?_ (Rat.le_of_lt hs) sle
      rw [as, Rat.intCast_mul]
      rfl
end Wk
-- D2
namespace Wk
open PySem PySem.Spec
open PyProof.Rows L2
section
variable {P : Program}
variable {w : World} {K : PySem.W.Frag} {mg : Str → Option Value} {base : Heap}
/-- a number, and no truth value -/
def Rl_whole_number : Rel := fun zs0 Pz => ∃ (d : Dt), zs0 = [d] ∧ (isIns d = false) ∧ Pz = (fun e => e = .bl (isB (tyN d) "int" && !isB (tyN d) "bool"))
theorem len_whole_number : ∀ ds Post, Rl_whole_number ds Post → ds.length = 1 := fun _ _ ⟨_, e, _⟩ => by rw [e]; rfl
theorem ok_whole_number (B : Bs K mg) : Cl P w K mg base CX0 1 "whole_number" (spP Rl_whole_number) [] := by
  refine cl_of (N := ["value"]) (ps := ["value"]) B.d_whole_number B.g_whole_number (by decide +kernel) (fun _ _ _ _ _ _ us hl => match us, hl with | [_], _ => rfl)
    (len_P len_whole_number) fun f cdv A outer s H vs Q E hr h => ?_
  have nd : (["value"] : List Str).Nodup := by decide +kernel
  refine ⟨_, PSs.nox (pss_one (ps_ret (pe_and (pe_callB call_isi (by rfl) B.z_isinstance (by decide +kernel) (pa_cons (pv 0) (pa_cons (pe_bltn (v := .ty "int") rfl B.z_int (by decide +kernel) rfl) pa_nil))) (pe_one (pe_not (pe_callB call_isi (by rfl) B.z_isinstance (by decide +kernel) (pa_cons (pv 0) (pa_cons (pe_bltn (v := .ty "bool") rfl B.z_bool (by decide +kernel) rfl) pa_nil)))))))), enterP h fun C ds Post hR hrt => ?_⟩
  obtain ⟨d, rfl, hd, rfl⟩ := hR
  show NX C _ [.val d]
  exact nx_ret hrt (ed_andV (ed_isT (ed_var rfl) hd) fun _ => ed_notV (ed_isT (ed_var rfl) hd)) rfl
def Rl_gcd : Rel := fun zs0 Pz => ∃ (a b : Int), zs0 = [.int a, .int b] ∧ (True) ∧ Pz = (fun e => e = .int (Int.gcd a b : Nat))
theorem len_gcd : ∀ ds Post, Rl_gcd ds Post → ds.length = 2 := fun _ _ ⟨_, _, e, _⟩ => by rw [e]; rfl
theorem ok_common_divisor (B : Bs K mg) : Cl P w K mg base CX0 1 "common_divisor" (spP Rl_gcd) [] := by
  refine cl_of (N := ["left", "right"]) (ps := ["left", "right"]) B.d_common_divisor B.g_common_divisor (by decide +kernel) (fun _ _ _ _ _ _ us hl => match us, hl with | [_, _], _ => rfl)
    (len_P len_gcd) fun f cdv A outer s H vs Q E hr h => ?_
  have nd : (["left", "right"] : List Str).Nodup := by decide +kernel
  refine ⟨_, PSs.nox (pss_cons (ps_set (i := 0) nd rfl (by first | exact Or.inl rfl | exact Or.inr rfl) (pe_callB call_abs (by rfl) B.z_abs (by decide +kernel) (pa_cons (pv 0) pa_nil)))
  (pss_cons (ps_set (i := 1) nd rfl (by first | exact Or.inl rfl | exact Or.inr rfl) (pe_callB call_abs (by rfl) B.z_abs (by decide +kernel) (pa_cons (pv 1) pa_nil)))
  (pss_cons (ps_while PassesOwn.never (pt_cmpR op_ne (pv 1) pe_int (nomark _)) (pss_one (ps_par (i := 0) (j := 1) (by rfl) nd rfl rfl (by decide) rfl rfl (pa_cons (pv 1) (pa_cons (pe_op op_modN (pv 0) (pv 1)) pa_nil)) (by rfl))))
  (pss_one (ps_ret (pv 0)))))), enterP h fun C ds Post hR hrt => ?_⟩
  obtain ⟨a, b, rfl, _, rfl⟩ := hR
  show NX C _ [.val (.int a), .val (.int b)]
  refine nx_asg (ed_abs (ed_var rfl)) (nx_asg (ed_abs (ed_var rfl)) ?_)
  refine nx_while (fun x : Nat × Nat => [.val (.int (x.1 : Int)), .val (.int (x.2 : Int))]) (fun x => Nat.gcd x.1 x.2 = Int.gcd a b) (fun x => x.2) (a.natAbs, b.natAbs) rfl (.refl _) ?_
  rintro ⟨x, y⟩ hg
  refine ⟨_, etd_test (ed_neI (ed_var rfl) ed_int), fun hb N hN => ?_, fun hb => ?_⟩
  · have hy : y ≠ 0 := fun e => by
      subst e
      simp at hb
    refine nx_par (ea_cons (ed_var rfl) (ea_cons (ed_rI (ed_var rfl) (ed_var rfl) (by show (y : Int) ≠ 0; omega)) ea_nil)) ?_
    have e : (x : Int).fmod (y : Int) = ((x % y : Nat) : Int) := by
      (rw [Int.fmod_eq_emod_of_nonneg _ (by omega)])
      rfl
    rw [e]
    exact hN (y, x % y) (by show Nat.gcd y (x % y) = _; rw [← hg, Nat.gcd_comm x y, Nat.gcd_rec y x, Nat.gcd_comm]) (Nat.mod_lt _ (Nat.pos_of_ne_zero hy))
  · have hy : y = 0 := by
      have hb' : (!decide ((y : Int) = 0)) = false := hb
      simpa using hb'
    subst hy
    refine nx_ret hrt (ed_var rfl) ?_
    show Dt.int (x : Int) = .int _
    rw [← hg]
    simp
theorem rl_gcd {a b : Int} : Rl_gcd [.int a, .int b] (fun e => e = .int (Int.gcd a b : Nat)) := ⟨a, b, rfl, trivial, rfl⟩
def Rl_lowest : Rel := fun zs0 Pz => ∃ (n d : Int), zs0 = [.int n, .int d] ∧ (d ≠ 0 ∧ d.natAbs < 2 ^ 9000) ∧ Pz = (fun e => e = fr (Rat.divInt n d))
theorem len_lowest : ∀ ds Post, Rl_lowest ds Post → ds.length = 2 := fun _ _ ⟨_, _, e, _⟩ => by rw [e]; rfl
theorem rl_lowest {n d : Int} (h : d ≠ 0) (h2 : d.natAbs < 2 ^ 9000) : Rl_lowest [.int n, .int d] (fun e => e = fr (Rat.divInt n d)) := ⟨n, d, rfl, ⟨h, h2⟩, rfl⟩
theorem ok_lowest (B : Bs K mg) : Cl P w K mg base CX0 2 "lowest" (spP Rl_lowest) [] := by
  refine cl_of (N := ["numerator", "denominator", "divisor"]) (ps := ["numerator", "denominator"]) B.d_lowest B.g_lowest (by decide +kernel) (fun _ _ _ _ _ _ us hl => match us, hl with | [_, _], _ => rfl)
    (len_P len_lowest) fun f cdv A outer s H vs Q E hr h => ?_
  have nd : (["numerator", "denominator", "divisor"] : List Str).Nodup := by decide +kernel
  refine ⟨_, PSs.nox (pss_cons (ps_set (i := 2) nd rfl (by first | exact Or.inl rfl | exact Or.inr rfl) (pe_cl (ok_common_divisor B) hr (by decide) pass0 (pa_cons (pv 0) (pa_cons (pv 1) pa_nil))))
  (pss_cons (ps_if (pt_cmpR op_lt (pv 1) pe_int (nomark _)) (pss_one (ps_set (i := 2) nd rfl (by first | exact Or.inl rfl | exact Or.inr rfl) (pe_un un_neg (pv 2)))) pss_nil)
  (pss_one (ps_ret (pe_tup (pa_cons (pe_op op_fdivZ (pv 0) (pv 2)) (pa_cons (pe_op op_fdivZ (pv 1) (pv 2)) pa_nil))))))), enterP h fun C ds Post hR hrt => ?_⟩
  obtain ⟨n, d, rfl, ⟨h0, h1⟩, rfl⟩ := hR
  show NX C _ [.val (.int n), .val (.int d), .no]
  refine nx_asg (ed_call (ea_cons (ed_var rfl) (ea_cons (ed_var rfl) ea_nil)) rl_gcd) ?_
  have hg : (Int.gcd n d : Nat) ≠ 0 := fun z => h0 (Int.gcd_eq_zero_iff.mp z).2
  have hle : (Int.gcd n d : Nat) ≤ d.natAbs := Nat.le_of_dvd (by omega) (Int.gcd_dvd_natAbs_right n d)
  have hz : ∀ s : Int, s.natAbs = Int.gcd n d → ∀ i, CDivZ i s := fun s hs i => dv_int (by omega) (by rw [hs]; exact Nat.lt_of_le_of_lt hle h1) (Nat.le_refl _)
  have ek := lowest_eq (n := n) (d := d) h0
  refine nx_if (etd_test (ed_cmp (ed_var rfl) ed_int)) (fun hb => ?_) fun hb => ?_
  · have hd : d < 0 := of_decide_eq_true hb
    rw [if_pos hd] at ek
    refine nx_asg (ed_neg (ed_var rfl)) ?_
    exact nx_ret hrt (ed_tup (ea_cons (ed_rI (ed_var rfl) (ed_var rfl) (hz _ (by omega) _)) (ea_cons (ed_rI (ed_var rfl) (ed_var rfl) (hz _ (by omega) _)) ea_nil))) ek
  · have hd : ¬ d < 0 := of_decide_eq_false hb
    rw [if_neg hd] at ek
    refine nx_next ?_
    exact nx_ret hrt (ed_tup (ea_cons (ed_rI (ed_var rfl) (ed_var rfl) (hz _ (by omega) _)) (ea_cons (ed_rI (ed_var rfl) (ed_var rfl) (hz _ (by omega) _)) ea_nil))) ek
end
end Wk
-- D3
namespace Wk
open PySem PySem.Spec
open PyProof.Rows L2
section
variable {P : Program}
variable {w : World} {K : PySem.W.Frag} {mg : Str → Option Value} {base : Heap}
theorem den_ne (q : Rat) : (q.den : Int) ≠ 0 := by have := q.den_nz; omega
theorem pow9000 {n k : Nat} (h : k < 2 ^ n) (hn : n ≤ 9000 := by omega) : k < 2 ^ 9000 := lt_two_pow h hn
def Rl_precedes : Rel := fun zs0 Pz => ∃ (a b : Rat) (n m : Nat), zs0 = [fr a, fr b] ∧ (Bd n a ∧ Bd m b ∧ n + m ≤ 1000000) ∧ Pz = (fun e => e = .bl (decide (a < b)))
theorem len_precedes : ∀ ds Post, Rl_precedes ds Post → ds.length = 2 := fun _ _ ⟨_, _, _, _, e, _⟩ => by rw [e]; rfl
theorem rl_precedes {a b : Rat} {n m : Nat} [Bz a n] [Bz b m] (h : n + m ≤ 1000000 := by omega) : Rl_precedes [fr a, fr b] (fun e => e = .bl (decide (a < b))) := ⟨a, b, n, m, rfl, ⟨bz, bz, h⟩, rfl⟩
theorem lt_cross (a b : Rat) : decide (a.num * (b.den : Int) < b.num * (a.den : Int)) = decide (a < b) := decide_eq_decide.mpr (Rat.lt_iff a b).symm
theorem ok_precedes (B : Bs K mg) : Cl P w K mg base CX0 1 "precedes" (spP Rl_precedes) [] := by
  refine cl_of (N := ["left", "right"]) (ps := ["left", "right"]) B.d_precedes B.g_precedes (by decide +kernel) (fun _ _ _ _ _ _ us hl => match us, hl with | [_, _], _ => rfl)
    (len_P len_precedes) fun f cdv A outer s H vs Q E hr h => ?_
  have nd : (["left", "right"] : List Str).Nodup := by decide +kernel
  refine ⟨_, PSs.nox (pss_one (ps_ret (pe_cmpR op_lt (pe_op op_mulW (pe_ix ix_tup (pv 0) pe_int (fun _ _ => rfl)) (pe_ix ix_tup (pv 1) pe_int (fun _ _ => rfl))) (pe_op op_mulW (pe_ix ix_tup (pv 1) pe_int (fun _ _ => rfl)) (pe_ix ix_tup (pv 0) pe_int (fun _ _ => rfl))) (nomark _)))), enterP h fun C ds Post hR hrt => ?_⟩
  obtain ⟨a, b, n, m, rfl, ⟨ha, hb, hs⟩, rfl⟩ := hR
  have ia : Bz a n := ⟨ha⟩
  have ib : Bz b m := ⟨hb⟩
  show NX C _ [.val (fr a), .val (fr b)]
  exact nx_ret hrt (ed_cmp (ed_rI (ed_ixT (ed_var rfl) ed_int rfl) (ed_ixT (ed_var rfl) ed_int rfl) mw_nd) (ed_rI (ed_ixT (ed_var rfl) ed_int rfl) (ed_ixT (ed_var rfl) ed_int rfl) mw_nd)) (congrArg Dt.bl (lt_cross a b))
def Rl_is_earlier : Rel := fun zs0 Pz => ∃ (a b : Rat) (n m : Nat), zs0 = [fr a, fr b] ∧ (Bd n a ∧ Bd m b ∧ n + m ≤ 1000000) ∧ Pz = (fun e => e = .bl (decide (a < b)))
theorem len_is_earlier : ∀ ds Post, Rl_is_earlier ds Post → ds.length = 2 := fun _ _ ⟨_, _, _, _, e, _⟩ => by rw [e]; rfl
theorem rl_is_earlier {a b : Rat} {n m : Nat} [Bz a n] [Bz b m] (h : n + m ≤ 1000000 := by omega) : Rl_is_earlier [fr a, fr b] (fun e => e = .bl (decide (a < b))) := ⟨a, b, n, m, rfl, ⟨bz, bz, h⟩, rfl⟩
theorem ok_is_earlier (B : Bs K mg) : Cl P w K mg base CX0 1 "is_earlier" (spP Rl_is_earlier) [] := by
  refine cl_of (N := ["left", "right"]) (ps := ["left", "right"]) B.d_is_earlier B.g_is_earlier (by decide +kernel) (fun _ _ _ _ _ _ us hl => match us, hl with | [_, _], _ => rfl)
    (len_P len_is_earlier) fun f cdv A outer s H vs Q E hr h => ?_
  have nd : (["left", "right"] : List Str).Nodup := by decide +kernel
  refine ⟨_, PSs.nox (pss_one (ps_ret (pe_cmpR op_lt (pe_op op_mulW (pe_ix ix_tup (pv 0) pe_int (fun _ _ => rfl)) (pe_ix ix_tup (pv 1) pe_int (fun _ _ => rfl))) (pe_op op_mulW (pe_ix ix_tup (pv 1) pe_int (fun _ _ => rfl)) (pe_ix ix_tup (pv 0) pe_int (fun _ _ => rfl))) (nomark _)))), enterP h fun C ds Post hR hrt => ?_⟩
  obtain ⟨a, b, n, m, rfl, ⟨ha, hb, hs⟩, rfl⟩ := hR
  have ia : Bz a n := ⟨ha⟩
  have ib : Bz b m := ⟨hb⟩
  show NX C _ [.val (fr a), .val (fr b)]
  exact nx_ret hrt (ed_cmp (ed_rI (ed_ixT (ed_var rfl) ed_int rfl) (ed_ixT (ed_var rfl) ed_int rfl) mw_nd) (ed_rI (ed_ixT (ed_var rfl) ed_int rfl) (ed_ixT (ed_var rfl) ed_int rfl) mw_nd)) (congrArg Dt.bl (lt_cross a b))
def Rl_fraction : Rel := fun zs0 Pz => ∃ (n d : Int), zs0 = [.int n, .int d] ∧ (d ≠ 0 ∧ d.natAbs < 2 ^ 9000) ∧ Pz = (fun e => e = fr (Rat.divInt n d))
theorem len_fraction : ∀ ds Post, Rl_fraction ds Post → ds.length = 2 := fun _ _ ⟨_, _, e, _⟩ => by rw [e]; rfl
/-- what is asked whether it is a fraction, and the answer -/
inductive IsFr : Dt → Bool → Prop
  | fr (q : Rat) : IsFr (fr q) true
  | pair (a b : Int) : IsFr (.tup [.int a, .int b]) (decide (1 ≤ b) && decide (((Int.gcd a b : Nat) : Int) = 1))
  | non : IsFr .non false
  | int (i : Int) : IsFr (.int i) false
  | blp (b : Bool) (i : Int) : IsFr (.tup [.bl b, .int i]) false
def Rl_is_fraction : Rel := fun zs0 Pz => ∃ (d : Dt) (b : Bool), zs0 = [d] ∧ (IsFr d b) ∧ Pz = (fun e => e = .bl b)
theorem len_is_fraction : ∀ ds Post, Rl_is_fraction ds Post → ds.length = 1 := fun _ _ ⟨_, _, e, _⟩ => by rw [e]; rfl
theorem rl_is_fraction {d : Dt} {b : Bool} (h : IsFr d b) : Rl_is_fraction [d] (fun e => e = .bl b) := ⟨d, b, rfl, h, rfl⟩
theorem rl_whole_number {d : Dt} (h : isIns d = false) : Rl_whole_number [d] (fun e => e = .bl (isB (tyN d) "int" && !isB (tyN d) "bool")) := ⟨d, rfl, h, rfl⟩
theorem gcd_fr (q : Rat) : (((Int.gcd q.num (q.den : Int) : Nat) : Int) = 1) := by
  have h : Int.gcd q.num (q.den : Int) = Nat.gcd q.num.natAbs q.den := rfl
  rw [h, q.reduced] <;> rfl
theorem fr_test (q : Rat) : (decide (1 ≤ (q.den : Int)) && decide (((Int.gcd q.num (q.den : Int) : Nat) : Int) = 1)) = true := by
  have h := q.den_pos
  rw [decide_eq_true (gcd_fr q), decide_eq_true (show (1 : Int) ≤ (q.den : Int) by omega)] <;> rfl
theorem IsFr.kinds {d : Dt} {b : Bool} (h : IsFr d b) : (∃ x y : Int, d = .tup [.int x, .int y] ∧ (decide (1 ≤ y) && decide (((Int.gcd x y : Nat) : Int) = 1)) = b) ∨ (d = .non ∧ b = false) ∨ (∃ i, d = .int i ∧ b = false) ∨ ∃ c i, d = .tup [.bl c, .int i] ∧ b = false := by
  cases h with
  | fr q => exact .inl ⟨q.num, q.den, rfl, fr_test q⟩
  | pair x y => exact .inl ⟨x, y, rfl, rfl⟩
  | non => exact .inr (.inl ⟨rfl, rfl⟩)
  | int i => exact .inr (.inr (.inl ⟨i, rfl, rfl⟩))
  | blp c i => exact .inr (.inr (.inr ⟨c, i, rfl, rfl⟩))
theorem ok_is_fraction (B : Bs K mg) : Cl P w K mg base CX0 2 "is_fraction" (spP Rl_is_fraction) [] := by
  refine cl_of (N := ["value", "numerator", "denominator"]) (ps := ["value"]) B.d_is_fraction B.g_is_fraction (by decide +kernel) (fun _ _ _ _ _ _ us hl => match us, hl with | [_], _ => rfl)
    (len_P len_is_fraction) fun f cdv A outer s H vs Q E hr h => ?_
  have nd : (["value", "numerator", "denominator"] : List Str).Nodup := by decide +kernel
  refine ⟨_, PSs.nox (pss_cons (ps_if (PW.pt (pw_or (pt_not (pt_val (pe_callB call_isi (by rfl) B.z_isinstance (by decide +kernel) (pa_cons (pv 0) (pa_cons (pe_bltn (v := .ty "tuple") rfl B.z_tuple (by decide +kernel) rfl) pa_nil))))) (pw_or1 (pt_cmpR op_ne (pe_callB call_len_seq (by rfl) B.z_len (by decide +kernel) (pa_cons (pv 0) pa_nil)) pe_int (nomark _))))) (pss_one (ps_ret pe_bl)) pss_nil)
  (pss_cons (ps_asg (pv 0) (pg_tup rfl (pgs_cons (pg_name (i := 1) nd rfl (by first | exact Or.inl rfl | exact Or.inr rfl)) (pgs_cons (pg_name (i := 2) nd rfl (by first | exact Or.inl rfl | exact Or.inr rfl)) pgs_nil))))
  (pss_cons (ps_if (PW.pt (pw_or (pt_not (pt_val (pe_cl (ok_whole_number B) hr (by decide) pass0 (pa_cons (pv 1) pa_nil)))) (pw_or1 (pt_not (pt_val (pe_cl (ok_whole_number B) hr (by decide) pass0 (pa_cons (pv 2) pa_nil))))))) (pss_one (ps_ret pe_bl)) pss_nil)
  (pss_one (ps_ret (pe_and (pe_cmpR op_ge (pv 2) pe_int (nomark _)) (pe_one (pe_cmpR op_eq (pe_cl (ok_common_divisor B) hr (by decide) pass0 (pa_cons (pv 1) (pa_cons (pv 2) pa_nil))) pe_int (nomark _))))))))), enterP h fun C ds Post hR hrt => ?_⟩
  obtain ⟨d, b, rfl, hd, rfl⟩ := hR
  show NX C _ [.val d, .no, .no]
  rcases hd.kinds with ⟨x, y, rfl, e⟩ | ⟨rfl, rfl⟩ | ⟨i, rfl, rfl⟩ | ⟨c, i, rfl, rfl⟩
  · refine sq_no (etd_or (etd_not (etd_B (ed_isT (ed_var rfl) rfl))) fun _ => etd_test (ed_neI (ed_lenT (ed_var rfl)) ed_int)) rfl ?_
    refine sq_asg2 (ed_var rfl) ?_
    refine sq_no (etd_or (etd_not (etd_B (ed_call (ea_cons (ed_var rfl) ea_nil) (rl_whole_number rfl)))) fun _ => etd_not (etd_B (ed_call (ea_cons (ed_var rfl) ea_nil) (rl_whole_number rfl)))) rfl ?_
    exact nx_ret hrt (ed_andV (ed_cmp (ed_var rfl) ed_int) fun _ => ed_eqI (ed_call (ea_cons (ed_var rfl) (ea_cons (ed_var rfl) ea_nil)) rl_gcd) ed_int) (congrArg Dt.bl e)
  · exact sq_yes (etd_or1 (etd_not (etd_B (ed_isT (ed_var rfl) rfl))) rfl) rfl (nx_ret hrt ed_bl rfl)
  · exact sq_yes (etd_or1 (etd_not (etd_B (ed_isT (ed_var rfl) rfl))) rfl) rfl (nx_ret hrt ed_bl rfl)
  · refine sq_no (etd_or (etd_not (etd_B (ed_isT (ed_var rfl) rfl))) fun _ => etd_test (ed_neI (ed_lenT (ed_var rfl)) ed_int)) rfl ?_
    refine sq_asg2 (ed_var rfl) ?_
    exact sq_yes (etd_or1 (etd_not (etd_B (ed_call (ea_cons (ed_var rfl) ea_nil) (rl_whole_number rfl)))) rfl) rfl (nx_ret hrt ed_bl rfl)
end
end Wk
-- D4
namespace Wk
open PySem PySem.Spec
open PyProof.Rows L2
section
variable {P : Program}
variable {w : World} {K : PySem.W.Frag} {mg : Str → Option Value} {base : Heap}
def Rl_check_pair : Rel := fun zs0 Pz => ∃ (a b : Rat), zs0 = [fr a, fr b] ∧ (True) ∧ Pz = (fun e => e = .non)
theorem len_check_pair : ∀ ds Post, Rl_check_pair ds Post → ds.length = 2 := fun _ _ ⟨_, _, e, _⟩ => by rw [e]; rfl
theorem rl_check_pair {a b : Rat} : Rl_check_pair [fr a, fr b] (fun e => e = .non) := ⟨a, b, rfl, trivial, rfl⟩
theorem ok_check_pair (B : Bs K mg) : Cl P w K mg base CX0 3 "check_pair" (spP Rl_check_pair) [] := by
  refine cl_of (N := ["left", "right"]) (ps := ["left", "right"]) B.d_check_pair B.g_check_pair (by decide +kernel) (fun _ _ _ _ _ _ us hl => match us, hl with | [_, _], _ => rfl)
    (len_P len_check_pair) fun f cdv A outer s H vs Q E hr h => ?_
  have nd : (["left", "right"] : List Str).Nodup := by decide +kernel
  refine ⟨_, PSs.nox (pss_cons (ps_if (pt_not (pt_val (pe_cl (ok_is_fraction B) hr (by decide) pass0 (pa_cons (pv 0) pa_nil)))) (pss_one ps_never) pss_nil)
  (pss_one (ps_if (pt_not (pt_val (pe_cl (ok_is_fraction B) hr (by decide) pass0 (pa_cons (pv 1) pa_nil)))) (pss_one ps_never) pss_nil))), enterP h fun C ds Post hR hrt => ?_⟩
  obtain ⟨a, b, rfl, _, rfl⟩ := hR
  show NX C _ [.val (fr a), .val (fr b)]
  refine sq_no (etd_not (etd_B (ed_call (ea_cons (ed_var rfl) ea_nil) (rl_is_fraction (.fr a))))) rfl ?_
  exact nx_no (etd_not (etd_B (ed_call (ea_cons (ed_var rfl) ea_nil) (rl_is_fraction (.fr b))))) rfl (nx_end hrt rfl)
def Rl_check_value : Rel := fun zs0 Pz => ∃ (a : Rat), zs0 = [fr a] ∧ (True) ∧ Pz = (fun e => e = .non)
theorem len_check_value : ∀ ds Post, Rl_check_value ds Post → ds.length = 1 := fun _ _ ⟨_, e, _⟩ => by rw [e]; rfl
theorem rl_check_value {a : Rat} : Rl_check_value [fr a] (fun e => e = .non) := ⟨a, rfl, trivial, rfl⟩
theorem ok_check_value (B : Bs K mg) : Cl P w K mg base CX0 3 "check_value" (spP Rl_check_value) [] := by
  refine cl_of (N := ["value"]) (ps := ["value"]) B.d_check_value B.g_check_value (by decide +kernel) (fun _ _ _ _ _ _ us hl => match us, hl with | [_], _ => rfl)
    (len_P len_check_value) fun f cdv A outer s H vs Q E hr h => ?_
  have nd : (["value"] : List Str).Nodup := by decide +kernel
  refine ⟨_, PSs.nox (pss_one (ps_if (pt_not (pt_val (pe_cl (ok_is_fraction B) hr (by decide) pass0 (pa_cons (pv 0) pa_nil)))) (pss_one ps_never) pss_nil)), enterP h fun C ds Post hR hrt => ?_⟩
  obtain ⟨a, rfl, _, rfl⟩ := hR
  show NX C _ [.val (fr a)]
  exact nx_no (etd_not (etd_B (ed_call (ea_cons (ed_var rfl) ea_nil) (rl_is_fraction (.fr a))))) rfl (nx_end hrt rfl)
theorem add_eq (a b : Rat) : Rat.divInt (a.num * (b.den : Int) + b.num * (a.den : Int)) ((a.den : Int) * (b.den : Int)) = a + b := by
  rw [Rat.add_def', ← Int.natCast_mul, divInt_nat]
theorem sub_eq (a b : Rat) : Rat.divInt (a.num * (b.den : Int) - b.num * (a.den : Int)) ((a.den : Int) * (b.den : Int)) = a - b := by
  rw [Rat.sub_def', ← Int.natCast_mul, divInt_nat]
theorem mul_eq (a b : Rat) : Rat.divInt (a.num * b.num) ((a.den : Int) * (b.den : Int)) = a * b := by
  rw [Rat.mul_def', ← Int.natCast_mul, divInt_nat]
theorem div_eq (a b : Rat) : Rat.divInt (a.num * (b.den : Int)) ((a.den : Int) * b.num) = a / b := by
  rw [Rat.div_def, Rat.inv_def]
  have e := Rat.divInt_mul_divInt a.num (b.den : Int) (d₁ := (a.den : Int)) (d₂ := b.num)
  rw [Rat.num_divInt_den] at e
  exact e.symm
theorem dd_ne (a b : Rat) : (a.den : Int) * (b.den : Int) ≠ 0 := Int.mul_ne_zero (den_ne a) (den_ne b)
theorem dd_sz {a b : Rat} {n m : Nat} [Bz a n] [Bz b m] (h : n + m ≤ 9000) : ((a.den : Int) * (b.den : Int)).natAbs < 2 ^ 9000 := by
  rw [← Int.natCast_mul, Int.natAbs_natCast]
  exact lt_two_pow (mul_lt_pow bz.2 bz.2) h
theorem dn_sz {a b : Rat} {n m : Nat} [Bz a n] [Bz b m] (h : n + m ≤ 9000) : ((a.den : Int) * b.num).natAbs < 2 ^ 9000 := by
  rw [Int.natAbs_mul, Int.natAbs_natCast]
  exact lt_two_pow (mul_lt_pow bz.2 bz.1) h
def Rl_plus : Rel := fun zs0 Pz => ∃ (a b : Rat) (n m : Nat), zs0 = [fr a, fr b] ∧ (Bd n a ∧ Bd m b ∧ n + m ≤ 9000) ∧ Pz = (fun e => e = fr (a + b))
theorem len_plus : ∀ ds Post, Rl_plus ds Post → ds.length = 2 := fun _ _ ⟨_, _, _, _, e, _⟩ => by rw [e]; rfl
theorem rl_plus {a b : Rat} {n m : Nat} [Bz a n] [Bz b m] (h : n + m ≤ 9000 := by omega) : Rl_plus [fr a, fr b] (fun e => e = fr (a + b)) := ⟨a, b, n, m, rfl, ⟨bz, bz, h⟩, rfl⟩
def Rl_minus : Rel := fun zs0 Pz => ∃ (a b : Rat) (n m : Nat), zs0 = [fr a, fr b] ∧ (Bd n a ∧ Bd m b ∧ n + m ≤ 9000) ∧ Pz = (fun e => e = fr (a - b))
theorem len_minus : ∀ ds Post, Rl_minus ds Post → ds.length = 2 := fun _ _ ⟨_, _, _, _, e, _⟩ => by rw [e]; rfl
theorem rl_minus {a b : Rat} {n m : Nat} [Bz a n] [Bz b m] (h : n + m ≤ 9000 := by omega) : Rl_minus [fr a, fr b] (fun e => e = fr (a - b)) := ⟨a, b, n, m, rfl, ⟨bz, bz, h⟩, rfl⟩
def Rl_times : Rel := fun zs0 Pz => ∃ (a b : Rat) (n m : Nat), zs0 = [fr a, fr b] ∧ (Bd n a ∧ Bd m b ∧ n + m ≤ 9000) ∧ Pz = (fun e => e = fr (a * b))
theorem len_times : ∀ ds Post, Rl_times ds Post → ds.length = 2 := fun _ _ ⟨_, _, _, _, e, _⟩ => by rw [e]; rfl
theorem rl_times {a b : Rat} {n m : Nat} [Bz a n] [Bz b m] (h : n + m ≤ 9000 := by omega) : Rl_times [fr a, fr b] (fun e => e = fr (a * b)) := ⟨a, b, n, m, rfl, ⟨bz, bz, h⟩, rfl⟩
def Rl_over : Rel := fun zs0 Pz => ∃ (a b : Rat) (n m : Nat), zs0 = [fr a, fr b] ∧ (b ≠ 0 ∧ Bd n a ∧ Bd m b ∧ n + m ≤ 9000) ∧ Pz = (fun e => e = fr (a / b))
theorem len_over : ∀ ds Post, Rl_over ds Post → ds.length = 2 := fun _ _ ⟨_, _, _, _, e, _⟩ => by rw [e]; rfl
theorem rl_over {a b : Rat} {n m : Nat} [Bz a n] [Bz b m] (h0 : b ≠ 0) (h : n + m ≤ 9000 := by omega) : Rl_over [fr a, fr b] (fun e => e = fr (a / b)) := ⟨a, b, n, m, rfl, ⟨h0, bz, bz, h⟩, rfl⟩
theorem ok_plus (B : Bs K mg) : Cl P w K mg base CX0 4 "plus" (spP Rl_plus) [] := by
  refine cl_of (N := ["left", "right"]) (ps := ["left", "right"]) B.d_plus B.g_plus (by decide +kernel) (fun _ _ _ _ _ _ us hl => match us, hl with | [_, _], _ => rfl)
    (len_P len_plus) fun f cdv A outer s H vs Q E hr h => ?_
  have nd : (["left", "right"] : List Str).Nodup := by decide +kernel
  refine ⟨_, PSs.nox (pss_cons (ps_expr (pe_cl (ok_check_pair B) hr (by decide) pass0 (pa_cons (pv 0) (pa_cons (pv 1) pa_nil))))
  (pss_one (ps_ret (pe_cl (ok_lowest B) hr (by decide) pass0 (pa_cons (pe_op op_add (pe_op op_mulW (pe_ix ix_tup (pv 0) pe_int (fun _ _ => rfl)) (pe_ix ix_tup (pv 1) pe_int (fun _ _ => rfl))) (pe_op op_mulW (pe_ix ix_tup (pv 1) pe_int (fun _ _ => rfl)) (pe_ix ix_tup (pv 0) pe_int (fun _ _ => rfl)))) (pa_cons (pe_op op_mulW (pe_ix ix_tup (pv 0) pe_int (fun _ _ => rfl)) (pe_ix ix_tup (pv 1) pe_int (fun _ _ => rfl))) pa_nil)))))), enterP h fun C ds Post hR hrt => ?_⟩
  obtain ⟨a, b, n, m, rfl, ⟨ha, hb, hs⟩, rfl⟩ := hR
  have ia : Bz a n := ⟨ha⟩
  have ib : Bz b m := ⟨hb⟩
  show NX C _ [.val (fr a), .val (fr b)]
  refine sq_drop (ed_call (ea_cons (ed_var rfl) (ea_cons (ed_var rfl) ea_nil)) rl_check_pair) ?_
  exact nx_ret hrt (ed_call (ea_cons (ed_rI0 (ed_rI (ed_ixT (ed_var rfl) ed_int rfl) (ed_ixT (ed_var rfl) ed_int rfl) (by first | exact .inr ⟨by decide, by decide⟩ | exact mw_nd | exact mw_nn | exact mw_dn | exact mw_dd | assumption)) (ed_rI (ed_ixT (ed_var rfl) ed_int rfl) (ed_ixT (ed_var rfl) ed_int rfl) (by first | exact .inr ⟨by decide, by decide⟩ | exact mw_nd | exact mw_nn | exact mw_dn | exact mw_dd | assumption))) (ea_cons (ed_rI (ed_ixT (ed_var rfl) ed_int rfl) (ed_ixT (ed_var rfl) ed_int rfl) (by first | exact .inr ⟨by decide, by decide⟩ | exact mw_nd | exact mw_nn | exact mw_dn | exact mw_dd | assumption)) ea_nil)) (rl_lowest (dd_ne a b) (dd_sz hs))) (congrArg fr (add_eq a b))
theorem ok_minus (B : Bs K mg) : Cl P w K mg base CX0 4 "minus" (spP Rl_minus) [] := by
  refine cl_of (N := ["left", "right"]) (ps := ["left", "right"]) B.d_minus B.g_minus (by decide +kernel) (fun _ _ _ _ _ _ us hl => match us, hl with | [_, _], _ => rfl)
    (len_P len_minus) fun f cdv A outer s H vs Q E hr h => ?_
  have nd : (["left", "right"] : List Str).Nodup := by decide +kernel
  refine ⟨_, PSs.nox (pss_cons (ps_expr (pe_cl (ok_check_pair B) hr (by decide) pass0 (pa_cons (pv 0) (pa_cons (pv 1) pa_nil))))
  (pss_one (ps_ret (pe_cl (ok_lowest B) hr (by decide) pass0 (pa_cons (pe_op op_sub (pe_op op_mulW (pe_ix ix_tup (pv 0) pe_int (fun _ _ => rfl)) (pe_ix ix_tup (pv 1) pe_int (fun _ _ => rfl))) (pe_op op_mulW (pe_ix ix_tup (pv 1) pe_int (fun _ _ => rfl)) (pe_ix ix_tup (pv 0) pe_int (fun _ _ => rfl)))) (pa_cons (pe_op op_mulW (pe_ix ix_tup (pv 0) pe_int (fun _ _ => rfl)) (pe_ix ix_tup (pv 1) pe_int (fun _ _ => rfl))) pa_nil)))))), enterP h fun C ds Post hR hrt => ?_⟩
  obtain ⟨a, b, n, m, rfl, ⟨ha, hb, hs⟩, rfl⟩ := hR
  have ia : Bz a n := ⟨ha⟩
  have ib : Bz b m := ⟨hb⟩
  show NX C _ [.val (fr a), .val (fr b)]
  refine sq_drop (ed_call (ea_cons (ed_var rfl) (ea_cons (ed_var rfl) ea_nil)) rl_check_pair) ?_
  exact nx_ret hrt (ed_call (ea_cons (ed_rI0 (ed_rI (ed_ixT (ed_var rfl) ed_int rfl) (ed_ixT (ed_var rfl) ed_int rfl) (by first | exact .inr ⟨by decide, by decide⟩ | exact mw_nd | exact mw_nn | exact mw_dn | exact mw_dd | assumption)) (ed_rI (ed_ixT (ed_var rfl) ed_int rfl) (ed_ixT (ed_var rfl) ed_int rfl) (by first | exact .inr ⟨by decide, by decide⟩ | exact mw_nd | exact mw_nn | exact mw_dn | exact mw_dd | assumption))) (ea_cons (ed_rI (ed_ixT (ed_var rfl) ed_int rfl) (ed_ixT (ed_var rfl) ed_int rfl) (by first | exact .inr ⟨by decide, by decide⟩ | exact mw_nd | exact mw_nn | exact mw_dn | exact mw_dd | assumption)) ea_nil)) (rl_lowest (dd_ne a b) (dd_sz hs))) (congrArg fr (sub_eq a b))
theorem ok_times (B : Bs K mg) : Cl P w K mg base CX0 4 "times" (spP Rl_times) [] := by
  refine cl_of (N := ["left", "right"]) (ps := ["left", "right"]) B.d_times B.g_times (by decide +kernel) (fun _ _ _ _ _ _ us hl => match us, hl with | [_, _], _ => rfl)
    (len_P len_times) fun f cdv A outer s H vs Q E hr h => ?_
  have nd : (["left", "right"] : List Str).Nodup := by decide +kernel
  refine ⟨_, PSs.nox (pss_cons (ps_expr (pe_cl (ok_check_pair B) hr (by decide) pass0 (pa_cons (pv 0) (pa_cons (pv 1) pa_nil))))
  (pss_one (ps_ret (pe_cl (ok_lowest B) hr (by decide) pass0 (pa_cons (pe_op op_mulW (pe_ix ix_tup (pv 0) pe_int (fun _ _ => rfl)) (pe_ix ix_tup (pv 1) pe_int (fun _ _ => rfl))) (pa_cons (pe_op op_mulW (pe_ix ix_tup (pv 0) pe_int (fun _ _ => rfl)) (pe_ix ix_tup (pv 1) pe_int (fun _ _ => rfl))) pa_nil)))))), enterP h fun C ds Post hR hrt => ?_⟩
  obtain ⟨a, b, n, m, rfl, ⟨ha, hb, hs⟩, rfl⟩ := hR
  have ia : Bz a n := ⟨ha⟩
  have ib : Bz b m := ⟨hb⟩
  show NX C _ [.val (fr a), .val (fr b)]
  refine sq_drop (ed_call (ea_cons (ed_var rfl) (ea_cons (ed_var rfl) ea_nil)) rl_check_pair) ?_
  exact nx_ret hrt (ed_call (ea_cons (ed_rI (ed_ixT (ed_var rfl) ed_int rfl) (ed_ixT (ed_var rfl) ed_int rfl) (by first | exact .inr ⟨by decide, by decide⟩ | exact mw_nd | exact mw_nn | exact mw_dn | exact mw_dd | assumption)) (ea_cons (ed_rI (ed_ixT (ed_var rfl) ed_int rfl) (ed_ixT (ed_var rfl) ed_int rfl) (by first | exact .inr ⟨by decide, by decide⟩ | exact mw_nd | exact mw_nn | exact mw_dn | exact mw_dd | assumption)) ea_nil)) (rl_lowest (dd_ne a b) (dd_sz hs))) (congrArg fr (mul_eq a b))
theorem ok_over (B : Bs K mg) : Cl P w K mg base CX0 4 "over" (spP Rl_over) [] := by
  refine cl_of (N := ["left", "right"]) (ps := ["left", "right"]) B.d_over B.g_over (by decide +kernel) (fun _ _ _ _ _ _ us hl => match us, hl with | [_, _], _ => rfl)
    (len_P len_over) fun f cdv A outer s H vs Q E hr h => ?_
  have nd : (["left", "right"] : List Str).Nodup := by decide +kernel
  refine ⟨_, PSs.nox (pss_cons (ps_expr (pe_cl (ok_check_pair B) hr (by decide) pass0 (pa_cons (pv 0) (pa_cons (pv 1) pa_nil))))
  (pss_cons (ps_if (pt_cmpR op_eq (pe_ix ix_tup (pv 1) pe_int (fun _ _ => rfl)) pe_int (nomark _)) (pss_one ps_never) pss_nil)
  (pss_one (ps_ret (pe_cl (ok_lowest B) hr (by decide) pass0 (pa_cons (pe_op op_mulW (pe_ix ix_tup (pv 0) pe_int (fun _ _ => rfl)) (pe_ix ix_tup (pv 1) pe_int (fun _ _ => rfl))) (pa_cons (pe_op op_mulW (pe_ix ix_tup (pv 0) pe_int (fun _ _ => rfl)) (pe_ix ix_tup (pv 1) pe_int (fun _ _ => rfl))) pa_nil))))))), enterP h fun C ds Post hR hrt => ?_⟩
  obtain ⟨a, b, n, m, rfl, ⟨h0, ha, hb, hs⟩, rfl⟩ := hR
  have ia : Bz a n := ⟨ha⟩
  have ib : Bz b m := ⟨hb⟩
  have hn : b.num ≠ 0 := fun z => h0 (Rat.num_eq_zero.mp z)
  show NX C _ [.val (fr a), .val (fr b)]
  refine sq_drop (ed_call (ea_cons (ed_var rfl) (ea_cons (ed_var rfl) ea_nil)) rl_check_pair) ?_
  refine sq_no (etd_test (ed_eqI (ed_ixT (ed_var rfl) ed_int rfl) ed_int)) (decide_eq_false hn) ?_
  exact nx_ret hrt (ed_call (ea_cons (ed_rI (ed_ixT (ed_var rfl) ed_int rfl) (ed_ixT (ed_var rfl) ed_int rfl) (by first | exact .inr ⟨by decide, by decide⟩ | exact mw_nd | exact mw_nn | exact mw_dn | exact mw_dd | assumption)) (ea_cons (ed_rI (ed_ixT (ed_var rfl) ed_int rfl) (ed_ixT (ed_var rfl) ed_int rfl) (by first | exact .inr ⟨by decide, by decide⟩ | exact mw_nd | exact mw_nn | exact mw_dn | exact mw_dd | assumption)) ea_nil)) (rl_lowest (Int.mul_ne_zero (den_ne a) hn) (dn_sz hs))) (congrArg fr (div_eq a b))
def sgn (a b : Rat) : Int := if a < b then -1 else if b < a then 1 else 0
def Rl_compare : Rel := fun zs0 Pz => ∃ (a b : Rat) (n m : Nat), zs0 = [fr a, fr b] ∧ (Bd n a ∧ Bd m b ∧ n + m ≤ 9000) ∧ Pz = (fun e => e = .int (sgn a b))
theorem len_compare : ∀ ds Post, Rl_compare ds Post → ds.length = 2 := fun _ _ ⟨_, _, _, _, e, _⟩ => by rw [e]; rfl
theorem rl_compare {a b : Rat} {n m : Nat} [Bz a n] [Bz b m] (h : n + m ≤ 9000 := by omega) : Rl_compare [fr a, fr b] (fun e => e = .int (sgn a b)) := ⟨a, b, n, m, rfl, ⟨bz, bz, h⟩, rfl⟩
theorem cross_neg (a b : Rat) : a.num * (b.den : Int) - b.num * (a.den : Int) < 0 ↔ a < b := by rw [Rat.lt_iff]; omega
theorem cross_pos (a b : Rat) : 0 < a.num * (b.den : Int) - b.num * (a.den : Int) ↔ b < a := by rw [Rat.lt_iff]; omega
theorem ok_compare (B : Bs K mg) : Cl P w K mg base CX0 4 "compare" (spP Rl_compare) [] := by
  refine cl_of (N := ["left", "right", "difference"]) (ps := ["left", "right"]) B.d_compare B.g_compare (by decide +kernel) (fun _ _ _ _ _ _ us hl => match us, hl with | [_, _], _ => rfl)
    (len_P len_compare) fun f cdv A outer s H vs Q E hr h => ?_
  have nd : (["left", "right", "difference"] : List Str).Nodup := by decide +kernel
  refine ⟨_, PSs.nox (pss_cons (ps_expr (pe_cl (ok_check_pair B) hr (by decide) pass0 (pa_cons (pv 0) (pa_cons (pv 1) pa_nil))))
  (pss_cons (ps_set (i := 2) nd rfl (by first | exact Or.inl rfl | exact Or.inr rfl) (pe_op op_sub (pe_op op_mulW (pe_ix ix_tup (pv 0) pe_int (fun _ _ => rfl)) (pe_ix ix_tup (pv 1) pe_int (fun _ _ => rfl))) (pe_op op_mulW (pe_ix ix_tup (pv 1) pe_int (fun _ _ => rfl)) (pe_ix ix_tup (pv 0) pe_int (fun _ _ => rfl)))))
  (pss_cons (ps_if (pt_cmpR op_lt (pv 2) pe_int (nomark _)) (pss_one (ps_ret (pe_un un_neg pe_int))) pss_nil)
  (pss_one (ps_ret (pe_ifExp (pt_cmpR op_gt (pv 2) pe_int (nomark _)) pe_int pe_int)))))), enterP h fun C ds Post hR hrt => ?_⟩
  obtain ⟨a, b, n, m, rfl, ⟨ha, hb, hs⟩, rfl⟩ := hR
  have ia : Bz a n := ⟨ha⟩
  have ib : Bz b m := ⟨hb⟩
  show NX C _ [.val (fr a), .val (fr b), .no]
  refine sq_drop (ed_call (ea_cons (ed_var rfl) (ea_cons (ed_var rfl) ea_nil)) rl_check_pair) ?_
  refine sq_asg (ed_rI0 (ed_rI (ed_ixT (ed_var rfl) ed_int rfl) (ed_ixT (ed_var rfl) ed_int rfl) (by first | exact .inr ⟨by decide, by decide⟩ | exact mw_nd | exact mw_nn | exact mw_dn | exact mw_dd | assumption)) (ed_rI (ed_ixT (ed_var rfl) ed_int rfl) (ed_ixT (ed_var rfl) ed_int rfl) (by first | exact .inr ⟨by decide, by decide⟩ | exact mw_nd | exact mw_nn | exact mw_dn | exact mw_dd | assumption))) ?_
  refine sq_when (etd_test (ed_cmp (ed_var rfl) ed_int)) (fun hx => ?_) fun hx => ?_
  · have h1 : a < b := (cross_neg a b).mp (of_decide_eq_true hx)
    exact nx_ret hrt (ed_neg ed_int) (by show Dt.int (-1) = .int (sgn a b); rw [sgn, if_pos h1])
  · have h1 : ¬ a < b := fun z => (of_decide_eq_false hx) ((cross_neg a b).mpr z)
    refine nx_retN hrt (ed_if (d := .int (sgn a b)) (etd_test (ed_cmp (ed_var rfl) ed_int)) (fun hy => (ed_int).is ?_) fun hy => (ed_int).is ?_)
    · have h2 : b < a := (cross_pos a b).mp (of_decide_eq_true hy)
      rw [sgn, if_neg h1, if_pos h2]
    · have h2 : ¬ b < a := fun z => (of_decide_eq_false hy) ((cross_pos a b).mpr z)
      rw [sgn, if_neg h1, if_neg h2]
def Rl_floor : Rel := fun zs0 Pz => ∃ (a : Rat) (n : Nat), zs0 = [fr a] ∧ (Bd n a ∧ n ≤ 9000) ∧ Pz = (fun e => e = .int a.floor)
theorem len_floor : ∀ ds Post, Rl_floor ds Post → ds.length = 1 := fun _ _ ⟨_, _, e, _⟩ => by rw [e]; rfl
theorem rl_floor {a : Rat} {n : Nat} [Bz a n] (h : n ≤ 9000 := by omega) : Rl_floor [fr a] (fun e => e = .int a.floor) := ⟨a, n, rfl, ⟨bz, h⟩, rfl⟩
theorem ok_floor_of (B : Bs K mg) : Cl P w K mg base CX0 4 "floor_of" (spP Rl_floor) [] := by
  refine cl_of (N := ["value"]) (ps := ["value"]) B.d_floor_of B.g_floor_of (by decide +kernel) (fun _ _ _ _ _ _ us hl => match us, hl with | [_], _ => rfl)
    (len_P len_floor) fun f cdv A outer s H vs Q E hr h => ?_
  have nd : (["value"] : List Str).Nodup := by decide +kernel
  refine ⟨_, PSs.nox (pss_cons (ps_expr (pe_cl (ok_check_value B) hr (by decide) pass0 (pa_cons (pv 0) pa_nil)))
  (pss_one (ps_ret (pe_op op_fdivZ (pe_ix ix_tup (pv 0) pe_int (fun _ _ => rfl)) (pe_ix ix_tup (pv 0) pe_int (fun _ _ => rfl)))))), enterP h fun C ds Post hR hrt => ?_⟩
  obtain ⟨a, n, rfl, ⟨ha, hs⟩, rfl⟩ := hR
  have ia : Bz a n := ⟨ha⟩
  show NX C _ [.val (fr a)]
  refine sq_drop (ed_call (ea_cons (ed_var rfl) ea_nil) rl_check_value) ?_
  exact nx_ret hrt (ed_rI (ed_ixT (ed_var rfl) ed_int rfl) (ed_ixT (ed_var rfl) ed_int rfl) (by first | exact dv_den | exact ⟨by decide, by decide⟩ | assumption)) (by rw [fdiv_den, Rat.floor_def])
abbrev part (a : Rat) : Rat := part0 a
theorem part_eq (a : Rat) : Dt.tup [.int (a.num % (a.den : Int)), .int (a.den : Int)] = fr (part a) := by
  have h : part a = mkRat (a.num % (a.den : Int)) a.den := by
    unfold part part0
    rw [Rat.sub_def']
    show mkRat (a.num * 1 - a.floor * a.den) (a.den * 1) = _
    rw [Int.mul_one, Nat.mul_one, Rat.floor_def, Int.emod_def, Int.mul_comm]
  have hc : (a.num % (a.den : Int)).natAbs.gcd a.den = 1 := by
    have h1 : (a.num % (a.den : Int)).natAbs.gcd a.den = Int.gcd (a.num % (a.den : Int)) (a.den : Int) := rfl
    rw [h1, Int.emod_def, Int.gcd_sub_mul_left_left]
    exact a.reduced
  have hm : mkRat (a.num % (a.den : Int)) a.den = ⟨a.num % (a.den : Int), a.den, a.den_nz, hc⟩ := by
    rw [Rat.mk_eq_mkRat]
  rw [h, hm]
  rfl
def Rl_part : Rel := fun zs0 Pz => ∃ (a : Rat), zs0 = [fr a] ∧ (True) ∧ Pz = (fun e => e = fr (part a))
theorem len_part : ∀ ds Post, Rl_part ds Post → ds.length = 1 := fun _ _ ⟨_, e, _⟩ => by rw [e]; rfl
theorem rl_part {a : Rat} : Rl_part [fr a] (fun e => e = fr (part a)) := ⟨a, rfl, trivial, rfl⟩
theorem ok_part_of (B : Bs K mg) : Cl P w K mg base CX0 4 "part_of" (spP Rl_part) [] := by
  refine cl_of (N := ["value"]) (ps := ["value"]) B.d_part_of B.g_part_of (by decide +kernel) (fun _ _ _ _ _ _ us hl => match us, hl with | [_], _ => rfl)
    (len_P len_part) fun f cdv A outer s H vs Q E hr h => ?_
  have nd : (["value"] : List Str).Nodup := by decide +kernel
  refine ⟨_, PSs.nox (pss_cons (ps_expr (pe_cl (ok_check_value B) hr (by decide) pass0 (pa_cons (pv 0) pa_nil)))
  (pss_one (ps_ret (pe_tup (pa_cons (pe_op op_modN (pe_ix ix_tup (pv 0) pe_int (fun _ _ => rfl)) (pe_ix ix_tup (pv 0) pe_int (fun _ _ => rfl))) (pa_cons (pe_ix ix_tup (pv 0) pe_int (fun _ _ => rfl)) pa_nil)))))), enterP h fun C ds Post hR hrt => ?_⟩
  obtain ⟨a, rfl, _, rfl⟩ := hR
  show NX C _ [.val (fr a)]
  refine sq_drop (ed_call (ea_cons (ed_var rfl) ea_nil) rl_check_value) ?_
  exact nx_ret hrt (ed_tup (ea_cons (ed_rI (ed_ixT (ed_var rfl) ed_int rfl) (ed_ixT (ed_var rfl) ed_int rfl) (by first | decide | exact den_ne _ | assumption)) (ea_cons (ed_ixT (ed_var rfl) ed_int rfl) ea_nil))) (by rw [fmod_den]; exact part_eq a)
end
end Wk
-- D5
namespace Wk
open PySem PySem.Spec
open PyProof.Rows L2
section
variable {P : Program}
variable {w : World} {K : PySem.W.Frag} {mg : Str → Option Value} {base : Heap}
theorem ok_law_gcd (B : Bs K mg) : Cl P w K mg base CX0 1 "_law_gcd" (spP Rl_gcd) [] := by
  refine cl_of (N := ["_law_left", "_law_right"]) (ps := ["_law_left", "_law_right"]) B.d_law_gcd B.g_law_gcd (by decide +kernel) (fun _ _ _ _ _ _ us hl => match us, hl with | [_, _], _ => rfl)
    (len_P len_gcd) fun f cdv A outer s H vs Q E hr h => ?_
  have nd : (["_law_left", "_law_right"] : List Str).Nodup := by decide +kernel
  refine ⟨_, PSs.nox (pss_cons (ps_par (i := 0) (j := 1) (by rfl) nd rfl rfl (by decide) rfl rfl (pa_cons (pe_callB call_abs (by rfl) B.z_abs (by decide +kernel) (pa_cons (pv 0) pa_nil)) (pa_cons (pe_callB call_abs (by rfl) B.z_abs (by decide +kernel) (pa_cons (pv 1) pa_nil)) pa_nil)) (by rfl))
  (pss_cons (ps_while PassesOwn.never (pt_cmpR op_gt (pv 1) pe_int (nomark _)) (pss_one (ps_par (i := 0) (j := 1) (by rfl) nd rfl rfl (by decide) rfl rfl (pa_cons (pv 1) (pa_cons (pe_op op_modN (pe_callTy call_int1 (by rfl) B.z_int (by decide +kernel) (pa_cons (pv 0) pa_nil)) (pv 1)) pa_nil)) (by rfl))))
  (pss_one (ps_ret (pv 0))))), enterP h fun C ds Post hR hrt => ?_⟩
  obtain ⟨a, b, rfl, _, rfl⟩ := hR
  show NX C _ [.val (.int a), .val (.int b)]
  refine sq_par (ea_cons (ed_abs (ed_var rfl)) (ea_cons (ed_abs (ed_var rfl)) ea_nil)) ?_
  refine sq_while (fun x : Nat × Nat => [.val (.int (x.1 : Int)), .val (.int (x.2 : Int))]) (fun x => Nat.gcd x.1 x.2 = Int.gcd a b) (fun x => x.2) (a.natAbs, b.natAbs) rfl (.refl _) ?_
  rintro ⟨x, y⟩ hg
  refine ⟨_, etd_test (ed_cmp (ed_var rfl) ed_int), fun hb N hN => ?_, fun hb => ?_⟩
  · have hy : y ≠ 0 := fun e => by
      subst e
      have hb2 : (0 : Int) < ((0 : Nat) : Int) := of_decide_eq_true hb
      omega
    refine nx_par (ea_cons (ed_var rfl) (ea_cons (ed_rI (ed_intI (ed_var rfl)) (ed_var rfl) (by show (y : Int) ≠ 0; omega)) ea_nil)) ?_
    have e : (x : Int).fmod (y : Int) = ((x % y : Nat) : Int) := by
      (rw [Int.fmod_eq_emod_of_nonneg _ (by omega)])
      rfl
    rw [e]
    exact hN (y, x % y) (by show Nat.gcd y (x % y) = _; rw [← hg, Nat.gcd_comm x y, Nat.gcd_rec y x, Nat.gcd_comm]) (Nat.mod_lt _ (Nat.pos_of_ne_zero hy))
  · have hy : y = 0 := by
      have hb' := of_decide_eq_false hb
      have hb2 : ¬ (0 : Int) < (y : Int) := hb'
      omega
    subst hy
    refine nx_ret hrt (ed_var rfl) ?_
    show Dt.int (x : Int) = .int _
    rw [← hg]
    simp
theorem ok_law_lowest (B : Bs K mg) : Cl P w K mg base CX0 2 "_law_lowest" (spP Rl_lowest) [] := by
  refine cl_of (N := ["_law_top", "_law_bottom", "_law_common"]) (ps := ["_law_top", "_law_bottom"]) B.d_law_lowest B.g_law_lowest (by decide +kernel) (fun _ _ _ _ _ _ us hl => match us, hl with | [_, _], _ => rfl)
    (len_P len_lowest) fun f cdv A outer s H vs Q E hr h => ?_
  have nd : (["_law_top", "_law_bottom", "_law_common"] : List Str).Nodup := by decide +kernel
  refine ⟨_, PSs.nox (pss_cons (ps_if (pt_cmpR op_eq (pv 1) pe_int (nomark _)) (pss_one (ps_ret (pe_tup (pa_cons pe_int (pa_cons pe_int pa_nil))))) pss_nil)
  (pss_cons (ps_set (i := 2) nd rfl (by first | exact Or.inl rfl | exact Or.inr rfl) (pe_op op_mulW (pe_cl (ok_law_gcd B) hr (by decide) pass0 (pa_cons (pv 0) (pa_cons (pv 1) pa_nil))) (pe_op op_sub pe_int (pe_op op_mul pe_int (pe_callTy call_int1 (by rfl) B.z_int (by decide +kernel) (pa_cons (pe_cmpR op_lt (pv 1) pe_int (nomark _)) pa_nil))))))
  (pss_one (ps_ret (pe_tup (pa_cons (pe_op op_fdivZ (pv 0) (pv 2)) (pa_cons (pe_op op_fdivZ (pv 1) (pv 2)) pa_nil))))))), enterP h fun C ds Post hR hrt => ?_⟩
  obtain ⟨n, d, rfl, ⟨h0, h1⟩, rfl⟩ := hR
  show NX C _ [.val (.int n), .val (.int d), .no]
  refine sq_no (etd_test (ed_eqI (ed_var rfl) ed_int)) (decide_eq_false h0) ?_
  have hg : (Int.gcd n d : Nat) ≠ 0 := fun z => h0 (Int.gcd_eq_zero_iff.mp z).2
  have hle : (Int.gcd n d : Nat) ≤ d.natAbs := Nat.le_of_dvd (by omega) (Int.gcd_dvd_natAbs_right n d)
  have hz : ∀ s : Int, s.natAbs = Int.gcd n d → ∀ i, CDivZ i s := fun s hs i => dv_int (by omega) (by rw [hs]; exact Nat.lt_of_le_of_lt hle h1) (Nat.le_refl _)
  have ek := lowest_eq (n := n) (d := d) h0
  refine sq_asg (d := .int (if d < 0 then -((Int.gcd n d : Nat) : Int) else ((Int.gcd n d : Nat) : Int))) ((ed_rI (ed_call (ea_cons (ed_var rfl) (ea_cons (ed_var rfl) ea_nil)) rl_gcd) (ed_rI0 ed_int (ed_rI ed_int (ed_intB (ed_cmp (ed_var rfl) ed_int)) (.inl (by decide)))) ?_).is ?_) ?_
  · refine mw_ii (n := 9000) (m := 2) (by rw [Int.natAbs_natCast]; exact Nat.lt_of_le_of_lt hle h1) ?_ (by decide) (by decide) (by decide)
    split <;> decide
  · by_cases hd : d < 0
    · rw [if_pos hd, decide_eq_true hd]
      show Dt.int (_ * (1 - 2 * 1)) = _
      congr 1
      omega
    · rw [if_neg hd, decide_eq_false hd]
      show Dt.int (_ * (1 - 2 * 0)) = _
      congr 1
      omega
  · exact nx_ret hrt (ed_tup (ea_cons (ed_rI (ed_var rfl) (ed_var rfl) (hz _ (by split <;> omega) _)) (ea_cons (ed_rI (ed_var rfl) (ed_var rfl) (hz _ (by split <;> omega) _)) ea_nil))) ek
theorem ok_law_plus (B : Bs K mg) : Cl P w K mg base CX0 3 "_law_plus" (spP Rl_plus) [] := by
  refine cl_of (N := ["_law_left", "_law_right"]) (ps := ["_law_left", "_law_right"]) B.d_law_plus B.g_law_plus (by decide +kernel) (fun _ _ _ _ _ _ us hl => match us, hl with | [_, _], _ => rfl)
    (len_P len_plus) fun f cdv A outer s H vs Q E hr h => ?_
  have nd : (["_law_left", "_law_right"] : List Str).Nodup := by decide +kernel
  refine ⟨_, PSs.nox (pss_one (ps_ret (pe_cl (ok_law_lowest B) hr (by decide) pass0 (pa_cons (pe_op op_add (pe_op op_mulW (pe_ix ix_tup (pv 0) pe_int (fun _ _ => rfl)) (pe_ix ix_tup (pv 1) pe_int (fun _ _ => rfl))) (pe_op op_mulW (pe_ix ix_tup (pv 1) pe_int (fun _ _ => rfl)) (pe_ix ix_tup (pv 0) pe_int (fun _ _ => rfl)))) (pa_cons (pe_op op_mulW (pe_ix ix_tup (pv 0) pe_int (fun _ _ => rfl)) (pe_ix ix_tup (pv 1) pe_int (fun _ _ => rfl))) pa_nil))))), enterP h fun C ds Post hR hrt => ?_⟩
  obtain ⟨a, b, n, m, rfl, ⟨ha, hb, hs⟩, rfl⟩ := hR
  have ia : Bz a n := ⟨ha⟩
  have ib : Bz b m := ⟨hb⟩
  show NX C _ [.val (fr a), .val (fr b)]
  exact nx_ret hrt (ed_call (ea_cons (ed_rI0 (ed_rI (ed_ixT (ed_var rfl) ed_int rfl) (ed_ixT (ed_var rfl) ed_int rfl) (by first | exact .inr ⟨by decide, by decide⟩ | exact mw_nd | exact mw_nn | exact mw_dn | exact mw_dd | assumption)) (ed_rI (ed_ixT (ed_var rfl) ed_int rfl) (ed_ixT (ed_var rfl) ed_int rfl) (by first | exact .inr ⟨by decide, by decide⟩ | exact mw_nd | exact mw_nn | exact mw_dn | exact mw_dd | assumption))) (ea_cons (ed_rI (ed_ixT (ed_var rfl) ed_int rfl) (ed_ixT (ed_var rfl) ed_int rfl) (by first | exact .inr ⟨by decide, by decide⟩ | exact mw_nd | exact mw_nn | exact mw_dn | exact mw_dd | assumption)) ea_nil)) (rl_lowest (dd_ne a b) (dd_sz hs))) (congrArg fr (add_eq a b))
theorem ok_law_minus (B : Bs K mg) : Cl P w K mg base CX0 3 "_law_minus" (spP Rl_minus) [] := by
  refine cl_of (N := ["_law_left", "_law_right"]) (ps := ["_law_left", "_law_right"]) B.d_law_minus B.g_law_minus (by decide +kernel) (fun _ _ _ _ _ _ us hl => match us, hl with | [_, _], _ => rfl)
    (len_P len_minus) fun f cdv A outer s H vs Q E hr h => ?_
  have nd : (["_law_left", "_law_right"] : List Str).Nodup := by decide +kernel
  refine ⟨_, PSs.nox (pss_one (ps_ret (pe_cl (ok_law_lowest B) hr (by decide) pass0 (pa_cons (pe_op op_sub (pe_op op_mulW (pe_ix ix_tup (pv 0) pe_int (fun _ _ => rfl)) (pe_ix ix_tup (pv 1) pe_int (fun _ _ => rfl))) (pe_op op_mulW (pe_ix ix_tup (pv 1) pe_int (fun _ _ => rfl)) (pe_ix ix_tup (pv 0) pe_int (fun _ _ => rfl)))) (pa_cons (pe_op op_mulW (pe_ix ix_tup (pv 0) pe_int (fun _ _ => rfl)) (pe_ix ix_tup (pv 1) pe_int (fun _ _ => rfl))) pa_nil))))), enterP h fun C ds Post hR hrt => ?_⟩
  obtain ⟨a, b, n, m, rfl, ⟨ha, hb, hs⟩, rfl⟩ := hR
  have ia : Bz a n := ⟨ha⟩
  have ib : Bz b m := ⟨hb⟩
  show NX C _ [.val (fr a), .val (fr b)]
  exact nx_ret hrt (ed_call (ea_cons (ed_rI0 (ed_rI (ed_ixT (ed_var rfl) ed_int rfl) (ed_ixT (ed_var rfl) ed_int rfl) (by first | exact .inr ⟨by decide, by decide⟩ | exact mw_nd | exact mw_nn | exact mw_dn | exact mw_dd | assumption)) (ed_rI (ed_ixT (ed_var rfl) ed_int rfl) (ed_ixT (ed_var rfl) ed_int rfl) (by first | exact .inr ⟨by decide, by decide⟩ | exact mw_nd | exact mw_nn | exact mw_dn | exact mw_dd | assumption))) (ea_cons (ed_rI (ed_ixT (ed_var rfl) ed_int rfl) (ed_ixT (ed_var rfl) ed_int rfl) (by first | exact .inr ⟨by decide, by decide⟩ | exact mw_nd | exact mw_nn | exact mw_dn | exact mw_dd | assumption)) ea_nil)) (rl_lowest (dd_ne a b) (dd_sz hs))) (congrArg fr (sub_eq a b))
theorem ok_law_times (B : Bs K mg) : Cl P w K mg base CX0 3 "_law_times" (spP Rl_times) [] := by
  refine cl_of (N := ["_law_left", "_law_right"]) (ps := ["_law_left", "_law_right"]) B.d_law_times B.g_law_times (by decide +kernel) (fun _ _ _ _ _ _ us hl => match us, hl with | [_, _], _ => rfl)
    (len_P len_times) fun f cdv A outer s H vs Q E hr h => ?_
  have nd : (["_law_left", "_law_right"] : List Str).Nodup := by decide +kernel
  refine ⟨_, PSs.nox (pss_one (ps_ret (pe_cl (ok_law_lowest B) hr (by decide) pass0 (pa_cons (pe_op op_mulW (pe_ix ix_tup (pv 0) pe_int (fun _ _ => rfl)) (pe_ix ix_tup (pv 1) pe_int (fun _ _ => rfl))) (pa_cons (pe_op op_mulW (pe_ix ix_tup (pv 0) pe_int (fun _ _ => rfl)) (pe_ix ix_tup (pv 1) pe_int (fun _ _ => rfl))) pa_nil))))), enterP h fun C ds Post hR hrt => ?_⟩
  obtain ⟨a, b, n, m, rfl, ⟨ha, hb, hs⟩, rfl⟩ := hR
  have ia : Bz a n := ⟨ha⟩
  have ib : Bz b m := ⟨hb⟩
  show NX C _ [.val (fr a), .val (fr b)]
  exact nx_ret hrt (ed_call (ea_cons (ed_rI (ed_ixT (ed_var rfl) ed_int rfl) (ed_ixT (ed_var rfl) ed_int rfl) (by first | exact .inr ⟨by decide, by decide⟩ | exact mw_nd | exact mw_nn | exact mw_dn | exact mw_dd | assumption)) (ea_cons (ed_rI (ed_ixT (ed_var rfl) ed_int rfl) (ed_ixT (ed_var rfl) ed_int rfl) (by first | exact .inr ⟨by decide, by decide⟩ | exact mw_nd | exact mw_nn | exact mw_dn | exact mw_dd | assumption)) ea_nil)) (rl_lowest (dd_ne a b) (dd_sz hs))) (congrArg fr (mul_eq a b))
theorem ok_law_over (B : Bs K mg) : Cl P w K mg base CX0 3 "_law_over" (spP Rl_over) [] := by
  refine cl_of (N := ["_law_left", "_law_right"]) (ps := ["_law_left", "_law_right"]) B.d_law_over B.g_law_over (by decide +kernel) (fun _ _ _ _ _ _ us hl => match us, hl with | [_, _], _ => rfl)
    (len_P len_over) fun f cdv A outer s H vs Q E hr h => ?_
  have nd : (["_law_left", "_law_right"] : List Str).Nodup := by decide +kernel
  refine ⟨_, PSs.nox (pss_one (ps_ret (pe_cl (ok_law_lowest B) hr (by decide) pass0 (pa_cons (pe_op op_mulW (pe_ix ix_tup (pv 0) pe_int (fun _ _ => rfl)) (pe_ix ix_tup (pv 1) pe_int (fun _ _ => rfl))) (pa_cons (pe_op op_mulW (pe_ix ix_tup (pv 0) pe_int (fun _ _ => rfl)) (pe_ix ix_tup (pv 1) pe_int (fun _ _ => rfl))) pa_nil))))), enterP h fun C ds Post hR hrt => ?_⟩
  obtain ⟨a, b, n, m, rfl, ⟨h0, ha, hb, hs⟩, rfl⟩ := hR
  have ia : Bz a n := ⟨ha⟩
  have ib : Bz b m := ⟨hb⟩
  have hn : b.num ≠ 0 := fun z => h0 (Rat.num_eq_zero.mp z)
  show NX C _ [.val (fr a), .val (fr b)]
  exact nx_ret hrt (ed_call (ea_cons (ed_rI (ed_ixT (ed_var rfl) ed_int rfl) (ed_ixT (ed_var rfl) ed_int rfl) (by first | exact .inr ⟨by decide, by decide⟩ | exact mw_nd | exact mw_nn | exact mw_dn | exact mw_dd | assumption)) (ea_cons (ed_rI (ed_ixT (ed_var rfl) ed_int rfl) (ed_ixT (ed_var rfl) ed_int rfl) (by first | exact .inr ⟨by decide, by decide⟩ | exact mw_nd | exact mw_nn | exact mw_dn | exact mw_dd | assumption)) ea_nil)) (rl_lowest (Int.mul_ne_zero (den_ne a) hn) (dn_sz hs))) (congrArg fr (div_eq a b))
theorem rl_law_sign {a b : Rat} {n m : Nat} [Bz a n] [Bz b m] (h : n + m ≤ 9000 := by omega) : Rl_compare [fr a, fr b] (fun e => e = .int (sgn a b)) := rl_compare h
theorem ok_law_sign (B : Bs K mg) : Cl P w K mg base CX0 1 "_law_sign" (spP Rl_compare) [] := by
  refine cl_of (N := ["_law_left", "_law_right", "_law_gap"]) (ps := ["_law_left", "_law_right"]) B.d_law_sign B.g_law_sign (by decide +kernel) (fun _ _ _ _ _ _ us hl => match us, hl with | [_, _], _ => rfl)
    (len_P len_compare) fun f cdv A outer s H vs Q E hr h => ?_
  have nd : (["_law_left", "_law_right", "_law_gap"] : List Str).Nodup := by decide +kernel
  refine ⟨_, PSs.nox (pss_cons (ps_set (i := 2) nd rfl (by first | exact Or.inl rfl | exact Or.inr rfl) (pe_op op_sub (pe_op op_mulW (pe_ix ix_tup (pv 0) pe_int (fun _ _ => rfl)) (pe_ix ix_tup (pv 1) pe_int (fun _ _ => rfl))) (pe_op op_mulW (pe_ix ix_tup (pv 1) pe_int (fun _ _ => rfl)) (pe_ix ix_tup (pv 0) pe_int (fun _ _ => rfl)))))
  (pss_one (ps_ret (pe_op op_sub (pe_callTy call_int1 (by rfl) B.z_int (by decide +kernel) (pa_cons (pe_cmpR op_gt (pv 2) pe_int (nomark _)) pa_nil)) (pe_callTy call_int1 (by rfl) B.z_int (by decide +kernel) (pa_cons (pe_cmpR op_lt (pv 2) pe_int (nomark _)) pa_nil)))))), enterP h fun C ds Post hR hrt => ?_⟩
  obtain ⟨a, b, n, m, rfl, ⟨ha, hb, hs⟩, rfl⟩ := hR
  have ia : Bz a n := ⟨ha⟩
  have ib : Bz b m := ⟨hb⟩
  show NX C _ [.val (fr a), .val (fr b), .no]
  refine sq_asg (ed_rI0 (ed_rI (ed_ixT (ed_var rfl) ed_int rfl) (ed_ixT (ed_var rfl) ed_int rfl) (by first | exact .inr ⟨by decide, by decide⟩ | exact mw_nd | exact mw_nn | exact mw_dn | exact mw_dd | assumption)) (ed_rI (ed_ixT (ed_var rfl) ed_int rfl) (ed_ixT (ed_var rfl) ed_int rfl) (by first | exact .inr ⟨by decide, by decide⟩ | exact mw_nd | exact mw_nn | exact mw_dn | exact mw_dd | assumption))) ?_
  refine nx_ret hrt (ed_rI0 (ed_intB (ed_cmp (ed_var rfl) ed_int)) (ed_intB (ed_cmp (ed_var rfl) ed_int))) ?_
  show Dt.int _ = .int (sgn a b)
  have h1 : decide (0 < a.num * (b.den : Int) - b.num * (a.den : Int)) = decide (b < a) := decide_eq_decide.mpr (cross_pos a b)
  have h2 : decide (a.num * (b.den : Int) - b.num * (a.den : Int) < 0) = decide (a < b) := decide_eq_decide.mpr (cross_neg a b)
  rw [h1, h2, sgn]
  by_cases x : a < b
  · have y : ¬ b < a := fun z => Rat.lt_irrefl (Std.lt_trans x z)
    rw [if_pos x, decide_eq_true x, decide_eq_false y]
    rfl
  · by_cases y : b < a
    · rw [if_neg x, if_pos y, decide_eq_true y, decide_eq_false x]
      rfl
    · rw [if_neg x, if_neg y, decide_eq_false y, decide_eq_false x]
      rfl
theorem ok_law_floor (B : Bs K mg) : Cl P w K mg base CX0 1 "_law_floor" (spP Rl_floor) [] := by
  refine cl_of (N := ["_law_value"]) (ps := ["_law_value"]) B.d_law_floor B.g_law_floor (by decide +kernel) (fun _ _ _ _ _ _ us hl => match us, hl with | [_], _ => rfl)
    (len_P len_floor) fun f cdv A outer s H vs Q E hr h => ?_
  have nd : (["_law_value"] : List Str).Nodup := by decide +kernel
  refine ⟨_, PSs.nox (pss_one (ps_ret (pe_op op_fdivZ (pe_ix ix_tup (pv 0) pe_int (fun _ _ => rfl)) (pe_ix ix_tup (pv 0) pe_int (fun _ _ => rfl))))), enterP h fun C ds Post hR hrt => ?_⟩
  obtain ⟨a, n, rfl, ⟨ha, hs⟩, rfl⟩ := hR
  have ia : Bz a n := ⟨ha⟩
  show NX C _ [.val (fr a)]
  exact nx_ret hrt (ed_rI (ed_ixT (ed_var rfl) ed_int rfl) (ed_ixT (ed_var rfl) ed_int rfl) (by first | exact dv_den | exact ⟨by decide, by decide⟩ | assumption)) (by rw [fdiv_den, Rat.floor_def])
theorem part_mk (a : Rat) : Rat.divInt (a.num % (a.den : Int)) (a.den : Int) = part a := by
  unfold part part0
  rw [divInt_nat, Rat.sub_def']
  show _ = mkRat (a.num * 1 - a.floor * a.den) (a.den * 1)
  rw [Int.mul_one, Nat.mul_one, Rat.floor_def, Int.emod_def, Int.mul_comm]
def Rl_lpart : Rel := fun zs0 Pz => ∃ (a : Rat) (n : Nat), zs0 = [fr a] ∧ (Bd n a ∧ n ≤ 9000) ∧ Pz = (fun e => e = fr (part a))
theorem len_lpart : ∀ ds Post, Rl_lpart ds Post → ds.length = 1 := fun _ _ ⟨_, _, e, _⟩ => by rw [e]; rfl
theorem rl_lpart {a : Rat} {n : Nat} [Bz a n] (h : n ≤ 9000 := by omega) : Rl_lpart [fr a] (fun e => e = fr (part a)) := ⟨a, n, rfl, ⟨bz, h⟩, rfl⟩
theorem den_sz {a : Rat} {n : Nat} [Bz a n] (h : n ≤ 9000) : ((a.den : Int)).natAbs < 2 ^ 9000 := by
  rw [Int.natAbs_natCast]
  exact lt_two_pow bz.2 h
theorem ok_law_part (B : Bs K mg) : Cl P w K mg base CX0 3 "_law_part" (spP Rl_lpart) [] := by
  refine cl_of (N := ["_law_value"]) (ps := ["_law_value"]) B.d_law_part B.g_law_part (by decide +kernel) (fun _ _ _ _ _ _ us hl => match us, hl with | [_], _ => rfl)
    (len_P len_lpart) fun f cdv A outer s H vs Q E hr h => ?_
  have nd : (["_law_value"] : List Str).Nodup := by decide +kernel
  refine ⟨_, PSs.nox (pss_one (ps_ret (pe_cl (ok_law_lowest B) hr (by decide) pass0 (pa_cons (pe_op op_modN (pe_callTy call_int1 (by rfl) B.z_int (by decide +kernel) (pa_cons (pe_ix ix_tup (pv 0) pe_int (fun _ _ => rfl)) pa_nil)) (pe_ix ix_tup (pv 0) pe_int (fun _ _ => rfl))) (pa_cons (pe_ix ix_tup (pv 0) pe_int (fun _ _ => rfl)) pa_nil))))), enterP h fun C ds Post hR hrt => ?_⟩
  obtain ⟨a, n, rfl, ⟨ha, hs⟩, rfl⟩ := hR
  have ia : Bz a n := ⟨ha⟩
  show NX C _ [.val (fr a)]
  exact nx_ret hrt (ed_call (ea_cons (ed_rI (ed_intI (ed_ixT (ed_var rfl) ed_int rfl)) (ed_ixT (ed_var rfl) ed_int rfl) (by first | decide | exact den_ne _ | assumption)) (ea_cons (ed_ixT (ed_var rfl) ed_int rfl) ea_nil)) (rl_lowest (den_ne a) (den_sz hs))) (by rw [fmod_den]; exact congrArg fr (part_mk a))
/-- the offset is 0 exactly for integers -/
def Rl_offset : Rel := fun zs0 Pz => ∃ (a : Rat) (n : Nat), zs0 = [fr a] ∧ (Bd n a ∧ n ≤ 8000) ∧ Pz = (fun e => ∃ q, e = fr q ∧ (q = 0 ↔ a.den = 1) ∧ Bd n q)
theorem len_offset : ∀ ds Post, Rl_offset ds Post → ds.length = 1 := fun _ _ ⟨_, _, e, _⟩ => by rw [e]; rfl
theorem rl_law_offset {a : Rat} {n : Nat} [Bz a n] (h : n ≤ 8000 := by omega) : Rl_offset [fr a] (fun e => ∃ q, e = fr q ∧ (q = 0 ↔ a.den = 1) ∧ Bd n q) := ⟨a, n, rfl, ⟨bz, h⟩, rfl⟩
theorem den1_iff (a : Rat) : a.num % (a.den : Int) = 0 ↔ a.den = 1 := by
  constructor
  · intro h
    have h1 : (a.den : Int) ∣ a.num := Int.dvd_of_emod_eq_zero h
    have h2 : a.den ∣ a.num.natAbs := by
      have := Int.natAbs_dvd_natAbs.mpr h1
      simpa using this
    have h3 := a.reduced
    have h4 : a.num.natAbs.gcd a.den = a.den := Nat.gcd_eq_right h2
    have h5 : a.num.natAbs.gcd a.den = 1 := h3
    omega
  · intro h
    rw [h]
    simp
theorem divInt_zero_iff {n : Int} {d : Nat} (h : d ≠ 0) : Rat.divInt n (d : Int) = 0 ↔ n = 0 := by
  rw [divInt_nat, Rat.mkRat_eq_zero h]
theorem ok_law_offset (B : Bs K mg) : Cl P w K mg base CX0 3 "_law_offset" (spP Rl_offset) [] := by
  refine cl_of (N := ["_law_value", "_law_top"]) (ps := ["_law_value"]) B.d_law_offset B.g_law_offset (by decide +kernel) (fun _ _ _ _ _ _ us hl => match us, hl with | [_], _ => rfl)
    (len_P len_offset) fun f cdv A outer s H vs Q E hr h => ?_
  have nd : (["_law_value", "_law_top"] : List Str).Nodup := by decide +kernel
  refine ⟨_, PSs.nox (pss_cons (ps_set (i := 1) nd rfl (by first | exact Or.inl rfl | exact Or.inr rfl) (pe_op op_modN (pe_callTy call_int1 (by rfl) B.z_int (by decide +kernel) (pa_cons (pe_ix ix_tup (pv 0) pe_int (fun _ _ => rfl)) pa_nil)) (pe_ix ix_tup (pv 0) pe_int (fun _ _ => rfl))))
  (pss_cons (ps_if (pt_cmpR op_gt (pe_op op_mul pe_int (pv 1)) (pe_ix ix_tup (pv 0) pe_int (fun _ _ => rfl)) (nomark _)) (pss_one (ps_set (i := 1) nd rfl (by first | exact Or.inl rfl | exact Or.inr rfl) (pe_op op_sub (pv 1) (pe_ix ix_tup (pv 0) pe_int (fun _ _ => rfl))))) pss_nil)
  (pss_one (ps_ret (pe_cl (ok_law_lowest B) hr (by decide) pass0 (pa_cons (pv 1) (pa_cons (pe_ix ix_tup (pv 0) pe_int (fun _ _ => rfl)) pa_nil))))))), enterP h fun C ds Post hR hrt => ?_⟩
  obtain ⟨a, n, rfl, ⟨ha, hs⟩, rfl⟩ := hR
  have ia : Bz a n := ⟨ha⟩
  have hd := a.den_pos
  have r0 : 0 ≤ a.num % (a.den : Int) := Int.emod_nonneg _ (den_ne a)
  have r1 : a.num % (a.den : Int) < (a.den : Int) := Int.emod_lt_of_pos _ (by omega)
  have dl : a.den < 2 ^ n := ha.2
  show NX C _ [.val (fr a), .no]
  refine sq_asg ((ed_rI (ed_intI (ed_ixT (ed_var rfl) ed_int rfl)) (ed_ixT (ed_var rfl) ed_int rfl) (by first | decide | exact den_ne _ | assumption)).is (congrArg Dt.int (fmod_den _ _))) ?_
  have fin : ∀ t : Int, t.natAbs < 2 ^ n → (t = 0 ↔ a.num % (a.den : Int) = 0) → ∃ q, fr (Rat.divInt t (a.den : Int)) = fr q ∧ (q = 0 ↔ a.den = 1) ∧ Bd n q := fun t ht h0 =>
    ⟨_, rfl, by rw [divInt_zero_iff a.den_nz, h0, den1_iff], by rw [divInt_nat]; exact bd_mk a.den_nz ht dl⟩
  refine sq_when (etd_test (ed_cmp (ed_rI ed_int (ed_var rfl) (.inl (by decide))) (ed_ixT (ed_var rfl) ed_int rfl))) (fun hb => ?_) fun hb => ?_
  · have hb' := of_decide_eq_true hb
    refine nx_asg (ed_rI0 (ed_var rfl) (ed_ixT (ed_var rfl) ed_int rfl)) ?_
    exact nx_ret hrt (ed_call (ea_cons (ed_var rfl) (ea_cons (ed_ixT (ed_var rfl) ed_int rfl) ea_nil)) (rl_lowest (den_ne a) (den_sz (by omega)))) (fin _ (by omega) (by omega))
  · exact nx_ret hrt (ed_call (ea_cons (ed_var rfl) (ea_cons (ed_ixT (ed_var rfl) ed_int rfl) ea_nil)) (rl_lowest (den_ne a) (den_sz (by omega)))) (fin _ (by omega) (by omega))
def Rl_distance : Rel := fun zs0 Pz => ∃ (a : Rat) (n : Nat), zs0 = [fr a] ∧ (Bd n a ∧ n ≤ 8000) ∧ Pz = (fun e => ∃ q, e = fr q ∧ 0 ≤ q ∧ (q = 0 ↔ a.den = 1) ∧ Bd n q)
theorem len_distance : ∀ ds Post, Rl_distance ds Post → ds.length = 1 := fun _ _ ⟨_, _, e, _⟩ => by rw [e]; rfl
theorem rl_law_distance {a : Rat} {n : Nat} [Bz a n] (h : n ≤ 8000 := by omega) : Rl_distance [fr a] (fun e => ∃ q, e = fr q ∧ 0 ≤ q ∧ (q = 0 ↔ a.den = 1) ∧ Bd n q) := ⟨a, n, rfl, ⟨bz, h⟩, rfl⟩
theorem ok_law_distance (B : Bs K mg) : Cl P w K mg base CX0 4 "_law_distance" (spP Rl_distance) [] := by
  refine cl_of (N := ["_law_value", "_law_offset_here"]) (ps := ["_law_value"]) B.d_law_distance B.g_law_distance (by decide +kernel) (fun _ _ _ _ _ _ us hl => match us, hl with | [_], _ => rfl)
    (len_P len_distance) fun f cdv A outer s H vs Q E hr h => ?_
  have nd : (["_law_value", "_law_offset_here"] : List Str).Nodup := by decide +kernel
  refine ⟨_, PSs.nox (pss_cons (ps_set (i := 1) nd rfl (by first | exact Or.inl rfl | exact Or.inr rfl) (pe_cl (ok_law_offset B) hr (by decide) pass0 (pa_cons (pv 0) pa_nil)))
  (pss_one (ps_ret (pe_tup (pa_cons (pe_callB call_abs (by rfl) B.z_abs (by decide +kernel) (pa_cons (pe_ix ix_tup (pv 1) pe_int (fun _ _ => rfl)) pa_nil)) (pa_cons (pe_ix ix_tup (pv 1) pe_int (fun _ _ => rfl)) pa_nil)))))), enterP h fun C ds Post hR hrt => ?_⟩
  obtain ⟨a, n, rfl, ⟨ha, hs⟩, rfl⟩ := hR
  have ia : Bz a n := ⟨ha⟩
  show NX C _ [.val (fr a), .no]
  refine sq_asgN (en_callD (ea_cons (ed_var rfl) ea_nil) (rl_law_offset (a := a) (n := n) hs)) ?_
  rintro d ⟨q, rfl, h0, hq⟩
  refine nx_ret hrt (ed_tup (ea_cons (ed_abs (ed_ixT (ed_var rfl) ed_int rfl)) (ea_cons (ed_ixT (ed_var rfl) ed_int rfl) ea_nil))) ?_
  by_cases hn : q.num < 0
  · refine ⟨-q, ?_, ?_, ?_, hq.neg⟩
    · show Dt.tup [.int (q.num.natAbs : Int), .int (q.den : Int)] = .tup [.int (-q.num), .int (q.den : Int)]
      rw [show (q.num.natAbs : Int) = -q.num by omega]
    · rw [← Rat.num_nonneg, Rat.neg_num]
      omega
    · rw [← h0, ← Rat.num_eq_zero, Rat.neg_num, ← Rat.num_eq_zero]
      omega
  · refine ⟨q, ?_, ?_, h0, hq⟩
    · show Dt.tup [.int (q.num.natAbs : Int), .int (q.den : Int)] = .tup [.int q.num, .int (q.den : Int)]
      rw [show (q.num.natAbs : Int) = q.num by omega]
    · rw [← Rat.num_nonneg]
      omega
def Rl_turns : Rel := fun zs0 Pz => ∃ (r s t : Rat) (k n m : Nat), zs0 = [.tup [fr r, fr s], fr t] ∧ (Bd k r ∧ Bd n s ∧ Bd m t ∧ k + n + m ≤ 8000) ∧ Pz = (fun e => e = fr (s + r * t))
theorem len_turns : ∀ ds Post, Rl_turns ds Post → ds.length = 2 := fun _ _ ⟨_, _, _, _, _, _, e, _⟩ => by rw [e]; rfl
theorem rl_turns {r s t : Rat} {k n m : Nat} [Bz r k] [Bz s n] [Bz t m] (h : k + n + m ≤ 8000 := by omega) : Rl_turns [.tup [fr r, fr s], fr t] (fun e => e = fr (s + r * t)) := ⟨r, s, t, k, n, m, rfl, ⟨bz, bz, bz, h⟩, rfl⟩
theorem ok_law_turns (B : Bs K mg) : Cl P w K mg base CX0 4 "_law_turns" (spP Rl_turns) [] := by
  refine cl_of (N := ["_law_row", "_law_moment_here"]) (ps := ["_law_row", "_law_moment_here"]) B.d_law_turns B.g_law_turns (by decide +kernel) (fun _ _ _ _ _ _ us hl => match us, hl with | [_, _], _ => rfl)
    (len_P len_turns) fun f cdv A outer s H vs Q E hr h => ?_
  have nd : (["_law_row", "_law_moment_here"] : List Str).Nodup := by decide +kernel
  refine ⟨_, PSs.nox (pss_one (ps_ret (pe_cl (ok_law_plus B) hr (by decide) pass0 (pa_cons (pe_ix ix_tup (pv 0) pe_int (fun _ _ => rfl)) (pa_cons (pe_cl (ok_law_times B) hr (by decide) pass0 (pa_cons (pe_ix ix_tup (pv 0) pe_int (fun _ _ => rfl)) (pa_cons (pv 1) pa_nil))) pa_nil))))), enterP h fun C ds Post hR hrt => ?_⟩
  obtain ⟨r, s, t, k, n, m, rfl, ⟨h1, h2, h3, hs⟩, rfl⟩ := hR
  have i1 : Bz r k := ⟨h1⟩
  have i2 : Bz s n := ⟨h2⟩
  have i3 : Bz t m := ⟨h3⟩
  show NX C _ [.val (.tup [fr r, fr s]), .val (fr t)]
  exact nx_ret hrt (ed_call (ea_cons (ed_ixT (ed_var rfl) ed_int rfl) (ea_cons (ed_call (ea_cons (ed_ixT (ed_var rfl) ed_int rfl) (ea_cons (ed_var rfl) ea_nil)) rl_times) ea_nil)) rl_plus) rfl
end
end Wk
-- D6
namespace Wk
open PySem PySem.Spec
open PyProof.Rows L2
section
variable {P : Program}
variable {w : World} {K : PySem.W.Frag} {mg : Str → Option Value} {base : Heap}
def Rl_law_mixed : Rel := fun zs0 Pz => ∃ (a b : Int), zs0 = [.int a, .int b] ∧ (True) ∧ Pz = (fun e => ∃ v, e = .int v)
theorem len_law_mixed : ∀ ds Post, Rl_law_mixed ds Post → ds.length = 2 := fun _ _ ⟨_, _, e, _⟩ => by rw [e]; rfl
theorem rl_law_mixed {a b : Int} : Rl_law_mixed [.int a, .int b] (fun e => ∃ v, e = .int v) := ⟨a, b, rfl, trivial, rfl⟩
theorem fmod_bd (a : Int) {m : Int} (h : 0 < m) : 0 ≤ a.fmod m ∧ a.fmod m < m := by
  rw [Int.fmod_eq_emod_of_nonneg _ (Int.le_of_lt h)]
  exact ⟨Int.emod_nonneg _ (by omega), Int.emod_lt_of_pos _ h⟩
theorem cmul_small {i j : Int} (h0 : 0 ≤ i) (h1 : i < 2147483647) : CMul i j := .inl ⟨by omega, by omega⟩
theorem ok_law_mixed (B : Bs K mg) : Cl P w K mg base CX0 1 "_law_mixed" (spP Rl_law_mixed) [] := by
  refine cl_of (N := ["_law_number", "_law_turn", "_law_value"]) (ps := ["_law_number", "_law_turn"]) B.d_law_mixed B.g_law_mixed (by decide +kernel) (fun _ _ _ _ _ _ us hl => match us, hl with | [_, _], _ => rfl)
    (len_P len_law_mixed) fun f cdv A outer s H vs Q E hr h => ?_
  have nd : (["_law_number", "_law_turn", "_law_value"] : List Str).Nodup := by decide +kernel
  refine ⟨_, PSs.nox (pss_cons (ps_set (i := 2) nd rfl (by first | exact Or.inl rfl | exact Or.inr rfl) (pe_op op_modN (pe_op op_add (pe_op op_add (pe_op op_mul (pe_op op_modN (pe_callTy call_int1 (by rfl) B.z_int (by decide +kernel) (pa_cons (pv 0) pa_nil)) pe_int) pe_int) (pe_op op_mul (pv 1) pe_int)) pe_int) pe_int))
  (pss_cons (ps_set (i := 2) nd rfl (by first | exact Or.inl rfl | exact Or.inr rfl) (pe_op op_modN (pe_op op_add (pe_op op_add (pe_op op_add (pe_op op_mul (pv 2) (pv 2)) (pe_op op_mul (pv 2) pe_int)) (pe_op op_mul (pv 1) pe_int)) pe_int) pe_int))
  (pss_cons (ps_set (i := 2) nd rfl (by first | exact Or.inl rfl | exact Or.inr rfl) (pe_op op_modN (pe_op op_add (pe_op op_add (pe_op op_mul (pv 2) pe_int) (pe_op op_fdivZ (pv 2) pe_int)) pe_int) pe_int))
  (pss_cons (ps_set (i := 2) nd rfl (by first | exact Or.inl rfl | exact Or.inr rfl) (pe_op op_modN (pe_op op_add (pe_op op_mul (pv 2) (pv 2)) (pv 1)) pe_int))
  (pss_one (ps_ret (pe_op op_fdivZ (pv 2) pe_int))))))), enterP h fun C ds Post hR hrt => ?_⟩
  obtain ⟨a, b, rfl, _, rfl⟩ := hR
  show NX C _ [.val (.int a), .val (.int b), .no]
  refine sq_asg (ed_rI (ed_rI0 (ed_rI0 (ed_rI (ed_rI (ed_intI (ed_var rfl)) ed_int (by first | decide | exact den_ne _ | assumption)) ed_int (by first | exact .inr ⟨by decide, by decide⟩ | exact mw_nd | exact mw_nn | exact mw_dn | exact mw_dd | assumption)) (ed_rI (ed_var rfl) ed_int (by first | exact .inr ⟨by decide, by decide⟩ | exact mw_nd | exact mw_nn | exact mw_dn | exact mw_dd | assumption))) ed_int) ed_int (by first | decide | exact den_ne _ | assumption)) ?_
  have b1 := fmod_bd (a.fmod 2147483629 * 48271 + b * 40692 + 69621) (m := 2147483647) (by decide)
  generalize (a.fmod 2147483629 * 48271 + b * 40692 + 69621).fmod 2147483647 = v1 at b1 ⊢
  have c1 : CMul v1 v1 := cmul_small b1.1 b1.2
  refine sq_asg (ed_rI (ed_rI0 (ed_rI0 (ed_rI0 (ed_rI (ed_var rfl) (ed_var rfl) (by first | exact .inr ⟨by decide, by decide⟩ | exact mw_nd | exact mw_nn | exact mw_dn | exact mw_dd | assumption)) (ed_rI (ed_var rfl) ed_int (by first | exact .inr ⟨by decide, by decide⟩ | exact mw_nd | exact mw_nn | exact mw_dn | exact mw_dd | assumption))) (ed_rI (ed_var rfl) ed_int (by first | exact .inr ⟨by decide, by decide⟩ | exact mw_nd | exact mw_nn | exact mw_dn | exact mw_dd | assumption))) ed_int) ed_int (by first | decide | exact den_ne _ | assumption)) ?_
  generalize (v1 * v1 + v1 * 16807 + b * 69997 + 12820163).fmod 2147483629 = v2
  refine sq_asg (ed_rI (ed_rI0 (ed_rI0 (ed_rI (ed_var rfl) ed_int (by first | exact .inr ⟨by decide, by decide⟩ | exact mw_nd | exact mw_nn | exact mw_dn | exact mw_dd | assumption)) (ed_rI (ed_var rfl) ed_int (by first | exact dv_den | exact ⟨by decide, by decide⟩ | assumption))) ed_int) ed_int (by first | decide | exact den_ne _ | assumption)) ?_
  have b3 := fmod_bd (v2 * 48271 + v2.fdiv 32768 + 7) (m := 2147483647) (by decide)
  generalize (v2 * 48271 + v2.fdiv 32768 + 7).fmod 2147483647 = v3 at b3 ⊢
  have c3 : CMul v3 v3 := cmul_small b3.1 b3.2
  refine sq_asg (ed_rI (ed_rI0 (ed_rI (ed_var rfl) (ed_var rfl) (by first | exact .inr ⟨by decide, by decide⟩ | exact mw_nd | exact mw_nn | exact mw_dn | exact mw_dd | assumption)) (ed_var rfl)) ed_int (by first | decide | exact den_ne _ | assumption)) ?_
  exact nx_ret hrt (ed_rI (ed_var rfl) ed_int (by first | exact dv_den | exact ⟨by decide, by decide⟩ | assumption)) ⟨_, rfl⟩
/-- the store that is made of the script -/
def spStore (K : PySem.W.Frag) : Sp := fun vs H Q _ => ∃ (a : Addr) (ns : List Int), vs = [.ref a] ∧ SqL K H a (ns.map V.int) ∧ ns.length ≤ 63 ∧
  ∀ p q H' (z : Int), H p = none → H q = none → p ≠ q → Same H H' → H' q = some (.lst (ns.map V.int)) → H' p = some (.lst [.ref q, .int 0, .int 0, .int 0, .int z, .int 0, .int 0]) → Q (.ref p) H'
theorem ok_law_store (B : Bs K mg) : Cl P w K mg base CX0 1 "_law_store" (spStore K) [] := by
  refine cl_of (N := ["_law_script", "_law_seed", "_law_cell"]) (ps := ["_law_script"]) B.d_law_store B.g_law_store (by decide +kernel) (fun _ _ _ _ _ _ us hl => match us, hl with | [_], _ => rfl)
    (fun vs H Q E h => by obtain ⟨a, ns, rfl, _⟩ := h; rfl) fun f cdv A outer s H vs Q E hr h => ?_
  have nd : (["_law_script", "_law_seed", "_law_cell"] : List Str).Nodup := by decide +kernel
  refine ⟨_, PSs.nox (pss_cons (ps_set (i := 1) nd rfl (by first | exact Or.inl rfl | exact Or.inr rfl) (pe_op op_add (pe_callB call_len_seq (by rfl) B.z_len (by decide +kernel) (pa_cons (pv 0) pa_nil)) pe_int))
  (pss_cons (ps_for PassesOwn.never rfl (pi_list (pv 0)) (pg_name (i := 2) nd rfl (by first | exact Or.inl rfl | exact Or.inr rfl)) (pss_one (ps_set (i := 1) nd rfl (by first | exact Or.inl rfl | exact Or.inr rfl) (pe_op op_modN (pe_op op_add (pe_op op_add (pe_op op_mul (pv 1) pe_int) (pe_op op_modN (pe_callTy call_int1 (by rfl) B.z_int (by decide +kernel) (pa_cons (pv 2) pa_nil)) pe_int)) pe_int) pe_int))))
  (pss_one (ps_ret (pe_lst (pa_cons (pe_callTy call_list_of (by rfl) B.z_list (by decide +kernel) (pa_cons (pv 0) pa_nil)) (pa_cons pe_int (pa_cons pe_int (pa_cons pe_int (pa_cons (pv 1) (pa_cons pe_int (pa_cons pe_int pa_nil)))))))))))), ?_⟩
  obtain ⟨a, ns, rfl, hS, hl, hq⟩ := h
  refine ⟨.ref a, rfl, a, ns.map V.int, rfl, .inl hS, _, _, rfl, rfl, ?_⟩
  refine ⟨.ref a, rfl, a, rfl, ⟨_, hS⟩, for_list (xs := ns.map V.int) (fun i σ H' => ∃ (z : Int) (y : Option V), σ = [some (.ref a), some (.int z), y] ∧ H' = H) ⟨_, _, rfl, rfl⟩ ?_ ?_ ?_⟩
  · rintro i σ H' _ ⟨z, y, rfl, rfl⟩
    exact hS
  · rintro i x σ H' hx ⟨z, y, rfl, rfl⟩
    rw [List.getElem?_map] at hx
    cases e : ns[i]? with
    | none =>
      rw [e] at hx
      cases hx
    | some c =>
      rw [e] at hx
      cases Option.some.inj hx
      refine ⟨_, rfl, _, _, rfl, rfl, .inr ⟨by decide, by decide⟩, ?_⟩
      refine ⟨_, rfl, .inl ⟨c, rfl, _, _, rfl, rfl, (by show (2147483629 : Int) ≠ 0; decide), ?_⟩⟩
      exact ⟨_, _, rfl, rfl, _, _, rfl, rfl, _, _, rfl, rfl, (by show (2147483647 : Int) ≠ 0; decide), _, _, rfl, rfl⟩
  · rintro σ H' ⟨z, y, rfl, rfl⟩
    refine ⟨.ref a, rfl, a, ns.map V.int, rfl, .inl hS, fun q hq0 => ?_⟩
    refine ⟨.int z, rfl, by show 7 ≤ sizeLine; decide, fun p hp => ?_⟩
    have npq : p ≠ q := fun e => by
      rw [e, upd_same] at hp
      cases hp
    have hp0 : H' p = none := by
      rw [upd_ne npq] at hp
      exact hp
    refine hq p q _ z hp0 hq0 npq (fun b o e => ?_) ?_ upd_same
    · rw [upd_ne (ne_of_none e hp0), upd_ne (ne_of_none e hq0)]
      exact e
    · rw [upd_ne (Ne.symm npq), upd_same]
end
end Wk
-- D7
namespace Wk
open PySem PySem.Spec
open PyProof.Rows L2
section
variable {P : Program}
variable {w : World} {K : PySem.W.Frag} {mg : Str → Option Value} {base : Heap}
/-! ### the store's cells -/
section
variable {C : Ctx} {Γ : List Slot} {te : TE} {D : Ends} {u : TS}
theorem en_sto {n : Nat} {k : Int} (ho : Γ[n]? = some .sto) (hk : 1 ≤ k ∧ k ≤ 6) : EvN C (tOp (rIxL K) (tVar n) (tC (.int k))) Γ (fun d => ∃ i, d = .int i ∧ (k = 1 → 0 ≤ i)) := fun σ F H I Q q => by
  obtain ⟨o, ho1, p, e1, hp⟩ := I.sl n _ ho
  subst e1
  obtain ⟨hf, vs, ds, hH, r, ns, a, b, c, d, e, f, rfl, ha⟩ := I.st p hp
  cases r with
  | cons r0 r => cases r with
    | cons r1 r => cases r with
      | cons r2 r => cases r with
        | cons r3 r => cases r with
          | cons r4 r => cases r with
            | cons r5 r => cases r with
              | cons r6 r =>
                cases r
                cases r1.int_inv
                cases r2.int_inv
                cases r3.int_inv
                cases r4.int_inv
                cases r5.int_inv
                cases r6.int_inv
                have hs := hk.1
                have key : ∀ (z : Int) (y : Int), atI [_, V.int a, V.int b, V.int c, V.int d, V.int e, V.int f] z = some (V.int y) → (z = 1 → 0 ≤ y) → z = k → tOp (rIxL K) (tVar n) (tC (.int k)) σ H Q := fun z y hz hy e => by
                  subst e
                  exact ⟨.ref p, ho1, p, _, z, .int y, rfl, rfl, .inl (.inl hH), hz, q _ F H _ I (.refl _) (.int y) ⟨y, rfl, hy⟩⟩
                have hk6 : k = 1 ∨ k = 2 ∨ k = 3 ∨ k = 4 ∨ k = 5 ∨ k = 6 := by omega
                rcases hk6 with z | z | z | z | z | z
                · exact key 1 a rfl (fun _ => ha) z.symm
                · exact key 2 b rfl (fun w => by omega) z.symm
                · exact key 3 c rfl (fun w => by omega) z.symm
                · exact key 4 d rfl (fun w => by omega) z.symm
                · exact key 5 e rfl (fun w => by omega) z.symm
                · exact key 6 f rfl (fun w => by omega) z.symm
theorem nx_stoSet {n : Nat} {k : Int} (ho : Γ[n]? = some .sto) (hk : 1 ≤ k ∧ k ≤ 6) (h : EvN C te Γ fun d => ∃ i, d = .int i ∧ (k = 1 → 0 ≤ i)) (kk : NX C D.nx Γ) : NX C (tAsg te (gSub (tVar n) (tC (.int k)) rSetL) D) Γ := fun σ F H I =>
  h σ F H I _ fun v F1 H1 d I1 s1 r1 ⟨i, ei, hi⟩ => by
    subst ei
    cases r1.int_inv
    obtain ⟨o, ho1, p, e1, hp⟩ := I1.sl n _ ho
    subst e1
    obtain ⟨hf, vs, ds, hH, r, ns, a, b, c, d, e, f, rfl, ha⟩ := I1.st p hp
    have hl : vs.length = 7 := r.length
    obtain ⟨m, rfl⟩ : ∃ m : Nat, k = (m : Int) := ⟨k.toNat, by omega⟩
    refine ⟨.ref p, ho1, p, vs, (m : Int), m, rfl, rfl, hH, ?_, ?_⟩
    · unfold ixN
      (rw [if_pos (by omega), if_pos (by omega)])
      simp
    · have r' := r.set (.int i) m
      have hm6 : m = 1 ∨ m = 2 ∨ m = 3 ∨ m = 4 ∨ m = 5 ∨ m = 6 := by omega
      have st' : StoreAt F1 (upd H1 p (.lst (vs.set m (.int i)))) p := by
        refine ⟨hf, _, _, upd_same, r', ?_⟩
        rcases hm6 with rfl | rfl | rfl | rfl | rfl | rfl
        · exact ⟨ns, i, b, c, d, e, f, rfl, hi rfl⟩
        · exact ⟨ns, a, i, c, d, e, f, rfl, ha⟩
        · exact ⟨ns, a, b, i, d, e, f, rfl, ha⟩
        · exact ⟨ns, a, b, c, i, e, f, rfl, ha⟩
        · exact ⟨ns, a, b, c, d, i, f, rfl, ha⟩
        · exact ⟨ns, a, b, c, d, e, i, rfl, ha⟩
      refine kk σ F1 _ (I1.growS hp ⟨.refl _, fun a o z => ?_, fun a o z n => by rw [upd_ne n]; exact z, fun _ _ z => z⟩ st')
      have n : a ≠ p := fun w => by
        rw [w, hf] at z
        cases z
      rw [upd_ne n]
      exact I1.fh a o z
theorem sq_stoSet {n : Nat} {k : Int} (ho : Γ[n]? = some .sto) (hk : 1 ≤ k ∧ k ≤ 6) (h : EvN C te Γ fun d => ∃ i, d = .int i ∧ (k = 1 → 0 ≤ i)) (kk : NX C (u D) Γ) : NX C (tSeq (tAsg te (gSub (tVar n) (tC (.int k)) rSetL)) u D) Γ := nx_stoSet (D := { D with nx := u D }) ho hk h kk
/-- the next item of the script, if one is due and there is one -/
theorem sto_next (ho : Γ[0]? = some .sto) (h1 : ∀ c, NX C (u D) (Γ.set 2 (.val (.int c)))) (h2 : NX C D.nx Γ) :
    NX C (tIfS (tAnd (tTest (tOp (rI0 fun i j => .bl (decide (i < j))) (tOp (rIxL K) (tVar 0) (tC (.int 2))) (tC (.int 2)))) (tAnd (tTest (tOp (rI0 fun i j => .bl (decide (i < j))) (tOp (rIxL K) (tVar 0) (tC (.int 5))) (tC (.int 1))))
      (tTest (tOp (rI0 fun i j => .bl (decide (i < j))) (tOp (rIxL K) (tVar 0) (tC (.int 1))) (tCB (fun xs H Q => ∃ p ys, xs = [.ref p] ∧ (SqL K H p ys ∨ SqT K H p ys) ∧ Q (.int ys.length) H) (tCons (tOp (rIxL K) (tVar 0) (tC (.int 0))) tNil))))))
      (tSeq (tAsg (tCB (fun xs H Q => (∃ i, xs = [.int i] ∧ Q (.int i) H) ∨ ∃ k, xs = [.bl k] ∧ Q (.int (if k then 1 else 0)) H) (tCons (tOp (rIxL K) (tOp (rIxL K) (tVar 0) (tC (.int 0))) (tOp (rIxL K) (tVar 0) (tC (.int 1)))) tNil)) (gName 2)) u) tNext D) Γ := fun σ F H I => by
  obtain ⟨o, ho1, p, e1, hp⟩ := I.sl 0 _ ho
  subst e1
  obtain ⟨hf, vs, ds, hH, r, ns, a, b, c, d, e, f, rfl, ha⟩ := I.st p hp
  cases r with
  | cons r0 r => cases r with
    | cons r1 r => cases r with
      | cons r2 r => cases r with
        | cons r3 r => cases r with
          | cons r4 r => cases r with
            | cons r5 r => cases r with
              | cons r6 r =>
                cases r
                cases r1.int_inv
                cases r2.int_inv
                cases r3.int_inv
                cases r4.int_inv
                cases r5.int_inv
                cases r6.int_inv
                obtain ⟨q, ws, rfl, hq, rw'⟩ := r0.lst_inv
                have hqH := I.fh _ _ hq
                rw [rw'.ints] at hqH
                refine ⟨.ref p, ho1, p, _, 2, .int b, rfl, rfl, .inl (.inl hH), rfl, b, 2, rfl, rfl, _, rfl, ?_⟩
                by_cases t1 : b < 2
                · rw [decide_eq_true t1]
                  refine ⟨.ref p, ho1, p, _, 5, .int e, rfl, rfl, .inl (.inl hH), rfl, e, 1, rfl, rfl, _, rfl, ?_⟩
                  by_cases t2 : e < 1
                  · rw [decide_eq_true t2]
                    refine ⟨.ref p, ho1, p, _, 1, .int a, rfl, rfl, .inl (.inl hH), rfl, .ref p, ho1, p, _, 0, .ref q, rfl, rfl, .inl (.inl hH), rfl, q, _, rfl, .inl (.inl (.inl hqH)), a, _, rfl, rfl, _, rfl, ?_⟩
                    by_cases t3 : a < ((ns.map V.int).length : Int)
                    · rw [decide_eq_true t3]
                      have hl : a.toNat < ns.length := by
                        rw [List.length_map] at t3
                        omega
                      have hat : atI (ns.map V.int) a = some (.int ns[a.toNat]) := by
                        obtain ⟨m, rfl⟩ : ∃ m : Nat, a = (m : Int) := ⟨a.toNat, by omega⟩
                        refine atI_nat ?_
                        rw [List.getElem?_map, List.getElem?_eq_getElem (by simpa using hl)]
                        rfl
                      refine ⟨.ref p, ho1, p, _, 0, .ref q, rfl, rfl, .inl (.inl hH), rfl, .ref p, ho1, p, _, 1, .int a, rfl, rfl, .inl (.inl hH), rfl, q, _, a, _, rfl, rfl, .inl (.inl hqH), hat, .inl ⟨_, rfl, ?_⟩⟩
                      exact h1 _ _ F H (I.setVal (.int _))
                    · rw [decide_eq_false t3]
                      exact h2 σ F H I
                  · rw [decide_eq_false t2]
                    exact h2 σ F H I
                · rw [decide_eq_false t1]
                  exact h2 σ F H I
end
def Rl_law_take : Rel := fun zs0 Pz => ∃ (m : Int), zs0 = [.int m] ∧ (1 ≤ m ∧ m < 8388608) ∧ Pz = (fun e => ∃ k, e = .int k ∧ 0 ≤ k ∧ k < m)
theorem len_law_take : ∀ ds Post, Rl_law_take ds Post → ds.length = 1 := fun _ _ ⟨_, e, _⟩ => by rw [e]; rfl
theorem rl_law_take {m : Int} (h : 1 ≤ m ∧ m < 8388608) : Rl_law_take [.int m] (fun e => ∃ k, e = .int k ∧ 0 ≤ k ∧ k < m) := ⟨m, rfl, h, rfl⟩
theorem en_intI {C : Ctx} {Γ : List Slot} {ta : TE} {R R' : Dt → Prop} (ha : EvN C ta Γ R) (h : ∀ d, R d → ∃ i, d = .int i ∧ R' (.int i)) : EvN C (tCB (fun xs H Q => (∃ i, xs = [.int i] ∧ Q (.int i) H) ∨ ∃ k, xs = [.bl k] ∧ Q (.int (if k then 1 else 0)) H) (tCons ta tNil)) Γ R' := fun σ F H I Q q =>
  ha σ F H I _ fun x F1 H1 d I1 s1 r1 k1 => by
    obtain ⟨i, rfl, hR⟩ := h d k1
    exact .inl ⟨i, by rw [r1.int_inv], q _ F1 H1 _ I1 s1 (.int i) hR⟩
theorem en_test {C : Ctx} {Γ : List Slot} {te : TE} {R : Dt → Prop} (h : EvN C te Γ R) (k : ∀ d, R d → ∃ b, d = .bl b) : EvT C (tTest te) Γ (fun _ => True) := et_test h fun d z => by
  obtain ⟨b, e⟩ := k d z
  exact ⟨b, e, trivial⟩
theorem intBits_small {m : Int} (h0 : 1 ≤ m) (h1 : m < 8388608) : ((Builtin.Int.intBits m : Nat) : Int).fdiv 24 = 0 := by
  have hz : m.natAbs < 2 ^ 23 := by
    have : m.natAbs < 8388608 := by omega
    exact this
  have hb : Builtin.Int.intBits m ≤ 23 := PyProof.Rows.intBits_le hz
  (rw [Int.fdiv_eq_ediv_of_nonneg _ (by decide)])
  omega
theorem ed_bits {C : Ctx} {Γ : List Slot} {ta : TE} {i : Int} (ha : EvD C ta Γ (.int i)) : EvD C (tBits ta) Γ (.int (Builtin.Int.intBits i : Nat)) := fun σ F H I Q q => ha σ F H I _ fun v F1 H1 d I1 s1 r1 k1 => by
  subst k1
  exact ⟨i, r1.int_inv, q _ F1 H1 _ I1 s1 (.int _) rfl⟩
theorem sto_inc {C : Ctx} {K : PySem.W.Frag} {k : Int} {Γ : List Slot} {D : Ends} {u : TS} {g : Int → Int → Int} (hk : 1 ≤ k ∧ k ≤ 6) (h0 : Γ[0]? = some .sto) (hn : NX C (u D) Γ) (hg : ∀ i, 0 ≤ i → k = 1 → 0 ≤ g i 1) :
    NX C (tSeq (tAsg (tOp (rI0 fun i j => .int (g i j)) (tOp (rIxL K) (tVar 0) (tC (.int k))) (tC (.int 1))) (gSub (tVar 0) (tC (.int k)) rSetL)) u D) Γ :=
  sq_stoSet h0 hk (en_rI0 (en_sto h0 hk) ed_int fun d e ⟨i, e1, e2⟩ e3 => ⟨i, 1, e1, e3, _, rfl, fun z => hg i (e2 z) z⟩) hn
theorem ok_law_take (B : Bs K mg) : Cl P w K mg base CX0 2 "_law_take" (spS Rl_law_take) [] := by
  refine cl_of (N := ["_law_store_here", "_law_many", "_law_cell", "_law_digit", "_law_number", "_law_value", "_law_k"]) (ps := ["_law_store_here", "_law_many"]) B.d_law_take B.g_law_take (by decide +kernel) (fun _ _ _ _ _ _ us hl => match us, hl with | [_, _], _ => rfl)
    (len_S len_law_take) fun f cdv A outer s H vs Q E hr h => ?_
  have nd : (["_law_store_here", "_law_many", "_law_cell", "_law_digit", "_law_number", "_law_value", "_law_k"] : List Str).Nodup := by decide +kernel
  refine ⟨_, PSs.nox (pss_cons (ps_if (pt_cmpR op_lt (pv 1) pe_int (nomark _)) (pss_one (ps_ret pe_int)) pss_nil)
  (pss_cons (ps_asg (pe_op op_add (pe_ix ix_list (pv 0) pe_int (fun _ _ => rfl)) pe_int) (pg_sub (pv 0) pe_int set_list))
  (pss_cons (ps_if (PW.pt (pw_and (pt_cmpR op_lt (pe_ix ix_list (pv 0) pe_int (fun _ _ => rfl)) pe_int (nomark _)) (pw_and (pt_cmpR op_lt (pe_ix ix_list (pv 0) pe_int (fun _ _ => rfl)) pe_int (nomark _)) (pw_and1 (pt_cmpR op_lt (pe_ix ix_list (pv 0) pe_int (fun _ _ => rfl)) (pe_callB call_len_seq (by rfl) B.z_len (by decide +kernel) (pa_cons (pe_ix ix_list (pv 0) pe_int (fun _ _ => rfl)) pa_nil)) (nomark _)))))) (pss_cons (ps_set (i := 2) nd rfl (by first | exact Or.inl rfl | exact Or.inr rfl) (pe_callTy call_int1 (by rfl) B.z_int (by decide +kernel) (pa_cons (pe_ix ix_list (pe_ix ix_list (pv 0) pe_int (fun _ _ => rfl)) (pe_ix ix_list (pv 0) pe_int (fun _ _ => rfl)) (fun _ _ => rfl)) pa_nil)))
  (pss_cons (ps_asg (pe_op op_add (pe_ix ix_list (pv 0) pe_int (fun _ _ => rfl)) pe_int) (pg_sub (pv 0) pe_int set_list))
  (pss_one (ps_if (pt_cmpR op_lt (pe_callB call_abs (by rfl) B.z_abs (by decide +kernel) (pa_cons (pv 2) pa_nil)) (pe_op op_pow pe_int pe_int) (nomark _)) (pss_cons (ps_asg pe_int (pg_sub (pv 0) pe_int set_list))
  (pss_one (ps_asg (pv 2) (pg_sub (pv 0) pe_int set_list)))) (pss_one (ps_asg (pe_callB call_abs (by rfl) B.z_abs (by decide +kernel) (pa_cons (pv 2) pa_nil)) (pg_sub (pv 0) pe_int set_list))))))) pss_nil)
  (pss_cons (ps_if (pt_cmpR op_gt (pe_ix ix_list (pv 0) pe_int (fun _ _ => rfl)) pe_int (nomark _)) (pss_cons (ps_set (i := 3) nd rfl (by first | exact Or.inl rfl | exact Or.inr rfl) (pe_op op_modN (pe_callTy call_int1 (by rfl) B.z_int (by decide +kernel) (pa_cons (pe_ix ix_list (pv 0) pe_int (fun _ _ => rfl)) pa_nil)) (pv 1)))
  (pss_cons (ps_asg (pe_op op_fdivZ (pe_ix ix_list (pv 0) pe_int (fun _ _ => rfl)) (pv 1)) (pg_sub (pv 0) pe_int set_list))
  (pss_one (ps_ret (pv 3))))) pss_nil)
  (pss_cons (ps_set (i := 4) nd rfl (by first | exact Or.inl rfl | exact Or.inr rfl) (pe_ix ix_list (pv 0) pe_int (fun _ _ => rfl)))
  (pss_cons (ps_if (pt_cmpR op_gt (pe_ix ix_list (pv 0) pe_int (fun _ _ => rfl)) pe_int (nomark _)) (pss_cons (ps_asg (pe_op op_sub (pe_ix ix_list (pv 0) pe_int (fun _ _ => rfl)) pe_int) (pg_sub (pv 0) pe_int set_list))
  (pss_one (ps_set (i := 4) nd rfl (by first | exact Or.inl rfl | exact Or.inr rfl) (pe_ix ix_list (pv 0) pe_int (fun _ _ => rfl))))) pss_nil)
  (pss_cons (ps_set (i := 5) nd rfl (by first | exact Or.inl rfl | exact Or.inr rfl) pe_int)
  (pss_cons (ps_for PassesOwn.never rfl (pi_range1 rfl B.z_range (pa_cons (pe_op op_add pe_int (pe_op op_fdivZ (pe_bits (pv 1)) pe_int)) pa_nil)) (pg_name (i := 6) nd rfl (by first | exact Or.inl rfl | exact Or.inr rfl)) (pss_one (ps_set (i := 5) nd rfl (by first | exact Or.inl rfl | exact Or.inr rfl) (pe_op op_add (pe_op op_mul (pv 5) pe_int) (pe_cl (ok_law_mixed B) hr (by decide) pass0 (pa_cons (pv 4) (pa_cons (pe_op op_add (pe_op op_mul (pe_ix ix_list (pv 0) pe_int (fun _ _ => rfl)) pe_int) (pv 6)) pa_nil)))))))
  (pss_one (ps_ret (pe_op op_modN (pv 5) (pv 1)))))))))))), enterS h fun C ds Post hR hrt => ?_⟩
  obtain ⟨m, rfl, ⟨hm0, hm1⟩, rfl⟩ := hR
  show NX C _ [.sto, .val (.int m), .no, .no, .no, .no, .no]
  refine sq_when (etd_test (ed_cmp (ed_var rfl) ed_int)) (fun hb => ?_) fun hb => ?_
  · exact nx_ret hrt ed_int ⟨0, rfl, by omega, by omega⟩
  have hm : ¬ m < 2 := of_decide_eq_false hb
  refine sto_inc (g := fun i j => i + j) ⟨by omega, by omega⟩ rfl ?_ (fun i hi hz => by omega)
  -- the next item
  refine sq_join [.sto, .val (.int m), .no, .no, .no, .no, .no] (fun hN => ?_) ?_
  · refine sto_next rfl (fun c => ?_) (hN.wk (.refl _))
    show NX C _ [.sto, .val (.int m), .val (.int c), .no, .no, .no, .no]
    have hN' : NX C _ [.sto, .val (.int m), .val (.int c), .no, .no, .no, .no] := hN.wk (.keep (.keep (.drop (.refl _))))
    refine sto_inc (g := fun i j => i + j) ⟨by omega, by omega⟩ rfl ?_ (fun i hi hz => by omega)
    refine nx_if (etd_test (ed_cmp (ed_abs (ed_var rfl)) (ed_rI ed_int ed_int ⟨by decide, by decide, by decide⟩))) (fun hc => ?_) fun hc => ?_
    · refine sq_stoSet rfl ⟨by omega, by omega⟩ (ed_int.to ⟨_, rfl, fun z => by omega⟩) ?_
      exact nx_stoSet rfl ⟨by omega, by omega⟩ ((ed_var rfl).to ⟨_, rfl, fun z => by omega⟩) hN'
    · exact nx_stoSet rfl ⟨by omega, by omega⟩ ((ed_abs (ed_var rfl)).to ⟨_, rfl, fun z => by omega⟩) hN'
  have hcd : ∀ i, CDivZ i m := fun i => dv_int (n := 23) (by omega) (by
    have : m.natAbs < 8388608 := by omega
    exact this) (by decide)
  have isb : ∀ d : Dt, (∃ b, d = .bl b) → ∃ b, d = .bl b := fun d z => z
  refine sq_ifN (en_test (en_cmp (R := fun d => ∃ b, d = .bl b) (en_sto rfl ⟨by omega, by omega⟩) ed_int fun d e ⟨i, e1, _⟩ e3 => ⟨i, 1, e1, e3, _, rfl⟩) isb) (fun _ => ?_) fun _ => ?_
  · refine sq_asgN (R := fun d => ∃ k, d = .int k ∧ 0 ≤ k ∧ k < m) (en_rI (en_intI (R' := fun d => ∃ i, d = .int i) (en_sto rfl ⟨by omega, by omega⟩) fun d ⟨i, e1, _⟩ => ⟨i, e1, i, rfl⟩) (ed_var rfl) fun d e ⟨i, e1⟩ e2 => ⟨i, m, e1, e2, by show m ≠ 0; omega, _, rfl, fmod_bd i (by omega)⟩) ?_
    rintro d ⟨k, rfl, hk0, hk1⟩
    refine sq_stoSet rfl ⟨by omega, by omega⟩ (en_rI (en_sto rfl ⟨by omega, by omega⟩) (ed_var rfl) fun d e ⟨i, e1, _⟩ e2 => ⟨i, m, e1, e2, hcd i, _, rfl, fun z => by omega⟩) ?_
    exact nx_ret hrt (ed_var rfl) ⟨k, rfl, hk0, hk1⟩
  refine nx_next ?_
  show NX C _ [.sto, .val (.int m), .no, .no, .no, .no, .no]
  refine sq_asgN (en_sto rfl ⟨by omega, by omega⟩) ?_
  rintro d ⟨x, rfl, _⟩
  refine sq_joinI (ι := Int) (fun x => [.sto, .val (.int m), .no, .no, .val (.int x), .no, .no]) (fun hN => ?_) fun x => ?_
  · refine nx_ifN (en_test (en_cmp (R := fun d => ∃ b, d = .bl b) (en_sto rfl ⟨by omega, by omega⟩) ed_int fun d e ⟨i, e1, _⟩ e3 => ⟨i, 0, e1, e3, _, rfl⟩) isb) (fun _ => ?_) fun _ => hN x
    refine sto_inc (g := fun i j => i - j) ⟨by omega, by omega⟩ rfl ?_ (fun i hi hz => by omega)
    refine nx_asgN (en_sto rfl ⟨by omega, by omega⟩) ?_
    rintro d ⟨y, rfl, _⟩
    exact hN y
  refine sq_asg ed_int ?_
  refine sq_joinI (ι := Int) (fun v => [.sto, .val (.int m), .no, .no, .val (.int x), .val (.int v), .no]) (fun hN => ?_) fun v => ?_
  · have er : EvI C (iRng1 (tCons (tOp (rI0 fun i j => .int (i + j)) (tC (.int 1)) (tOp (rI CDivZ fun i j => .int (i.fdiv j)) (tBits (tVar 1)) (tC (.int 24)))) tNil)) [.sto, .val (.int m), .no, .no, .val (.int x), .val (.int 0), .no] (1 : Int).toNat (fun i => .int (i : Int)) :=
      ei_range1 (ea_cons ((ed_rI0 ed_int (ed_rI (ed_bits (ed_var rfl)) ed_int ⟨by decide, by decide⟩)).is (by rw [intBits_small hm0 hm1]; rfl)) ea_nil) ⟨by decide, by decide⟩
    refine nx_forE er (ι := Int) (fun _ v => [.sto, .val (.int m), .no, .no, .val (.int x), .val (.int v), .no]) (fun _ _ => True) 0 trivial (.refl _) (fun C' le i hi v _ N h2 => ⟨_, [6], asg_name, ?_⟩) fun x _ => hN x
    refine nx_asgN (R := fun d => ∃ z, d = .int z) (en_rI0 (R := fun d => ∃ z, d = .int z) (ed_rI (ed_var rfl) ed_int (.inr ⟨by decide, by decide⟩)) (en_call (R := fun d => ∃ z, d = .int z) ((en_cons (ed_var rfl) (en_cons (en_rI0 (R := fun d => ∃ z, d = .int z) (en_rI (R := fun d => ∃ z, d = .int z) (en_sto rfl ⟨by omega, by omega⟩) ed_int fun d e ⟨i, e1, _⟩ e2 => ⟨i, 64, e1, e2, .inr ⟨by decide, by decide⟩, _, rfl⟩) (ed_var rfl) fun d e ⟨i, e1⟩ e2 => ⟨i, _, e1, e2, _, rfl⟩) ea_nil)).imp ?_)) fun d e e1 ⟨z, e2⟩ => ⟨_, z, e1, e2, _, rfl⟩) ?_
    · rintro l ⟨d1, l1, rfl, rfl, d2, l2, rfl, ⟨z, rfl⟩, rfl⟩
      exact rl_law_mixed
    · rintro d ⟨z, rfl⟩
      exact (h2 z trivial).wk (.keep (.keep (.keep (.keep (.keep (.keep (.drop .nil)))))))
  exact nx_retN hrt (ed_rI (ed_var rfl) (ed_var rfl) (by show m ≠ 0; omega) |>.to ⟨_, rfl, fmod_bd v (by omega)⟩)
end
end Wk
-- D8
namespace Wk
open PySem PySem.Spec
open PyProof.Rows L2
section
variable {P : Program}
variable {w : World} {K : PySem.W.Frag} {mg : Str → Option Value} {base : Heap}
section
variable {C : Ctx} {Γ : List Slot} {ta te : TE} {E : XK} {i : Nat}
theorem en_take {m : Int} (ho : Γ[i]? = some .sto) (hm : EvD C te Γ (.int m)) (h : 1 ≤ m ∧ m < 8388608) : EvN C (tCall (spS Rl_law_take) [] E (tCons (tVar i) (tCons te tNil))) Γ (fun e => ∃ k, e = .int k ∧ 0 ≤ k ∧ k < m) :=
  en_callS ho ((ea_cons hm ea_nil).imp fun _ z => by rw [z]; exact rl_law_take h)
theorem rats_lt {k : Int} {n : Nat} (h : k.natAbs < n) : k.natAbs < n := h
end
def Rl_law_pick : Rel := fun zs0 Pz => ∃ (ds : List Dt), zs0 = [.lst ds] ∧ (1 ≤ ds.length ∧ ds.length ≤ 1000) ∧ Pz = (fun e => e ∈ ds)
theorem len_law_pick : ∀ ds Post, Rl_law_pick ds Post → ds.length = 1 := fun _ _ ⟨_, e, _⟩ => by rw [e]; rfl
theorem ok_law_pick (B : Bs K mg) : Cl P w K mg base CX0 3 "_law_pick" (spS Rl_law_pick) [] := by
  refine cl_of (N := ["_law_store_here", "_law_row"]) (ps := ["_law_store_here", "_law_row"]) B.d_law_pick B.g_law_pick (by decide +kernel) (fun _ _ _ _ _ _ us hl => match us, hl with | [_, _], _ => rfl)
    (len_S len_law_pick) fun f cdv A outer s H vs Q E hr h => ?_
  have nd : (["_law_store_here", "_law_row"] : List Str).Nodup := by decide +kernel
  refine ⟨_, PSs.nox (pss_one (ps_ret (pe_ix ix_list (pv 1) (pe_cl (ok_law_take B) hr (by decide) pass0 (pa_cons (pv 0) (pa_cons (pe_callB call_len_seq (by rfl) B.z_len (by decide +kernel) (pa_cons (pv 1) pa_nil)) pa_nil))) (fun _ _ => rfl)))), enterS h fun C ds Post hR hrt => ?_⟩
  obtain ⟨ds, rfl, ⟨h0, h1⟩, rfl⟩ := hR
  show NX C _ [.sto, .val (.lst ds)]
  refine nx_retN hrt (en_ixL (ed_var rfl) (en_take rfl (ed_lenL (ed_var rfl)) ⟨by omega, by omega⟩) ?_)
  rintro d e rfl ⟨k, rfl, k0, k1⟩
  obtain ⟨m, rfl⟩ : ∃ m : Nat, k = (m : Int) := ⟨k.toNat, by omega⟩
  have hm : m < ds.length := by omega
  exact ⟨ds, _, ds[m], rfl, rfl, atI_nat (List.getElem?_eq_getElem hm), List.getElem_mem hm⟩
theorem en_pick {C : Ctx} {Γ : List Slot} {te : TE} {E : XK} {i : Nat} {ds : List Dt} (ho : Γ[i]? = some .sto) (hm : EvD C te Γ (.lst ds)) (h : 1 ≤ ds.length ∧ ds.length ≤ 1000) : EvN C (tCall (spS Rl_law_pick) [] E (tCons (tVar i) (tCons te tNil))) Γ (fun e => e ∈ ds) :=
  en_callS ho ((ea_cons hm ea_nil).imp fun _ z => by rw [z]; exact ⟨ds, rfl, h, rfl⟩)
def Rl_law_size : Rel := fun zs0 Pz => ∃ (n : Int), zs0 = [.int n] ∧ (n = 4) ∧ Pz = (fun e => ∃ k, e = .int k ∧ 0 ≤ k ∧ k ≤ 4)
theorem len_law_size : ∀ ds Post, Rl_law_size ds Post → ds.length = 1 := fun _ _ ⟨_, e, _⟩ => by rw [e]; rfl
theorem ok_law_size (B : Bs K mg) : Cl P w K mg base CX0 3 "_law_size" (spS Rl_law_size) [] := by
  refine cl_of (N := ["_law_store_here", "_law_top", "_law_spot"]) (ps := ["_law_store_here", "_law_top"]) B.d_law_size B.g_law_size (by decide +kernel) (fun _ _ _ _ _ _ us hl => match us, hl with | [_, _], _ => rfl)
    (len_S len_law_size) fun f cdv A outer s H vs Q E hr h => ?_
  have nd : (["_law_store_here", "_law_top", "_law_spot"] : List Str).Nodup := by decide +kernel
  refine ⟨_, PSs.nox (pss_cons (ps_set (i := 2) nd rfl (by first | exact Or.inl rfl | exact Or.inr rfl) (pe_cl (ok_law_take B) hr (by decide) pass0 (pa_cons (pv 0) (pa_cons pe_int pa_nil))))
  (pss_cons (ps_if (pt_cmpR op_lt (pv 2) pe_int (nomark _)) (pss_one (ps_ret (pe_callB (call_min2 rfl) (by rfl) B.z_min (by decide +kernel) (pa_cons (pv 2) (pa_cons (pv 1) pa_nil))))) pss_nil)
  (pss_cons (ps_if (PW.pt (pw_and (pt_cmpR op_eq (pv 2) pe_int (nomark _)) (pw_and1 (PW.pt (pw_or (pt_cmpR op_lt (pv 1) pe_int (nomark _)) (pw_or1 (pt_cmpR op_eq (pe_cl (ok_law_take B) hr (by decide) pass0 (pa_cons (pv 0) (pa_cons pe_int pa_nil))) pe_int (nomark _)))))))) (pss_one (ps_ret (pv 1))) pss_nil)
  (pss_one (ps_ret (pe_cl (ok_law_take B) hr (by decide) pass0 (pa_cons (pv 0) (pa_cons (pe_op op_add (pe_callB (call_min2 rfl) (by rfl) B.z_min (by decide +kernel) (pa_cons (pv 1) (pa_cons pe_int pa_nil))) pe_int) pa_nil)))))))), enterS h fun C ds Post hR hrt => ?_⟩
  obtain ⟨n, rfl, rfl, rfl⟩ := hR
  show NX C _ [.sto, .val (.int 4), .no]
  refine sq_asgN (en_take rfl ed_int ⟨by decide, by decide⟩) ?_
  rintro d ⟨k, rfl, k0, k1⟩
  refine sq_when (etd_test (ed_cmp (ed_var rfl) ed_int)) (fun hb => ?_) fun hb => ?_
  · have h2 : k < 2 := of_decide_eq_true hb
    exact nx_ret hrt (ed_min2 (ed_var rfl) (ed_var rfl)) ⟨_, rfl, by split <;> omega, by split <;> omega⟩
  refine sq_when (etd_and (b := true) (etd_test (ed_eqI (ed_var rfl) ed_int)) fun _ => etd_or1 (etd_test (ed_cmp (ed_var rfl) ed_int)) rfl) (fun _ => ?_) fun _ => ?_
  · exact nx_ret hrt (ed_var rfl) ⟨_, rfl, by omega, by omega⟩
  · exact nx_retN hrt ((en_take rfl (ed_rI0 (ed_min2 (ed_var rfl) ed_int) ed_int) ⟨by decide, by decide⟩).imp fun e ⟨k, e1, e2, e3⟩ => ⟨k, e1, e2, by have h5 : k < 4 + 1 := e3; omega⟩)
def Rl_law_whole : Rel := fun zs0 Pz => ∃ (n : Int), zs0 = [.int n] ∧ (1 ≤ n ∧ n ≤ 1000) ∧ Pz = (fun e => ∃ k, e = .int k ∧ -n ≤ k ∧ k ≤ n)
theorem len_law_whole : ∀ ds Post, Rl_law_whole ds Post → ds.length = 1 := fun _ _ ⟨_, e, _⟩ => by rw [e]; rfl
theorem list_at {ds : List Dt} {k : Int} (h0 : 0 ≤ k) (h1 : k < ds.length) : ∃ z, atI ds k = some z ∧ z ∈ ds := by
  obtain ⟨m, rfl⟩ : ∃ m : Nat, k = (m : Int) := ⟨k.toNat, by omega⟩
  have hm : m < ds.length := by omega
  exact ⟨ds[m], atI_nat (List.getElem?_eq_getElem hm), List.getElem_mem hm⟩
theorem ok_law_whole (B : Bs K mg) : Cl P w K mg base CX0 3 "_law_whole" (spS Rl_law_whole) [] := by
  refine cl_of (N := ["_law_store_here", "_law_reach", "_law_spot"]) (ps := ["_law_store_here", "_law_reach"]) B.d_law_whole B.g_law_whole (by decide +kernel) (fun _ _ _ _ _ _ us hl => match us, hl with | [_, _], _ => rfl)
    (len_S len_law_whole) fun f cdv A outer s H vs Q E hr h => ?_
  have nd : (["_law_store_here", "_law_reach", "_law_spot"] : List Str).Nodup := by decide +kernel
  refine ⟨_, PSs.nox (pss_cons (ps_set (i := 2) nd rfl (by first | exact Or.inl rfl | exact Or.inr rfl) (pe_cl (ok_law_take B) hr (by decide) pass0 (pa_cons (pv 0) (pa_cons pe_int pa_nil))))
  (pss_cons (ps_if (pt_cmpR op_lt (pv 2) pe_int (nomark _)) (pss_one (ps_ret (pe_ix ix_list (pe_lst (pa_cons pe_int (pa_cons (pe_callB (call_min2 rfl) (by rfl) B.z_min (by decide +kernel) (pa_cons pe_int (pa_cons (pv 1) pa_nil))) (pa_cons (pe_un un_neg (pe_callB (call_min2 rfl) (by rfl) B.z_min (by decide +kernel) (pa_cons pe_int (pa_cons (pv 1) pa_nil)))) (pa_cons (pv 1) (pa_cons (pe_un un_neg (pv 1)) pa_nil)))))) (pv 2) (fun _ _ => rfl)))) pss_nil)
  (pss_one (ps_ret (pe_op op_sub (pe_cl (ok_law_take B) hr (by decide) pass0 (pa_cons (pv 0) (pa_cons (pe_op op_add (pe_op op_mul pe_int (pv 1)) pe_int) pa_nil))) (pv 1)))))), enterS h fun C ds Post hR hrt => ?_⟩
  obtain ⟨n, rfl, ⟨n0, n1⟩, rfl⟩ := hR
  show NX C _ [.sto, .val (.int n), .no]
  refine sq_asgN (en_take rfl ed_int ⟨by decide, by decide⟩) ?_
  rintro d ⟨k, rfl, k0, k1⟩
  refine sq_when (etd_test (ed_cmp (ed_var rfl) ed_int)) (fun hb => ?_) fun hb => ?_
  · have h2 : k < 5 := of_decide_eq_true hb
    refine nx_retN hrt (en_ixL (eld_lst (ea_cons ed_int (ea_cons (ed_min2 ed_int (ed_var rfl)) (ea_cons (ed_neg (ed_min2 ed_int (ed_var rfl))) (ea_cons (ed_var rfl) (ea_cons (ed_neg (ed_var rfl)) ea_nil)))))).ed (ed_var rfl) ?_)
    rintro d e rfl rfl
    obtain ⟨z, hz, hm⟩ := list_at (ds := [Dt.int 0, .int (if n < 1 then n else 1), .int (-(if n < 1 then n else 1)), .int n, .int (-n)]) k0 h2
    refine ⟨_, k, z, rfl, rfl, hz, ?_⟩
    rw [if_neg (by omega)] at hm
    (simp only [List.mem_cons, List.not_mem_nil, or_false] at hm)
    rcases hm with rfl | rfl | rfl | rfl | rfl
    · exact ⟨_, rfl, by omega, by omega⟩
    · exact ⟨_, rfl, by omega, by omega⟩
    · exact ⟨_, rfl, by omega, by omega⟩
    · exact ⟨_, rfl, by omega, by omega⟩
    · exact ⟨_, rfl, by omega, by omega⟩
  · refine nx_retN hrt (en_rI0 (en_take rfl (ed_rI0 (ed_rI ed_int (ed_var rfl) (.inl ⟨by decide, by decide⟩)) ed_int) ⟨by omega, by omega⟩) (ed_var rfl) ?_)
    rintro d e ⟨k, rfl, k0, k1⟩ rfl
    exact ⟨k, n, rfl, rfl, _, rfl, by omega, by omega⟩
theorem en_whole {C : Ctx} {Γ : List Slot} {te : TE} {E : XK} {i : Nat} {n : Int} (ho : Γ[i]? = some .sto) (hm : EvD C te Γ (.int n)) (h : 1 ≤ n ∧ n ≤ 1000) : EvN C (tCall (spS Rl_law_whole) [] E (tCons (tVar i) (tCons te tNil))) Γ (fun e => ∃ k, e = .int k ∧ -n ≤ k ∧ k ≤ n) :=
  en_callS ho ((ea_cons hm ea_nil).imp fun _ z => by rw [z]; exact ⟨n, rfl, h, rfl⟩)
theorem bd_divInt {n d : Int} {k : Nat} (h0 : 0 < d) (h1 : n.natAbs < 2 ^ k) (h2 : d < 2 ^ k) : Bd k (Rat.divInt n d) := by
  obtain ⟨m, rfl⟩ : ∃ m : Nat, d = (m : Int) := ⟨d.toNat, by omega⟩
  rw [divInt_nat]
  refine bd_mk (by omega) h1 ?_
  have e : ((2 ^ k : Nat) : Int) = (2 : Int) ^ k := by norm_cast
  omega
theorem lt9000 {n k : Nat} (h : k < 2 ^ n) (hn : n ≤ 9000) : k < 2 ^ 9000 := lt_two_pow h hn
def Rl_law_frac : Rel := fun zs0 Pz => zs0 = [] ∧ (True) ∧ Pz = (fun e => ∃ q, e = fr q ∧ Grid 27720 (4 * 27720) q)
theorem len_law_frac : ∀ ds Post, Rl_law_frac ds Post → ds.length = 0 := fun _ _ ⟨e, _⟩ => by rw [e]; rfl
theorem fr_of {q : Rat} {n d : Int} (h : q.num = n ∧ (q.den : Int) = d) : Dt.tup [.int n, .int d] = fr q := fr_lit h
theorem ok_law_frac (B : Bs K mg) : Cl P w K mg base CX0 3 "_law_frac" (spS Rl_law_frac) [] := by
  refine cl_of (N := ["_law_store_here", "_law_spot", "_law_bottom"]) (ps := ["_law_store_here"]) B.d_law_frac B.g_law_frac (by decide +kernel) (fun _ _ _ _ _ _ us hl => match us, hl with | [_], _ => rfl)
    (len_S len_law_frac) fun f cdv A outer s H vs Q E hr h => ?_
  have nd : (["_law_store_here", "_law_spot", "_law_bottom"] : List Str).Nodup := by decide +kernel
  refine ⟨_, PSs.nox (pss_cons (ps_set (i := 1) nd rfl (by first | exact Or.inl rfl | exact Or.inr rfl) (pe_cl (ok_law_take B) hr (by decide) pass0 (pa_cons (pv 0) (pa_cons pe_int pa_nil))))
  (pss_cons (ps_if (pt_cmpR op_lt (pv 1) pe_int (nomark _)) (pss_one (ps_ret (pe_ix ix_list (pe_lst (pa_cons (pe_tup (pa_cons pe_int (pa_cons pe_int pa_nil))) (pa_cons (pe_tup (pa_cons pe_int (pa_cons pe_int pa_nil))) (pa_cons (pe_tup (pa_cons (pe_un un_neg pe_int) (pa_cons pe_int pa_nil))) (pa_cons (pe_tup (pa_cons pe_int (pa_cons pe_int pa_nil))) (pa_cons (pe_tup (pa_cons (pe_un un_neg pe_int) (pa_cons pe_int pa_nil))) pa_nil)))))) (pv 1) (fun _ _ => rfl)))) pss_nil)
  (pss_cons (ps_set (i := 2) nd rfl (by first | exact Or.inl rfl | exact Or.inr rfl) (pe_op op_add pe_int (pe_cl (ok_law_take B) hr (by decide) pass0 (pa_cons (pv 0) (pa_cons pe_int pa_nil)))))
  (pss_one (ps_ret (pe_cl (ok_law_lowest B) hr (by decide) pass0 (pa_cons (pe_op op_sub (pe_cl (ok_law_take B) hr (by decide) pass0 (pa_cons (pv 0) (pa_cons (pe_op op_add (pe_op op_mul pe_int (pv 2)) pe_int) pa_nil))) (pe_op op_mul pe_int (pv 2))) (pa_cons (pv 2) pa_nil)))))))), enterS h fun C ds Post hR hrt => ?_⟩
  obtain ⟨rfl, _, rfl⟩ := hR
  show NX C _ [.sto, .no, .no]
  refine sq_asgN (en_take rfl ed_int ⟨by decide, by decide⟩) ?_
  rintro d ⟨k, rfl, k0, k1⟩
  refine sq_when (etd_test (ed_cmp (ed_var rfl) ed_int)) (fun hb => ?_) fun hb => ?_
  · have h2 : k < 5 := of_decide_eq_true hb
    refine nx_retN hrt (en_ixL (eld_lst (ea_cons (ed_tup (ea_cons ed_int (ea_cons ed_int ea_nil))) (ea_cons (ed_tup (ea_cons ed_int (ea_cons ed_int ea_nil))) (ea_cons (ed_tup (ea_cons (ed_neg ed_int) (ea_cons ed_int ea_nil))) (ea_cons (ed_tup (ea_cons ed_int (ea_cons ed_int ea_nil))) (ea_cons (ed_tup (ea_cons (ed_neg ed_int) (ea_cons ed_int ea_nil))) ea_nil)))))).ed (ed_var rfl) ?_)
    rintro d e rfl rfl
    obtain ⟨z, hz, hm⟩ := list_at (ds := [Dt.tup [.int 0, .int 1], .tup [.int 1, .int 1], .tup [.int (-1), .int 1], .tup [.int 1, .int 2], .tup [.int (-1), .int 2]]) k0 h2
    refine ⟨_, k, z, rfl, rfl, hz, ?_⟩
    (simp only [List.mem_cons, List.not_mem_nil, or_false] at hm)
    rcases hm with rfl | rfl | rfl | rfl | rfl
    · exact ⟨_, fr_of (by decide), grid12 (k := 0) (b := 1) (by decide) (by decide) (by decide)⟩
    · exact ⟨_, fr_of (by decide), grid12 (k := 1) (b := 1) (by decide) (by decide) (by decide)⟩
    · exact ⟨_, fr_of (by decide), grid12 (k := -1) (b := 1) (by decide) (by decide) (by decide)⟩
    · exact ⟨_, fr_of (by decide), grid12 (k := 1) (b := 2) (by decide) (by decide) (by decide)⟩
    · exact ⟨_, fr_of (by decide), grid12 (k := -1) (b := 2) (by decide) (by decide) (by decide)⟩
  · refine sq_asgN (R := fun d => ∃ k, d = .int k ∧ 1 ≤ k ∧ k ≤ 12) (en_rI0 ed_int (en_take rfl ed_int ⟨by decide, by decide⟩) fun d e h1 ⟨k, h2, h3, h4⟩ => ⟨1, k, h1, h2, _, rfl, by omega, by omega⟩) ?_
    rintro d ⟨b, rfl, b0, b1⟩
    refine nx_retN hrt (en_callI ((en_cons (en_rI0 (R := fun d => ∃ k, d = .int k ∧ k.natAbs ≤ 4 * b.natAbs) (en_take rfl (ed_rI0 (ed_rI ed_int (ed_var rfl) (.inl ⟨by decide, by decide⟩)) ed_int) ⟨by omega, by omega⟩) (ed_rI ed_int (ed_var rfl) (.inl ⟨by decide, by decide⟩)) ?_) (ea_cons (ed_var rfl) ea_nil)).imp ?_))
    · rintro d e ⟨k, rfl, k0, k1⟩ rfl
      exact ⟨k, _, rfl, rfl, _, rfl, by omega⟩
    · rintro l ⟨d, ds, rfl, ⟨k, rfl, hk⟩, rfl⟩
      exact ⟨_, rl_lowest (by omega) (lt9000 (n := 6) (by omega) (by decide)), fun e z => ⟨_, z, grid12 (by omega) (by omega) hk⟩⟩
theorem en_frac {C : Ctx} {Γ : List Slot} {E : XK} {i : Nat} (ho : Γ[i]? = some .sto) : EvN C (tCall (spS Rl_law_frac) [] E (tCons (tVar i) tNil)) Γ (fun e => ∃ q, e = fr q ∧ Grid 27720 (4 * 27720) q) :=
  en_callS ho (ea_nil.imp fun _ z => by rw [z]; exact ⟨rfl, trivial, rfl⟩)
theorem divInt_unit {n d : Int} (h0 : 0 ≤ n) (h1 : n < d) : 0 ≤ Rat.divInt n d ∧ Rat.divInt n d < 1 := by
  have hd : 0 < d := by omega
  refine ⟨Rat.divInt_nonneg h0 (by omega), ?_⟩
  rw [Rat.divInt_eq_div, Rat.div_lt_iff (Rat.intCast_pos.mpr hd), Rat.one_mul]
  exact Rat.intCast_lt_intCast.mpr h1
def Rl_law_place : Rel := fun zs0 Pz => zs0 = [] ∧ (True) ∧ Pz = (fun e => ∃ q, e = fr q ∧ Grid 27720 (1 * 27720) q ∧ 0 ≤ q ∧ q < 1)
theorem len_law_place : ∀ ds Post, Rl_law_place ds Post → ds.length = 0 := fun _ _ ⟨e, _⟩ => by rw [e]; rfl
theorem ok_law_place (B : Bs K mg) : Cl P w K mg base CX0 3 "_law_place" (spS Rl_law_place) [] := by
  refine cl_of (N := ["_law_store_here", "_law_spot", "_law_bottom"]) (ps := ["_law_store_here"]) B.d_law_place B.g_law_place (by decide +kernel) (fun _ _ _ _ _ _ us hl => match us, hl with | [_], _ => rfl)
    (len_S len_law_place) fun f cdv A outer s H vs Q E hr h => ?_
  have nd : (["_law_store_here", "_law_spot", "_law_bottom"] : List Str).Nodup := by decide +kernel
  refine ⟨_, PSs.nox (pss_cons (ps_set (i := 1) nd rfl (by first | exact Or.inl rfl | exact Or.inr rfl) (pe_cl (ok_law_take B) hr (by decide) pass0 (pa_cons (pv 0) (pa_cons pe_int pa_nil))))
  (pss_cons (ps_if (pt_cmpR op_lt (pv 1) pe_int (nomark _)) (pss_one (ps_ret (pe_ix ix_list (pe_lst (pa_cons (pe_tup (pa_cons pe_int (pa_cons pe_int pa_nil))) (pa_cons (pe_tup (pa_cons pe_int (pa_cons pe_int pa_nil))) (pa_cons (pe_tup (pa_cons pe_int (pa_cons pe_int pa_nil))) pa_nil)))) (pv 1) (fun _ _ => rfl)))) pss_nil)
  (pss_cons (ps_set (i := 2) nd rfl (by first | exact Or.inl rfl | exact Or.inr rfl) (pe_op op_add pe_int (pe_cl (ok_law_take B) hr (by decide) pass0 (pa_cons (pv 0) (pa_cons pe_int pa_nil)))))
  (pss_one (ps_ret (pe_cl (ok_law_lowest B) hr (by decide) pass0 (pa_cons (pe_cl (ok_law_take B) hr (by decide) pass0 (pa_cons (pv 0) (pa_cons (pv 2) pa_nil))) (pa_cons (pv 2) pa_nil)))))))), enterS h fun C ds Post hR hrt => ?_⟩
  obtain ⟨rfl, _, rfl⟩ := hR
  show NX C _ [.sto, .no, .no]
  refine sq_asgN (en_take rfl ed_int ⟨by decide, by decide⟩) ?_
  rintro d ⟨k, rfl, k0, k1⟩
  refine sq_when (etd_test (ed_cmp (ed_var rfl) ed_int)) (fun hb => ?_) fun hb => ?_
  · have h2 : k < 3 := of_decide_eq_true hb
    refine nx_retN hrt (en_ixL (eld_lst (ea_cons (ed_tup (ea_cons ed_int (ea_cons ed_int ea_nil))) (ea_cons (ed_tup (ea_cons ed_int (ea_cons ed_int ea_nil))) (ea_cons (ed_tup (ea_cons ed_int (ea_cons ed_int ea_nil))) ea_nil)))).ed (ed_var rfl) ?_)
    rintro d e rfl rfl
    obtain ⟨z, hz, hm⟩ := list_at (ds := [Dt.tup [.int 0, .int 1], .tup [.int 1, .int 2], .tup [.int 11, .int 12]]) k0 h2
    refine ⟨_, k, z, rfl, rfl, hz, ?_⟩
    (simp only [List.mem_cons, List.not_mem_nil, or_false] at hm)
    rcases hm with rfl | rfl | rfl
    · exact ⟨_, fr_of (by decide), grid12 (k := 0) (b := 1) (by decide) (by decide) (by decide), by decide, by decide⟩
    · exact ⟨_, fr_of (by decide), grid12 (k := 1) (b := 2) (by decide) (by decide) (by decide), by decide, by decide⟩
    · exact ⟨_, fr_of (by decide), grid12 (k := 11) (b := 12) (by decide) (by decide) (by decide), by decide, by decide⟩
  · refine sq_asgN (R := fun d => ∃ k, d = .int k ∧ 1 ≤ k ∧ k ≤ 12) (en_rI0 ed_int (en_take rfl ed_int ⟨by decide, by decide⟩) fun d e h1 ⟨k, h2, h3, h4⟩ => ⟨1, k, h1, h2, _, rfl, by omega, by omega⟩) ?_
    rintro d ⟨b, rfl, b0, b1⟩
    refine nx_retN hrt (en_callI ((en_cons (en_take rfl (ed_var rfl) ⟨by omega, by omega⟩) (ea_cons (ed_var rfl) ea_nil)).imp ?_))
    rintro l ⟨d, ds, rfl, ⟨k, rfl, k0, k1⟩, rfl⟩
    exact ⟨_, rl_lowest (by omega) (lt9000 (n := 6) (by omega) (by decide)), fun e z => ⟨_, z, grid12 (by omega) (by omega) (by omega), divInt_unit k0 k1⟩⟩
theorem en_place {C : Ctx} {Γ : List Slot} {E : XK} {i : Nat} (ho : Γ[i]? = some .sto) : EvN C (tCall (spS Rl_law_place) [] E (tCons (tVar i) tNil)) Γ (fun e => ∃ q, e = fr q ∧ Grid 27720 (1 * 27720) q ∧ 0 ≤ q ∧ q < 1) :=
  en_callS ho (ea_nil.imp fun _ z => by rw [z]; exact ⟨rfl, trivial, rfl⟩)
def Rl_law_moment : Rel := fun zs0 Pz => ∃ (n : Int), zs0 = [.int n] ∧ (n = 12) ∧ Pz = (fun e => ∃ q, e = fr q ∧ Grid 27720 (12 * 27720) q)
theorem len_law_moment : ∀ ds Post, Rl_law_moment ds Post → ds.length = 1 := fun _ _ ⟨_, e, _⟩ => by rw [e]; rfl
theorem ok_law_moment (B : Bs K mg) : Cl P w K mg base CX0 4 "_law_moment" (spS Rl_law_moment) [] := by
  refine cl_of (N := ["_law_store_here", "_law_reach", "_law_spot", "_law_bottom"]) (ps := ["_law_store_here", "_law_reach"]) B.d_law_moment B.g_law_moment (by decide +kernel) (fun _ _ _ _ _ _ us hl => match us, hl with | [_, _], _ => rfl)
    (len_S len_law_moment) fun f cdv A outer s H vs Q E hr h => ?_
  have nd : (["_law_store_here", "_law_reach", "_law_spot", "_law_bottom"] : List Str).Nodup := by decide +kernel
  refine ⟨_, PSs.nox (pss_cons (ps_set (i := 2) nd rfl (by first | exact Or.inl rfl | exact Or.inr rfl) (pe_cl (ok_law_take B) hr (by decide) pass0 (pa_cons (pv 0) (pa_cons pe_int pa_nil))))
  (pss_cons (ps_if (pt_cmpR op_lt (pv 2) pe_int (nomark _)) (pss_one (ps_ret (pe_tup (pa_cons (pe_cl (ok_law_whole B) hr (by decide) pass0 (pa_cons (pv 0) (pa_cons (pv 1) pa_nil))) (pa_cons pe_int pa_nil))))) pss_nil)
  (pss_cons (ps_set (i := 3) nd rfl (by first | exact Or.inl rfl | exact Or.inr rfl) (pe_op op_add pe_int (pe_cl (ok_law_take B) hr (by decide) pass0 (pa_cons (pv 0) (pa_cons pe_int pa_nil)))))
  (pss_one (ps_ret (pe_cl (ok_law_lowest B) hr (by decide) pass0 (pa_cons (pe_op op_sub (pe_cl (ok_law_take B) hr (by decide) pass0 (pa_cons (pv 0) (pa_cons (pe_op op_add (pe_op op_mul (pe_op op_mul pe_int (pv 1)) (pv 3)) pe_int) pa_nil))) (pe_op op_mul (pv 1) (pv 3))) (pa_cons (pv 3) pa_nil)))))))), enterS h fun C ds Post hR hrt => ?_⟩
  obtain ⟨n, rfl, rfl, rfl⟩ := hR
  show NX C _ [.sto, .val (.int 12), .no, .no]
  refine sq_asgN (en_take rfl ed_int ⟨by decide, by decide⟩) ?_
  rintro d ⟨k, rfl, k0, k1⟩
  refine sq_when (etd_test (ed_cmp (ed_var rfl) ed_int)) (fun hb => ?_) fun hb => ?_
  · refine nx_retN hrt (en_tup (en_cons (en_whole rfl (ed_var rfl) ⟨by decide, by decide⟩) (ea_cons ed_int ea_nil)) ?_)
    rintro l ⟨d, ds, rfl, ⟨k, rfl, k0, k1⟩, rfl⟩
    exact ⟨Nat.le_of_ble_eq_true rfl, (k : Rat), rfl, grid_int (by omega)⟩
  · refine sq_asgN (R := fun d => ∃ k, d = .int k ∧ 1 ≤ k ∧ k ≤ 12) (en_rI0 ed_int (en_take rfl ed_int ⟨by decide, by decide⟩) fun d e h1 ⟨k, h2, h3, h4⟩ => ⟨1, k, h1, h2, _, rfl, by omega, by omega⟩) ?_
    rintro d ⟨b, rfl, b0, b1⟩
    refine nx_retN hrt (en_callI ((en_cons (en_rI0 (R := fun d => ∃ k, d = .int k ∧ k.natAbs ≤ 12 * b.natAbs) (en_take rfl (ed_rI0 (ed_rI (ed_rI ed_int (ed_var rfl) (.inl ⟨by decide, by decide⟩)) (ed_var rfl) (.inl ⟨by decide, by decide⟩)) ed_int) ⟨by omega, by omega⟩) (ed_rI (ed_var rfl) (ed_var rfl) (.inl ⟨by decide, by decide⟩)) ?_) (ea_cons (ed_var rfl) ea_nil)).imp ?_))
    · rintro d e ⟨k, rfl, k0, k1⟩ rfl
      exact ⟨k, _, rfl, rfl, _, rfl, by omega⟩
    · rintro l ⟨d, ds, rfl, ⟨k, rfl, hk⟩, rfl⟩
      exact ⟨_, rl_lowest (by omega) (lt9000 (n := 8) (by omega) (by decide)), fun e z => ⟨_, z, grid12 (by omega) (by omega) hk⟩⟩
theorem en_moment {C : Ctx} {Γ : List Slot} {te : TE} {E : XK} {i : Nat} (ho : Γ[i]? = some .sto) (hm : EvD C te Γ (.int 12)) : EvN C (tCall (spS Rl_law_moment) [] E (tCons (tVar i) (tCons te tNil))) Γ (fun e => ∃ q, e = fr q ∧ Grid 27720 (12 * 27720) q) :=
  en_callS ho ((ea_cons hm ea_nil).imp fun _ z => by rw [z]; exact ⟨12, rfl, rfl, rfl⟩)
end
end Wk
-- D9
namespace Wk
open PySem PySem.Spec
open PyProof.Rows L2
section
variable {P : Program}
variable {w : World} {K : PySem.W.Frag} {mg : Str → Option Value} {base : Heap}
/-! ### cycles as rows -/
def rowD (p : Rat × Rat) : Dt := .tup [fr p.1, fr p.2]
structure RowOk (p : Rat × Rat) : Prop where
  r : Grid 27720 (4 * 27720) p.1
  s : Grid (27720 * 27720) (27720 * 27720) p.2
  s0 : 0 ≤ p.2
  s1 : p.2 < 1
def RowsOk (rows : List (Rat × Rat)) : Prop := 2 ≤ rows.length ∧ rows.length ≤ 6 ∧ ∀ p ∈ rows, RowOk p
theorem RowOk.br {p : Rat × Rat} (h : RowOk p) : Bz p.1 17 := ⟨h.r.bd (by decide) (by decide) (by decide)⟩
theorem RowOk.bs {p : Rat × Rat} (h : RowOk p) : Bz p.2 30 := ⟨h.s.bd (by decide) (by decide) (by decide)⟩
theorem mom_bz {m : Rat} (h : Grid 27720 (12 * 27720) m) : Bz m 19 := ⟨h.bd (by decide) (by decide) (by decide)⟩
/-- one of the rows so far: its rate -/
theorem en_pick0 {C : Ctx} {Γ : List Slot} {E : XK} {i j : Nat} {rows : List (Rat × Rat)} (hi : Γ[i]? = some .sto) (hj : Γ[j]? = some (.own (rows.map rowD))) (hn : rows ≠ []) (hl : rows.length ≤ 1000) :
    EvN C (tOp (rIxT K) (tCall (spS Rl_law_pick) [] E (tCons (tVar i) (tCons (tVar j) tNil))) (tC (.int 0))) Γ (fun d => ∃ p ∈ rows, d = fr p.1) := fun σ F H I Q q => by
  obtain ⟨o, ho, a, ea, ha⟩ := I.sl i _ hi
  subst ea
  obtain ⟨o2, ho2, p, vs, ep, hp, hf, h0, r⟩ := I.sl j _ hj
  subst ep
  have sm : Same F (upd F p (.lst vs)) := same_upd hf
  have nap : a ≠ p := fun e => I.cS a ha (e ▸ h0)
  have hst := I.st a ha
  have st' : StoreAt (upd F p (.lst vs)) H a := hst.mono sm (by rw [upd_ne nap]; exact hst.1) fun _ z => z
  have smH : Same (upd F p (.lst vs)) H := fun b u z => by
    by_cases e : b = p
    · subst e
      rw [upd_same] at z
      rw [hp]
      exact z
    · rw [upd_ne e] at z
      exact I.fh b u z
  have len : (rows.map rowD).length = rows.length := List.length_map ..
  have pos : 1 ≤ rows.length := List.length_pos_iff.mpr hn
  refine ⟨.ref a, ho, .ref p, ho2, ?_⟩
  show spS Rl_law_pick ([.ref a, .ref p] ++ []) H _ E
  refine ⟨a, [.ref p], upd F p (.lst vs), [.lst (rows.map rowD)], fun e => e ∈ rows.map rowD, rfl, smH, st', .cons (.lst upd_same (r.mono sm)) .nil, ⟨_, rfl, ⟨by omega, by omega⟩, rfl⟩, fun v F2 H2 d g s2 rv hd => ?_⟩
  obtain ⟨pr, hpr, rfl⟩ := List.mem_map.mp hd
  obtain ⟨b, us, rfl, hb, rus⟩ := rv.tup_inv
  cases rus with
  | cons rx rus =>
    cases rus with
    | cons ry rus =>
      cases rus
      obtain ⟨c, ws, rfl, hc, rws⟩ := rx.tup_inv
      refine ⟨b, _, 0, .ref c, rfl, rfl, .inl (.inl (g.fh _ _ hb)), rfl, ?_⟩
      have f2p : F2 p = some (.lst vs) := g.ff _ _ upd_same
      let F3 : Hp := fun x => if x = p then none else F2 x
      have f3p : F3 p = none := if_pos rfl
      have f3n : ∀ {x}, x ≠ p → F3 x = F2 x := fun h => if_neg h
      have s23 : ∀ x u, F2 x = some u → (∀ l, u ≠ .lst l) → F3 x = some u := fun x u z n => by
        rw [f3n (fun e => by rw [e, f2p] at z; exact n vs (Option.some.inj z).symm)]
        exact z
      have hcp : Rep F3 (.ref c) (fr pr.1) := .tup (s23 _ _ hc (fun l => by simp)) (by
        cases rws with
        | cons r1 rws => cases rws with
          | cons r2 rws =>
            cases rws
            cases r1.int_inv
            cases r2.int_inv
            exact .cons (.int _) (.cons (.int _) .nil))
      refine q (.ref c) F3 H2 _ ?_ (fun x u z => ?_) hcp ⟨pr, hpr, rfl⟩
      · refine I.step (fun x => x = a) (fun x e => e ▸ ha) (fun x u z => ?_) (fun x u z => ?_) (fun x u z n => g.hh x u z n) (fun x hx fx => ?_) (fun x e => ?_) (tabS_but I.tb (p := a) (vs := hst.2.choose) (hst.2.choose_spec.choose_spec.1) fun x u z n => g.hh x u z n)
        · have n : x ≠ p := fun e => by rw [e, hf] at z; cases z
          rw [f3n n]
          exact g.ff x u (sm x u z)
        · have n : x ≠ p := fun e => by rw [e, f3p] at z; cases z
          rw [f3n n] at z
          exact g.fh x u z
        · by_cases n : x = p
          · rw [n, f3p]
          · rw [f3n n]
            exact g.fn x hx (by rw [upd_ne n]; exact fx)
        · subst e
          obtain ⟨t1, us2, es2, t2, t3, ns, i1, i2, i3, i4, i5, i6, rfl, t4⟩ := s2
          refine ⟨by rw [f3n nap]; exact t1, us2, _, t2, ?_, ns, i1, i2, i3, i4, i5, i6, rfl, t4⟩
          cases t3 with
          | cons k0 t3 =>
            refine .cons ?_ ?_
            · obtain ⟨z, ls, rfl, hz, rls⟩ := k0.lst_inv
              have nz : z ≠ p := fun e => by
                rw [e, f2p] at hz
                have e2 : vs = ls := HO.lst.inj (Option.some.inj hz)
                rw [rls.ints] at e2
                obtain ⟨x, xs, rfl⟩ : ∃ x xs, rows = x :: xs := by
                  cases rows with
                  | nil => exact absurd rfl hn
                  | cons x xs => exact ⟨x, xs, rfl⟩
                cases r with
                | cons rr _ =>
                  obtain ⟨y, _, rfl, _, _⟩ := rr.tup_inv
                  cases ns with
                  | nil => cases e2
                  | cons n ns => cases e2
              refine .lst (by rw [f3n nz]; exact hz) ?_
              rw [rls.ints]
              exact .ofInts ns
            · cases t3 with
              | cons k1 t3 => cases t3 with
                | cons k2 t3 => cases t3 with
                  | cons k3 t3 => cases t3 with
                    | cons k4 t3 => cases t3 with
                      | cons k5 t3 => cases t3 with
                        | cons k6 t3 =>
                          cases t3
                          cases k1.int_inv
                          cases k2.int_inv
                          cases k3.int_inv
                          cases k4.int_inv
                          cases k5.int_inv
                          cases k6.int_inv
                          exact .cons (.int _) (.cons (.int _) (.cons (.int _) (.cons (.int _) (.cons (.int _) (.cons (.int _) .nil)))))
      · have n : x ≠ p := fun e => by rw [e, hf] at z; cases z
        rw [f3n n]
        exact g.ff x u (sm x u z)
/-- rows and a moment, the list of rows a new one -/
def spMet : Sp := fun vs H Q _ => ∃ a F, vs = [.ref a] ∧ Same F H ∧ StoreAt F H a ∧ ∀ t p xs w F' H' rows m, GrowS a F H F' H' → StoreAt F' H' a → H' t = some (.tup [.ref p, w]) → H' p = some (.lst xs) → F' p = none → H p = none → Reps F' xs (rows.map rowD) → Rep F' w (fr m) → RowsOk rows → Grid 27720 (12 * 27720) m → Q (.ref t) H'
def RtM (C : Ctx) (Q : VK) : Prop := ∀ σ F H Γ t p xs w rows m, IV C σ F H Γ → H t = some (.tup [.ref p, w]) → H p = some (.lst xs) → F p = none → C.H0 p = none → Reps F xs (rows.map rowD) → Rep F w (fr m) → RowsOk rows → Grid 27720 (12 * 27720) m → Q (.ref t) H
theorem len_Met : ∀ vs H Q E, spMet vs H Q E → vs.length = 1 := fun vs H Q E ⟨a, F, e, _⟩ => by rw [e] <;> rfl
theorem enterMet {N : List Str} {t : TS} {vs : List V} {H : Hp} {Q : VK} {E : XK} (h : spMet vs H Q E) (k : ∀ C, RtM C Q → NX C (t { nx := fun _ H' => Q .non H', rt := Q }) (slots N [.sto])) : t { nx := fun _ H' => Q .non H', rt := Q } (L2.start N vs) H := by
  obtain ⟨p, F, rfl, hF, hst, hq⟩ := h
  have hp : H p ≠ none := by
    obtain ⟨_, us, es, e, _⟩ := hst
    rw [e]
    simp
  obtain ⟨h1, h2⟩ := slot_start (N := N) (vs := [.ref p]) (l := [.sto]) (C := ctxS p F H) (F := F) (H := H) rfl fun i s hs => by
    cases i with
    | zero =>
      cases Option.some.inj hs
      exact ⟨_, rfl, p, rfl, rfl⟩
    | succ i => simp at hs
  have no : noOwn (slots N [.sto]) = true := by
    unfold noOwn slots
    rw [List.all_append]
    simp [List.all_eq_true]
  refine k (ctxS p F H) (fun σ F' H' Γ t q xs w rows m I h3 h4 h5 h6 h7 h8 h9 h10 => hq t q xs w F' H' rows m ⟨I.f0, I.fh, fun a o z n => I.hh a o z n (fun q z => absurd z (by simp [ctxS])), I.fn⟩ (I.st p rfl) h3 h4 h5 h6 h7 h8 h9 h10) _ F H
    ⟨fun q z => by rw [show q = p from z]; exact hp, fun q z => absurd z (by simp [ctxS]), .refl _, hF, fun _ _ h _ _ => h, fun _ _ h => h, fun q z => by rw [show q = p from z]; exact hst, fun q z => absurd z (by simp [ctxS]), fun q z => absurd z (by simp [ctxS]), h1, h2, fun i j d1 d2 p e1 => ?_⟩
  have := List.all_eq_true.mp no _ (List.mem_of_getElem? e1)
  cases this
theorem nx_retMet {C : Ctx} {Q : VK} {Γ : List Slot} {D : Ends} {i j : Nat} {rows : List (Rat × Rat)} {m : Rat} (hr : RtM C Q) (hi : Γ[i]? = some (.own (rows.map rowD))) (hj : Γ[j]? = some (.val (fr m))) (h1 : RowsOk rows) (h2 : Grid 27720 (12 * 27720) m) (e : D.rt = Q := by rfl) : NX C (tRet (tTup (tCons (tVar i) (tCons (tVar j) tNil))) D) Γ := fun σ F H I => by
  obtain ⟨o, ho, p, vs, e1, e2, e3, e4, r⟩ := I.sl i _ hi
  subst e1
  obtain ⟨o2, ho2, w, e5, rw'⟩ := I.sl j _ hj
  subst e5
  refine ⟨.ref p, ho, w, ho2, by show 2 ≤ sizeLine; decide, fun t ht => ?_⟩
  have g := grow_new0 (o := .tup [V.ref p, w]) I.fh ht
  rw [e]
  exact hr σ F _ Γ t p vs w rows m (I.grow g) upd_same (g.hh _ _ e2) e3 e4 r rw' h1 h2
theorem sq_asgMet {C : Ctx} {K : PySem.W.Frag} {E : XK} {Γ : List Slot} {D : Ends} {u : TS} {s i j : Nat} (hs : Γ[s]? = some .sto) (k : ∀ rows m, RowsOk rows → Grid 27720 (12 * 27720) m → NX C (u D) ((Γ.set i (.own (rows.map rowD))).set j (.val (fr m)))) :
    NX C (tSeq (tAsg (tCall spMet [] E (tCons (tVar s) tNil)) (gTup K 2 (gCons (gName i) (gCons (gName j) gNil)))) u D) Γ := fun σ F H I => by
  obtain ⟨o, ho, a, ea, ha⟩ := I.sl s _ hs
  subst ea
  refine ⟨.ref a, ho, a, F, rfl, I.fh, I.st a ha, fun t p xs w F' H' rows m g st h1 h2 h3 h4 h5 h6 h7 h8 => ?_⟩
  have I' := I.growS ha g st
  refine ⟨t, _, rfl, .inl (.inl h1), rfl, _, _, rfl, _, _, rfl, rfl, ?_⟩
  exact k rows m h7 h8 _ F' H' ((I'.setOwn (i := i) h2 h3 (I.fresh0 h4) (notOwn_new I h4) h5).setVal h6)
theorem ok_law_met (B : Bs K mg) : Cl P w K mg base CX0 5 "_law_met" spMet [] := by
  refine cl_of (N := ["_law_store_here", "_law_moment_here", "_law_place_here", "_law_rows", "_law_k", "_law_rate"]) (ps := ["_law_store_here"]) B.d_law_met B.g_law_met (by decide +kernel) (fun _ _ _ _ _ _ us hl => match us, hl with | [_], _ => rfl)
    (len_Met) fun f cdv A outer s H vs Q E hr h => ?_
  have nd : (["_law_store_here", "_law_moment_here", "_law_place_here", "_law_rows", "_law_k", "_law_rate"] : List Str).Nodup := by decide +kernel
  refine ⟨_, PSs.nox (pss_cons (ps_set (i := 1) nd rfl (by first | exact Or.inl rfl | exact Or.inr rfl) (pe_cl (ok_law_moment B) hr (by decide) pass0 (pa_cons (pv 0) (pa_cons pe_int pa_nil))))
  (pss_cons (ps_set (i := 2) nd rfl (by first | exact Or.inl rfl | exact Or.inr rfl) (pe_cl (ok_law_place B) hr (by decide) pass0 (pa_cons (pv 0) pa_nil)))
  (pss_cons (ps_set (i := 3) nd rfl (by first | exact Or.inl rfl | exact Or.inr rfl) (pe_lst pa_nil))
  (pss_cons (ps_for PassesOwn.never rfl (pi_range1 rfl B.z_range (pa_cons (pe_op op_add pe_int (pe_cl (ok_law_size B) hr (by decide) pass0 (pa_cons (pv 0) (pa_cons pe_int pa_nil)))) pa_nil)) (pg_name (i := 4) nd rfl (by first | exact Or.inl rfl | exact Or.inr rfl)) (pss_cons (ps_set (i := 5) nd rfl (by first | exact Or.inl rfl | exact Or.inr rfl) (pe_cl (ok_law_frac B) hr (by decide) pass0 (pa_cons (pv 0) pa_nil)))
  (pss_cons (ps_if (PW.pt (pw_and (pt_truth (pv 3) (by intro _; rfl)) (pw_and1 (pt_cmpR op_eq (pe_cl (ok_law_take B) hr (by decide) pass0 (pa_cons (pv 0) (pa_cons pe_int pa_nil))) pe_int (nomark _))))) (pss_one (ps_set (i := 5) nd rfl (by first | exact Or.inl rfl | exact Or.inr rfl) (pe_ix ix_tup (pe_cl (ok_law_pick B) hr (by decide) pass0 (pa_cons (pv 0) (pa_cons (pv 3) pa_nil))) pe_int (fun _ _ => rfl)))) pss_nil)
  (pss_one (ps_expr (pe_bm PySem.F.plainAttrs_list PySem.F.slot_list_append PySem.F.type_list_append mt_append (pv 3) (pa_cons (pe_tup (pa_cons (pv 5) (pa_cons (pe_cl (ok_law_part B) hr (by decide) pass0 (pa_cons (pe_cl (ok_law_minus B) hr (by decide) pass0 (pa_cons (pv 2) (pa_cons (pe_cl (ok_law_times B) hr (by decide) pass0 (pa_cons (pv 5) (pa_cons (pv 1) pa_nil))) pa_nil))) pa_nil)) pa_nil))) pa_nil)))))))
  (pss_one (ps_ret (pe_tup (pa_cons (pv 3) (pa_cons (pv 1) pa_nil))))))))), enterMet h fun C hrt => ?_⟩
  show NX C _ [.sto, .no, .no, .no, .no, .no]
  refine sq_asgN (en_moment rfl ed_int) ?_
  rintro d ⟨m, rfl, hm⟩
  refine sq_asgN (en_place rfl) ?_
  rintro d ⟨q, rfl, hq, q0, q1⟩
  have bq : Bz q 15 := ⟨hq.bd (by decide) (by decide) (by decide)⟩
  have bm := mom_bz hm
  refine sq_asgO (eld_lst ea_nil) ?_
  refine sq_forRN (Rn := fun n => 2 ≤ n ∧ n ≤ 6) (EvA.imp (en_cons (en_rI0 (R := fun d => ∃ k, d = .int k ∧ 2 ≤ k ∧ k ≤ 6) ed_int (en_callS (R := fun e => ∃ k, e = .int k ∧ 0 ≤ k ∧ k ≤ 4) rfl (EvA.imp (ea_cons ed_int ea_nil) ?_)) ?_) ea_nil) ?_) ?_
  · rintro _ rfl
    exact ⟨4, rfl, rfl, rfl⟩
  · rintro d e rfl ⟨k, h2, h3, h4⟩
    exact ⟨2, k, rfl, h2, _, rfl, by omega, by omega⟩
  · rintro l ⟨d, ds, e1, ⟨k, e2, h⟩, e3⟩
    exact ⟨k, by rw [e1, e2, e3], h⟩
  intro n hn
  refine sq_forE (ei_range1 ea_const ⟨by omega, by omega⟩) (ι := List (Rat × Rat)) (fun _ rows => [.sto, .val (fr m), .val (fr q), .own (rows.map rowD), .no, .no]) (fun i rows => rows.length = i ∧ ∀ p ∈ rows, RowOk p) [] ⟨rfl, fun p hp => by cases hp⟩ (.keep (.keep (.keep (.keep (.refl _))))) (fun C' le i hi rows hrows N hN => ⟨_, [4], asg_name, ?_⟩) ?_
  · have hi6 : i < 6 := by omega
    refine sq_asgN (en_frac rfl) ?_
    rintro d ⟨f0, rfl, hf0⟩
    refine sq_joinI (ι := {f : Rat // Grid 27720 (4 * 27720) f}) (fun f => [.sto, .val (fr m), .val (fr q), .own (rows.map rowD), .no, .val (fr f.1)]) (fun hJ => ?_) ?_
    · cases rows with
      | nil => exact nx_if (etd_and0 (etd_truO rfl) rfl) (fun z => by cases z) fun _ => (hJ ⟨f0, hf0⟩).wk (.keep (.keep (.keep (.keep (.drop (.refl _))))))
      | cons r0 rr =>
        refine nx_ifN (et_and (R := fun _ => True) (etd_truO rfl) (fun _ => en_test (R := fun d => ∃ b, d = .bl b) (en_op (en_take rfl ed_int ⟨by decide, by decide⟩) ed_int ?_) fun d z => z) (fun _ _ _ => trivial) (fun _ => trivial)) (fun _ => ?_) (fun _ => (hJ ⟨f0, hf0⟩).wk (.keep (.keep (.keep (.keep (.drop (.refl _)))))))
        · rintro d e ⟨k, rfl, k0, k1⟩ rfl σ F H I x y r1 r2 Q qq
          cases r1.int_inv
          cases r2.int_inv
          exact ⟨rfl, qq _ F H _ I (.refl _) (.bl _) ⟨_, rfl⟩⟩
        · refine nx_asgN (en_pick0 (rows := r0 :: rr) rfl rfl (List.cons_ne_nil _ _) (by have := hrows.1; omega)) ?_
          rintro d ⟨p, hp, rfl⟩
          exact (hJ ⟨p.1, (hrows.2 p hp).r⟩).wk (.keep (.keep (.keep (.keep (.drop (.refl _))))))
    · rintro ⟨f, hf⟩
      have bf : Bz f 17 := ⟨hf.bd (by decide) (by decide) (by decide)⟩
      refine nx_app rfl (ed_tup (ea_cons (ed_var rfl) (ea_cons (ed_call (ea_cons (ed_call (ea_cons (ed_var rfl) (ea_cons (ed_call (ea_cons (ed_var rfl) (ea_cons (ed_var rfl) ea_nil)) rl_times) ea_nil)) rl_minus) ea_nil) rl_lpart) ea_nil))) (by rw [List.length_map]; omega) ?_
      have hP : (rows ++ [(f, part (q - f * m))]).length = i + 1 ∧ ∀ p ∈ rows ++ [(f, part (q - f * m))], RowOk p := by
        refine ⟨by rw [List.length_append, hrows.1]; rfl, fun p hp => ?_⟩
        (rcases List.mem_append.mp hp with h | h)
        · exact hrows.2 p h
        · rw [List.mem_singleton.mp h]
          have hu := part_unit (q - f * m)
          exact ⟨hf, ((hq.lift 27720).sub (hf.mul hm)).part (by decide), hu.1, hu.2⟩
      have h3 := hN _ hP
      rw [List.map_append] at h3
      exact h3.wk (.keep (.keep (.keep (.keep (.keep (.drop .nil))))))
  · rintro rows ⟨hl, hok⟩
    exact nx_retMet hrt rfl rfl ⟨by omega, by omega, hok⟩ hm
end
end Wk
-- D10
namespace Wk
open PySem PySem.Spec
open PyProof.Rows L2
section
variable {P : Program}
variable {w : World} {K : PySem.W.Frag} {mg : Str → Option Value} {base : Heap}
/-- g, x, y with x * a + y * b = g -/
def Rl_law_bezout : Rel := fun zs0 Pz => ∃ (a b : Int), zs0 = [.int a, .int b] ∧ (a.natAbs < 2 ^ 8000 ∧ b.natAbs < 2 ^ 8000) ∧ Pz = (fun e => ∃ x y : Int, e = .tup [.int (Int.gcd a b : Nat), .int x, .int y] ∧ x * a + y * b = (Int.gcd a b : Nat) ∧ x.natAbs ≤ b.natAbs + 1)
theorem len_law_bezout : ∀ ds Post, Rl_law_bezout ds Post → ds.length = 2 := fun _ _ ⟨_, _, e, _⟩ => by rw [e]; rfl
structure BzSt where
  n : Nat
  a : Nat
  c : Nat
  m : Nat
  b : Nat
  d : Nat
  e : Bool
def bzRow (n a c m b d : Nat) (e : Bool) : List Dt := [.int (n : Int), .int (sg e a), .int (sg (!e) c), .int (m : Int), .int (sg (!e) b), .int (sg e d)]
structure BzP (A B n a c m b d : Nat) (e : Bool) : Prop where
  e : Euc A B n a c m b d e
  n : n ≤ A + B
  m : m ≤ A + B
theorem BzP.step {A B n a c m b d : Nat} {e : Bool} (h : BzP A B n a c m b d e) (hm : 0 < m) : BzP A B m b d (n % m) (a + n / m * b) (c + n / m * d) (!e) :=
  ⟨h.e.step hm, h.m, Nat.le_trans (Nat.mod_le _ _) h.n⟩
theorem not_sg (e : Bool) (n : Nat) : sg (!(!e)) n = sg e n := by cases e <;> rfl
theorem lt_plus {A B k : Nat} (ha : A < 2 ^ 8000) (hb : B < 2 ^ 8000) (h : k ≤ A + B) : k < 2 ^ 8001 := Nat.lt_of_le_of_lt h (add_lt_pow ha hb)
theorem lt_succ_pow {A k : Nat} (ha : A < 2 ^ 8000) (h : k ≤ A + 1) : k < 2 ^ 8001 := Nat.lt_of_le_of_lt h (add_lt_pow ha (Nat.one_lt_two_pow (by decide)))
theorem sg_mul {a : Int} (e : Bool) (n : Nat) : (if a < 0 then -sg e n else sg e n) * a = sg e n * (a.natAbs : Int) := by
  by_cases h : a < 0
  · rw [if_pos h, show (a.natAbs : Int) = -a by omega, Int.mul_neg, Int.neg_mul]
  · rw [if_neg h, show (a.natAbs : Int) = a by omega]
theorem ok_law_bezout (B : Bs K mg) : Cl P w K mg base CX0 1 "_law_bezout" (spP Rl_law_bezout) [] := by
  refine cl_of (N := ["_law_left", "_law_right", "_law_row", "_law_times_in", "_law_rest", "_law_k"]) (ps := ["_law_left", "_law_right"]) B.d_law_bezout B.g_law_bezout (by decide +kernel) (fun _ _ _ _ _ _ us hl => match us, hl with | [_, _], _ => rfl)
    (len_P len_law_bezout) fun f cdv A outer s H vs Q E hr h => ?_
  have nd : (["_law_left", "_law_right", "_law_row", "_law_times_in", "_law_rest", "_law_k"] : List Str).Nodup := by decide +kernel
  refine ⟨_, PSs.nox (pss_cons (ps_set (i := 2) nd rfl (by first | exact Or.inl rfl | exact Or.inr rfl) (pe_lst (pa_cons (pe_callB call_abs (by rfl) B.z_abs (by decide +kernel) (pa_cons (pv 0) pa_nil)) (pa_cons pe_int (pa_cons pe_int (pa_cons (pe_callB call_abs (by rfl) B.z_abs (by decide +kernel) (pa_cons (pv 1) pa_nil)) (pa_cons pe_int (pa_cons pe_int pa_nil))))))))
  (pss_cons (ps_while PassesOwn.never (pt_cmpR op_gt (pe_ix ix_list (pv 2) pe_int (fun _ _ => rfl)) pe_int (nomark _)) (pss_cons (ps_set (i := 3) nd rfl (by first | exact Or.inl rfl | exact Or.inr rfl) (pe_op op_fdivZ (pe_ix ix_list (pv 2) pe_int (fun _ _ => rfl)) (pe_ix ix_list (pv 2) pe_int (fun _ _ => rfl))))
  (pss_cons (ps_setLc (i := 4) (own := [("_law_k", 5)]) rfl nd rfl rfl (sw_true rfl rfl rfl (by decide +kernel)) (pi_range1 rfl B.z_range (pa_cons pe_int pa_nil)) (blkOk_by (by show blkC ["_law_left", "_law_right", "_law_row", "_law_times_in", "_law_rest", "_law_k"] (defScope (top 89)) _ _ = true; decide +kernel)) (fun _ _ _ _ _ => pg_name (i := 5) nd rfl (Or.inl rfl)) (fun _ _ _ _ _ => pts_nil) (fun _ _ _ _ _ => (pe_op op_sub (pe_ix (ix_listK (K := K)) (pv 2) (pv 5) (fun _ _ => rfl)) (pe_op op_mulW (pv 3) (pe_ix (ix_listK (K := K)) (pv 2) (pe_op op_add (pv 5) pe_int) (fun _ _ => rfl))))))
  (pss_one (ps_set (i := 2) nd rfl (by first | exact Or.inl rfl | exact Or.inr rfl) (pe_op op_cat (pe_slice sl_list (pv 2) (po_some pe_int) po_none) (pv 4)))))))
  (pss_cons (ps_if (pt_cmpR op_lt (pv 0) pe_int (nomark _)) (pss_one (ps_asg (pe_un un_neg (pe_ix ix_list (pv 2) pe_int (fun _ _ => rfl))) (pg_sub (pv 2) pe_int set_list))) pss_nil)
  (pss_cons (ps_if (pt_cmpR op_lt (pv 1) pe_int (nomark _)) (pss_one (ps_asg (pe_un un_neg (pe_ix ix_list (pv 2) pe_int (fun _ _ => rfl))) (pg_sub (pv 2) pe_int set_list))) pss_nil)
  (pss_one (ps_ret (pe_tup (pa_cons (pe_ix ix_list (pv 2) pe_int (fun _ _ => rfl)) (pa_cons (pe_ix ix_list (pv 2) pe_int (fun _ _ => rfl)) (pa_cons (pe_ix ix_list (pv 2) pe_int (fun _ _ => rfl)) pa_nil)))))))))), enterP h fun C ds Post hR hrt => ?_⟩
  obtain ⟨a, b, rfl, ⟨ha, hb⟩, rfl⟩ := hR
  show NX C _ [.val (.int a), .val (.int b), .no, .no, .no, .no]
  refine sq_asgO (eld_lst (ea_cons (ed_abs (ed_var rfl)) (ea_cons ed_int (ea_cons ed_int (ea_cons (ed_abs (ed_var rfl)) (ea_cons ed_int (ea_cons ed_int ea_nil))))))) ?_
  refine sq_while (fun z : BzSt => [.val (.int a), .val (.int b), .own (bzRow z.n z.a z.c z.m z.b z.d z.e), .no, .no, .no]) (fun z => BzP a.natAbs b.natAbs z.n z.a z.c z.m z.b z.d z.e) (fun z => z.m) ⟨a.natAbs, 1, 0, b.natAbs, 0, 1, true⟩ ⟨euc0 _ _, Nat.le_add_right _ _, Nat.le_add_left _ _⟩ (.refl _) ?_
  rintro ⟨n, x, c, m, y, d, e⟩ hz
  replace hz : BzP a.natAbs b.natAbs n x c m y d e := hz
  show ∃ b', EtD C _ [.val (.int a), .val (.int b), .own (bzRow n x c m y d e), .no, .no, .no] b' ∧ _
  refine ⟨_, etd_test (ed_cmp (ed_ixO rfl ed_int rfl) ed_int), fun hb' N hN => ?_, fun hb' => ?_⟩
  · have hm0 : (0 : Int) < (m : Int) := of_decide_eq_true hb'
    have hm : 0 < m := by omega
    refine nx_freeze (i := 2) rfl ?_
    show NX C _ [.val (.int a), .val (.int b), .val (.lst (bzRow n x c m y d e)), .no, .no, .no]
    have hq : ((n : Int)).fdiv (m : Int) = ((n / m : Nat) : Int) := by
      rw [Int.fdiv_eq_ediv_of_nonneg _ (by omega)]
      rfl
    have qs : n / m < 2 ^ 8001 := lt_plus ha hb (Nat.le_trans (Nat.div_le_self _ _) hz.n)
    have ys : y < 2 ^ 8001 := lt_succ_pow hb hz.e.lb
    have ds : d < 2 ^ 8001 := lt_succ_pow ha hz.e.ld
    have ms : m < 2 ^ 8001 := lt_plus ha hb hz.m
    refine sq_asg ((ed_rI (ed_ixL (ed_var rfl) ed_int rfl) (ed_ixL (ed_var rfl) ed_int rfl) (dv_nat (by omega) ms (by decide))).is (congrArg Dt.int hq)) ?_
    have cm : ∀ {k : Int}, k.natAbs < 2 ^ 8001 → CMulW ((n / m : Nat) : Int) k := fun h => mw_ii (by rw [Int.natAbs_natCast]; exact qs) h (by decide) (by decide) (by decide)
    refine sq_asgO (ds := [.int ((n % m : Nat) : Int), .int (sg e (x + n / m * y)), .int (sg (!e) (c + n / m * d))]) ?_ ?_
    · refine eld_lc (n := 3) (fun i => [Dt.int ((n % m : Nat) : Int), .int (sg e (x + n / m * y)), .int (sg (!e) (c + n / m * d))].getD i .non) (ei_range1 (ea_cons ed_int ea_nil) ⟨by decide, by decide⟩) rfl (by decide) fun C' le i hi => ⟨_, asg_name (by simp), ?_⟩
      have hi3 : i = 0 ∨ i = 1 ∨ i = 2 := by omega
      rcases hi3 with rfl | rfl | rfl
      · refine (ed_rI0 (ed_ixL (ed_var rfl) (ed_var rfl) rfl) (ed_rI (ed_var rfl) (ed_ixL (ed_var rfl) (ed_rI0 (ed_var rfl) ed_int) rfl) (cm (by rw [Int.natAbs_natCast]; exact ms)))).is ?_
        refine congrArg Dt.int ?_
        have hd := Nat.div_add_mod n m
        have e2 : ((n % m : Nat) : Int) = (n : Int) - ((n / m : Nat) : Int) * (m : Int) := by
          have : (n : Int) = (m : Int) * ((n / m : Nat) : Int) + ((n % m : Nat) : Int) := by exact_mod_cast hd.symm
          grind
        exact e2.symm
      · refine (ed_rI0 (ed_ixL (ed_var rfl) (ed_var rfl) rfl) (ed_rI (ed_var rfl) (ed_ixL (ed_var rfl) (ed_rI0 (ed_var rfl) ed_int) rfl) (cm (by rw [sg_abs]; exact ys)))).is ?_
        exact congrArg Dt.int (sg_step e x y (n / m))
      · refine (ed_rI0 (ed_ixL (ed_var rfl) (ed_var rfl) rfl) (ed_rI (ed_var rfl) (ed_ixL (ed_var rfl) (ed_rI0 (ed_var rfl) ed_int) rfl) (cm (by rw [sg_abs]; exact ds)))).is ?_
        refine congrArg Dt.int ?_
        have := sg_step (!e) c d (n / m)
        rw [Bool.not_not] at this
        exact this
    · refine nx_freeze (i := 4) rfl ?_
      refine nx_asgO (eld_cat (eld_sl (ed_var rfl) (eo_some ed_int) eo_none).ed (ed_var rfl) (by show 3 + 3 ≤ 1000; decide)) ?_
      have h3 := hN ⟨m, y, d, n % m, x + n / m * y, c + n / m * d, !e⟩ (hz.step hm) (Nat.mod_lt _ hm)
      have er : bzRow m y d (n % m) (x + n / m * y) (c + n / m * d) (!e) = [.int (m : Int), .int (sg (!e) y), .int (sg e d), .int ((n % m : Nat) : Int), .int (sg e (x + n / m * y)), .int (sg (!e) (c + n / m * d))] := by
        unfold bzRow
        rw [Bool.not_not]
      have h4 : NX C N [.val (.int a), .val (.int b), .own [.int (m : Int), .int (sg (!e) y), .int (sg e d), .int ((n % m : Nat) : Int), .int (sg e (x + n / m * y)), .int (sg (!e) (c + n / m * d))], .no, .no, .no] := er ▸ h3
      exact h4.wk (.keep (.keep (.keep (.drop (.drop (.refl _))))))
  · have hm : m = 0 := by
      have h1 : ¬ (0 : Int) < (m : Int) := of_decide_eq_false hb'
      omega
    subst hm
    have hn : n = Int.gcd a b := by
      have := hz.e.g
      rw [Nat.gcd_zero_right] at this
      exact this
    subst hn
    refine sq_joinI (ι := Unit) (fun _ => [.val (.int a), .val (.int b), .own [.int (Int.gcd a b : Nat), .int (if a < 0 then -sg e x else sg e x), .int (sg (!e) c), .int 0, .int (sg (!e) y), .int (sg e d)], .no, .no, .no]) (fun hJ => ?_) fun _ => ?_
    · refine nx_if (etd_test (ed_cmp (ed_var rfl) ed_int)) (fun hl => ?_) fun hl => ?_
      · refine nx_setItem (i := 2) (n := 1) rfl (ed_neg (ed_ixO rfl ed_int rfl)) ed_int rfl ?_
        have := hJ ()
        rw [if_pos (of_decide_eq_true hl)] at this
        exact this
      · have := hJ ()
        rw [if_neg (of_decide_eq_false hl)] at this
        exact this
    refine sq_joinI (ι := Unit) (fun _ => [.val (.int a), .val (.int b), .own [.int (Int.gcd a b : Nat), .int (if a < 0 then -sg e x else sg e x), .int (if b < 0 then -sg (!e) c else sg (!e) c), .int 0, .int (sg (!e) y), .int (sg e d)], .no, .no, .no]) (fun hJ => ?_) fun _ => ?_
    · refine nx_if (etd_test (ed_cmp (ed_var rfl) ed_int)) (fun hl => ?_) fun hl => ?_
      · refine nx_setItem (i := 2) (n := 2) rfl (ed_neg (ed_ixO rfl ed_int rfl)) ed_int rfl ?_
        have := hJ ()
        rw [if_pos (of_decide_eq_true hl)] at this
        exact this
      · have := hJ ()
        rw [if_neg (of_decide_eq_false hl)] at this
        exact this
    refine nx_ret hrt (ed_tup (ea_cons (ed_ixO rfl ed_int rfl) (ea_cons (ed_ixO rfl ed_int rfl) (ea_cons (ed_ixO rfl ed_int rfl) ea_nil)))) ⟨_, _, rfl, ?_, ?_⟩
    · rw [sg_mul, sg_mul]
      exact hz.e.i1
    · have hh : (if a < 0 then -sg e x else sg e x).natAbs = x := by
        split
        · rw [Int.natAbs_neg, sg_abs]
        · rw [sg_abs]
      rw [hh]
      exact hz.e.la
end
end Wk
-- D11
namespace Wk
open PySem PySem.Spec
open PyProof.Rows L2
section
variable {P : Program}
variable {w : World} {K : PySem.W.Frag} {mg : Str → Option Value} {base : Heap}
theorem cut_tail (d : Dt) (ds : List Dt) : cutD (d :: ds) (some 1) none = ds := by
  unfold cutD
  have e : HT.sIx (d :: ds).length 0 (some 1) = 1 := by
    show HT.sIx (d :: ds).length 0 (some ((1 : Nat) : Int)) = 1
    rw [HT.sIx_nat]
    simp
  rw [e]
  show ds.take ((d :: ds).length - 1) = ds
  simp
theorem atI0 {α : Type} {d : α} {ds : List α} : atI (d :: ds) 0 = some d := atI_nat (j := 0) rfl
/-! ### rules -/
def ruleD : Rule → Dt
  | none => .non
  | some (f, none) => .tup [fr f, .non]
  | some (f, some s) => .tup [fr f, fr s]
def SzS : Nat → Nat
  | 0 => 18
  | n + 1 => 2 * SzS n + 18
def SzB : Nat → Nat
  | 0 => 51
  | n + 1 => SzB n + 2 * SzS n + 19
theorem szs {j : Nat} (h : j ≤ 4) : SzS j ≤ 558 ∧ SzB j ≤ 1063 := by
  have : j = 0 ∨ j = 1 ∨ j = 2 ∨ j = 3 ∨ j = 4 := by omega
  rcases this with rfl | rfl | rfl | rfl | rfl <;> decide
theorem RowOk.subr {p q : Rat × Rat} (h : RowOk p) (k : RowOk q) : Bd 18 (p.1 - q.1) := (h.r.sub k.r).bd (by decide) (by decide) (by decide)
theorem RowOk.subs {p q : Rat × Rat} (h : RowOk p) (k : RowOk q) : Bd 31 (p.2 - q.2) := (h.s.sub k.s).bd (by decide) (by decide) (by decide)
theorem bd_floor {n : Nat} {q : Rat} (h : Bd n q) : Bd n ((q.floor : Int) : Rat) := by
  refine bd_int ?_ h.pos
  rw [Rat.floor_def]
  exact Nat.lt_of_le_of_lt (Int.natAbs_ediv_le_natAbs _ _) h.1
instance {n : Nat} {q : Rat} [Bz q n] : Bz ((q.floor : Int) : Rat) n := ⟨bd_floor bz⟩
abbrev RSt := Option (Rat × Rat)
def rsB : RSt → Dt
  | none => .non
  | some x => fr x.1
def rsS : RSt → Dt
  | none => fr 0
  | some x => fr x.2
def RsP (p0 : Rat × Rat) (l : List (Rat × Rat)) (i : Nat) : RSt → Prop
  | none => ∀ m, MtP p0 (l.take i) m
  | some (b, s) => 0 < s ∧ (∀ m, MtP p0 (l.take i) m ↔ ∃ k : Int, m = b + (k : Rat) * s) ∧ ∃ j, j < i ∧ Bd (SzB j) b ∧ Bd (SzS j) s
theorem mtP_take {p0 : Rat × Rat} {l : List (Rat × Rat)} {i : Nat} (hi : i < l.length) {m : Rat} : MtP p0 (l.take (i + 1)) m ↔ MtP p0 (l.take i) m ∧ Whole ((l[i].1 - p0.1) * m + (l[i].2 - p0.2)) := by
  rw [← List.take_append_getElem hi, mtP_snoc]
theorem mtP_of {p0 : Rat × Rat} {l : List (Rat × Rat)} {i : Nat} (hi : i < l.length) {m : Rat} (h : MtP p0 l m) : MtP p0 (l.take i) m ∧ Whole ((l[i].1 - p0.1) * m + (l[i].2 - p0.2)) :=
  ⟨fun p hp => h p (List.mem_of_mem_take hp), h _ (List.getElem_mem hi)⟩
def Rl_law_rule : Rel := fun zs0 Pz => ∃ (rows : List (Rat × Rat)), zs0 = [.lst (rows.map rowD)] ∧ (RowsOk rows) ∧ Pz = (fun e => ∃ r, e = ruleD r ∧ IsRule rows r)
theorem len_law_rule : ∀ ds Post, Rl_law_rule ds Post → ds.length = 1 := fun _ _ ⟨_, e, _⟩ => by rw [e]; rfl
theorem rl_law_rule {rows : List (Rat × Rat)} (h : RowsOk rows) : Rl_law_rule [.lst (rows.map rowD)] (fun e => ∃ r, e = ruleD r ∧ IsRule rows r) := ⟨rows, rfl, h, rfl⟩
theorem getD_map {α : Type} {f : α → Dt} {l : List α} {i : Nat} (hi : i < (l.map f).length) : (l.map f).getD i .non = f (l[i]'(by simpa using hi)) := by
  rw [List.getD_eq_getElem?_getD, List.getElem?_eq_getElem hi, Option.getD_some, List.getElem_map]
theorem whole0 {r g m : Rat} (h : r = 0) : Whole (r * m + g) ↔ Whole g := by rw [h, Rat.zero_mul, Rat.zero_add]
theorem fmod_den_zero (i : Int) (q : Rat) : i.fmod (q.den : Int) = 0 ↔ (q.den : Int) ∣ i := by
  rw [fmod_den]
  exact ⟨Int.dvd_of_emod_eq_zero, Int.emod_eq_zero_of_dvd⟩
theorem ok_law_rule (B : Bs K mg) : Cl P w K mg base CX0 4 "_law_rule" (spP Rl_law_rule) [] := by
  refine cl_of (N := ["_law_rows", "_law_base", "_law_step", "_law_row", "_law_rate", "_law_gap", "_law_move", "_law_left", "_law_need", "_law_count_of"]) (ps := ["_law_rows"]) B.d_law_rule B.g_law_rule (by decide +kernel) (fun _ _ _ _ _ _ us hl => match us, hl with | [_], _ => rfl)
    (len_P len_law_rule) fun f cdv A outer s H vs Q E hr h => ?_
  have nd : (["_law_rows", "_law_base", "_law_step", "_law_row", "_law_rate", "_law_gap", "_law_move", "_law_left", "_law_need", "_law_count_of"] : List Str).Nodup := by decide +kernel
  refine ⟨_, PSs.nox (pss_cons (ps_set (i := 1) nd rfl (by first | exact Or.inl rfl | exact Or.inr rfl) pe_non)
  (pss_cons (ps_set (i := 2) nd rfl (by first | exact Or.inl rfl | exact Or.inr rfl) (pe_tup (pa_cons pe_int (pa_cons pe_int pa_nil))))
  (pss_cons (ps_for PassesOwn.never rfl (pi_list (pe_slice sl_list (pv 0) (po_some pe_int) po_none)) (pg_name (i := 3) nd rfl (by first | exact Or.inl rfl | exact Or.inr rfl)) (pss_cons (ps_set (i := 4) nd rfl (by first | exact Or.inl rfl | exact Or.inr rfl) (pe_cl (ok_law_minus B) hr (by decide) pass0 (pa_cons (pe_ix ix_tup (pv 3) pe_int (fun _ _ => rfl)) (pa_cons (pe_ix ix_tup (pe_ix ix_list (pv 0) pe_int (fun _ _ => rfl)) pe_int (fun _ _ => rfl)) pa_nil))))
  (pss_cons (ps_set (i := 5) nd rfl (by first | exact Or.inl rfl | exact Or.inr rfl) (pe_cl (ok_law_minus B) hr (by decide) pass0 (pa_cons (pe_ix ix_tup (pv 3) pe_int (fun _ _ => rfl)) (pa_cons (pe_ix ix_tup (pe_ix ix_list (pv 0) pe_int (fun _ _ => rfl)) pe_int (fun _ _ => rfl)) pa_nil))))
  (pss_one (ps_if (pt_cmpR op_eq (pe_ix ix_tup (pv 4) pe_int (fun _ _ => rfl)) pe_int (nomark _)) (pss_one (ps_if (pt_cmpR op_ne (pe_ix ix_tup (pv 5) pe_int (fun _ _ => rfl)) pe_int (nomark _)) (pss_one (ps_ret pe_non)) pss_nil)) (pss_one (ps_if (pt_cmpR op_isN (pv 1) pe_non (nomark _)) (pss_cons (ps_set (i := 1) nd rfl (by first | exact Or.inl rfl | exact Or.inr rfl) (pe_cl (ok_law_minus B) hr (by decide) pass0 (pa_cons (pe_tup (pa_cons pe_int (pa_cons pe_int pa_nil))) (pa_cons (pe_cl (ok_law_over B) hr (by decide) pass0 (pa_cons (pv 5) (pa_cons (pv 4) pa_nil))) pa_nil))))
  (pss_one (ps_set (i := 2) nd rfl (by first | exact Or.inl rfl | exact Or.inr rfl) (pe_tup (pa_cons (pe_ix ix_tup (pv 4) pe_int (fun _ _ => rfl)) (pa_cons (pe_callB call_abs (by rfl) B.z_abs (by decide +kernel) (pa_cons (pe_ix ix_tup (pv 4) pe_int (fun _ _ => rfl)) pa_nil)) pa_nil)))))) (pss_cons (ps_set (i := 6) nd rfl (by first | exact Or.inl rfl | exact Or.inr rfl) (pe_cl (ok_law_times B) hr (by decide) pass0 (pa_cons (pv 4) (pa_cons (pv 2) pa_nil))))
  (pss_cons (ps_set (i := 7) nd rfl (by first | exact Or.inl rfl | exact Or.inr rfl) (pe_cl (ok_law_plus B) hr (by decide) pass0 (pa_cons (pe_cl (ok_law_times B) hr (by decide) pass0 (pa_cons (pv 4) (pa_cons (pv 1) pa_nil))) (pa_cons (pv 5) pa_nil))))
  (pss_cons (ps_if (pt_cmpR op_ne (pe_op op_modN (pe_callTy call_int1 (by rfl) B.z_int (by decide +kernel) (pa_cons (pe_ix ix_tup (pv 6) pe_int (fun _ _ => rfl)) pa_nil)) (pe_ix ix_tup (pv 7) pe_int (fun _ _ => rfl))) pe_int (nomark _)) (pss_one (ps_ret pe_non)) pss_nil)
  (pss_cons (ps_set (i := 8) nd rfl (by first | exact Or.inl rfl | exact Or.inr rfl) (pe_op op_mulW (pe_un un_neg (pe_ix ix_tup (pv 7) pe_int (fun _ _ => rfl))) (pe_op op_fdivZ (pe_ix ix_tup (pv 6) pe_int (fun _ _ => rfl)) (pe_ix ix_tup (pv 7) pe_int (fun _ _ => rfl)))))
  (pss_cons (ps_set (i := 9) nd rfl (by first | exact Or.inl rfl | exact Or.inr rfl) (pe_op op_modN (pe_callTy call_int1 (by rfl) B.z_int (by decide +kernel) (pa_cons (pe_op op_mulW (pv 8) (pe_ix ix_tup (pe_cl (ok_law_bezout B) hr (by decide) pass0 (pa_cons (pe_ix ix_tup (pv 6) pe_int (fun _ _ => rfl)) (pa_cons (pe_ix ix_tup (pv 6) pe_int (fun _ _ => rfl)) pa_nil))) pe_int (fun _ _ => rfl))) pa_nil)) (pe_ix ix_tup (pv 6) pe_int (fun _ _ => rfl))))
  (pss_cons (ps_set (i := 1) nd rfl (by first | exact Or.inl rfl | exact Or.inr rfl) (pe_cl (ok_law_plus B) hr (by decide) pass0 (pa_cons (pv 1) (pa_cons (pe_cl (ok_law_times B) hr (by decide) pass0 (pa_cons (pv 2) (pa_cons (pe_tup (pa_cons (pv 9) (pa_cons pe_int pa_nil))) pa_nil))) pa_nil))))
  (pss_one (ps_set (i := 2) nd rfl (by first | exact Or.inl rfl | exact Or.inr rfl) (pe_cl (ok_law_times B) hr (by decide) pass0 (pa_cons (pv 2) (pa_cons (pe_tup (pa_cons (pe_ix ix_tup (pv 6) pe_int (fun _ _ => rfl)) (pa_cons pe_int pa_nil))) pa_nil))))))))))))))))))
  (pss_cons (ps_if (pt_cmpR op_isN (pv 1) pe_non (nomark _)) (pss_one (ps_ret (pe_tup (pa_cons (pe_tup (pa_cons pe_int (pa_cons pe_int pa_nil))) (pa_cons pe_non pa_nil))))) pss_nil)
  (pss_one (ps_ret (pe_tup (pa_cons (pe_cl (ok_law_minus B) hr (by decide) pass0 (pa_cons (pv 1) (pa_cons (pe_cl (ok_law_times B) hr (by decide) pass0 (pa_cons (pv 2) (pa_cons (pe_tup (pa_cons (pe_cl (ok_law_floor B) hr (by decide) pass0 (pa_cons (pe_cl (ok_law_over B) hr (by decide) pass0 (pa_cons (pv 1) (pa_cons (pv 2) pa_nil))) pa_nil)) (pa_cons pe_int pa_nil))) pa_nil))) pa_nil))) (pa_cons (pv 2) pa_nil))))))))), enterP h fun C ds Post hR hrt => ?_⟩
  obtain ⟨rows, rfl, hok, rfl⟩ := hR
  obtain ⟨h2, h6, hro⟩ := hok
  cases rows with
  | nil => exact absurd h2 (by decide)
  | cons p0 l =>
  have hl : l.length ≤ 5 := by
    have : l.length + 1 ≤ 6 := h6
    omega
  have g0 := hro p0 List.mem_cons_self
  have ia0 := g0.br
  have ib0 := g0.bs
  have hrt' : Rt C Q fun e => ∃ r, e = ruleD r ∧ IsRule (p0 :: l) r := hrt
  show NX C _ [.val (.lst (rowD p0 :: l.map rowD)), .no, .no, .no, .no, .no, .no, .no, .no, .no]
  refine sq_asg ed_non ?_
  refine sq_asg (d := fr 0) (ed_tup (ea_cons ed_int (ea_cons ed_int ea_nil))) ?_
  have hi0 : EvI C (iList K (tSl (rSlL K) (tVar 0) (tPart (tC (.int 1))) tNoPart)) [.val (.lst (rowD p0 :: l.map rowD)), .val .non, .val (fr 0), .no, .no, .no, .no, .no, .no, .no] (l.map rowD).length (fun i => (l.map rowD).getD i .non) := by
    refine ei_list (((eld_sl (ed_var rfl) (eo_some ed_int) eo_none).ed).is ?_)
    rw [cut_tail]
  refine sq_forE hi0 (ι := RSt) (fun _ st => [.val (.lst (rowD p0 :: l.map rowD)), .val (rsB st), .val (rsS st), .no, .no, .no, .no, .no, .no, .no]) (fun i st => RsP p0 l i st) none (fun m p hp => by simp at hp) (.refl _) (fun C' le i hi st hst N hN => ⟨_, [3], asg_name, ?_⟩) ?_
  · have hrt2 := hrt'.up le
    have hil : i < l.length := by simpa using hi
    rw [getD_map hi]
    generalize hp : l[i] = p
    have gp : RowOk p := hp ▸ hro _ (List.mem_cons_of_mem _ (List.getElem_mem hil))
    have iap := gp.br
    have ibp := gp.bs
    have take : ∀ {m}, MtP p0 (l.take (i + 1)) m ↔ MtP p0 (l.take i) m ∧ Whole ((p.1 - p0.1) * m + (p.2 - p0.2)) := fun {m} => by rw [mtP_take hil, hp]
    have mtof : ∀ {m}, MtP p0 l m → MtP p0 (l.take i) m ∧ Whole ((p.1 - p0.1) * m + (p.2 - p0.2)) := fun {m} h => by rw [← hp]; exact mtP_of hil h
    show NX C' _ [.val (.lst (rowD p0 :: l.map rowD)), .val (rsB st), .val (rsS st), .val (rowD p), .no, .no, .no, .no, .no, .no]
    refine sq_asg (ed_call (ea_cons (ed_ixT (ed_var rfl) ed_int rfl) (ea_cons (ed_ixT (ed_ixL (ed_var rfl) ed_int atI0) ed_int rfl) ea_nil)) rl_minus) ?_
    refine sq_asg (ed_call (ea_cons (ed_ixT (ed_var rfl) ed_int rfl) (ea_cons (ed_ixT (ed_ixL (ed_var rfl) ed_int atI0) ed_int rfl) ea_nil)) rl_minus) ?_
    have ir : Bz (p.1 - p0.1) 18 := ⟨gp.subr g0⟩
    have ig : Bz (p.2 - p0.2) 31 := ⟨gp.subs g0⟩
    revert ir ig take mtof
    generalize p.1 - p0.1 = r
    generalize p.2 - p0.2 = g
    intro take mtof ir ig
    refine nx_if (etd_test (ed_eqI (ed_ixT (ed_var rfl) ed_int rfl) ed_int)) (fun hz => ?_) fun hz => ?_
    · have r0 : r = 0 := Rat.num_eq_zero.mp (of_decide_eq_true hz)
      refine nx_if (etd_test (ed_neI (ed_ixT (ed_var rfl) ed_int rfl) ed_int)) (fun hg => ?_) fun hg => ?_
      · refine nx_ret hrt2 ed_non ⟨none, rfl, fun m hm => ?_⟩
        have h1 := (mtof hm).2
        rw [whole0 r0, whole_den] at h1
        rw [h1] at hg
        simp at hg
      · have hw : Whole g := by
          rw [whole_den]
          have : (g.den : Int) = 1 := by simpa using hg
          omega
        refine (hN st ?_).wk (.keep (.keep (.keep (.drop (.drop (.drop (.refl _)))))))
        cases st with
        | none => exact fun m => take.mpr ⟨hst m, (whole0 r0).mpr hw⟩
        | some x =>
          obtain ⟨h1, h3, j, hj, hb, hs⟩ := hst
          exact ⟨h1, fun m => by rw [take, ← h3, whole0 r0]; exact ⟨fun z => z.1, fun z => ⟨z, hw⟩⟩, j, by omega, hb, hs⟩
    · have r0 : r ≠ 0 := fun z => (of_decide_eq_false hz) (Rat.num_eq_zero.mpr z)
      cases st with
      | none =>
        refine nx_if_yes ((etd_test (ed_isN (ed_var (d := rsB none) rfl))).is rfl) ?_
        refine sq_asg ((ed_call (ea_cons (EvN.is (ed_tup (ea_cons ed_int (ea_cons ed_int ea_nil))) (fr_lit (q := 0) (by decide))) (ea_cons (ed_call (ea_cons (ed_var rfl) (ea_cons (ed_var rfl) ea_nil)) (rl_over (by assumption))) ea_nil)) rl_minus)) ?_
        refine nx_asg (d := fr (istep r)) ((ed_tup (ea_cons (ed_ixT (ed_var rfl) ed_int rfl) (ea_cons (ed_abs (ed_ixT (ed_var rfl) ed_int rfl)) ea_nil))).is (istep_fr r0)) ?_
        refine (hN (some (0 - g / r, istep r)) ⟨istep_pos r0, fun m => ?_, 0, by omega, bz (q := 0 - g / r), (bz (q := r)).istep⟩).wk (.keep (.keep (.keep (.drop (.drop (.drop (.refl _)))))))
        rw [take, ← rule_first r0]
        exact ⟨fun z => z.2, fun z => ⟨hst m, z⟩⟩
      | some x =>
        obtain ⟨b, s⟩ := x
        obtain ⟨s0, hm, j, hj, hb, hs⟩ := hst
        have ib : Bz b (SzB j) := ⟨hb⟩
        have is : Bz s (SzS j) := ⟨hs⟩
        have hsz := szs (j := j) (by omega)
        have hs1 := hsz.1
        have hs2 := hsz.2
        have nb : isNon (rsB (some (b, s))) = false := rfl
        refine nx_if_no ((etd_test (ed_isN (ed_var rfl))).is nb) ?_
        refine sq_asg (ed_call (ea_cons (ed_var rfl) (ea_cons (ed_var rfl) ea_nil)) rl_times) ?_
        refine sq_asg (ed_call (ea_cons (ed_call (ea_cons (ed_var rfl) (ea_cons (ed_var rfl) ea_nil)) rl_times) (ea_cons (ed_var rfl) ea_nil)) rl_plus) ?_
        have iu : Bz (r * s) (18 + SzS j) := inferInstance
        have il : Bz (r * b + g) (18 + SzB j + 31 + 1) := inferInstance
        have key : ∀ {m}, MtP p0 l m → ∃ k : Int, Whole ((r * b + g) + (k : Rat) * (r * s)) := fun {m} h => by
          obtain ⟨h1, h3⟩ := mtof h
          obtain ⟨k, rfl⟩ := (hm m).mp h1
          refine ⟨k, ?_⟩
          have e : r * b + g + (k : Rat) * (r * s) = r * (b + (k : Rat) * s) + g := by grind
          rw [e]
          exact h3
        have key2 : ∀ m, MtP p0 (l.take (i + 1)) m ↔ ∃ k : Int, m = b + (k : Rat) * s ∧ Whole ((r * b + g) + (k : Rat) * (r * s)) := fun m => by
          rw [take, hm]
          constructor
          · rintro ⟨⟨k, rfl⟩, h⟩
            refine ⟨k, rfl, ?_⟩
            have e : r * b + g + (k : Rat) * (r * s) = r * (b + (k : Rat) * s) + g := by grind
            rw [e]
            exact h
          · rintro ⟨k, rfl, h⟩
            refine ⟨⟨k, rfl⟩, ?_⟩
            have e : r * b + g + (k : Rat) * (r * s) = r * (b + (k : Rat) * s) + g := by grind
            rw [← e]
            exact h
        have sres : ∀ t : Rat, Bd (18 + SzS j) t → Bd (SzB (j + 1)) (b + s * t) := fun t ht => by
          have it : Bz t (18 + SzS j) := ⟨ht⟩
          exact (bz (q := b + s * t)).mono (by show _ ≤ SzB j + 2 * SzS j + 19; omega)
        have sres2 : ∀ t : Rat, Bd (18 + SzS j) t → Bd (SzS (j + 1)) (s * t) := fun t ht => by
          have it : Bz t (18 + SzS j) := ⟨ht⟩
          exact (bz (q := s * t)).mono (by show _ ≤ 2 * SzS j + 18; omega)
        revert iu il key key2
        generalize r * s = u
        generalize r * b + g = v
        intro iu il key key2
        refine sq_when (etd_test (ed_neI (ed_rI (ed_intI (ed_ixT (ed_var rfl) ed_int rfl)) (ed_ixT (ed_var rfl) ed_int rfl) (by first | decide | exact den_ne _ | assumption)) ed_int)) (fun hd => ?_) fun hd => ?_
        · refine nx_ret hrt2 ed_non ⟨none, rfl, fun m h => ?_⟩
          obtain ⟨k, hk⟩ := key h
          have hnd : ¬ ((v.den : Int) ∣ (u.den : Int)) := fun z => by
            rw [(fmod_den_zero _ _).mpr z] at hd
            simp at hd
          exact rule_none hnd k hk
        · have hdv : (v.den : Int) ∣ (u.den : Int) := by
            rw [← fmod_den_zero]
            simpa using hd
          have c1 : CMulW (-v.num) ((u.den : Int) / (v.den : Int)) := by
            refine mw_ii (n := 18 + SzB j + 31 + 1) (m := 18 + SzS j) (by rw [Int.natAbs_neg]; exact (bz (q := v)).1) ?_ (by omega) (by omega) (by omega)
            exact Nat.lt_of_le_of_lt (Int.natAbs_ediv_le_natAbs _ _) (by rw [Int.natAbs_natCast]; exact (bz (q := u)).2)
          have nsz : (-v.num * ((u.den : Int) / (v.den : Int))).natAbs < 2 ^ ((18 + SzB j + 31 + 1) + (18 + SzS j)) := by
            rw [Int.natAbs_mul]
            refine mul_lt_pow (by rw [Int.natAbs_neg]; exact (bz (q := v)).1) ?_
            exact Nat.lt_of_le_of_lt (Int.natAbs_ediv_le_natAbs _ _) (by rw [Int.natAbs_natCast]; exact (bz (q := u)).2)
          refine sq_asg ((ed_rI (ed_neg (ed_ixT (ed_var rfl) ed_int rfl)) ((ed_rI (ed_ixT (ed_var rfl) ed_int rfl) (ed_ixT (ed_var rfl) ed_int rfl) (by first | exact dv_den | exact ⟨by decide, by decide⟩ | assumption)).is (congrArg Dt.int (fdiv_den _ _))) c1)) ?_
          have bzs : ∃ x y : Int, _ := ⟨0, 0, trivial⟩
          refine sq_asgN (R := fun d => ∃ c : Int, d = .int c ∧ c.natAbs < u.den ∧ ∃ x y : Int, x * u.num + y * (u.den : Int) = 1 ∧ c = (-v.num * ((u.den : Int) / (v.den : Int)) * x) % (u.den : Int)) (en_rI (en_intI (R' := fun d => ∃ x y : Int, d = .int (-v.num * ((u.den : Int) / (v.den : Int)) * x) ∧ x * u.num + y * (u.den : Int) = 1) (en_rI (R := fun d => ∃ x y : Int, d = .int (-v.num * ((u.den : Int) / (v.den : Int)) * x) ∧ x * u.num + y * (u.den : Int) = 1) (ed_var rfl) (en_ixT (R := fun d => ∃ x y : Int, d = .int x ∧ x * u.num + y * (u.den : Int) = 1 ∧ x.natAbs ≤ u.den + 1) (en_callD (ea_cons (ed_ixT (ed_var rfl) ed_int rfl) (ea_cons (ed_ixT (ed_var rfl) ed_int rfl) ea_nil)) ⟨u.num, (u.den : Int), rfl, ⟨lt_two_pow (bz (q := u)).1 (by omega), by rw [Int.natAbs_natCast]; exact lt_two_pow (bz (q := u)).2 (by omega)⟩, rfl⟩) ed_int ?_) ?_) ?_) ((ed_ixT (ed_var rfl) ed_int rfl)) ?_) ?_
          · rintro d e ⟨x, y, rfl, h1, h3⟩ rfl
            refine ⟨_, 1, .int x, rfl, rfl, rfl, x, y, rfl, ?_, by rw [Int.natAbs_natCast] at h3; exact h3⟩
            rw [h1]
            exact gcd_fr u
          · rintro d e rfl ⟨x, y, rfl, h1, h3⟩
            refine ⟨_, x, rfl, rfl, ?_, x, y, rfl, h1⟩
            refine mw_ii nsz (m := 18 + SzS j + 1) ?_ (by omega) (by omega) (by omega)
            exact Nat.lt_of_le_of_lt h3 (add_lt_pow (bz (q := u)).2 (Nat.one_lt_two_pow (by omega)))
          · rintro d ⟨x, y, rfl, h1⟩
            exact ⟨_, rfl, x, y, rfl, h1⟩
          · rintro d e ⟨x, y, rfl, h1⟩ rfl
            refine ⟨_, _, rfl, rfl, den_ne u, _, rfl, ?_, x, y, h1, fmod_den _ _⟩
            rw [fmod_den]
            have h3 := Int.emod_nonneg (-v.num * ((u.den : Int) / (v.den : Int)) * x) (den_ne u)
            have h5 := Int.emod_lt_of_pos (-v.num * ((u.den : Int) / (v.den : Int)) * x) (show (0 : Int) < (u.den : Int) by have := u.den_pos; omega)
            omega
          · rintro d ⟨c, rfl, hc, x, y, hxy, hcx⟩
            have bc : Bd (18 + SzS j) (c : Rat) := bd_int (Nat.lt_trans hc (bz (q := u)).2) (by omega)
            have ic : Bz (c : Rat) (18 + SzS j) := ⟨bc⟩
            have bu : Bd (18 + SzS j) ((u.den : Int) : Rat) := bd_int (by rw [Int.natAbs_natCast]; exact (bz (q := u)).2) (by omega)
            have iu2 : Bz ((u.den : Int) : Rat) (18 + SzS j) := ⟨bu⟩
            refine sq_asg (ed_call (ea_cons (ed_var rfl) (ea_cons (ed_call (ea_cons (ed_var rfl) (ea_cons (EvN.is (ed_tup (ea_cons (ed_var rfl) (ea_cons ed_int ea_nil))) (fr_int _)) ea_nil)) rl_times) ea_nil)) rl_plus) ?_
            refine nx_asg (ed_call (ea_cons (ed_var rfl) (ea_cons ((ed_tup (ea_cons (ed_ixT (ed_var rfl) ed_int rfl) (ea_cons ed_int ea_nil))).is (fr_int _)) ea_nil)) rl_times) ?_
            refine (hN (some (b + s * (c : Rat), s * ((u.den : Int) : Rat))) ⟨?_, fun m => ?_, j + 1, by omega, sres _ bc, sres2 _ bu⟩).wk (.keep (.keep (.keep (.drop (.drop (.drop (.drop (.drop (.drop (.drop .nil))))))))))
            · refine Rat.mul_pos s0 (Rat.intCast_pos.mpr ?_)
              have := u.den_pos
              omega
            · rw [key2]
              constructor
              · rintro ⟨k, rfl, hk⟩
                obtain ⟨z, rfl⟩ := (rule_some hdv hxy hcx k).mp hk
                refine ⟨z, ?_⟩
                rw [Rat.intCast_add, Rat.intCast_mul]
                grind
              · rintro ⟨z, rfl⟩
                refine ⟨c + z * (u.den : Int), ?_, (rule_some hdv hxy hcx _).mpr ⟨z, rfl⟩⟩
                rw [Rat.intCast_add, Rat.intCast_mul]
                grind
  · intro st hst
    have hlen : (l.map rowD).length = l.length := List.length_map ..
    rw [hlen] at hst
    cases st with
    | none =>
      refine sq_yes (etd_test (ed_isN (ed_var rfl))) rfl (nx_ret hrt' (ed_tup (ea_cons (ed_tup (ea_cons ed_int (ea_cons ed_int ea_nil))) (ea_cons ed_non ea_nil))) ⟨some (0, none), rfl, rfl, fun m => ?_⟩)
      have := hst m
      rw [List.take_length] at this
      exact this
    | some x =>
      obtain ⟨b, s⟩ := x
      obtain ⟨s0, hm, j, hj, hb, hs⟩ := hst
      have ib : Bz b (SzB j) := ⟨hb⟩
      have is : Bz s (SzS j) := ⟨hs⟩
      have hsz := szs (j := j) (by omega)
      have hs1 := hsz.1
      have hs2 := hsz.2
      have sne : s ≠ 0 := fun z => by rw [z] at s0; exact Rat.lt_irrefl s0
      refine sq_no (etd_test (ed_isN (ed_var rfl))) rfl ?_
      refine nx_ret hrt' (ed_tup (ea_cons (ed_call (ea_cons (ed_var rfl) (ea_cons (ed_call (ea_cons (ed_var rfl) (ea_cons ((ed_tup (ea_cons (ed_call (ea_cons (ed_call (ea_cons (ed_var rfl) (ea_cons (ed_var rfl) ea_nil)) (rl_over sne)) ea_nil) rl_floor) (ea_cons ed_int ea_nil))).is (fr_int _)) ea_nil)) rl_times) ea_nil)) rl_minus) (ea_cons (ed_var rfl) ea_nil))) ⟨some (b - s * ((b / s).floor : Rat), some s), rfl, s0, (rule_last s0).1, (rule_last s0).2, fun m => ?_⟩
      rw [← shift_iff]
      have := hm m
      rw [List.take_length] at this
      exact this
end
end Wk
-- D12
namespace Wk
open PySem PySem.Spec
open PyProof.Rows L2
section
variable {P : Program}
variable {w : World} {K : PySem.W.Frag} {mg : Str → Option Value} {base : Heap}
noncomputable def nearB (rows : List (Rat × Rat)) (m : Rat) : Bool := @decide (Mt rows m) (Classical.propDecidable _)
theorem nearB_true {rows : List (Rat × Rat)} {m : Rat} (h : Mt rows m) : nearB rows m = true := by
  unfold nearB
  exact @decide_eq_true _ (Classical.propDecidable _) h
theorem nearB_false {rows : List (Rat × Rat)} {m : Rat} (h : ¬ Mt rows m) : nearB rows m = false := by
  unfold nearB
  exact @decide_eq_false _ (Classical.propDecidable _) h
theorem nearB_iff {rows : List (Rat × Rat)} {m : Rat} : nearB rows m = true ↔ Mt rows m := by
  by_cases h : Mt rows m
  · rw [nearB_true h]; exact ⟨fun _ => h, fun _ => rfl⟩
  · rw [nearB_false h]; exact ⟨fun z => by (cases z), fun z => absurd z h⟩
def RowsOk1 (rows : List (Rat × Rat)) : Prop := 1 ≤ rows.length ∧ rows.length ≤ 6 ∧ ∀ p ∈ rows, RowOk p
theorem RowsOk.one {rows : List (Rat × Rat)} (h : RowsOk rows) : RowsOk1 rows := ⟨by have := h.1; omega, h.2.1, h.2.2⟩
theorem ei_tail {K : PySem.W.Frag} {C : Ctx} {Γ : List Slot} {n : Nat} {d : Dt} {ds : List Dt} (h : EvD C (tVar n) Γ (.lst (d :: ds))) : EvI C (iList K (tSl (rSlL K) (tVar n) (tPart (tC (.int 1))) tNoPart)) Γ ds.length (fun i => ds.getD i .non) := by
  refine ei_list (((eld_sl h (eo_some ed_int) eo_none).ed).is ?_)
  rw [cut_tail]
theorem sgn_zero {q : Rat} (h : 0 ≤ q) : (0 < sgn q 0) ↔ q ≠ 0 := by
  unfold sgn
  rw [if_neg (Rat.not_lt.mpr h)]
  constructor
  · intro z e
    rw [e, if_neg Rat.lt_irrefl] at z
    exact absurd z (by decide)
  · intro z
    rw [if_pos (Rat.lt_of_le_of_ne h (Ne.symm z))]
    decide
def Rl_law_near : Rel := fun zs0 Pz => ∃ (rows : List (Rat × Rat)) (m : Rat) (n : Nat), zs0 = [.lst (rows.map rowD), fr m, fr 0] ∧ (RowsOk1 rows ∧ Bd n m ∧ n ≤ 2000) ∧ Pz = (fun e => e = .bl (nearB rows m))
theorem len_law_near : ∀ ds Post, Rl_law_near ds Post → ds.length = 3 := fun _ _ ⟨_, _, _, e, _⟩ => by rw [e]; rfl
theorem rl_law_near {rows : List (Rat × Rat)} {m : Rat} {n : Nat} [Bz m n] (h : RowsOk1 rows) (hn : n ≤ 2000 := by omega) : Rl_law_near [.lst (rows.map rowD), fr m, fr 0] (fun e => e = .bl (nearB rows m)) := ⟨rows, m, n, rfl, ⟨h, bz, hn⟩, rfl⟩
theorem ok_law_near (B : Bs K mg) : Cl P w K mg base CX0 5 "_law_near" (spP Rl_law_near) [] := by
  refine cl_of (N := ["_law_rows", "_law_moment_here", "_law_width", "_law_row", "_law_gap"]) (ps := ["_law_rows", "_law_moment_here", "_law_width"]) B.d_law_near B.g_law_near (by decide +kernel) (fun _ _ _ _ _ _ us hl => match us, hl with | [_, _, _], _ => rfl)
    (len_P len_law_near) fun f cdv A outer s H vs Q E hr h => ?_
  have nd : (["_law_rows", "_law_moment_here", "_law_width", "_law_row", "_law_gap"] : List Str).Nodup := by decide +kernel
  refine ⟨_, PSs.nox (pss_cons (ps_for PassesOwn.never rfl (pi_list (pe_slice sl_list (pv 0) (po_some pe_int) po_none)) (pg_name (i := 3) nd rfl (by first | exact Or.inl rfl | exact Or.inr rfl)) (pss_cons (ps_set (i := 4) nd rfl (by first | exact Or.inl rfl | exact Or.inr rfl) (pe_cl (ok_law_minus B) hr (by decide) pass0 (pa_cons (pe_cl (ok_law_turns B) hr (by decide) pass0 (pa_cons (pv 3) (pa_cons (pv 1) pa_nil))) (pa_cons (pe_cl (ok_law_turns B) hr (by decide) pass0 (pa_cons (pe_ix ix_list (pv 0) pe_int (fun _ _ => rfl)) (pa_cons (pv 1) pa_nil))) pa_nil))))
  (pss_one (ps_if (pt_cmpR op_gt (pe_cl (ok_law_sign B) hr (by decide) pass0 (pa_cons (pe_cl (ok_law_distance B) hr (by decide) pass0 (pa_cons (pv 4) pa_nil)) (pa_cons (pv 2) pa_nil))) pe_int (nomark _)) (pss_one (ps_ret pe_bl)) pss_nil))))
  (pss_one (ps_ret pe_bl))), enterP h fun C ds Post hR hrt => ?_⟩
  obtain ⟨rows, m, n, rfl, ⟨⟨h1, h6, hro⟩, bm, hn⟩, rfl⟩ := hR
  have im : Bz m n := ⟨bm⟩
  cases rows with
  | nil => exact absurd h1 (by decide)
  | cons p0 l =>
  have hl : l.length ≤ 5 := by
    have : l.length + 1 ≤ 6 := h6
    omega
  have g0 := hro p0 List.mem_cons_self
  have ia0 := g0.br
  have ib0 := g0.bs
  show NX C _ [.val (.lst (rowD p0 :: l.map rowD)), .val (fr m), .val (fr 0), .no, .no]
  refine sq_forE (ei_tail (ed_var rfl)) (ι := Unit) (fun _ _ => [.val (.lst (rowD p0 :: l.map rowD)), .val (fr m), .val (fr 0), .no, .no]) (fun i _ => MtP p0 (l.take i) m) () (fun p hp => by simp at hp) (.refl _) (fun C' le i hi st hst N hN => ⟨_, [3], asg_name, ?_⟩) ?_
  · have hrt2 := hrt.up le
    have hil : i < l.length := by simpa using hi
    rw [getD_map hi]
    have gp : RowOk l[i] := hro _ (List.mem_cons_of_mem _ (List.getElem_mem hil))
    have take := mtP_take (p0 := p0) hil (m := m)
    have mtof := mtP_of (p0 := p0) hil (m := m)
    revert take mtof gp
    generalize l[i] = p
    intro gp take mtof
    have iap := gp.br
    have ibp := gp.bs
    show NX C' _ [.val (.lst (rowD p0 :: l.map rowD)), .val (fr m), .val (fr 0), .val (rowD p), .no]
    refine sq_asg (ed_call (ea_cons (ed_call (ea_cons (ed_var rfl) (ea_cons (ed_var rfl) ea_nil)) rl_turns) (ea_cons (ed_call (ea_cons (ed_ixL (ed_var rfl) ed_int atI0) (ea_cons (ed_var rfl) ea_nil)) rl_turns) ea_nil)) rl_minus) ?_
    have eg : (p.2 + p.1 * m) - (p0.2 + p0.1 * m) = (p.1 - p0.1) * m + (p.2 - p0.2) := by grind
    refine nx_ifN (Rb := fun b => b = true ↔ ¬ Whole ((p.1 - p0.1) * m + (p.2 - p0.2))) (et_test (en_cmp (R := fun d => ∃ b, d = .bl b ∧ (b = true ↔ ¬ Whole ((p.1 - p0.1) * m + (p.2 - p0.2)))) (en_callI (R := fun d => ∃ z, d = .int z ∧ (0 < z ↔ ¬ Whole ((p.1 - p0.1) * m + (p.2 - p0.2)))) (EvA.imp (en_cons (en_callD (ea_cons (ed_var rfl) ea_nil) rl_law_distance) (en_cons (ed_var rfl) ea_nil)) ?_)) ed_int ?_) fun d z => z) (fun hb => ?_) fun hb => ?_
    · rintro ds ⟨d1, l1, rfl, ⟨q, rfl, q0, qw, qb⟩, d2, l2, rfl, rfl, rfl⟩
      have iq : Bz q _ := ⟨qb⟩
      refine ⟨_, rl_law_sign, ?_⟩
      rintro _ rfl
      refine ⟨_, rfl, ?_⟩
      rw [sgn_zero q0, ← eg, whole_den, ← qw]
    · rintro d e ⟨z, rfl, hz⟩ rfl
      refine ⟨z, 0, rfl, rfl, _, rfl, ?_⟩
      rw [decide_eq_true_iff]
      exact hz
    · refine nx_ret hrt2 ed_bl ?_
      have hw := hb.mp rfl
      rw [nearB_false (rows := p0 :: l) (m := m) fun z => hw (mtof z).2]
    · refine (hN () (take.mpr ⟨hst, Classical.byContradiction fun z => ?_⟩)).wk (.keep (.keep (.keep (.drop (.drop .nil)))))
      exact absurd (hb.mpr z) (by decide)
  · intro _ hst
    have hlen : (l.map rowD).length = l.length := List.length_map ..
    rw [hlen, List.take_length] at hst
    refine nx_ret hrt ed_bl ?_
    rw [nearB_true (rows := p0 :: l) hst]
/-! ### the numbers of the meetings -/
def numLo (f s a : Rat) : Int := -(-((a - f) / s)).floor
def numHi (f s b : Rat) : Int := ((b - f) / s).floor
theorem fr_neg (q : Rat) : Dt.tup [.int (-q.num), .int (q.den : Int)] = fr (-q) := by
  refine fr_lit ⟨Rat.neg_num _, ?_⟩
  rw [Rat.neg_den]
def Rl_numbers_in : Rel := fun zs0 Pz => ∃ (f s a b : Rat) (n m : Nat), zs0 = [.tup [fr f, fr s], .tup [fr a, fr b]] ∧ (s ≠ 0 ∧ Bd n f ∧ Bd n s ∧ Bd m a ∧ Bd m b ∧ n + n + m ≤ 8000) ∧ Pz = (fun e => e = .tup [.int (numLo f s a), .int (numHi f s b)])
theorem len_numbers_in : ∀ ds Post, Rl_numbers_in ds Post → ds.length = 2 := fun _ _ ⟨_, _, _, _, _, _, e, _⟩ => by rw [e]; rfl
theorem rl_law_numbers_in {f s a b : Rat} {n m : Nat} [Bz f n] [Bz s n] [Bz a m] [Bz b m] (h0 : s ≠ 0) (h : n + n + m ≤ 8000 := by omega) : Rl_numbers_in [.tup [fr f, fr s], .tup [fr a, fr b]] (fun e => e = .tup [.int (numLo f s a), .int (numHi f s b)]) := ⟨f, s, a, b, n, m, rfl, ⟨h0, bz, bz, bz, bz, h⟩, rfl⟩
theorem ok_law_numbers_in (B : Bs K mg) : Cl P w K mg base CX0 4 "_law_numbers_in" (spP Rl_numbers_in) [] := by
  refine cl_of (N := ["_law_rule_here", "_law_ends", "_law_low", "_law_high"]) (ps := ["_law_rule_here", "_law_ends"]) B.d_law_numbers_in B.g_law_numbers_in (by decide +kernel) (fun _ _ _ _ _ _ us hl => match us, hl with | [_, _], _ => rfl)
    (len_P len_numbers_in) fun f cdv A outer s H vs Q E hr h => ?_
  have nd : (["_law_rule_here", "_law_ends", "_law_low", "_law_high"] : List Str).Nodup := by decide +kernel
  refine ⟨_, PSs.nox (pss_cons (ps_set (i := 2) nd rfl (by first | exact Or.inl rfl | exact Or.inr rfl) (pe_cl (ok_law_over B) hr (by decide) pass0 (pa_cons (pe_cl (ok_law_minus B) hr (by decide) pass0 (pa_cons (pe_ix ix_tup (pv 1) pe_int (fun _ _ => rfl)) (pa_cons (pe_ix ix_tup (pv 0) pe_int (fun _ _ => rfl)) pa_nil))) (pa_cons (pe_ix ix_tup (pv 0) pe_int (fun _ _ => rfl)) pa_nil))))
  (pss_cons (ps_set (i := 3) nd rfl (by first | exact Or.inl rfl | exact Or.inr rfl) (pe_cl (ok_law_over B) hr (by decide) pass0 (pa_cons (pe_cl (ok_law_minus B) hr (by decide) pass0 (pa_cons (pe_ix ix_tup (pv 1) pe_int (fun _ _ => rfl)) (pa_cons (pe_ix ix_tup (pv 0) pe_int (fun _ _ => rfl)) pa_nil))) (pa_cons (pe_ix ix_tup (pv 0) pe_int (fun _ _ => rfl)) pa_nil))))
  (pss_one (ps_ret (pe_tup (pa_cons (pe_un un_neg (pe_cl (ok_law_floor B) hr (by decide) pass0 (pa_cons (pe_tup (pa_cons (pe_un un_neg (pe_ix ix_tup (pv 2) pe_int (fun _ _ => rfl))) (pa_cons (pe_ix ix_tup (pv 2) pe_int (fun _ _ => rfl)) pa_nil))) pa_nil))) (pa_cons (pe_cl (ok_law_floor B) hr (by decide) pass0 (pa_cons (pv 3) pa_nil)) pa_nil))))))), enterP h fun C ds Post hR hrt => ?_⟩
  obtain ⟨f, s, a, b, n, m, rfl, ⟨h0, h1, h2, h3, h4, hs⟩, rfl⟩ := hR
  have i1 : Bz f n := ⟨h1⟩
  have i2 : Bz s n := ⟨h2⟩
  have i3 : Bz a m := ⟨h3⟩
  have i4 : Bz b m := ⟨h4⟩
  show NX C _ [.val (.tup [fr f, fr s]), .val (.tup [fr a, fr b]), .no, .no]
  refine sq_asg (ed_call (ea_cons (ed_call (ea_cons (ed_ixT (ed_var rfl) ed_int rfl) (ea_cons (ed_ixT (ed_var rfl) ed_int rfl) ea_nil)) rl_minus) (ea_cons (ed_ixT (ed_var rfl) ed_int rfl) ea_nil)) (rl_over (by assumption))) ?_
  refine sq_asg (ed_call (ea_cons (ed_call (ea_cons (ed_ixT (ed_var rfl) ed_int rfl) (ea_cons (ed_ixT (ed_var rfl) ed_int rfl) ea_nil)) rl_minus) (ea_cons (ed_ixT (ed_var rfl) ed_int rfl) ea_nil)) (rl_over (by assumption))) ?_
  exact nx_ret hrt (ed_tup (ea_cons (ed_neg (ed_call (ea_cons ((ed_tup (ea_cons (ed_neg (ed_ixT (ed_var rfl) ed_int rfl)) (ea_cons (ed_ixT (ed_var rfl) ed_int rfl) ea_nil))).is (fr_neg _)) ea_nil) rl_floor)) (ea_cons (ed_call (ea_cons (ed_var rfl) ea_nil) rl_floor) ea_nil))) rfl
end
end Wk
-- D13
namespace Wk
open PySem PySem.Spec
open PyProof.Rows L2
section
variable {P : Program}
variable {w : World} {K : PySem.W.Frag} {mg : Str → Option Value} {base : Heap}
/-! ### sizes of what is at hand -/
def RuleOk : Rule → Prop
  | none => True
  | some (f, none) => f = 0
  | some (f, some s) => 0 < s ∧ 1 ≤ 8 * s ∧ Bd 70 f ∧ Bd 70 s ∧ 0 ≤ f ∧ f < s ∧ s ≤ 27720
structure EndOk (q : Rat) : Prop where
  b : Bd 500 q
  lo : -16777216 ≤ q
  hi : q ≤ 16777216
structure EndSm (q : Rat) : Prop where
  b : Bd 400 q
  lo : -16000000 ≤ q
  hi : q ≤ 16000000
theorem EndSm.ok {q : Rat} (h : EndSm q) : EndOk q := by
  obtain ⟨h1, h2, h3⟩ := h
  exact ⟨h1.mono (by decide), by grind, by grind⟩
theorem RowOk.grids {rows : List (Rat × Rat)} (h : ∀ p ∈ rows, RowOk p) : ∀ p ∈ rows, Grid 27720 (4 * 27720) p.1 ∧ Grid (27720 * 27720) (27720 * 27720) p.2 := fun p hp => ⟨(h p hp).r, (h p hp).s⟩
theorem IsRule.ok {rows : List (Rat × Rat)} {r : Rule} (h : IsRule rows r) (hr : ∀ p ∈ rows, RowOk p) : RuleOk r := by
  rcases r with _ | ⟨f, _ | s⟩
  · trivial
  · exact h.1
  · obtain ⟨h1, h2, h3, h4⟩ := rule_size (RowOk.grids hr) h
    exact ⟨h.1, h4, h1, h2, h.2.1, h.2.2.1, h3⟩
theorem div_le8 {s x X : Rat} (hs : 0 < s) (h8 : 1 ≤ 8 * s) (hX : 0 ≤ X) (h : x ≤ X) : x / s ≤ 8 * X := by
  have hne : s ≠ 0 := fun z => by rw [z] at hs; exact Rat.lt_irrefl hs
  have h1 : X * 1 ≤ X * (8 * s) := Rat.mul_le_mul_of_nonneg_left h8 hX
  have h2 : x / s * s = x := Rat.div_mul_cancel hne
  have h3 : s * (x / s) ≤ s * (8 * X) := by grind
  exact Rat.le_of_mul_le_mul_left h3 hs
theorem div_ge8 {s x X : Rat} (hs : 0 < s) (h8 : 1 ≤ 8 * s) (hX : 0 ≤ X) (h : -X ≤ x) : -(8 * X) ≤ x / s := by
  have h1 := div_le8 (x := -x) hs h8 hX (by grind)
  have e : -x / s = -(x / s) := by rw [Rat.div_def, Rat.div_def, Rat.neg_mul]
  rw [e] at h1
  grind
theorem floor_le_of {q : Rat} {n : Int} (h : q ≤ (n : Rat)) : q.floor ≤ n := Rat.intCast_le_intCast.mp (Rat.le_trans (Rat.floor_le q) h)
theorem le_floor_of {q : Rat} {n : Int} (h : (n : Rat) ≤ q) : n ≤ q.floor := Rat.le_floor_iff.mpr h
theorem num_bds {f s q : Rat} (h : RuleOk (some (f, some s))) (hq : EndOk q) : (-300000000 ≤ numLo f s q ∧ numLo f s q ≤ 300000000) ∧ (-300000000 ≤ numHi f s q ∧ numHi f s q ≤ 300000000) := by
  obtain ⟨s0, h8, _, _, f0, f1, s1⟩ := h
  obtain ⟨_, q0, q1⟩ := hq
  have a1 : q - f ≤ 33554432 := by grind
  have a2 : -33554432 ≤ q - f := by grind
  have b1 := div_le8 s0 h8 (by decide) a1
  have b2 := div_ge8 s0 h8 (by decide) a2
  have e1 : (8 : Rat) * 33554432 = ((268435456 : Int) : Rat) := by decide +kernel
  have e2 : -((8 : Rat) * 33554432) = ((-268435456 : Int) : Rat) := by decide +kernel
  have c1 : (q - f) / s ≤ ((268435456 : Int) : Rat) := by rw [← e1]; exact b1
  have c2 : ((-268435456 : Int) : Rat) ≤ (q - f) / s := by rw [← e2]; exact b2
  have d1 := floor_le_of c1
  have d2 := le_floor_of c2
  have c3 : -((q - f) / s) ≤ ((268435456 : Int) : Rat) := by
    rw [Rat.intCast_neg] at c2
    grind
  have c4 : ((-268435456 : Int) : Rat) ≤ -((q - f) / s) := by
    rw [Rat.intCast_neg]
    grind
  have d3 := floor_le_of c3
  have d4 := le_floor_of c4
  unfold numLo numHi
  omega
/-- the meetings in a stretch of time -/
def ptsL (f s : Rat) (lo hi : Int) : List Rat := (List.range (hi + 1 - lo).toNat).map fun i : Nat => f + s * ((lo + (i : Int) : Int) : Rat)
def mdue : Rule → Rat → Rat → Dt
  | none, _, _ => .tup [.str "told", .lst []]
  | some (_, none), _, _ => .tup [.str "Endless", .non]
  | some (f, some s), a, b => if 400 ≤ numHi f s b - numLo f s a then .tup [.str "TooMany", .int 400] else .tup [.str "told", .lst ((ptsL f s (numLo f s a) (numHi f s b)).map fr)]
def Rl_meetings_due : Rel := fun zs0 Pz => ∃ (r : Rule) (a b : Rat), zs0 = [ruleD r, .tup [fr a, fr b]] ∧ (RuleOk r ∧ EndOk a ∧ EndOk b) ∧ Pz = (fun e => e = mdue r a b)
theorem len_meetings_due : ∀ ds Post, Rl_meetings_due ds Post → ds.length = 2 := fun _ _ ⟨_, _, _, e, _⟩ => by rw [e]; rfl
theorem rl_law_meetings_due {r : Rule} {a b : Rat} (h : RuleOk r) (ha : EndOk a) (hb : EndOk b) : Rl_meetings_due [ruleD r, .tup [fr a, fr b]] (fun e => e = mdue r a b) := ⟨r, a, b, rfl, ⟨h, ha, hb⟩, rfl⟩
theorem bd_small {z : Int} (h : z.natAbs < 2 ^ 62) : Bd 62 (z : Rat) := bd_int h (by decide)
theorem ok_law_meetings_due (B : Bs K mg) : Cl P w K mg base CX0 5 "_law_meetings_due" (spP Rl_meetings_due) [] := by
  refine cl_of (N := ["_law_rule_here", "_law_ends", "_law_low", "_law_high", "_law_k"]) (ps := ["_law_rule_here", "_law_ends"]) B.d_law_meetings_due B.g_law_meetings_due (by decide +kernel) (fun _ _ _ _ _ _ us hl => match us, hl with | [_, _], _ => rfl)
    (len_P len_meetings_due) fun f cdv A outer s H vs Q E hr h => ?_
  have nd : (["_law_rule_here", "_law_ends", "_law_low", "_law_high", "_law_k"] : List Str).Nodup := by decide +kernel
  refine ⟨_, PSs.nox (pss_cons (ps_if (pt_cmpR op_isN (pv 0) pe_non (nomark _)) (pss_one (ps_ret (pe_tup (pa_cons pe_str (pa_cons (pe_lst pa_nil) pa_nil))))) pss_nil)
  (pss_cons (ps_if (pt_cmpR op_isN (pe_ix ix_tup (pv 0) pe_int (fun _ _ => rfl)) pe_non (nomark _)) (pss_one (ps_ret (pe_tup (pa_cons pe_str (pa_cons pe_non pa_nil))))) pss_nil)
  (pss_cons (ps_asg (pe_cl (ok_law_numbers_in B) hr (by decide) pass0 (pa_cons (pv 0) (pa_cons (pv 1) pa_nil))) (pg_tup rfl (pgs_cons (pg_name (i := 2) nd rfl (by first | exact Or.inl rfl | exact Or.inr rfl)) (pgs_cons (pg_name (i := 3) nd rfl (by first | exact Or.inl rfl | exact Or.inr rfl)) pgs_nil))))
  (pss_cons (ps_if (pt_cmpR op_ge (pe_op op_sub (pv 3) (pv 2)) pe_int (nomark _)) (pss_one (ps_ret (pe_tup (pa_cons pe_str (pa_cons pe_int pa_nil))))) pss_nil)
  (pss_one (ps_ret (pe_tup (pa_cons pe_str (pa_cons (pe_lc (own := [("_law_k", 4)]) rfl nd (pi_range2 rfl B.z_range (pa_cons (pv 2) (pa_cons (pe_op op_add (pv 3) pe_int) pa_nil))) (blkOk_by (by show blkC ["_law_rule_here", "_law_ends", "_law_low", "_law_high", "_law_k"] (defScope (top 115)) _ _ = true; decide +kernel)) (fun _ _ _ _ _ => pg_name (i := 4) nd rfl (Or.inl rfl)) (fun _ _ _ _ _ => pts_nil) (fun _ _ _ _ _ => (pe_cl (ok_law_plus B) hr (by decide) pass0 (pa_cons (pe_ix (ix_tupK (K := K)) (pv 0) pe_int (fun _ _ => rfl)) (pa_cons (pe_cl (ok_law_times B) hr (by decide) pass0 (pa_cons (pe_ix (ix_tupK (K := K)) (pv 0) pe_int (fun _ _ => rfl)) (pa_cons (pe_tup (pa_cons (pv 4) (pa_cons pe_int pa_nil))) pa_nil))) pa_nil))))) pa_nil))))))))), enterP h fun C ds Post hR hrt => ?_⟩
  obtain ⟨r, a, b, rfl, ⟨hr0, ha, hb⟩, rfl⟩ := hR
  rcases r with _ | ⟨f, _ | s⟩
  · show NX C _ [.val .non, .val (.tup [fr a, fr b]), .no, .no, .no]
    exact sq_yes (etd_test (ed_isN (ed_var rfl))) rfl (nx_ret hrt (ed_tup (ea_cons ed_str (ea_cons (eld_lst ea_nil).ed ea_nil))) rfl)
  · show NX C _ [.val (.tup [fr f, .non]), .val (.tup [fr a, fr b]), .no, .no, .no]
    refine sq_no (etd_test (ed_isN (ed_var rfl))) rfl ?_
    exact sq_yes (etd_test (ed_isN (ed_ixT (ed_var rfl) ed_int rfl))) rfl (nx_ret hrt (ed_tup (ea_cons ed_str (ea_cons ed_non ea_nil))) rfl)
  · show NX C _ [.val (.tup [fr f, fr s]), .val (.tup [fr a, fr b]), .no, .no, .no]
    have nbs := num_bds hr0 ha
    have nbt := num_bds hr0 hb
    obtain ⟨s0, h8, bf, bs, f0, f1, s1⟩ := hr0
    have i1 : Bz f 70 := ⟨bf⟩
    have i2 : Bz s 70 := ⟨bs⟩
    have i3 : Bz a 500 := ⟨ha.b⟩
    have i4 : Bz b 500 := ⟨hb.b⟩
    have sne : s ≠ 0 := fun z => by rw [z] at s0; exact Rat.lt_irrefl s0
    refine sq_no (etd_test (ed_isN (ed_var rfl))) rfl ?_
    refine sq_no (etd_test (ed_isN (ed_ixT (ed_var rfl) ed_int rfl))) rfl ?_
    refine sq_asg2 (ed_call (ea_cons (ed_var rfl) (ea_cons (ed_var rfl) ea_nil)) (rl_law_numbers_in sne)) ?_
    generalize hlo : numLo f s a = lo
    generalize hhi : numHi f s b = hi
    rw [hlo] at nbs
    rw [hhi] at nbt
    have em : ∀ d, (d = if 400 ≤ hi - lo then Dt.tup [.str "TooMany", .int 400] else .tup [.str "told", .lst ((ptsL f s lo hi).map fr)]) → d = mdue (some (f, some s)) a b := fun d hd => by
      rw [hd, ← hlo, ← hhi] <;> rfl
    refine sq_when (etd_test (ed_cmp (ed_rI0 (ed_var rfl) (ed_var rfl)) ed_int)) (fun hb => ?_) fun hb => ?_
    · have h4 : 400 ≤ hi - lo := of_decide_eq_true hb
      refine nx_ret hrt (ed_tup (ea_cons ed_str (ea_cons ed_int ea_nil))) (em _ ?_)
      rw [if_pos h4] <;> rfl
    · have h4 : ¬ 400 ≤ hi - lo := of_decide_eq_false hb
      refine nx_ret hrt (ed_tup (ea_cons ed_str (ea_cons (eld_lc (fun i => fr (f + s * ((lo + (i : Int) : Int) : Rat))) (ei_range2 (ea_cons (ed_var rfl) (ea_cons (ed_rI0 (ed_var rfl) ed_int) ea_nil)) ⟨by omega, by omega, by omega, by omega⟩) rfl (by omega) fun C' le i hi => ⟨_, asg_name (by simp), ?_⟩).ed ea_nil))) (em _ ?_)
      · have ik : Bz ((lo + (i : Int) : Int) : Rat) 62 := ⟨bd_small (by omega)⟩
        exact (ed_call (ea_cons (ed_ixT (ed_var rfl) ed_int rfl) (ea_cons (ed_call (ea_cons (ed_ixT (ed_var rfl) ed_int rfl) (ea_cons (EvN.is (ed_tup (ea_cons (ed_var rfl) (ea_cons ed_int ea_nil))) (fr_int _)) ea_nil)) rl_times) ea_nil)) rl_plus)
      · rw [if_neg h4]
        unfold ptsL
        rw [List.map_map] <;> rfl
theorem lcm_step {k d : Nat} (hk : k ≠ 0) (hd : d ≠ 0) : k / Nat.gcd k d * d ≠ 0 ∧ k ∣ k / Nat.gcd k d * d ∧ d ∣ k / Nat.gcd k d * d ∧ k / Nat.gcd k d * d ≤ k * d := by
  have hg : 0 < Nat.gcd k d := Nat.gcd_pos_of_pos_left _ (by omega)
  obtain ⟨x, hx⟩ := Nat.gcd_dvd_left k d
  obtain ⟨y, hy⟩ := Nat.gcd_dvd_right k d
  have e1 : k / Nat.gcd k d = x := Nat.div_eq_of_eq_mul_right hg hx
  have x0 : x ≠ 0 := fun z => by rw [z] at hx; omega
  rw [e1]
  refine ⟨Nat.mul_ne_zero x0 hd, ⟨y, ?_⟩, ⟨x, Nat.mul_comm _ _⟩, Nat.mul_le_mul_right _ ?_⟩
  · calc x * d = x * (Nat.gcd k d * y) := by rw [← hy]
      _ = Nat.gcd k d * x * y := by rw [Nat.mul_comm (Nat.gcd k d) x, Nat.mul_assoc]
      _ = k * y := by rw [← hx]
  · calc x = 1 * x := (Nat.one_mul x).symm
      _ ≤ Nat.gcd k d * x := Nat.mul_le_mul_right _ hg
      _ = k := hx.symm
def Rl_scale : Rel := fun zs0 Pz => ∃ (q r : Rat) (n m : Nat), zs0 = [.lst [fr q, fr r]] ∧ (Bd n q ∧ Bd m r ∧ n + m ≤ 4000) ∧ Pz = (fun e => ∃ k : Nat, e = .int (k : Int) ∧ k ≠ 0 ∧ q.den ∣ k ∧ r.den ∣ k ∧ k < 2 ^ (n + m))
theorem len_scale : ∀ ds Post, Rl_scale ds Post → ds.length = 1 := fun _ _ ⟨_, _, _, _, e, _⟩ => by rw [e]; rfl
theorem ok_law_scale (B : Bs K mg) : Cl P w K mg base CX0 2 "_law_scale" (spP Rl_scale) [] := by
  refine cl_of (N := ["_law_fracs", "_law_scale_here", "_law_value"]) (ps := ["_law_fracs"]) B.d_law_scale B.g_law_scale (by decide +kernel) (fun _ _ _ _ _ _ us hl => match us, hl with | [_], _ => rfl)
    (len_P len_scale) fun f cdv A outer s H vs Q E hr h => ?_
  have nd : (["_law_fracs", "_law_scale_here", "_law_value"] : List Str).Nodup := by decide +kernel
  refine ⟨_, PSs.nox (pss_cons (ps_set (i := 1) nd rfl (by first | exact Or.inl rfl | exact Or.inr rfl) pe_int)
  (pss_cons (ps_for PassesOwn.never rfl (pi_list (pv 0)) (pg_name (i := 2) nd rfl (by first | exact Or.inl rfl | exact Or.inr rfl)) (pss_one (ps_set (i := 1) nd rfl (by first | exact Or.inl rfl | exact Or.inr rfl) (pe_op op_mulW (pe_op op_fdivZ (pv 1) (pe_cl (ok_law_gcd B) hr (by decide) pass0 (pa_cons (pv 1) (pa_cons (pe_ix ix_tup (pv 2) pe_int (fun _ _ => rfl)) pa_nil)))) (pe_ix ix_tup (pv 2) pe_int (fun _ _ => rfl))))))
  (pss_one (ps_ret (pv 1))))), enterP h fun C ds Post hR hrt => ?_⟩
  obtain ⟨q, r, n, m, rfl, ⟨hq, hr2, hs⟩, rfl⟩ := hR
  have iq : Bz q n := ⟨hq⟩
  have ir : Bz r m := ⟨hr2⟩
  show NX C _ [.val (.lst [fr q, fr r]), .no, .no]
  refine sq_asg ed_int ?_
  let P : Nat → Nat → Prop := fun i k => k ≠ 0 ∧ (0 < i → q.den ∣ k) ∧ (1 < i → r.den ∣ k) ∧ k ≤ (if i = 0 then 1 else if i = 1 then q.den else q.den * r.den)
  have kz : ∀ {i k}, i ≤ 2 → P i k → k < 2 ^ (n + m) := fun {i k} hi h => by
    refine Nat.lt_of_le_of_lt h.2.2.2 ?_
    have h1 : q.den < 2 ^ n := hq.2
    have h2 : r.den < 2 ^ m := hr2.2
    have h3 : q.den < 2 ^ (n + m) := lt_two_pow h1 (by omega)
    have h4 : q.den * r.den < 2 ^ (n + m) := mul_lt_pow h1 h2
    have h5 := q.den_pos
    split
    · omega
    · split
      · exact h3
      · exact h4
  refine sq_forE (ei_list (ed_var rfl)) (ι := Nat) (fun _ k => [.val (.lst [fr q, fr r]), .val (.int (k : Int)), .no]) P 1 ⟨by decide, fun z => absurd z (by decide), fun z => absurd z (by decide), Nat.le_refl _⟩ (.refl _) (fun C' le i hi k hk N hN => ⟨_, [2], asg_name, ?_⟩) ?_
  · have hi2 : i < 2 := hi
    have key : ∀ d : Rat, (∃ n', Bd n' d ∧ n' ≤ 4000) → (∀ k', P i k → k' = k / Nat.gcd k d.den * d.den → P (i + 1) k') → NX C' (tAsg (tOp (rI CMulW fun i j => .int (i * j)) (tOp (rI CDivZ fun i j => .int (i.fdiv j)) (tVar 1) (tCall (spP Rl_gcd) [] E0 (tCons (tVar 1) (tCons (tOp (rIxT K) (tVar 2) (tC (.int 1))) tNil)))) (tOp (rIxT K) (tVar 2) (tC (.int 1)))) (gName 1) { nx := N, rt := Q }) [.val (.lst [fr q, fr r]), .val (.int (k : Int)), .val (fr d)] := fun d ⟨n', hd, hn'⟩ hP => by
      have hkz := kz (by omega) hk
      have hg0 : Int.gcd (k : Int) (d.den : Int) = Nat.gcd k d.den := rfl
      have hgp : 0 < Nat.gcd k d.den := Nat.gcd_pos_of_pos_right _ d.den_pos
      have hgl : Nat.gcd k d.den ≤ k := Nat.gcd_le_left _ (by have := hk.1; omega)
      have e1 : (k : Int).fdiv ((Int.gcd (k : Int) (d.den : Int) : Nat) : Int) = ((k / Nat.gcd k d.den : Nat) : Int) := by
        rw [hg0, Int.fdiv_eq_ediv_of_nonneg _ (by omega)]
        rfl
      refine nx_asg ((ed_rI ((ed_rI (ed_var rfl) (ed_call (ea_cons (ed_var rfl) (ea_cons (ed_ixT (ed_var rfl) ed_int rfl) ea_nil)) rl_gcd) (dv_nat (n := n + m) (by rw [hg0]; omega) (by rw [hg0]; exact Nat.lt_of_le_of_lt hgl hkz) (by omega))).is (congrArg Dt.int e1)) (ed_ixT (ed_var rfl) ed_int rfl) (mw_ii (n := n + m) (m := n') (by rw [Int.natAbs_natCast]; exact Nat.lt_of_le_of_lt (Nat.div_le_self _ _) hkz) (by rw [Int.natAbs_natCast]; exact hd.2) (by have := bz (q := q) |>.pos; omega) hd.pos (by omega))).is (e := .int ((k / Nat.gcd k d.den * d.den : Nat) : Int)) (congrArg Dt.int (Int.natCast_mul _ _).symm)) ?_
      exact (hN _ (hP _ hk rfl)).wk (.keep (.keep (.drop .nil)))
    have i01 : i = 0 ∨ i = 1 := by omega
    rcases i01 with rfl | rfl
    · refine key q ⟨n, hq, by omega⟩ fun k' ⟨h1, h2, h3, h4⟩ e => ?_
      obtain ⟨s1, s2, s3, s4⟩ := lcm_step h1 q.den_nz
      rw [e]
      refine ⟨s1, fun _ => s3, fun z => absurd z (by decide), ?_⟩
      have h5 : k ≤ 1 := h4
      show _ ≤ q.den
      calc _ ≤ k * q.den := s4
        _ ≤ 1 * q.den := Nat.mul_le_mul_right _ h5
        _ = q.den := Nat.one_mul _
    · refine key r ⟨m, hr2, by omega⟩ fun k' ⟨h1, h2, h3, h4⟩ e => ?_
      obtain ⟨s1, s2, s3, s4⟩ := lcm_step h1 r.den_nz
      rw [e]
      refine ⟨s1, fun _ => Nat.dvd_trans (h2 (by decide)) s2, fun _ => s3, ?_⟩
      have h5 : k ≤ q.den := h4
      show _ ≤ q.den * r.den
      exact Nat.le_trans s4 (Nat.mul_le_mul_right _ h5)
  · intro k hk
    exact nx_ret hrt (ed_var rfl) ⟨k, rfl, hk.1, hk.2.1 (by show 0 < 2; decide), hk.2.2.1 (by show 1 < 2; decide), kz (Nat.le_refl 2) hk⟩
end
end Wk
-- D14
namespace Wk
open PySem PySem.Spec
open PyProof.Rows L2
section
variable {P : Program}
variable {w : World} {K : PySem.W.Frag} {mg : Str → Option Value} {base : Heap}
/-! ### fractions left open -/
def FrP (P : Rat → Prop) : Dt → Prop := fun d => ∃ q, d = fr q ∧ P q
section
variable {C : Ctx} {K : PySem.W.Frag} {Γ : List Slot} {ta tb te : TE} {tr : TA} {d e : Dt} {ds es : List Dt} {R : Dt → Prop} {D : Ends} {u : TS} {Pa Pb : Rat → Prop} {n m : Nat} {E : XK}
theorem EvN.fr {q : Rat} (h : EvD C te Γ (fr q)) : EvN C te Γ (FrP fun x => x = q) := h.to ⟨q, rfl, rfl⟩
theorem en_plusF (ha : EvN C ta Γ (FrP Pa)) (hb : EvN C tb Γ (FrP Pb)) (za : ∀ q, Pa q → Bd n q) (zb : ∀ q, Pb q → Bd m q) (hs : n + m ≤ 9000) (k : ∀ a b, Pa a → Pb b → R (fr (a + b))) : EvN C (tCall (spP Rl_plus) [] E (tCons ta (tCons tb tNil))) Γ R :=
  en_callI ((en_cons ha (en_cons hb ea_nil)).imp fun l ⟨d1, l1, e1, ⟨a, e2, pa⟩, d2, l2, e3, ⟨b, e4, pb⟩, e5⟩ => ⟨_, ⟨a, b, n, m, by rw [e1, e2, e3, e4, e5], ⟨za a pa, zb b pb, hs⟩, rfl⟩, fun e z => by rw [z]; exact k a b pa pb⟩)
theorem en_minusF (ha : EvN C ta Γ (FrP Pa)) (hb : EvN C tb Γ (FrP Pb)) (za : ∀ q, Pa q → Bd n q) (zb : ∀ q, Pb q → Bd m q) (hs : n + m ≤ 9000) (k : ∀ a b, Pa a → Pb b → R (fr (a - b))) : EvN C (tCall (spP Rl_minus) [] E (tCons ta (tCons tb tNil))) Γ R :=
  en_callI ((en_cons ha (en_cons hb ea_nil)).imp fun l ⟨d1, l1, e1, ⟨a, e2, pa⟩, d2, l2, e3, ⟨b, e4, pb⟩, e5⟩ => ⟨_, ⟨a, b, n, m, by rw [e1, e2, e3, e4, e5], ⟨za a pa, zb b pb, hs⟩, rfl⟩, fun e z => by rw [z]; exact k a b pa pb⟩)
theorem en_timesF (ha : EvN C ta Γ (FrP Pa)) (hb : EvN C tb Γ (FrP Pb)) (za : ∀ q, Pa q → Bd n q) (zb : ∀ q, Pb q → Bd m q) (hs : n + m ≤ 9000) (k : ∀ a b, Pa a → Pb b → R (fr (a * b))) : EvN C (tCall (spP Rl_times) [] E (tCons ta (tCons tb tNil))) Γ R :=
  en_callI ((en_cons ha (en_cons hb ea_nil)).imp fun l ⟨d1, l1, e1, ⟨a, e2, pa⟩, d2, l2, e3, ⟨b, e4, pb⟩, e5⟩ => ⟨_, ⟨a, b, n, m, by rw [e1, e2, e3, e4, e5], ⟨za a pa, zb b pb, hs⟩, rfl⟩, fun e z => by rw [z]; exact k a b pa pb⟩)
/-- (k, 1) -/
theorem en_one {Pk : Int → Prop} (h : EvN C te Γ fun d => ∃ k, d = .int k ∧ Pk k) : EvN C (tTup (tCons te (tCons (tC (.int 1)) tNil))) Γ (FrP fun q => ∃ k : Int, q = (k : Rat) ∧ Pk k) :=
  en_tup (en_cons h (en_cons ed_int ea_nil)) fun ds ⟨d1, l1, e1, ⟨k, e2, hk⟩, d2, l2, e3, e4, e5⟩ => by
    subst e1 e2 e3 e4 e5
    exact ⟨by simp, _, fr_int k, k, rfl, hk⟩
theorem nx_setItemN {i n : Nat} {z : Int} (hi : Γ[i]? = some (.own ds)) (h : EvN C te Γ R) (hx : EvD C tb Γ (.int z)) (hn : ixN ds.length z = some n) (k : ∀ d, R d → NX C D.nx (Γ.set i (.own (ds.set n d)))) : NX C (tAsg te (gSub (tVar i) tb rSetL) D) Γ := fun σ F H I =>
  h σ F H I _ fun v F1 H1 d' I1 s1 r1 k1 => by
    obtain ⟨o, ho, p, vs, e1, e2, e3, e4, r⟩ := I1.sl i _ hi
    subst e1
    refine ⟨.ref p, ho, hx σ F1 H1 I1 _ fun y F2 H2 e' I2 s2 r2 k2 => ?_⟩
    subst k2
    cases r2.int_inv
    obtain ⟨o', ho', p', vs', e1', e2', e3', e4', r'⟩ := I2.sl i _ hi
    rw [ho, e1'] at ho'
    cases Option.some.inj ho'
    refine ⟨p, vs', z, n, rfl, rfl, e2', by rw [r'.length]; exact hn, ?_⟩
    exact k d' k1 σ F2 _ (I2.put hi ho (r'.set (r1.mono s2) n))
end
theorem ixN_nat {n : Nat} {k : Int} (h0 : 0 ≤ k) (h1 : k < n) : ixN n k = some k.toNat := by
  unfold ixN
  (rw [if_pos (by omega), if_pos (by omega)])
theorem atI_ge {ds : List Dt} {k : Int} (h0 : 0 ≤ k) (h1 : k < ds.length) : atI ds k = some (ds[k.toNat]'(by omega)) := by
  unfold atI
  rw [ixN_nat h0 h1]
  exact List.getElem?_eq_getElem _
def Rl_law_sky_for : Rel := fun zs0 Pz => zs0 = [] ∧ (True) ∧ Pz = (fun e => ∃ rows m, e = .tup [.lst (rows.map rowD), fr m] ∧ RowsOk rows ∧ Grid 27720 (12 * 27720) m)
theorem len_law_sky_for : ∀ ds Post, Rl_law_sky_for ds Post → ds.length = 0 := fun _ _ ⟨e, _⟩ => by rw [e]; rfl
theorem ok_law_sky_for (B : Bs K mg) : Cl P w K mg base CX0 6 "_law_sky_for" (spS Rl_law_sky_for) [] := by
  refine cl_of (N := ["_law_store_here", "_law_rows", "_law_moment_here", "_law_kind", "_law_row", "_law_spot"]) (ps := ["_law_store_here"]) B.d_law_sky_for B.g_law_sky_for (by decide +kernel) (fun _ _ _ _ _ _ us hl => match us, hl with | [_], _ => rfl)
    (len_S len_law_sky_for) fun f cdv A outer s H vs Q E hr h => ?_
  have nd : (["_law_store_here", "_law_rows", "_law_moment_here", "_law_kind", "_law_row", "_law_spot"] : List Str).Nodup := by decide +kernel
  refine ⟨_, PSs.nox (pss_cons (ps_asg (pe_cl (ok_law_met B) hr (by decide) pass0 (pa_cons (pv 0) pa_nil)) (pg_tup rfl (pgs_cons (pg_name (i := 1) nd rfl (by first | exact Or.inl rfl | exact Or.inr rfl)) (pgs_cons (pg_name (i := 2) nd rfl (by first | exact Or.inl rfl | exact Or.inr rfl)) pgs_nil))))
  (pss_cons (ps_set (i := 3) nd rfl (by first | exact Or.inl rfl | exact Or.inr rfl) (pe_cl (ok_law_take B) hr (by decide) pass0 (pa_cons (pv 0) (pa_cons pe_int pa_nil))))
  (pss_cons (ps_if (pt_cmpR op_eq (pv 3) pe_int (nomark _)) (pss_one (ps_set (i := 1) nd rfl (by first | exact Or.inl rfl | exact Or.inr rfl) (pe_lc (own := [("_law_row", 4)]) rfl nd (pi_list (pv 1)) (blkOk_by (by show blkC ["_law_store_here", "_law_rows", "_law_moment_here", "_law_kind", "_law_row", "_law_spot"] (defScope (top 116)) _ _ = true; decide +kernel)) (fun _ _ _ _ _ => pg_name (i := 4) nd rfl (Or.inl rfl)) (fun _ _ _ _ _ => pts_nil) (fun _ _ _ _ _ => (pe_tup (pa_cons (pe_cl (ok_law_frac B) hr (by decide) pass0 (pa_cons (pv 0) pa_nil)) (pa_cons (pe_cl (ok_law_place B) hr (by decide) pass0 (pa_cons (pv 0) pa_nil)) pa_nil))))))) (pss_one (ps_if (pt_cmpR op_eq (pv 3) pe_int (nomark _)) (pss_cons (ps_set (i := 5) nd rfl (by first | exact Or.inl rfl | exact Or.inr rfl) (pe_cl (ok_law_take B) hr (by decide) pass0 (pa_cons (pv 0) (pa_cons (pe_callB call_len_seq (by rfl) B.z_len (by decide +kernel) (pa_cons (pv 1) pa_nil)) pa_nil))))
  (pss_one (ps_asg (pe_tup (pa_cons (pe_ix ix_tup (pe_ix ix_list (pv 1) (pv 5) (fun _ _ => rfl)) pe_int (fun _ _ => rfl)) (pa_cons (pe_cl (ok_law_place B) hr (by decide) pass0 (pa_cons (pv 0) pa_nil)) pa_nil))) (pg_sub (pv 1) (pv 5) set_list)))) (pss_one (ps_if (pt_cmpR op_eq (pv 3) pe_int (nomark _)) (pss_one (ps_set (i := 1) nd rfl (by first | exact Or.inl rfl | exact Or.inr rfl) (pe_lc (own := [("_law_row", 4)]) rfl nd (pi_list (pv 1)) (blkOk_by (by show blkC ["_law_store_here", "_law_rows", "_law_moment_here", "_law_kind", "_law_row", "_law_spot"] (defScope (top 116)) _ _ = true; decide +kernel)) (fun _ _ _ _ _ => pg_name (i := 4) nd rfl (Or.inl rfl)) (fun _ _ _ _ _ => pts_nil) (fun _ _ _ _ _ => (pe_ix (ix_listK (K := K)) (pv 1) pe_int (fun _ _ => rfl)))))) pss_nil)))))
  (pss_one (ps_ret (pe_tup (pa_cons (pv 1) (pa_cons (pv 2) pa_nil)))))))), enterS h fun C ds Post hR hrt => ?_⟩
  obtain ⟨rfl, _, rfl⟩ := hR
  show NX C _ [.sto, .no, .no, .no, .no, .no]
  refine sq_asgMet rfl fun rows0 m hok hm => ?_
  show NX C _ [.sto, .own (rows0.map rowD), .val (fr m), .no, .no, .no]
  refine sq_asgN (en_take rfl ed_int ⟨by decide, by decide⟩) ?_
  rintro d ⟨k, rfl, k0, k1⟩
  show NX C _ [.sto, .own (rows0.map rowD), .val (fr m), .val (.int k), .no, .no]
  have len0 : (rows0.map rowD).length = rows0.length := List.length_map ..
  refine sq_joinI (ι := {rows : List (Rat × Rat) // RowsOk rows}) (fun rows => [.sto, .own (rows.1.map rowD), .val (fr m), .no, .no, .no]) (fun hN => ?_) ?_
  · refine nx_if (etd_test (ed_eqI (ed_var rfl) ed_int)) (fun _ => ?_) fun _ => nx_if (etd_test (ed_eqI (ed_var rfl) ed_int)) (fun _ => ?_) fun _ => nx_if (etd_test (ed_eqI (ed_var rfl) ed_int)) (fun _ => ?_) fun _ => ?_
    · refine nx_freeze (i := 1) rfl ?_
      refine nx_asgON (Rs := fun ds => ∃ rs : List (Rat × Rat), ds = rs.map rowD ∧ rs.length = rows0.length ∧ ∀ p ∈ rs, RowOk p) ?_ ?_
      · have hl := el_lcN (C := C) (A := fun i ds => ∃ rs : List (Rat × Rat), ds = rs.map rowD ∧ rs.length = i ∧ ∀ p ∈ rs, RowOk p) (wi := iList K (tVar 1)) (tg := gName 4) (tt := tYes) (te := tTup (tCons (tCall (spS Rl_law_frac) [] E0 (tCons (tVar 0) tNil)) (tCons (tCall (spS Rl_law_place) [] E0 (tCons (tVar 0) tNil)) tNil))) (vs := [4]) (Γ := [.sto, .val (.lst (rows0.map rowD)), .val (fr m), .val (.int k), .no, .no]) (ei_list (ed_var rfl)) rfl (by have := hok.2.1; omega) ⟨[], rfl, rfl, fun p hp => by cases hp⟩ fun C' le i hi => ⟨_, asg_name, fun b => b = true, fun σ F H I Q q => q true F H I (.refl _) rfl, fun _ => ?_, fun z => by cases z⟩
        · rw [len0] at hl
          exact hl
        · refine en_tup (en_cons (en_frac rfl) (en_cons (en_place rfl) ea_nil)) ?_
          rintro ds ⟨d1, l1, rfl, ⟨f, rfl, hf⟩, d2, l2, rfl, ⟨q, rfl, hq, q0, q1⟩, rfl⟩
          refine ⟨by simp, ?_⟩
          rintro l ⟨rs, rfl, hl, hrs⟩
          refine ⟨rs ++ [(f, q)], by rw [List.map_append]; rfl, by rw [List.length_append, hl]; rfl, fun p hp => ?_⟩
          (rcases List.mem_append.mp hp with h | h)
          · exact hrs p h
          · rw [List.mem_singleton.mp h]
            exact ⟨hf, (hq.lift 27720).mono (by decide), q0, q1⟩
      · rintro ds ⟨rs, rfl, hl, hrs⟩
        exact (hN ⟨rs, by have := hok.1; omega, by have := hok.2.1; omega, hrs⟩).wk (.keep (.keep (.keep (.drop (.refl _)))))
    · refine sq_asgN (en_take rfl (ed_lenO rfl) ⟨by have := hok.1; omega, by have := hok.2.1; omega⟩) ?_
      rintro d ⟨j, rfl, j0, j1⟩
      have j2 : j < (rows0.map rowD).length := j1
      have j3 : j.toNat < rows0.length := by omega
      have hat := atI_ge j0 j2
      rw [List.getElem_map] at hat
      refine nx_setItemN (R := fun d => ∃ q, d = rowD (rows0[j.toNat].1, q) ∧ Grid 27720 (1 * 27720) q ∧ 0 ≤ q ∧ q < 1) rfl (en_tup (en_cons (ed_ixT (ed_ixO rfl (ed_var rfl) hat) ed_int rfl) (en_cons (en_place rfl) ea_nil)) ?_) (ed_var rfl) (ixN_nat j0 j2) ?_
      · rintro ds ⟨d1, l1, rfl, rfl, d2, l2, rfl, ⟨q, rfl, hq⟩, rfl⟩
        exact ⟨by simp, q, rfl, hq⟩
      · rintro d ⟨q, rfl, hq, q0, q1⟩
        have := hN ⟨rows0.set j.toNat (rows0[j.toNat].1, q), by rw [RowsOk, List.length_set]; exact ⟨hok.1, hok.2.1, fun p hp => by
          rcases List.mem_or_eq_of_mem_set hp with h | h
          · exact hok.2.2 p h
          · rw [h]
            exact ⟨(hok.2.2 _ (List.getElem_mem j3)).r, (hq.lift 27720).mono (by decide), q0, q1⟩⟩⟩
        rw [show (rows0.set j.toNat (rows0[j.toNat].1, q)).map rowD = (rows0.map rowD).set j.toNat (rowD (rows0[j.toNat].1, q)) from List.map_set ..] at this
        exact this.wk (.keep (.keep (.keep (.drop (.drop (.drop .nil))))))
    · cases rows0 with
      | nil => exact absurd hok.1 (by decide)
      | cons p0 l =>
        refine nx_freeze (i := 1) rfl ?_
        refine nx_asgO (eld_lcL (ds := (p0 :: l).map rowD) (fun _ => rowD p0) (ed_var rfl) rfl (by have := hok.2.1; omega) (by simp) fun C' le d hd => ed_ixL (ed_var rfl) ed_int atI0) ?_
        have := hN ⟨(p0 :: l).map fun _ => p0, by rw [RowsOk, List.length_map]; exact ⟨hok.1, hok.2.1, fun p hp => by
          (obtain ⟨x, _, rfl⟩ := List.mem_map.mp hp)
          exact hok.2.2 _ List.mem_cons_self⟩⟩
        have e : ((p0 :: l).map rowD).map (fun _ => rowD p0) = ((p0 :: l).map fun _ => p0).map rowD := by
          rw [List.map_map, List.map_map] <;> rfl
        rw [← e] at this
        exact this.wk (.keep (.keep (.keep (.drop (.refl _)))))
    · exact nx_next ((hN ⟨rows0, hok⟩).wk (.keep (.keep (.keep (.drop (.refl _))))))
  · rintro ⟨rows, hok2⟩
    refine nx_freeze (i := 1) rfl ?_
    exact nx_ret hrt (ed_tup (ea_cons (ed_var rfl) (ea_cons (ed_var rfl) ea_nil))) ⟨rows, m, rfl, hok2, hm⟩
/-! ### where the law looks -/
theorem mul_in {s k S X : Rat} (s0 : 0 ≤ s) (s1 : s ≤ S) (h0 : -X ≤ k) (h1 : k ≤ X) (hX : 0 ≤ X) : -(S * X) ≤ s * k ∧ s * k ≤ S * X := by
  have a1 : s * X ≤ S * X := Rat.mul_le_mul_of_nonneg_right s1 hX
  have a2 : s * k ≤ s * X := Rat.mul_le_mul_of_nonneg_left h1 s0
  have a3 : s * (-X) ≤ s * k := Rat.mul_le_mul_of_nonneg_left h0 s0
  constructor <;> grind
theorem int_in {k : Int} {X : Nat} (h0 : -(X : Int) ≤ k) (h1 : k ≤ (X : Int)) : -((X : Nat) : Rat) ≤ (k : Rat) ∧ (k : Rat) ≤ ((X : Nat) : Rat) := by
  have a := Rat.intCast_le_intCast.mpr h0
  have b := Rat.intCast_le_intCast.mpr h1
  rw [Rat.intCast_neg, Rat.intCast_natCast] at a
  rw [Rat.intCast_natCast] at b
  exact ⟨a, b⟩
def EndsP : Dt → Prop := fun e => ∃ a b, e = .tup [fr a, fr b] ∧ a ≤ b ∧ EndSm a ∧ EndSm b
def shareD : List Dt := [fr 0, fr 0, fr (1 / 2), fr (1 / 12), fr (11 / 12)]
theorem share_of {e : Dt} (h : e ∈ shareD) : FrP (fun q => 0 ≤ q ∧ q ≤ 1 ∧ Bd 4 q) e := by
  unfold shareD at h
  simp only [List.mem_cons, List.not_mem_nil, or_false] at h
  rcases h with rfl | rfl | rfl | rfl | rfl
  · exact ⟨_, rfl, by decide +kernel, by decide +kernel, by decide +kernel, by decide +kernel⟩
  · exact ⟨_, rfl, by decide +kernel, by decide +kernel, by decide +kernel, by decide +kernel⟩
  · exact ⟨_, rfl, by decide +kernel, by decide +kernel, by decide +kernel, by decide +kernel⟩
  · exact ⟨_, rfl, by decide +kernel, by decide +kernel, by decide +kernel, by decide +kernel⟩
  · exact ⟨_, rfl, by decide +kernel, by decide +kernel, by decide +kernel, by decide +kernel⟩
def Rl_law_span_over : Rel := fun zs0 Pz => ∃ (f s : Rat) (n : Int), zs0 = [fr f, fr s, .int n] ∧ (RuleOk (some (f, some s)) ∧ 200 ≤ n ∧ n ≤ 202) ∧ Pz = (EndsP)
theorem len_law_span_over : ∀ ds Post, Rl_law_span_over ds Post → ds.length = 3 := fun _ _ ⟨_, _, _, e, _⟩ => by rw [e]; rfl
theorem ok_law_span_over (B : Bs K mg) : Cl P w K mg base CX0 4 "_law_span_over" (spS Rl_law_span_over) [] := by
  refine cl_of (N := ["_law_store_here", "_law_first", "_law_interval", "_law_many", "_law_begin", "_law_ends", "_law_last", "_law_shares", "_law_before"]) (ps := ["_law_store_here", "_law_first", "_law_interval", "_law_many"]) B.d_law_span_over B.g_law_span_over (by decide +kernel) (fun _ _ _ _ _ _ us hl => match us, hl with | [_, _, _, _], _ => rfl)
    (len_S len_law_span_over) fun f cdv A outer s H vs Q E hr h => ?_
  have nd : (["_law_store_here", "_law_first", "_law_interval", "_law_many", "_law_begin", "_law_ends", "_law_last", "_law_shares", "_law_before"] : List Str).Nodup := by decide +kernel
  refine ⟨_, PSs.nox (pss_cons (ps_set (i := 4) nd rfl (by first | exact Or.inl rfl | exact Or.inr rfl) (pe_cl (ok_law_plus B) hr (by decide) pass0 (pa_cons (pv 1) (pa_cons (pe_cl (ok_law_times B) hr (by decide) pass0 (pa_cons (pv 2) (pa_cons (pe_tup (pa_cons (pe_cl (ok_law_whole B) hr (by decide) pass0 (pa_cons (pv 0) (pa_cons pe_int pa_nil))) (pa_cons pe_int pa_nil))) pa_nil))) pa_nil))))
  (pss_cons (ps_if (pt_cmpR op_lt (pv 3) pe_int (nomark _)) (pss_cons (ps_set (i := 5) nd rfl (by first | exact Or.inl rfl | exact Or.inr rfl) (pe_cl (ok_law_pick B) hr (by decide) pass0 (pa_cons (pv 0) (pa_cons (pe_lst (pa_cons (pe_tup (pa_cons (pe_tup (pa_cons pe_int (pa_cons pe_int pa_nil))) (pa_cons (pe_tup (pa_cons pe_int (pa_cons pe_int pa_nil))) pa_nil))) (pa_cons (pe_tup (pa_cons (pe_tup (pa_cons pe_int (pa_cons pe_int pa_nil))) (pa_cons (pe_tup (pa_cons pe_int (pa_cons pe_int pa_nil))) pa_nil))) (pa_cons (pe_tup (pa_cons (pe_tup (pa_cons pe_int (pa_cons pe_int pa_nil))) (pa_cons (pe_tup (pa_cons pe_int (pa_cons pe_int pa_nil))) pa_nil))) pa_nil)))) pa_nil))))
  (pss_one (ps_ret (pe_tup (pa_cons (pe_cl (ok_law_plus B) hr (by decide) pass0 (pa_cons (pv 4) (pa_cons (pe_cl (ok_law_times B) hr (by decide) pass0 (pa_cons (pv 2) (pa_cons (pe_ix ix_tup (pv 5) pe_int (fun _ _ => rfl)) pa_nil))) pa_nil))) (pa_cons (pe_cl (ok_law_plus B) hr (by decide) pass0 (pa_cons (pv 4) (pa_cons (pe_cl (ok_law_times B) hr (by decide) pass0 (pa_cons (pv 2) (pa_cons (pe_ix ix_tup (pv 5) pe_int (fun _ _ => rfl)) pa_nil))) pa_nil))) pa_nil)))))) pss_nil)
  (pss_cons (ps_set (i := 6) nd rfl (by first | exact Or.inl rfl | exact Or.inr rfl) (pe_cl (ok_law_plus B) hr (by decide) pass0 (pa_cons (pv 4) (pa_cons (pe_cl (ok_law_times B) hr (by decide) pass0 (pa_cons (pv 2) (pa_cons (pe_tup (pa_cons (pe_op op_sub (pv 3) pe_int) (pa_cons pe_int pa_nil))) pa_nil))) pa_nil))))
  (pss_cons (ps_set (i := 7) nd rfl (by first | exact Or.inl rfl | exact Or.inr rfl) (pe_lst (pa_cons (pe_tup (pa_cons pe_int (pa_cons pe_int pa_nil))) (pa_cons (pe_tup (pa_cons pe_int (pa_cons pe_int pa_nil))) (pa_cons (pe_tup (pa_cons pe_int (pa_cons pe_int pa_nil))) (pa_cons (pe_tup (pa_cons pe_int (pa_cons pe_int pa_nil))) (pa_cons (pe_tup (pa_cons pe_int (pa_cons pe_int pa_nil))) pa_nil)))))))
  (pss_cons (ps_set (i := 8) nd rfl (by first | exact Or.inl rfl | exact Or.inr rfl) (pe_cl (ok_law_times B) hr (by decide) pass0 (pa_cons (pv 2) (pa_cons (pe_cl (ok_law_pick B) hr (by decide) pass0 (pa_cons (pv 0) (pa_cons (pv 7) pa_nil))) pa_nil))))
  (pss_one (ps_ret (pe_tup (pa_cons (pe_cl (ok_law_minus B) hr (by decide) pass0 (pa_cons (pv 4) (pa_cons (pv 8) pa_nil))) (pa_cons (pe_cl (ok_law_plus B) hr (by decide) pass0 (pa_cons (pv 6) (pa_cons (pe_cl (ok_law_times B) hr (by decide) pass0 (pa_cons (pv 2) (pa_cons (pe_cl (ok_law_pick B) hr (by decide) pass0 (pa_cons (pv 0) (pa_cons (pv 7) pa_nil))) pa_nil))) pa_nil))) pa_nil)))))))))), enterS h fun C ds Post hR hrt => ?_⟩
  obtain ⟨f, s, n, rfl, ⟨⟨s0, h8, bf, bs, f0, f1, s1⟩, n0, n1⟩, rfl⟩ := hR
  have if_ : Bz f 70 := ⟨bf⟩
  have is : Bz s 70 := ⟨bs⟩
  show NX C _ [.sto, .val (fr f), .val (fr s), .val (.int n), .no, .no, .no, .no, .no]
  have s0' : 0 ≤ s := Rat.le_of_lt s0
  refine sq_asgN (R := FrP fun q => ∃ k : Int, q = f + s * (k : Rat) ∧ -6 ≤ k ∧ k ≤ 6) (en_plusF (n := 70) (m := 74) (EvN.fr (ed_var rfl)) (en_timesF (R := FrP fun q => ∃ k : Int, q = s * (k : Rat) ∧ -6 ≤ k ∧ k ≤ 6) (n := 70) (m := 4) (EvN.fr (ed_var rfl)) (en_one (en_whole rfl ed_int ⟨by decide, by decide⟩)) (fun q z => z ▸ bs) (fun q ⟨k, z, k0, k1⟩ => z ▸ bd_int (by show k.natAbs < 16; omega) (by decide)) (by decide) fun a b ea ⟨k, eb, hk⟩ => ⟨_, rfl, k, by rw [ea, eb], hk⟩) (fun q z => z ▸ bf) (fun q ⟨k, z, k0, k1⟩ => ?_) (by decide) fun a b ea ⟨k, eb, hk⟩ => ⟨_, rfl, k, by rw [ea, eb], hk⟩) ?_
  · have ik : Bz (k : Rat) 4 := ⟨bd_int (by show k.natAbs < 16; omega) (by decide)⟩
    rw [z]
    exact bz (q := s * (k : Rat))
  rintro d ⟨q, rfl, k, rfl, k0, k1⟩
  have ik : Bz (k : Rat) 4 := ⟨bd_int (by show k.natAbs < 16; omega) (by decide)⟩
  have in1 : Bz ((n - 1 : Int) : Rat) 8 := ⟨bd_int (by show (n - 1).natAbs < 256; omega) (by decide)⟩
  have kk := mul_in s0' s1 (int_in (X := 6) k0 k1).1 (int_in (X := 6) k0 k1).2 (by decide)
  have hn1 : (0 : Rat) ≤ ((n - 1 : Int) : Rat) := Rat.intCast_nonneg.mpr (by omega)
  have nn := mul_in s0' s1 (int_in (X := 201) (show -((201 : Nat) : Int) ≤ n - 1 by omega) (by omega)).1 (int_in (X := 201) (show -((201 : Nat) : Int) ≤ n - 1 by omega) (by omega)).2 (by decide)
  have nn0 := Rat.mul_nonneg s0' hn1
  refine sq_no (etd_test (ed_cmp (ed_var rfl) ed_int)) (decide_eq_false (by omega)) ?_
  refine sq_asg (ed_call (ea_cons (ed_var rfl) (ea_cons (ed_call (ea_cons (ed_var rfl) (ea_cons (EvN.is (ed_tup (ea_cons (ed_rI0 (ed_var rfl) ed_int) (ea_cons ed_int ea_nil))) (fr_int _)) ea_nil)) rl_times) ea_nil)) rl_plus) ?_
  have bb : Bz (f + s * (k : Rat)) 145 := inferInstance
  have bl : Bz (f + s * (k : Rat) + s * ((n - 1 : Int) : Rat)) 224 := inferInstance
  revert bb bl kk nn nn0
  generalize s * (k : Rat) = sk
  generalize s * ((n - 1 : Int) : Rat) = sn
  intro kk nn nn0 bb bl
  refine sq_asgO (ds := shareD) (eld_lst (ea_cons ((ed_tup (ea_cons ed_int (ea_cons ed_int ea_nil))).is (fr_lit (q := 0) (by decide +kernel))) (ea_cons ((ed_tup (ea_cons ed_int (ea_cons ed_int ea_nil))).is (fr_lit (q := 0) (by decide +kernel))) (ea_cons ((ed_tup (ea_cons ed_int (ea_cons ed_int ea_nil))).is (fr_lit (q := 1 / 2) (by decide +kernel))) (ea_cons ((ed_tup (ea_cons ed_int (ea_cons ed_int ea_nil))).is (fr_lit (q := 1 / 12) (by decide +kernel))) (ea_cons ((ed_tup (ea_cons ed_int (ea_cons ed_int ea_nil))).is (fr_lit (q := 11 / 12) (by decide +kernel))) ea_nil)))))) ?_
  refine nx_freeze (i := 7) rfl ?_
  have pick : ∀ {Γ : List Slot}, Γ[0]? = some .sto → Γ[7]? = some (.val (.lst shareD)) → Γ[2]? = some (.val (fr s)) → EvN C (tCall (spP Rl_times) [] E0 (tCons (tVar 2) (tCons (tCall (spS Rl_law_pick) [] E0 (tCons (tVar 0) (tCons (tVar 7) tNil))) tNil))) Γ (FrP fun q => 0 ≤ q ∧ q ≤ 27720 ∧ Bd 74 q) := fun {Γ} h0 h7 h2 =>
    en_timesF (n := 70) (m := 4) (EvN.fr (ed_var h2)) ((en_pick h0 (ed_var h7) ⟨by decide, by decide⟩).imp fun d hd => share_of hd) (fun q z => z ▸ bs) (fun q z => z.2.2) (by decide) fun a b ea ⟨b0, b1, bb⟩ => ⟨_, rfl, by
      rw [ea]
      have ib : Bz b 4 := ⟨bb⟩
      have := mul_in s0' s1 (X := 1) (by grind) b1 (by decide)
      exact ⟨Rat.mul_nonneg s0' b0, by grind, bz (q := s * b)⟩⟩
  refine sq_asgN (pick rfl rfl rfl) ?_
  rintro d ⟨x, rfl, x0, x1, bx⟩
  have ix : Bz x 74 := ⟨bx⟩
  refine nx_retN hrt (en_tup (en_cons (ed_call (ea_cons (ed_var rfl) (ea_cons (ed_var rfl) ea_nil)) rl_minus) (en_cons (en_plusF (n := 224) (m := 74) (R := FrP fun q => ∃ y, q = f + sk + sn + y ∧ 0 ≤ y ∧ y ≤ 27720 ∧ Bd 74 y) (EvN.fr (ed_var rfl)) (pick rfl rfl rfl) (fun q z => z ▸ bz) (fun q z => z.2.2) (by decide) fun a b ea hb => ⟨_, rfl, b, by rw [ea], hb⟩) ea_nil)) ?_)
  rintro ds ⟨d1, l1, rfl, rfl, d2, l2, rfl, ⟨q, rfl, y, rfl, y0, y1, by_⟩, rfl⟩
  have iy : Bz y 74 := ⟨by_⟩
  have e1 : ((6 : Nat) : Rat) = 6 := rfl
  have e2 : ((201 : Nat) : Rat) = 201 := rfl
  rw [e1] at kk
  rw [e2] at nn
  refine ⟨by simp, _, _, rfl, by grind, ⟨(bz (q := f + sk - x)).mono (by decide), by grind, by grind⟩, (bz (q := f + sk + sn + y)).mono (by decide), by grind, by grind⟩
end
end Wk
-- D15
namespace Wk
open PySem PySem.Spec
open PyProof.Rows L2
section
variable {P : Program}
variable {w : World} {K : PySem.W.Frag} {mg : Str → Option Value} {base : Heap}
def rabs (q : Rat) : Rat := if q < 0 then -q else q
theorem rabs_nn (q : Rat) : 0 ≤ rabs q := by
  unfold rabs
  split <;> grind
theorem rabs_fr (q : Rat) : Dt.tup [.int (q.num.natAbs : Int), .int (q.den : Int)] = fr (rabs q) := by
  unfold rabs
  have hn : q < 0 ↔ q.num < 0 := by
    have := Rat.num_nonneg (q := q)
    constructor
    · intro h
      exact Classical.byContradiction fun z => by
        have h2 := this.mp (by omega)
        grind
    · intro h
      exact Classical.byContradiction fun z => by
        have h2 := this.mpr (Rat.not_lt.mp z)
        omega
  by_cases h : q < 0
  · rw [if_pos h]
    have := hn.mp h
    exact fr_lit ⟨by rw [Rat.neg_num]; omega, by rw [Rat.neg_den]⟩
  · rw [if_neg h]
    have : ¬ q.num < 0 := fun z => h (hn.mpr z)
    exact fr_lit ⟨by omega, rfl⟩
theorem Bd.rabs {n : Nat} {q : Rat} (h : Bd n q) : Bd n (rabs q) := by
  unfold Wk.rabs
  split
  · exact h.neg
  · exact h
theorem sgn_neg {a b : Rat} : sgn a b < 0 ↔ a < b := by
  unfold sgn
  by_cases h : a < b
  · rw [if_pos h]; exact ⟨fun _ => h, fun _ => by decide⟩
  · rw [if_neg h]
    constructor
    · intro z
      split at z <;> exact absurd z (by decide)
    · exact fun z => absurd z h
theorem third {k : Int} (h0 : 0 ≤ k) (h1 : k < 37) : 0 ≤ Rat.divInt k 3 ∧ Rat.divInt k 3 ≤ 12 ∧ Bd 6 (Rat.divInt k 3) := by
  have h3 : (3 : Rat) ≠ 0 := by decide
  have e : Rat.divInt k 3 * 3 = (k : Rat) := by
    rw [Rat.divInt_eq_div]
    exact Rat.div_mul_cancel h3
  have a := Rat.intCast_nonneg.mpr h0
  have b : (k : Rat) ≤ ((36 : Int) : Rat) := Rat.intCast_le_intCast.mpr (by omega)
  have c : ((36 : Int) : Rat) = 36 := rfl
  rw [c] at b
  refine ⟨by grind, by grind, ?_⟩
  exact bd_mk (d := 3) (by decide) (by show k.natAbs < 64; omega) (by decide)
/-- times / at least 1/12 -/
theorem by_fast {x q : Rat} (h : 1 / 12 ≤ q) (x0 : 0 ≤ x) (x1 : x ≤ 12) : 0 ≤ x / q ∧ x / q ≤ 144 := by
  have q0 : 0 < q := by grind
  have hne : q ≠ 0 := fun z => by rw [z] at q0; exact Rat.lt_irrefl q0
  have e : x / q * q = x := Rat.div_mul_cancel hne
  constructor
  · have : q * 0 ≤ q * (x / q) := by grind
    exact Rat.le_of_mul_le_mul_left this q0
  · have : q * (x / q) ≤ q * 144 := by grind
    exact Rat.le_of_mul_le_mul_left this q0
structure MomOk (m : Rat) : Prop where
  b : Bd 146 m
  lo : -200000 ≤ m
  hi : m ≤ 200000
def Rl_law_short_span : Rel := fun zs0 Pz => ∃ (rows : List (Rat × Rat)) (m : Rat), zs0 = [.lst (rows.map rowD), fr m] ∧ (RowsOk rows ∧ MomOk m) ∧ Pz = (EndsP)
theorem len_law_short_span : ∀ ds Post, Rl_law_short_span ds Post → ds.length = 2 := fun _ _ ⟨_, _, e, _⟩ => by rw [e]; rfl
theorem ok_law_short_span (B : Bs K mg) : Cl P w K mg base CX0 4 "_law_short_span" (spS Rl_law_short_span) [] := by
  refine cl_of (N := ["_law_store_here", "_law_rows", "_law_moment_here", "_law_fastest", "_law_row", "_law_rate", "_law_before", "_law_after"]) (ps := ["_law_store_here", "_law_rows", "_law_moment_here"]) B.d_law_short_span B.g_law_short_span (by decide +kernel) (fun _ _ _ _ _ _ us hl => match us, hl with | [_, _, _], _ => rfl)
    (len_S len_law_short_span) fun f cdv A outer s H vs Q E hr h => ?_
  have nd : (["_law_store_here", "_law_rows", "_law_moment_here", "_law_fastest", "_law_row", "_law_rate", "_law_before", "_law_after"] : List Str).Nodup := by decide +kernel
  refine ⟨_, PSs.nox (pss_cons (ps_set (i := 3) nd rfl (by first | exact Or.inl rfl | exact Or.inr rfl) (pe_tup (pa_cons pe_int (pa_cons pe_int pa_nil))))
  (pss_cons (ps_for PassesOwn.never rfl (pi_list (pv 1)) (pg_name (i := 4) nd rfl (by first | exact Or.inl rfl | exact Or.inr rfl)) (pss_cons (ps_set (i := 5) nd rfl (by first | exact Or.inl rfl | exact Or.inr rfl) (pe_cl (ok_law_minus B) hr (by decide) pass0 (pa_cons (pe_ix ix_tup (pv 4) pe_int (fun _ _ => rfl)) (pa_cons (pe_ix ix_tup (pe_ix ix_list (pv 1) pe_int (fun _ _ => rfl)) pe_int (fun _ _ => rfl)) pa_nil))))
  (pss_one (ps_if (pt_cmpR op_lt (pe_cl (ok_law_sign B) hr (by decide) pass0 (pa_cons (pv 3) (pa_cons (pe_tup (pa_cons (pe_callB call_abs (by rfl) B.z_abs (by decide +kernel) (pa_cons (pe_ix ix_tup (pv 5) pe_int (fun _ _ => rfl)) pa_nil)) (pa_cons (pe_ix ix_tup (pv 5) pe_int (fun _ _ => rfl)) pa_nil))) pa_nil))) pe_int (nomark _)) (pss_one (ps_set (i := 3) nd rfl (by first | exact Or.inl rfl | exact Or.inr rfl) (pe_tup (pa_cons (pe_callB call_abs (by rfl) B.z_abs (by decide +kernel) (pa_cons (pe_ix ix_tup (pv 5) pe_int (fun _ _ => rfl)) pa_nil)) (pa_cons (pe_ix ix_tup (pv 5) pe_int (fun _ _ => rfl)) pa_nil))))) pss_nil))))
  (pss_cons (ps_set (i := 6) nd rfl (by first | exact Or.inl rfl | exact Or.inr rfl) (pe_cl (ok_law_lowest B) hr (by decide) pass0 (pa_cons (pe_cl (ok_law_take B) hr (by decide) pass0 (pa_cons (pv 0) (pa_cons pe_int pa_nil))) (pa_cons pe_int pa_nil))))
  (pss_cons (ps_set (i := 7) nd rfl (by first | exact Or.inl rfl | exact Or.inr rfl) (pe_cl (ok_law_lowest B) hr (by decide) pass0 (pa_cons (pe_cl (ok_law_take B) hr (by decide) pass0 (pa_cons (pv 0) (pa_cons pe_int pa_nil))) (pa_cons pe_int pa_nil))))
  (pss_one (ps_ret (pe_tup (pa_cons (pe_cl (ok_law_minus B) hr (by decide) pass0 (pa_cons (pv 2) (pa_cons (pe_cl (ok_law_over B) hr (by decide) pass0 (pa_cons (pv 6) (pa_cons (pv 3) pa_nil))) pa_nil))) (pa_cons (pe_cl (ok_law_plus B) hr (by decide) pass0 (pa_cons (pv 2) (pa_cons (pe_cl (ok_law_over B) hr (by decide) pass0 (pa_cons (pv 7) (pa_cons (pv 3) pa_nil))) pa_nil))) pa_nil))))))))), enterS h fun C ds Post hR hrt => ?_⟩
  obtain ⟨rows, m, rfl, ⟨⟨h2, h6, hro⟩, ⟨mb, m0, m1⟩⟩, rfl⟩ := hR
  have im : Bz m 146 := ⟨mb⟩
  cases rows with
  | nil => exact absurd h2 (by decide)
  | cons p0 l =>
  have g0 := hro p0 List.mem_cons_self
  have ia0 := g0.br
  show NX C _ [.sto, .val (.lst (rowD p0 :: l.map rowD)), .val (fr m), .no, .no, .no, .no, .no]
  refine sq_asg (d := fr (1 / 12)) ((ed_tup (ea_cons ed_int (ea_cons ed_int ea_nil))).is (fr_lit (by decide +kernel))) ?_
  refine sq_forE (ei_list (ed_var rfl)) (ι := Rat) (fun _ q => [.sto, .val (.lst (rowD p0 :: l.map rowD)), .val (fr m), .val (fr q), .no, .no, .no, .no]) (fun _ q => 1 / 12 ≤ q ∧ Bd 18 q) (1 / 12) ⟨Rat.le_refl, by decide +kernel, by decide +kernel⟩ (.refl _) (fun C' le i hi q hq N hN => ⟨_, [4], asg_name, ?_⟩) ?_
  · obtain ⟨q0, qb⟩ := hq
    have iq : Bz q 18 := ⟨qb⟩
    have hi' : i < ((p0 :: l).map rowD).length := hi
    have gd := getD_map (f := rowD) (l := p0 :: l) hi'
    have gp := hro _ (List.getElem_mem (l := p0 :: l) (n := i) (by simpa using hi'))
    show NX C' _ [.sto, .val (.lst (rowD p0 :: l.map rowD)), .val (fr m), .val (fr q), .val (((p0 :: l).map rowD).getD i .non), .no, .no, .no]
    rw [gd]
    revert gp
    generalize (p0 :: l)[i]'(by simpa using hi') = p
    intro gp
    have iap := gp.br
    refine sq_asg (ed_call (ea_cons (ed_ixT (ed_var rfl) ed_int rfl) (ea_cons (ed_ixT (ed_ixL (ed_var rfl) ed_int atI0) ed_int rfl) ea_nil)) rl_minus) ?_
    have ir : Bz (rabs (p.1 - p0.1)) 18 := ⟨(gp.subr g0).rabs⟩
    refine nx_if (etd_test (ed_cmp (ed_call (ea_cons (ed_var rfl) (ea_cons ((ed_tup (ea_cons (ed_abs (ed_ixT (ed_var rfl) ed_int rfl)) (ea_cons (ed_ixT (ed_var rfl) ed_int rfl) ea_nil))).is (rabs_fr _)) ea_nil)) rl_law_sign) ed_int)) (fun hb => ?_) fun hb => ?_
    · refine nx_asg ((ed_tup (ea_cons (ed_abs (ed_ixT (ed_var rfl) ed_int rfl)) (ea_cons (ed_ixT (ed_var rfl) ed_int rfl) ea_nil))).is (rabs_fr _)) ?_
      have hlt := sgn_neg.mp (of_decide_eq_true hb)
      exact (hN _ ⟨by grind, bz⟩).wk (.keep (.keep (.keep (.keep (.drop (.drop (.refl _)))))))
    · exact nx_next ((hN _ ⟨q0, qb⟩).wk (.keep (.keep (.keep (.keep (.drop (.drop (.refl _))))))))
  · rintro q ⟨q0, qb⟩
    have iq : Bz q 18 := ⟨qb⟩
    have qne : q ≠ 0 := fun z => by rw [z] at q0; exact absurd q0 (by decide +kernel)
    have low : ∀ {Γ : List Slot}, Γ[0]? = some .sto → EvN C (tCall (spP Rl_lowest) [] E0 (tCons (tCall (spS Rl_law_take) [] E0 (tCons (tVar 0) (tCons (tC (.int 37)) tNil))) (tCons (tC (.int 3)) tNil))) Γ (FrP fun x => 0 ≤ x ∧ x ≤ 12 ∧ Bd 6 x) := fun {Γ} h0 =>
      en_callI ((en_cons (en_take h0 ed_int ⟨by decide, by decide⟩) (en_cons ed_int ea_nil)).imp fun ds ⟨d1, l1, e1, ⟨k, e2, k0, k1⟩, d2, l2, e3, e4, e5⟩ => ⟨_, by rw [e1, e2, e3, e4, e5]; exact rl_lowest (by decide) (by show 3 < 2 ^ 9000; exact lt_two_pow (n := 2) (by decide) (by decide)), fun e z => ⟨_, z, third k0 k1⟩⟩)
    refine sq_asgN (low rfl) ?_
    rintro d ⟨x, rfl, x0, x1, xb⟩
    refine sq_asgN (low rfl) ?_
    rintro d ⟨y, rfl, y0, y1, yb⟩
    have ix : Bz x 6 := ⟨xb⟩
    have iy : Bz y 6 := ⟨yb⟩
    have bx := by_fast q0 x0 x1
    have by_ := by_fast q0 y0 y1
    refine nx_ret hrt (ed_tup (ea_cons (ed_call (ea_cons (ed_var rfl) (ea_cons (ed_call (ea_cons (ed_var rfl) (ea_cons (ed_var rfl) ea_nil)) (rl_over (by assumption))) ea_nil)) rl_minus) (ea_cons (ed_call (ea_cons (ed_var rfl) (ea_cons (ed_call (ea_cons (ed_var rfl) (ea_cons (ed_var rfl) ea_nil)) (rl_over (by assumption))) ea_nil)) rl_plus) ea_nil))) ⟨_, _, rfl, by grind, ⟨(bz (q := m - x / q)).mono (by decide), by grind, by grind⟩, (bz (q := m + y / q)).mono (by decide), by grind, by grind⟩
theorem Grid.abs {N b c : Nat} {q : Rat} (h : Grid N (b * N) q) (hN : 0 < N) (hb : b ≤ c) : -((c : Nat) : Rat) ≤ q ∧ q ≤ ((c : Nat) : Rat) := by
  obtain ⟨z, h1, h2⟩ := h
  have hp : (0 : Rat) < (N : Rat) := Rat.natCast_pos.mpr hN
  have l : (z : Rat) ≤ ((c * N : Nat) : Rat) := by
    rw [← Rat.intCast_natCast]
    refine Rat.intCast_le_intCast.mpr ?_
    have := Nat.mul_le_mul_right N hb
    omega
  have l2 : -((c * N : Nat) : Rat) ≤ (z : Rat) := by
    rw [← Rat.intCast_natCast, ← Rat.intCast_neg]
    refine Rat.intCast_le_intCast.mpr ?_
    have := Nat.mul_le_mul_right N hb
    omega
  rw [← h1, Rat.natCast_mul] at l l2
  constructor
  · have : (N : Rat) * (-((c : Nat) : Rat)) ≤ (N : Rat) * q := by grind
    exact Rat.le_of_mul_le_mul_left this hp
  · have : (N : Rat) * q ≤ (N : Rat) * ((c : Nat) : Rat) := by grind
    exact Rat.le_of_mul_le_mul_left this hp
theorem mom_ok {m : Rat} (h : Grid 27720 (12 * 27720) m) : MomOk m := by
  have := h.abs (c := 12) (by decide) (by decide)
  have e : ((12 : Nat) : Rat) = 12 := rfl
  rw [e] at this
  exact ⟨(mom_bz h).h.mono (by decide), by grind, by grind⟩
def Rl_law_ends_for : Rel := fun zs0 Pz => ∃ (rows : List (Rat × Rat)) (m : Rat), zs0 = [.lst (rows.map rowD), fr m] ∧ (RowsOk rows ∧ Grid 27720 (12 * 27720) m) ∧ Pz = (EndsP)
theorem len_law_ends_for : ∀ ds Post, Rl_law_ends_for ds Post → ds.length = 2 := fun _ _ ⟨_, _, e, _⟩ => by rw [e]; rfl
theorem rd_some {r : Rule} (h : isNon (ruleD r) = false) : ∃ f o, r = some (f, o) := by
  rcases r with _ | ⟨f, o⟩
  · cases h
  · exact ⟨f, o, rfl⟩
theorem ruleD_none : ruleD none = .non := rfl
theorem ok_law_ends_for (B : Bs K mg) : Cl P w K mg base CX0 5 "_law_ends_for" (spS Rl_law_ends_for) [] := by
  refine cl_of (N := ["_law_store_here", "_law_rows", "_law_moment_here", "_law_rule_here", "_law_pair"]) (ps := ["_law_store_here", "_law_rows", "_law_moment_here"]) B.d_law_ends_for B.g_law_ends_for (by decide +kernel) (fun _ _ _ _ _ _ us hl => match us, hl with | [_, _, _], _ => rfl)
    (len_S len_law_ends_for) fun f cdv A outer s H vs Q E hr h => ?_
  have nd : (["_law_store_here", "_law_rows", "_law_moment_here", "_law_rule_here", "_law_pair"] : List Str).Nodup := by decide +kernel
  refine ⟨_, PSs.nox (pss_cons (ps_set (i := 3) nd rfl (by first | exact Or.inl rfl | exact Or.inr rfl) (pe_cl (ok_law_rule B) hr (by decide) pass0 (pa_cons (pv 1) pa_nil)))
  (pss_cons (ps_if (PW.pt (pw_and (pt_cmpR op_notN (pv 3) pe_non (nomark _)) (pw_and1 (pt_cmpR op_notN (pe_ix ix_tup (pv 3) pe_int (fun _ _ => rfl)) pe_non (nomark _))))) (pss_one (ps_set (i := 2) nd rfl (by first | exact Or.inl rfl | exact Or.inr rfl) (pe_cl (ok_law_plus B) hr (by decide) pass0 (pa_cons (pe_ix ix_tup (pv 3) pe_int (fun _ _ => rfl)) (pa_cons (pe_cl (ok_law_times B) hr (by decide) pass0 (pa_cons (pe_ix ix_tup (pv 3) pe_int (fun _ _ => rfl)) (pa_cons (pe_tup (pa_cons (pe_cl (ok_law_whole B) hr (by decide) pass0 (pa_cons (pv 0) (pa_cons pe_int pa_nil))) (pa_cons pe_int pa_nil))) pa_nil))) pa_nil))))) pss_nil)
  (pss_cons (ps_set (i := 4) nd rfl (by first | exact Or.inl rfl | exact Or.inr rfl) (pe_cl (ok_law_rule B) hr (by decide) pass0 (pa_cons (pe_lst (pa_cons (pe_ix ix_list (pv 1) pe_int (fun _ _ => rfl)) (pa_cons (pe_cl (ok_law_pick B) hr (by decide) pass0 (pa_cons (pv 0) (pa_cons (pe_slice sl_list (pv 1) (po_some pe_int) po_none) pa_nil))) pa_nil))) pa_nil)))
  (pss_cons (ps_if (PW.pt (pw_and (pt_cmpR op_eq (pe_cl (ok_law_take B) hr (by decide) pass0 (pa_cons (pv 0) (pa_cons pe_int pa_nil))) pe_int (nomark _)) (pw_and (pt_cmpR op_notN (pv 4) pe_non (nomark _)) (pw_and1 (pt_cmpR op_notN (pe_ix ix_tup (pv 4) pe_int (fun _ _ => rfl)) pe_non (nomark _)))))) (pss_one (ps_ret (pe_cl (ok_law_span_over B) hr (by decide) pass0 (pa_cons (pv 0) (pa_cons (pe_ix ix_tup (pv 4) pe_int (fun _ _ => rfl)) (pa_cons (pe_ix ix_tup (pv 4) pe_int (fun _ _ => rfl)) (pa_cons (pe_op op_add pe_int (pe_op op_mul (pe_cl (ok_law_take B) hr (by decide) pass0 (pa_cons (pv 0) (pa_cons pe_int pa_nil))) (pe_cl (ok_law_take B) hr (by decide) pass0 (pa_cons (pv 0) (pa_cons pe_int pa_nil))))) pa_nil))))))) pss_nil)
  (pss_one (ps_ret (pe_cl (ok_law_short_span B) hr (by decide) pass0 (pa_cons (pv 0) (pa_cons (pv 1) (pa_cons (pv 2) pa_nil)))))))))), enterS h fun C ds Post hR hrt => ?_⟩
  obtain ⟨rows, m, rfl, ⟨⟨h2, h6, hro⟩, mg0⟩, rfl⟩ := hR
  have hro1 : RowsOk rows := ⟨h2, h6, hro⟩
  show NX C _ [.sto, .val (.lst (rows.map rowD)), .val (fr m), .no, .no]
  refine sq_asgN (en_callD (ea_cons (ed_var rfl) ea_nil) (rl_law_rule hro1)) ?_
  rintro d ⟨r, rfl, hr1⟩
  have hr2 := hr1.ok hro
  refine sq_joinI (ι := {m : Rat // MomOk m}) (fun m => [.sto, .val (.lst (rows.map rowD)), .val (fr m.1), .no, .no]) (fun hN => ?_) ?_
  · have hN0 := hN ⟨m, mom_ok mg0⟩
    rcases r with _ | ⟨f, _ | s⟩
    · exact nx_no (etd_and0 (etd_test (ed_notN (ed_var rfl))) rfl) rfl (hN0.wk (.keep (.keep (.keep (.drop (.refl _))))))
    · exact nx_no (etd_and (etd_test (ed_notN (ed_var rfl))) fun _ => etd_test (ed_notN (ed_ixT (ds := [fr f, .non]) (ed_var rfl) ed_int rfl))) rfl (hN0.wk (.keep (.keep (.keep (.drop (.refl _))))))
    · obtain ⟨s0, h8, bf, bs, f0, f1, s1⟩ := hr2
      have s0' : 0 ≤ s := Rat.le_of_lt s0
      refine nx_yes (etd_and (etd_test (ed_notN (ed_var rfl))) fun _ => etd_test (ed_notN (ed_ixT (ds := [fr f, fr s]) (ed_var rfl) ed_int rfl))) rfl ?_
      refine nx_asgN (R := FrP fun q => ∃ k : Int, q = f + s * (k : Rat) ∧ -6 ≤ k ∧ k ≤ 6) (en_plusF (n := 70) (m := 74) (EvN.fr (ed_ixT (ds := [fr f, fr s]) (ed_var rfl) ed_int rfl)) (en_timesF (R := FrP fun q => ∃ k : Int, q = s * (k : Rat) ∧ -6 ≤ k ∧ k ≤ 6) (n := 70) (m := 4) (EvN.fr (ed_ixT (ds := [fr f, fr s]) (ed_var rfl) ed_int rfl)) (en_one (en_whole rfl ed_int ⟨by decide, by decide⟩)) (fun q z => z ▸ bs) (fun q ⟨k, z, k0, k1⟩ => z ▸ bd_int (by show k.natAbs < 16; omega) (by decide)) (by decide) fun a b ea ⟨k, eb, hk⟩ => ⟨_, rfl, k, by rw [ea, eb], hk⟩) (fun q z => z ▸ bf) (fun q ⟨k, z, k0, k1⟩ => ?_) (by decide) fun a b ea ⟨k, eb, hk⟩ => ⟨_, rfl, k, by rw [ea, eb], hk⟩) ?_
      · have ik : Bz (k : Rat) 4 := ⟨bd_int (by show k.natAbs < 16; omega) (by decide)⟩
        have is : Bz s 70 := ⟨bs⟩
        rw [z]
        exact bz (q := s * (k : Rat))
      · rintro d ⟨q, rfl, k, rfl, k0, k1⟩
        have ik : Bz (k : Rat) 4 := ⟨bd_int (by show k.natAbs < 16; omega) (by decide)⟩
        have is : Bz s 70 := ⟨bs⟩
        have if_ : Bz f 70 := ⟨bf⟩
        have kk := mul_in s0' s1 (int_in (X := 6) k0 k1).1 (int_in (X := 6) k0 k1).2 (by decide)
        have e1 : ((6 : Nat) : Rat) = 6 := rfl
        rw [e1] at kk
        exact (hN ⟨f + s * (k : Rat), (bz (q := f + s * (k : Rat))).mono (by decide), by grind, by grind⟩).wk (.keep (.keep (.keep (.drop (.refl _)))))
  · rintro ⟨m', hm'⟩
    show NX C _ [.sto, .val (.lst (rows.map rowD)), .val (fr m'), .no, .no]
    cases rows with
    | nil => exact absurd h2 (by decide)
    | cons p0 l =>
    have hl1 : 1 ≤ l.length := by
      have : 2 ≤ l.length + 1 := h2
      omega
    have hl2 : l.length ≤ 5 := by
      have : l.length + 1 ≤ 6 := h6
      omega
    have lenl : (l.map rowD).length = l.length := List.length_map ..
    have tl : EvD C (tSl (rSlL K) (tVar 1) (tPart (tC (.int 1))) tNoPart) [.sto, .val (.lst (rowD p0 :: l.map rowD)), .val (fr m'), .no, .no] (.lst (l.map rowD)) := ((eld_sl (ed_var rfl) (eo_some ed_int) eo_none).ed).is (by rw [cut_tail])
    refine sq_asgN (R := fun d => ∃ r, d = ruleD r ∧ RuleOk r) (en_callI (EvA.imp (en_cons (Ra := fun d => ∃ p ∈ l, d = .lst [rowD p0, rowD p]) (EvL.ev (el_lst (en_cons (ed_ixL (ed_var rfl) ed_int atI0) (en_cons (en_pick (i := 0) rfl tl (by rw [lenl]; exact ⟨hl1, by omega⟩)) ea_nil)) ?_) ?_) ea_nil) ?_)) ?_
    · rintro ds ⟨d1, l1, rfl, rfl, d2, l2, rfl, hd, rfl⟩
      simp
    · rintro ds ⟨d1, l1, rfl, rfl, d2, l2, rfl, hd, rfl⟩
      obtain ⟨p, hp, rfl⟩ := List.mem_map.mp hd
      exact ⟨p, hp, rfl⟩
    · rintro ds ⟨d1, l1, rfl, ⟨p, hp, rfl⟩, rfl⟩
      have ok2 : RowsOk [p0, p] := ⟨Nat.le_refl 2, by show 2 ≤ 6; decide, fun x hx => by
        (simp only [List.mem_cons, List.not_mem_nil, or_false] at hx)
        rcases hx with rfl | rfl
        · exact hro _ List.mem_cons_self
        · exact hro _ (List.mem_cons_of_mem _ hp)⟩
      refine ⟨_, rl_law_rule (rows := [p0, p]) ok2, ?_⟩
      rintro e ⟨r', e1, e2⟩
      exact ⟨r', e1, e2.ok ok2.2.2⟩
    rintro d ⟨r', rfl, hr'⟩
    have short : ∀ {D : Ends}, D.rt = Q → NX C (tRet (tCall (spS Rl_law_short_span) [] E0 (tCons (tVar 0) (tCons (tVar 1) (tCons (tVar 2) tNil)))) D) [.sto, .val (.lst (rowD p0 :: l.map rowD)), .val (fr m'), .no, .val (ruleD r')] := fun {D} e =>
      nx_retN hrt (en_callS rfl ((ea_cons (ed_var rfl) (ea_cons (ed_var rfl) ea_nil)).imp fun _ z => by rw [z]; exact ⟨p0 :: l, m', rfl, ⟨hro1, hm'⟩, rfl⟩)) e
    refine sq_ifN (Rb := fun b => b = true → ∃ f s, r' = some (f, some s)) (et_and (R1 := fun _ => True) (R2 := fun b => b = true → ∃ f s, r' = some (f, some s)) (en_test (R := fun d => ∃ b, d = .bl b) (en_op (en_take rfl ed_int ⟨by decide, by decide⟩) ed_int ?_) fun d z => z) (fun _ => ?_) (fun b _ h => h) (fun _ z => by cases z)) (fun hb => ?_) (fun _ => nx_next (short rfl))
    · rintro d e ⟨k, rfl, k0, k1⟩ rfl σ F H I x y r1 r2 Q qq
      cases r1.int_inv
      cases r2.int_inv
      exact ⟨rfl, qq _ F H _ I (.refl _) (.bl _) ⟨_, rfl⟩⟩
    · rcases r' with _ | ⟨f, _ | s⟩
      · exact EvT.imp (etd_and0 (etd_test (ed_notN (ed_var rfl))) rfl) fun b z h => by rw [z] at h; cases h
      · exact EvT.imp (etd_and (etd_test (ed_notN (ed_var rfl))) fun _ => etd_test (ed_notN (ed_ixT (ds := [fr f, .non]) (ed_var rfl) ed_int rfl))) fun b z h => by rw [z] at h; cases h
      · exact EvT.imp (etd_and (etd_test (ed_notN (ed_var rfl))) fun _ => etd_test (ed_notN (ed_ixT (ds := [fr f, fr s]) (ed_var rfl) ed_int rfl))) fun b z h => ⟨f, s, rfl⟩
    · obtain ⟨f, s, rfl⟩ := hb rfl
      refine nx_retN hrt (en_callS rfl (EvA.imp (en_cons (ed_ixT (ds := [fr f, fr s]) (ed_var rfl) ed_int rfl) (en_cons (ed_ixT (ds := [fr f, fr s]) (ed_var rfl) ed_int rfl) (en_cons (en_rI0 (R := fun d => ∃ n, d = .int n ∧ 200 ≤ n ∧ n ≤ 202) ed_int (en_rI (R := fun d => ∃ n, d = .int n ∧ 0 ≤ n ∧ n ≤ 2) (en_take rfl ed_int ⟨by decide, by decide⟩) (en_take rfl ed_int ⟨by decide, by decide⟩) ?_) ?_) ea_nil))) ?_))
      · rintro d e ⟨x, rfl, x0, x1⟩ ⟨y, rfl, y0, y1⟩
        have hx : x = 0 ∨ x = 1 ∨ x = 2 := by omega
        have hy : y = 0 ∨ y = 1 := by omega
        refine ⟨x, y, rfl, rfl, ?_, _, rfl, ?_, ?_⟩
        · rcases hx with rfl | rfl | rfl <;> rcases hy with rfl | rfl <;> first | exact .inl (by decide) | exact .inr (by decide) | decide
        · rcases hx with rfl | rfl | rfl <;> rcases hy with rfl | rfl <;> decide
        · rcases hx with rfl | rfl | rfl <;> rcases hy with rfl | rfl <;> decide
      · rintro d e rfl ⟨n, rfl, n0, n1⟩
        exact ⟨200, n, rfl, rfl, _, rfl, by omega, by omega⟩
      · rintro ds ⟨d1, l1, rfl, rfl, d2, l2, rfl, rfl, d3, l3, rfl, ⟨n, rfl, n0, n1⟩, rfl⟩
        exact ⟨f, s, n, rfl, ⟨hr', n0, n1⟩, rfl⟩
end
end Wk
-- M4
namespace Wk
/-! ### weights -/
def dot : List Int → List Rat → Rat
  | w :: ws, v :: vs => (w : Rat) * v + dot ws vs
  | _, _ => 0
theorem dot_snoc {w : Int} {v : Rat} : ∀ {ws : List Int} {vs : List Rat}, ws.length = vs.length → dot (ws ++ [w]) (vs ++ [v]) = dot ws vs + (w : Rat) * v
  | [], [], _ => by
    show (w : Rat) * v + 0 = 0 + (w : Rat) * v
    grind
  | [], _ :: _, h => by cases h
  | _ :: _, [], h => by cases h
  | a :: ws, b :: vs, h => by
    show (a : Rat) * b + dot (ws ++ [w]) (vs ++ [v]) = (a : Rat) * b + dot ws vs + (w : Rat) * v
    rw [dot_snoc (Nat.succ.inj h)]
    grind
theorem dot_scale {x : Int} : ∀ {ws : List Int} {vs : List Rat}, dot (ws.map fun w => w * x) vs = (x : Rat) * dot ws vs
  | [], _ => by
    show (0 : Rat) = (x : Rat) * 0
    grind
  | _ :: _, [] => by
    show (0 : Rat) = (x : Rat) * 0
    grind
  | a :: ws, b :: vs => by
    show ((a * x : Int) : Rat) * b + dot (ws.map fun w => w * x) vs = (x : Rat) * ((a : Rat) * b + dot ws vs)
    rw [dot_scale, Rat.intCast_mul]
    grind
theorem dot_lin {α : Type} {f g : α → Rat} {m : Rat} : ∀ {ws : List Int} {l : List α}, dot ws (l.map f) * m + dot ws (l.map g) = dot ws (l.map fun p => f p * m + g p)
  | [], _ => by
    show (0 : Rat) * m + 0 = 0
    grind
  | _ :: _, [] => by
    show (0 : Rat) * m + 0 = 0
    grind
  | a :: ws, b :: l => by
    show ((a : Rat) * f b + dot ws (l.map f)) * m + ((a : Rat) * g b + dot ws (l.map g)) = (a : Rat) * (f b * m + g b) + dot ws (l.map fun p => f p * m + g p)
    rw [← dot_lin]
    grind
theorem dot_whole : ∀ {ws : List Int} {vs : List Rat}, (∀ v ∈ vs, Whole v) → Whole (dot ws vs)
  | [], _, _ => ⟨0, rfl⟩
  | _ :: _, [], _ => ⟨0, rfl⟩
  | a :: ws, b :: vs, h => ((whole_int a).mul (h b List.mem_cons_self)).add (dot_whole fun v hv => h v (List.mem_cons_of_mem _ hv))
/-- g measures the values, by the weights -/
structure Meas (vs : List Rat) (g : Rat) (ws : List Int) : Prop where
  len : ws.length = vs.length
  eq : dot ws vs = g
  nn : 0 ≤ g
  mul : ∀ v ∈ vs, ∃ k : Int, v = (k : Rat) * g
structure Joint (g v h : Rat) (x y : Int) : Prop where
  eq : h = (x : Rat) * g + (y : Rat) * v
  mg : ∃ k : Int, g = (k : Rat) * h
  mv : ∃ k : Int, v = (k : Rat) * h
  nn : 0 ≤ h
theorem Meas.nil : Meas [] 0 [] := ⟨rfl, rfl, by decide, fun v hv => by cases hv⟩
theorem Meas.snoc {vs : List Rat} {g v h : Rat} {ws : List Int} {x y : Int} (m : Meas vs g ws) (j : Joint g v h x y) : Meas (vs ++ [v]) h (ws.map (fun w => w * x) ++ [y]) where
  len := by rw [List.length_append, List.length_append, List.length_map, m.len] <;> rfl
  eq := by
    rw [dot_snoc (by rw [List.length_map]; exact m.len), dot_scale, m.eq, j.eq]
  nn := j.nn
  mul := fun u hu => by
    rcases List.mem_append.mp hu with z | z
    · obtain ⟨k, hk⟩ := m.mul u z
      obtain ⟨k2, hk2⟩ := j.mg
      exact ⟨k * k2, by rw [hk, Rat.intCast_mul, Rat.mul_assoc, ← hk2]⟩
    · (rw [List.mem_singleton.mp z])
      exact j.mv
/-- how often the measure goes into a rate -/
def cnt (g r : Rat) : Int := if g = 0 then 0 else (r / g).num
theorem cnt_eq {g r : Rat} (h : ∃ k : Int, r = (k : Rat) * g) : r = (cnt g r : Rat) * g := by
  obtain ⟨k, hk⟩ := h
  unfold cnt
  by_cases hg : g = 0
  · rw [if_pos hg, hk, hg]
    grind
  · rw [if_neg hg, hk, Rat.mul_div_cancel hg]
    rfl
section
variable {p0 : Rat × Rat} {l : List (Rat × Rat)} {g ah : Rat} {ws : List Int} {m : Rat}
/-- the law of the paper, g and ah at hand -/
theorem paper_sum (M : Meas (l.map fun p => p.1 - p0.1) g ws) (hah : dot ws (l.map fun p => p.2 - p0.2) = ah) (h : MtP p0 l m) : Whole (g * m + ah) := by
  rw [← M.eq, ← hah, dot_lin]
  refine dot_whole fun v hv => ?_
  obtain ⟨p, hp, rfl⟩ := List.mem_map.mp hv
  exact h p hp
theorem paper_rate (M : Meas (l.map fun p => p.1 - p0.1) g ws) {p : Rat × Rat} (hp : p ∈ l) : p.1 - p0.1 = (cnt g (p.1 - p0.1) : Rat) * g := cnt_eq (M.mul _ (List.mem_map.mpr ⟨p, hp, rfl⟩))
theorem paper_never (M : Meas (l.map fun p => p.1 - p0.1) g ws) (hah : dot ws (l.map fun p => p.2 - p0.2) = ah) {p : Rat × Rat} (hp : p ∈ l) (hn : ¬ Whole ((p.2 - p0.2) - (cnt g (p.1 - p0.1) : Rat) * ah)) : IsRule (p0 :: l) none := fun m h => by
  have h1 := paper_sum M hah (show MtP p0 l m from h)
  have h2 := h p hp
  rw [paper_rate M hp] at h2
  apply hn
  have e : (p.2 - p0.2) - (cnt g (p.1 - p0.1) : Rat) * ah = ((cnt g (p.1 - p0.1) : Rat) * g * m + (p.2 - p0.2)) - (cnt g (p.1 - p0.1) : Rat) * (g * m + ah) := by grind
  rw [e]
  exact h2.sub ((whole_int _).mul h1)
theorem paper_always (M : Meas (l.map fun p => p.1 - p0.1) g ws) (hg : g = 0) (hw : ∀ p ∈ l, Whole ((p.2 - p0.2) - (cnt g (p.1 - p0.1) : Rat) * ah)) : IsRule (p0 :: l) (some (0, none)) := ⟨rfl, fun m p hp => by
  have h1 := hw p hp
  have h2 := paper_rate M hp
  rw [h2, hg]
  unfold cnt at h1
  rw [if_pos hg] at h1
  have e : (cnt 0 (p.1 - p0.1) : Rat) * 0 * m + (p.2 - p0.2) = (p.2 - p0.2) - ((0 : Int) : Rat) * ah := by
    rw [Rat.intCast_zero]
    grind
  rw [e]
  exact h1⟩
theorem paper_every (M : Meas (l.map fun p => p.1 - p0.1) g ws) (hah : dot ws (l.map fun p => p.2 - p0.2) = ah) (hg : g ≠ 0) (hw : ∀ p ∈ l, Whole ((p.2 - p0.2) - (cnt g (p.1 - p0.1) : Rat) * ah)) : IsRule (p0 :: l) (some (part0 (0 - ah) * (1 / g), some (1 / g))) := by
  have gp : 0 < g := Rat.lt_of_le_of_ne M.nn (Ne.symm hg)
  have e1 : g * (1 / g) = 1 := by
    rw [Rat.mul_comm]
    exact Rat.div_mul_cancel hg
  have ip : 0 < 1 / g := by
    rw [Rat.div_def, Rat.one_mul]
    exact Rat.inv_pos.mpr gp
  obtain ⟨u0, u1⟩ := part_unit (0 - ah)
  refine ⟨ip, Rat.mul_nonneg u0 (Rat.le_of_lt ip), ?_, fun m => ?_⟩
  · have := Rat.mul_lt_mul_of_pos_right u1 ip
    rwa [Rat.one_mul] at this
  · have pe : part0 (0 - ah) = 0 - ah - (((0 - ah).floor : Int) : Rat) := rfl
    constructor
    · intro h
      obtain ⟨z, hz⟩ := paper_sum M hah (show MtP p0 l m from h)
      refine ⟨z + (0 - ah).floor, ?_⟩
      rw [Rat.intCast_add, pe, ← hz]
      have : m = m * (g * (1 / g)) := by rw [e1]; grind
      grind
    · rintro ⟨k, rfl⟩ p hp
      have h1 := hw p hp
      rw [paper_rate M hp]
      have e2 : (cnt g (p.1 - p0.1) : Rat) * g * (part0 (0 - ah) * (1 / g) + (k : Rat) * (1 / g)) + (p.2 - p0.2) = ((p.2 - p0.2) - (cnt g (p.1 - p0.1) : Rat) * ah) + (cnt g (p.1 - p0.1) : Rat) * ((k - (0 - ah).floor : Int) : Rat) := by
        rw [pe, Rat.intCast_sub]
        have : (cnt g (p.1 - p0.1) : Rat) * g * ((0 - ah - (((0 - ah).floor : Int) : Rat)) * (1 / g) + (k : Rat) * (1 / g)) = (cnt g (p.1 - p0.1) : Rat) * (g * (1 / g)) * (0 - ah - (((0 - ah).floor : Int) : Rat) + (k : Rat)) := by grind
        rw [this, e1]
        grind
      rw [e2]
      exact h1.add ((whole_int _).mul (whole_int _))
end
end Wk
-- D16
namespace Wk
open PySem PySem.Spec
open PyProof.Rows L2
section
variable {P : Program}
variable {w : World} {K : PySem.W.Frag} {mg : Str → Option Value} {base : Heap}
theorem sq_asg3N {C : Ctx} {K : PySem.W.Frag} {te : TE} {Γ : List Slot} {D : Ends} {u : TS} {R : Dt → Prop} {i j l : Nat} (h : EvN C te Γ R) (k : ∀ d, R d → ∃ d1 d2 d3, d = .tup [d1, d2, d3] ∧ NX C (u D) (((Γ.set i (.val d1)).set j (.val d2)).set l (.val d3))) : NX C (tSeq (tAsg te (gTup K 3 (gCons (gName i) (gCons (gName j) (gCons (gName l) gNil))))) u D) Γ := fun σ F H I =>
  h σ F H I _ fun v F1 H1 d' I1 s1 r1 k1 => by
    obtain ⟨d1, d2, d3, rfl, kk⟩ := k d' k1
    obtain ⟨a, ws, rfl, hF, rs⟩ := r1.tup_inv
    cases rs with
    | cons r1 rs =>
      cases rs with
      | cons r2 rs =>
        cases rs with
        | cons r3 rs =>
          cases rs
          exact ⟨a, _, rfl, .inl (.inl (I1.fh _ _ hF)), rfl, _, _, rfl, _, _, rfl, _, _, rfl, rfl, kk _ F1 H1 (((I1.setVal r1).setVal r2).setVal r3)⟩
def Rl_weighted_divisor : Rel := fun zs0 Pz => ∃ (a : Nat) (b : Int), zs0 = [.int (a : Int), .int b] ∧ (a < 2 ^ 8000 ∧ b.natAbs < 2 ^ 8000) ∧ Pz = (fun e => ∃ x y : Int, e = .tup [.int (Nat.gcd a b.natAbs : Nat), .int x, .int y] ∧ x * (a : Int) + y * b = (Nat.gcd a b.natAbs : Nat) ∧ x.natAbs ≤ b.natAbs + 1 ∧ y.natAbs ≤ a + 1)
theorem len_weighted_divisor : ∀ ds Post, Rl_weighted_divisor ds Post → ds.length = 2 := fun _ _ ⟨_, _, e, _⟩ => by rw [e]; rfl
theorem sq_join1 {C : Ctx} {Γ : List Slot} {D : Ends} {s1 u : TS} (M : List Slot) (k : NX C (u D) M) (h : NX C (u D) M → NX C (s1 { D with nx := u D }) Γ) : NX C (tSeq s1 u D) Γ := h k
theorem ok_weighted_divisor (B : Bs K mg) : Cl P w K mg base CX0 1 "weighted_divisor" (spP Rl_weighted_divisor) [] := by
  refine cl_of (N := ["left", "right", "sign", "now", "after", "x", "next_x", "y", "next_y", "quotient"]) (ps := ["left", "right"]) B.d_weighted_divisor B.g_weighted_divisor (by decide +kernel) (fun _ _ _ _ _ _ us hl => match us, hl with | [_, _], _ => rfl)
    (len_P len_weighted_divisor) fun f cdv A outer s H vs Q E hr h => ?_
  have nd : (["left", "right", "sign", "now", "after", "x", "next_x", "y", "next_y", "quotient"] : List Str).Nodup := by decide +kernel
  refine ⟨_, PSs.nox (pss_cons (ps_set (i := 2) nd rfl (by first | exact Or.inl rfl | exact Or.inr rfl) (pe_ifExp (pt_cmpR op_lt (pv 1) pe_int (nomark _)) (pe_un un_neg pe_int) pe_int))
  (pss_cons (ps_par (i := 3) (j := 4) (by rfl) nd rfl rfl (by decide) rfl rfl (pa_cons (pv 0) (pa_cons (pe_callB call_abs (by rfl) B.z_abs (by decide +kernel) (pa_cons (pv 1) pa_nil)) pa_nil)) (by rfl))
  (pss_cons (ps_asg (pe_tup (pa_cons pe_int (pa_cons pe_int pa_nil))) (pg_tup rfl (pgs_cons (pg_name (i := 5) nd rfl (by first | exact Or.inl rfl | exact Or.inr rfl)) (pgs_cons (pg_name (i := 6) nd rfl (by first | exact Or.inl rfl | exact Or.inr rfl)) pgs_nil))))
  (pss_cons (ps_asg (pe_tup (pa_cons pe_int (pa_cons pe_int pa_nil))) (pg_tup rfl (pgs_cons (pg_name (i := 7) nd rfl (by first | exact Or.inl rfl | exact Or.inr rfl)) (pgs_cons (pg_name (i := 8) nd rfl (by first | exact Or.inl rfl | exact Or.inr rfl)) pgs_nil))))
  (pss_cons (ps_while PassesOwn.never (pt_cmpR op_ne (pv 4) pe_int (nomark _)) (pss_cons (ps_set (i := 9) nd rfl (by first | exact Or.inl rfl | exact Or.inr rfl) (pe_op op_fdivZ (pv 3) (pv 4)))
  (pss_cons (ps_par (i := 3) (j := 4) (by rfl) nd rfl rfl (by decide) rfl rfl (pa_cons (pv 4) (pa_cons (pe_op op_sub (pv 3) (pe_op op_mulW (pv 9) (pv 4))) pa_nil)) (by rfl))
  (pss_cons (ps_par (i := 5) (j := 6) (by rfl) nd rfl rfl (by decide) rfl rfl (pa_cons (pv 6) (pa_cons (pe_op op_sub (pv 5) (pe_op op_mulW (pv 9) (pv 6))) pa_nil)) (by rfl))
  (pss_one (ps_par (i := 7) (j := 8) (by rfl) nd rfl rfl (by decide) rfl rfl (pa_cons (pv 8) (pa_cons (pe_op op_sub (pv 7) (pe_op op_mulW (pv 9) (pv 8))) pa_nil)) (by rfl)))))))
  (pss_one (ps_ret (pe_tup (pa_cons (pv 3) (pa_cons (pv 5) (pa_cons (pe_op op_mulW (pv 2) (pv 7)) pa_nil))))))))))), enterP h fun C ds Post hR hrt => ?_⟩
  obtain ⟨a, b, rfl, ⟨ha, hb⟩, rfl⟩ := hR
  show NX C _ [.val (.int a), .val (.int b), .no, .no, .no, .no, .no, .no, .no, .no]
  have sgd : ∀ i : Int, (if b < 0 then (-1 : Int) else 1) * i * b = i * (b.natAbs : Int) := fun i => by
    by_cases h : b < 0
    · rw [if_pos h, show (b.natAbs : Int) = -b by omega]
      grind
    · rw [if_neg h, show (b.natAbs : Int) = b by omega, Int.one_mul]
  refine sq_asg (d := .int (if b < 0 then (-1 : Int) else 1)) (ed_if (etd_test (ed_cmp (ed_var rfl) ed_int)) (fun h => (ed_neg ed_int).is ?_) (fun h => ed_int.is ?_)) ?_
  · rw [if_pos (of_decide_eq_true h)]
  · rw [if_neg (of_decide_eq_false h)]
  generalize hsg : (if b < 0 then (-1 : Int) else 1) = sgn0 at sgd
  refine sq_par (ea_cons (ed_var rfl) (ea_cons (ed_abs (ed_var rfl)) ea_nil)) ?_
  refine sq_asg2 (ed_tup (ea_cons ed_int (ea_cons ed_int ea_nil))) ?_
  refine sq_asg2 (ed_tup (ea_cons ed_int (ea_cons ed_int ea_nil))) ?_
  let G : BzSt → List Slot := fun z => [.val (.int a), .val (.int b), .val (.int sgn0), .val (.int (z.n : Int)), .val (.int (z.m : Int)), .val (.int (sg z.e z.a)), .val (.int (sg (!z.e) z.b)), .val (.int (sg (!z.e) z.c)), .val (.int (sg z.e z.d)), .no]
  refine sq_while G (fun z => BzP a b.natAbs z.n z.a z.c z.m z.b z.d z.e) (fun z => z.m) ⟨a, 1, 0, b.natAbs, 0, 1, true⟩ ⟨euc0 _ _, Nat.le_add_right _ _, Nat.le_add_left _ _⟩ (.refl _) ?_
  rintro ⟨n, x, c, m, y, d, e⟩ hz
  replace hz : BzP a b.natAbs n x c m y d e := hz
  show ∃ b', EtD C _ [.val (.int a), .val (.int b), .val (.int sgn0), .val (.int (n : Int)), .val (.int (m : Int)), .val (.int (sg e x)), .val (.int (sg (!e) y)), .val (.int (sg (!e) c)), .val (.int (sg e d)), .no] b' ∧ _
  refine ⟨_, etd_test (ed_neI (ed_var rfl) ed_int), fun hb' N hN => ?_, fun hb' => ?_⟩
  · have hm0 : (m : Int) ≠ 0 := by simpa using hb'
    have hm : 0 < m := by omega
    have hq : ((n : Int)).fdiv (m : Int) = ((n / m : Nat) : Int) := by
      rw [Int.fdiv_eq_ediv_of_nonneg _ (by omega)]
      rfl
    have qs : n / m < 2 ^ 8001 := lt_plus ha hb (Nat.le_trans (Nat.div_le_self _ _) hz.n)
    have ys : y < 2 ^ 8001 := lt_succ_pow hb hz.e.lb
    have ds : d < 2 ^ 8001 := lt_succ_pow ha hz.e.ld
    have ms : m < 2 ^ 8001 := lt_plus ha hb hz.m
    refine sq_asg ((ed_rI (ed_var rfl) (ed_var rfl) (dv_nat (by omega) ms (by decide))).is (congrArg Dt.int hq)) ?_
    have cm : ∀ {k : Int}, k.natAbs < 2 ^ 8001 → CMulW ((n / m : Nat) : Int) k := fun h => mw_ii (by rw [Int.natAbs_natCast]; exact qs) h (by decide) (by decide) (by decide)
    have hd := Nat.div_add_mod n m
    have e2 : (n : Int) - ((n / m : Nat) : Int) * (m : Int) = ((n % m : Nat) : Int) := by
      have : (n : Int) = (m : Int) * ((n / m : Nat) : Int) + ((n % m : Nat) : Int) := by exact_mod_cast hd.symm
      grind
    have e3 : sg (!e) c - ((n / m : Nat) : Int) * sg e d = sg (!e) (c + n / m * d) := by
      have := sg_step (!e) c d (n / m)
      rw [Bool.not_not] at this
      exact this
    refine sq_par (ea_cons (ed_var rfl) (ea_cons ((ed_rI0 (ed_var rfl) (ed_rI (ed_var rfl) (ed_var rfl) (cm (by rw [Int.natAbs_natCast]; exact ms)))).is (congrArg Dt.int e2)) ea_nil)) ?_
    refine sq_par (ea_cons (ed_var rfl) (ea_cons ((ed_rI0 (ed_var rfl) (ed_rI (ed_var rfl) (ed_var rfl) (cm (by rw [sg_abs]; exact ys)))).is (congrArg Dt.int (sg_step e x y (n / m)))) ea_nil)) ?_
    refine nx_par (ea_cons (ed_var rfl) (ea_cons ((ed_rI0 (ed_var rfl) (ed_rI (ed_var rfl) (ed_var rfl) (cm (by rw [sg_abs]; exact ds)))).is (congrArg Dt.int e3)) ea_nil)) ?_
    have h3 := hN ⟨m, y, d, n % m, x + n / m * y, c + n / m * d, !e⟩ (hz.step hm) (Nat.mod_lt _ hm)
    have h4 : NX C N [.val (.int a), .val (.int b), .val (.int sgn0), .val (.int (m : Int)), .val (.int ((n % m : Nat) : Int)), .val (.int (sg (!e) y)), .val (.int (sg e (x + n / m * y))), .val (.int (sg e d)), .val (.int (sg (!e) (c + n / m * d))), .no] := by
      have h5 : NX C N [.val (.int a), .val (.int b), .val (.int sgn0), .val (.int (m : Int)), .val (.int ((n % m : Nat) : Int)), .val (.int (sg (!e) y)), .val (.int (sg (!(!e)) (x + n / m * y))), .val (.int (sg (!(!e)) d)), .val (.int (sg (!e) (c + n / m * d))), .no] := h3
      rw [Bool.not_not] at h5
      exact h5
    exact h4.wk (.keep (.keep (.keep (.keep (.keep (.keep (.keep (.keep (.keep (.drop .nil))))))))))
  · have hm : m = 0 := by
      have : (m : Int) = 0 := by simpa using hb'
      omega
    subst hm
    have hn : n = Nat.gcd a b.natAbs := by
      have := hz.e.g
      rw [Nat.gcd_zero_right] at this
      exact this
    subst hn
    have s1 : sgn0.natAbs = 1 := by rw [← hsg]; split <;> rfl
    refine nx_ret hrt (ed_tup (ea_cons (ed_var rfl) (ea_cons (ed_var rfl) (ea_cons (ed_rI (ed_var rfl) (ed_var rfl) (mw_ii (n := 1) (m := 8001) (by rw [s1]; decide) (by rw [sg_abs]; exact lt_succ_pow ha hz.e.lc) (by decide) (by decide) (by decide))) ea_nil)))) ⟨_, _, rfl, ?_, ?_, ?_⟩
    · rw [sgd]
      exact hz.e.i1
    · rw [sg_abs]
      exact hz.e.la
    · rw [Int.natAbs_mul, s1, Nat.one_mul, sg_abs]
      exact hz.e.lc
def Rl_joint_measure : Rel := fun zs0 Pz => ∃ (g v : Rat) (n m : Nat), zs0 = [fr g, fr v] ∧ (0 ≤ g ∧ Bd n g ∧ Bd m v ∧ n + m ≤ 4000) ∧ Pz = (fun e => ∃ (h : Rat) (x y : Int), e = .tup [fr h, .int x, .int y] ∧ Joint g v h x y ∧ Bd (n + m + 1) h ∧ x.natAbs < 2 ^ (n + m + 1) ∧ y.natAbs < 2 ^ (n + m + 1))
theorem len_joint_measure : ∀ ds Post, Rl_joint_measure ds Post → ds.length = 2 := fun _ _ ⟨_, _, _, _, e, _⟩ => by rw [e]; rfl
theorem joint_math {A : Nat} {B : Int} {Cn : Nat} {g v : Rat} {x y : Int} (hC : Cn ≠ 0) (hg : g * (Cn : Rat) = (A : Rat)) (hv : v * (Cn : Rat) = (B : Rat)) (h : x * (A : Int) + y * B = (Nat.gcd A B.natAbs : Nat)) : Joint g v (Rat.divInt (Nat.gcd A B.natAbs : Nat) (Cn : Int)) x y := by
  have hC' : (Cn : Rat) ≠ 0 := natRat_ne (Nat.pos_of_ne_zero hC)
  have key : Rat.divInt (Nat.gcd A B.natAbs : Nat) (Cn : Int) * (Cn : Rat) = ((Nat.gcd A B.natAbs : Nat) : Rat) := by
    rw [Rat.divInt_eq_div, Rat.intCast_natCast, Rat.intCast_natCast]
    exact Rat.div_mul_cancel hC'
  have canc : ∀ {a b : Rat}, a * (Cn : Rat) = b * (Cn : Rat) → a = b := fun {a b} e => by
    have := congrArg (· / (Cn : Rat)) e
    simp only [Rat.mul_div_cancel hC'] at this
    exact this
  generalize hd : Rat.divInt (Nat.gcd A B.natAbs : Nat) (Cn : Int) = h0 at key ⊢
  have hr : (x : Rat) * (A : Rat) + (y : Rat) * (B : Rat) = ((Nat.gcd A B.natAbs : Nat) : Rat) := by
    have := congrArg (fun z : Int => (z : Rat)) h
    simp only [Rat.intCast_add, Rat.intCast_mul, Rat.intCast_natCast] at this
    exact this
  refine ⟨canc ?_, ?_, ?_, ?_⟩
  · rw [key, ← hr, ← hg, ← hv]
    grind
  · obtain ⟨k, hk⟩ := Nat.gcd_dvd_left A B.natAbs
    refine ⟨(k : Int), canc ?_⟩
    rw [hg, Rat.mul_assoc, key, Rat.intCast_natCast, ← Rat.natCast_mul, Nat.mul_comm, ← hk]
  · have hdv : ((Nat.gcd A B.natAbs : Nat) : Int) ∣ B := Int.natAbs_dvd_natAbs.mp (by rw [Int.natAbs_natCast]; exact Nat.gcd_dvd_right A B.natAbs)
    obtain ⟨k, hk⟩ := hdv
    refine ⟨k, canc ?_⟩
    rw [hv, Rat.mul_assoc, key]
    have := congrArg (fun z : Int => (z : Rat)) hk
    simp only [Rat.intCast_mul, Rat.intCast_natCast] at this
    rw [this, Rat.mul_comm]
  · have : (0 : Rat) ≤ h0 * (Cn : Rat) := by
      rw [key, ← Rat.intCast_natCast]
      exact Rat.intCast_nonneg.mpr (by omega)
    have hp : (0 : Rat) < (Cn : Rat) := Rat.natCast_pos.mpr (Nat.pos_of_ne_zero hC)
    have : (Cn : Rat) * 0 ≤ (Cn : Rat) * h0 := by grind
    exact Rat.le_of_mul_le_mul_left this hp
theorem scaled {q : Rat} {k : Nat} : q * ((q.den * k : Nat) : Rat) = ((q.num * (k : Int) : Int) : Rat) := by
  rw [Rat.natCast_mul, Rat.intCast_mul, Rat.intCast_natCast, num_eq, Rat.mul_assoc]
theorem ok_joint_measure (B : Bs K mg) : Cl P w K mg base CX0 3 "joint_measure" (spP Rl_joint_measure) [] := by
  refine cl_of (N := ["left", "right", "common", "divisor", "x", "y"]) (ps := ["left", "right"]) B.d_joint_measure B.g_joint_measure (by decide +kernel) (fun _ _ _ _ _ _ us hl => match us, hl with | [_, _], _ => rfl)
    (len_P len_joint_measure) fun f cdv A outer s H vs Q E hr h => ?_
  have nd : (["left", "right", "common", "divisor", "x", "y"] : List Str).Nodup := by decide +kernel
  refine ⟨_, PSs.nox (pss_cons (ps_set (i := 2) nd rfl (by first | exact Or.inl rfl | exact Or.inr rfl) (pe_op op_mulW (pe_op op_fdivZ (pe_ix ix_tup (pv 0) pe_int (fun _ _ => rfl)) (pe_cl (ok_common_divisor B) hr (by decide) pass0 (pa_cons (pe_ix ix_tup (pv 0) pe_int (fun _ _ => rfl)) (pa_cons (pe_ix ix_tup (pv 1) pe_int (fun _ _ => rfl)) pa_nil)))) (pe_ix ix_tup (pv 1) pe_int (fun _ _ => rfl))))
  (pss_cons (ps_asg (pe_cl (ok_weighted_divisor B) hr (by decide) pass0 (pa_cons (pe_op op_mulW (pe_ix ix_tup (pv 0) pe_int (fun _ _ => rfl)) (pe_op op_fdivZ (pv 2) (pe_ix ix_tup (pv 0) pe_int (fun _ _ => rfl)))) (pa_cons (pe_op op_mulW (pe_ix ix_tup (pv 1) pe_int (fun _ _ => rfl)) (pe_op op_fdivZ (pv 2) (pe_ix ix_tup (pv 1) pe_int (fun _ _ => rfl)))) pa_nil))) (pg_tup rfl (pgs_cons (pg_name (i := 3) nd rfl (by first | exact Or.inl rfl | exact Or.inr rfl)) (pgs_cons (pg_name (i := 4) nd rfl (by first | exact Or.inl rfl | exact Or.inr rfl)) (pgs_cons (pg_name (i := 5) nd rfl (by first | exact Or.inl rfl | exact Or.inr rfl)) pgs_nil)))))
  (pss_one (ps_ret (pe_tup (pa_cons (pe_cl (ok_lowest B) hr (by decide) pass0 (pa_cons (pv 3) (pa_cons (pv 2) pa_nil))) (pa_cons (pv 4) (pa_cons (pv 5) pa_nil)))))))), enterP h fun C ds Post hR hrt => ?_⟩
  obtain ⟨g, v, n, m, rfl, ⟨g0, hg, hv, hs⟩, rfl⟩ := hR
  have ig : Bz g n := ⟨hg⟩
  have iv : Bz v m := ⟨hv⟩
  have np := ig.h.pos
  have mp := iv.h.pos
  show NX C _ [.val (fr g), .val (fr v), .no, .no, .no, .no]
  have d0 := g.den_nz
  have e0 := v.den_nz
  obtain ⟨k1, hk1⟩ := Nat.gcd_dvd_left g.den v.den
  obtain ⟨k2, hk2⟩ := Nat.gcd_dvd_right g.den v.den
  have gp : 0 < Nat.gcd g.den v.den := Nat.gcd_pos_of_pos_left _ (by omega)
  have hg0 : Int.gcd (g.den : Int) (v.den : Int) = Nat.gcd g.den v.den := rfl
  have e1 : (g.den : Int).fdiv ((Int.gcd (g.den : Int) (v.den : Int) : Nat) : Int) = (k1 : Int) := by
    rw [hg0, Int.fdiv_eq_ediv_of_nonneg _ (by omega), ← Int.natCast_ediv, Nat.div_eq_of_eq_mul_right gp hk1]
  have k1n : k1 ≤ g.den := by
    calc k1 = 1 * k1 := (Nat.one_mul _).symm
      _ ≤ Nat.gcd g.den v.den * k1 := Nat.mul_le_mul_right _ gp
      _ = g.den := hk1.symm
  have k2n : k2 ≤ v.den := by
    calc k2 = 1 * k2 := (Nat.one_mul _).symm
      _ ≤ Nat.gcd g.den v.den * k2 := Nat.mul_le_mul_right _ gp
      _ = v.den := hk2.symm
  have k10 : k1 ≠ 0 := fun z => by rw [z] at hk1; omega
  have cm1 : k1 * v.den = g.den * k2 := by
    rw [hk2, ← Nat.mul_assoc, Nat.mul_comm k1, ← hk1]
  have k1s : k1 < 2 ^ n := Nat.lt_of_le_of_lt k1n ig.h.2
  have k2s : k2 < 2 ^ m := Nat.lt_of_le_of_lt k2n iv.h.2
  refine sq_asg (d := .int ((k1 * v.den : Nat) : Int)) ((ed_rI ((ed_rI (ed_ixT (ed_var rfl) ed_int rfl) (ed_call (ea_cons (ed_ixT (ed_var rfl) ed_int rfl) (ea_cons (ed_ixT (ed_var rfl) ed_int rfl) ea_nil)) rl_gcd) (dv_nat (n := n) (by rw [hg0]; omega) (by rw [hg0]; exact Nat.lt_of_le_of_lt (Nat.gcd_le_left _ (by omega)) ig.h.2) (by omega))).is (congrArg Dt.int e1)) (ed_ixT (ed_var rfl) ed_int rfl) (mw_ii (n := n) (m := m) (by rw [Int.natAbs_natCast]; exact k1s) (by rw [Int.natAbs_natCast]; exact iv.h.2) np mp (by omega))).is (congrArg Dt.int (Int.natCast_mul _ _).symm)) ?_
  have f1 : (((k1 * v.den : Nat) : Int)).fdiv (g.den : Int) = (k2 : Int) := by
    rw [cm1, Int.fdiv_eq_ediv_of_nonneg _ (by omega), ← Int.natCast_ediv, Nat.mul_div_cancel_left _ (by omega)]
  have f2 : (((k1 * v.den : Nat) : Int)).fdiv (v.den : Int) = (k1 : Int) := by
    rw [Int.fdiv_eq_ediv_of_nonneg _ (by omega), ← Int.natCast_ediv, Nat.mul_div_cancel _ (by omega)]
  have gn0 : 0 ≤ g.num := Rat.num_nonneg.mpr g0
  have ga : g.num * (k2 : Int) = ((g.num.natAbs * k2 : Nat) : Int) := by
    rw [Int.natCast_mul, show (g.num.natAbs : Int) = g.num by omega]
  have As : g.num.natAbs * k2 < 2 ^ (n + m) := mul_lt_pow ig.h.1 k2s
  have Bs' : (v.num * (k1 : Int)).natAbs < 2 ^ (n + m) := by
    rw [Int.natAbs_mul, Int.natAbs_natCast, Nat.add_comm n m]
    exact mul_lt_pow iv.h.1 k1s
  have Cs : k1 * v.den < 2 ^ (n + m) := mul_lt_pow k1s iv.h.2
  have C0 : k1 * v.den ≠ 0 := Nat.mul_ne_zero k10 e0
  have argA : ∀ {Γ : List Slot}, Γ[0]? = some (.val (fr g)) → Γ[2]? = some (.val (.int ((k1 * v.den : Nat) : Int))) → EvD C (tOp (rI CMulW fun i j => .int (i * j)) (tOp (rIxT K) (tVar 0) (tC (.int 0))) (tOp (rI CDivZ fun i j => .int (i.fdiv j)) (tVar 2) (tOp (rIxT K) (tVar 0) (tC (.int 1))))) Γ (.int ((g.num.natAbs * k2 : Nat) : Int)) := fun h0 h2 =>
    (ed_rI (ed_ixT (ed_var h0) ed_int rfl) ((ed_rI (ed_var h2) (ed_ixT (ed_var h0) ed_int rfl) dv_den).is (congrArg Dt.int f1)) (mw_ii (n := n) (m := m) ig.h.1 (by rw [Int.natAbs_natCast]; exact k2s) np mp (by omega))).is (congrArg Dt.int ga)
  have argB : ∀ {Γ : List Slot}, Γ[1]? = some (.val (fr v)) → Γ[2]? = some (.val (.int ((k1 * v.den : Nat) : Int))) → EvD C (tOp (rI CMulW fun i j => .int (i * j)) (tOp (rIxT K) (tVar 1) (tC (.int 0))) (tOp (rI CDivZ fun i j => .int (i.fdiv j)) (tVar 2) (tOp (rIxT K) (tVar 1) (tC (.int 1))))) Γ (.int (v.num * (k1 : Int))) := fun h0 h2 =>
    ed_rI (ed_ixT (ed_var h0) ed_int rfl) ((ed_rI (ed_var h2) (ed_ixT (ed_var h0) ed_int rfl) dv_den).is (congrArg Dt.int f2)) (mw_ii (n := m) (m := n) iv.h.1 (by rw [Int.natAbs_natCast]; exact k1s) mp np (by omega))
  refine sq_asg3N (R := fun d => ∃ x y : Int, d = .tup [.int (Nat.gcd (g.num.natAbs * k2) (v.num * (k1 : Int)).natAbs : Nat), .int x, .int y] ∧ x * ((g.num.natAbs * k2 : Nat) : Int) + y * (v.num * (k1 : Int)) = (Nat.gcd (g.num.natAbs * k2) (v.num * (k1 : Int)).natAbs : Nat) ∧ x.natAbs ≤ (v.num * (k1 : Int)).natAbs + 1 ∧ y.natAbs ≤ g.num.natAbs * k2 + 1) (en_callD (ea_cons (argA rfl rfl) (ea_cons (argB rfl rfl) ea_nil)) ⟨_, _, rfl, ⟨lt_two_pow As (by omega), lt_two_pow Bs' (by omega)⟩, rfl⟩) ?_
  rintro d ⟨x, y, rfl, hxy, hx, hy⟩
  refine ⟨_, _, _, rfl, ?_⟩
  have gle : Nat.gcd (g.num.natAbs * k2) (v.num * (k1 : Int)).natAbs ≤ g.num.natAbs * k2 + (v.num * (k1 : Int)).natAbs := by
    rcases Nat.eq_zero_or_pos (g.num.natAbs * k2) with z | z
    · rw [z, Nat.gcd_zero_left, Nat.zero_add]
      exact Nat.le_refl _
    · exact Nat.le_trans (Nat.gcd_le_left _ z) (Nat.le_add_right _ _)
  have one : 1 < 2 ^ (n + m) := Nat.one_lt_two_pow (by omega)
  refine nx_ret hrt (ed_tup (ea_cons (ed_call (ea_cons (ed_var rfl) (ea_cons (ed_var rfl) ea_nil)) (rl_lowest (by omega) (by rw [Int.natAbs_natCast]; exact lt_two_pow Cs (by omega)))) (ea_cons (ed_var rfl) (ea_cons (ed_var rfl) ea_nil)))) ⟨_, x, y, rfl, joint_math C0 ?_ ?_ hxy, ?_, ?_, ?_⟩
  · rw [cm1, scaled, ga, Rat.intCast_natCast]
  · rw [Nat.mul_comm, scaled]
  · rw [divInt_nat]
    exact bd_mk C0 (by rw [Int.natAbs_natCast]; exact Nat.lt_of_le_of_lt gle (add_lt_pow As Bs')) (lt_two_pow Cs (by omega))
  · exact Nat.lt_of_le_of_lt hx (add_lt_pow Bs' one)
  · exact Nat.lt_of_le_of_lt hy (add_lt_pow As one)
end
end Wk
-- D17
namespace Wk
open PySem PySem.Spec
open PyProof.Rows L2
section
variable {P : Program}
variable {w : World} {K : PySem.W.Frag} {mg : Str → Option Value} {base : Heap}
def Rl_check_values : Rel := fun zs0 Pz => ∃ (vs : List Rat), zs0 = [.lst (vs.map fr)] ∧ (1 ≤ vs.length ∧ vs.length ≤ 5) ∧ Pz = (fun e => e = .non)
theorem len_check_values : ∀ ds Post, Rl_check_values ds Post → ds.length = 1 := fun _ _ ⟨_, e, _⟩ => by rw [e]; rfl
theorem all_true {α : Type} {l : List α} {f : α → Dt} (h : ∀ x, f x = .bl true) : l.map f = (l.map fun _ => true).map Dt.bl := by
  rw [List.map_map]
  exact List.map_congr_left fun x _ => h x
theorem all_id {α : Type} {l : List α} : (l.map fun _ => true).all id = true := by
  rw [List.all_eq_true]
  intro x hx
  obtain ⟨_, _, rfl⟩ := List.mem_map.mp hx
  rfl
theorem ok_check_values (B : Bs K mg) : Cl P w K mg base CX0 3 "check_values" (spP Rl_check_values) [] := by
  refine cl_of (N := ["values", "value"]) (ps := ["values"]) B.d_check_values B.g_check_values (by decide +kernel) (fun _ _ _ _ _ _ us hl => match us, hl with | [_], _ => rfl)
    (len_P len_check_values) fun f cdv A outer s H vs Q E hr h => ?_
  have nd : (["values", "value"] : List Str).Nodup := by decide +kernel
  refine ⟨_, PSs.nox (pss_cons (ps_if (PW.pt (pw_or (pt_not (pt_val (pe_callB call_isi (by rfl) B.z_isinstance (by decide +kernel) (pa_cons (pv 0) (pa_cons (pe_bltn (v := .ty "list") rfl B.z_list (by decide +kernel) rfl) pa_nil))))) (pw_or1 (pt_not (pt_chain op_le op_le pe_int (pe_callB call_len_seq (by rfl) B.z_len (by decide +kernel) (pa_cons (pv 0) pa_nil)) (C8.pe_gc rfl B.i_MOST_VALUES)))))) (pss_one ps_never) pss_nil)
  (pss_one (ps_if (pt_not (pt_val (pe_callB (cr_all rfl) (by rfl) B.z_all (by decide +kernel) (pa_cons (pe_lc (own := [("value", 1)]) rfl nd (pi_list (pv 0)) (blkOk_by (by show blkC ["values", "value"] (defScope (top 34)) _ _ = true; decide +kernel)) (fun _ _ _ _ _ => pg_name (i := 1) nd rfl (Or.inl rfl)) (fun _ _ _ _ _ => pts_nil) (fun _ _ _ _ _ => (pe_cl (ok_is_fraction B) hr (by decide) pass0 (pa_cons (pv 1) pa_nil)))) pa_nil)))) (pss_one ps_never) pss_nil))), enterP h fun C ds Post hR hrt => ?_⟩
  obtain ⟨vs, rfl, ⟨h1, h5⟩, rfl⟩ := hR
  show NX C _ [.val (.lst (vs.map fr)), .no]
  have len : (vs.map fr).length = vs.length := List.length_map ..
  refine sq_no (etd_or (etd_not (etd_B (ed_isT (ed_var rfl) rfl))) fun _ => etd_not (etd_B (ed_chain ed_int (ed_lenL (ed_var rfl)) ed_int))) ?_ ?_
  · rw [len, decide_eq_true (by omega), decide_eq_true (by omega)] <;> rfl
  refine nx_no (etd_not (etd_B (ed_all (bs := vs.map fun _ => true) ((eld_lcL (ds := vs.map fr) (fun _ => .bl true) (ed_var rfl) rfl (by omega) (by simp) fun C' le d hd => ?_).ed.is ?_)))) ?_ (nx_end hrt rfl)
  · obtain ⟨q, _, rfl⟩ := List.mem_map.mp hd
    exact ed_call (ea_cons (ed_var rfl) ea_nil) (rl_is_fraction (.fr q))
  · rw [List.map_map, ← all_true fun _ => rfl] <;> rfl
  · rw [all_id] <;> rfl
/-- the sizes of measures and weights -/
def wz (i : Nat) : Nat := 100 * i
def Rl_measure_paper : Rel := fun zs0 Pz => ∃ (vs : List Rat), zs0 = [.lst (vs.map fr)] ∧ ((1 ≤ vs.length ∧ vs.length ≤ 5) ∧ ∀ v ∈ vs, Bd 18 v) ∧ Pz = (fun e => ∃ g ws, e = .tup [fr g, .tup (ws.map Dt.int)] ∧ Meas vs g ws ∧ Bd 100 g ∧ ∀ w ∈ ws, w.natAbs < 2 ^ 500)
theorem len_measure_paper : ∀ ds Post, Rl_measure_paper ds Post → ds.length = 1 := fun _ _ ⟨_, e, _⟩ => by rw [e]; rfl
theorem ok_measure_paper (B : Bs K mg) : Cl P w K mg base CX0 4 "measure_paper" (spP Rl_measure_paper) [] := by
  refine cl_of (N := ["values", "measure", "weights", "value", "old_factor", "new_weight", "weight"]) (ps := ["values"]) B.d_measure_paper B.g_measure_paper (by decide +kernel) (fun _ _ _ _ _ _ us hl => match us, hl with | [_], _ => rfl)
    (len_P len_measure_paper) fun f cdv A outer s H vs Q E hr h => ?_
  have nd : (["values", "measure", "weights", "value", "old_factor", "new_weight", "weight"] : List Str).Nodup := by decide +kernel
  refine ⟨_, PSs.nox (pss_cons (ps_expr (pe_cl (ok_check_values B) hr (by decide) pass0 (pa_cons (pv 0) pa_nil)))
  (pss_cons (ps_set (i := 1) nd rfl (by first | exact Or.inl rfl | exact Or.inr rfl) (pe_tup (pa_cons pe_int (pa_cons pe_int pa_nil))))
  (pss_cons (ps_set (i := 2) nd rfl (by first | exact Or.inl rfl | exact Or.inr rfl) (pe_lst pa_nil))
  (pss_cons (ps_for PassesOwn.never rfl (pi_list (pv 0)) (pg_name (i := 3) nd rfl (by first | exact Or.inl rfl | exact Or.inr rfl)) (pss_cons (ps_asg (pe_cl (ok_joint_measure B) hr (by decide) pass0 (pa_cons (pv 1) (pa_cons (pv 3) pa_nil))) (pg_tup rfl (pgs_cons (pg_name (i := 1) nd rfl (by first | exact Or.inl rfl | exact Or.inr rfl)) (pgs_cons (pg_name (i := 4) nd rfl (by first | exact Or.inl rfl | exact Or.inr rfl)) (pgs_cons (pg_name (i := 5) nd rfl (by first | exact Or.inl rfl | exact Or.inr rfl)) pgs_nil)))))
  (pss_cons (ps_setLc (i := 2) (own := [("weight", 6)]) rfl nd rfl rfl (sw_true rfl rfl rfl (by decide +kernel)) (pi_list (pv 2)) (blkOk_by (by show blkC ["values", "measure", "weights", "value", "old_factor", "new_weight", "weight"] (defScope (top 35)) _ _ = true; decide +kernel)) (fun _ _ _ _ _ => pg_name (i := 6) nd rfl (Or.inl rfl)) (fun _ _ _ _ _ => pts_nil) (fun _ _ _ _ _ => (pe_op op_mulW (pv 6) (pv 4))))
  (pss_one (ps_expr (pe_bm PySem.F.plainAttrs_list PySem.F.slot_list_append PySem.F.type_list_append mt_append (pv 2) (pa_cons (pv 5) pa_nil)))))))
  (pss_one (ps_ret (pe_tup (pa_cons (pv 1) (pa_cons (pe_callTy call_tuple_of (by rfl) B.z_tuple (by decide +kernel) (pa_cons (pv 2) pa_nil)) pa_nil))))))))), enterP h fun C ds Post hR hrt => ?_⟩
  obtain ⟨vs, rfl, ⟨⟨h1, h5⟩, hb⟩, rfl⟩ := hR
  show NX C _ [.val (.lst (vs.map fr)), .no, .no, .no, .no, .no, .no]
  have len : (vs.map fr).length = vs.length := List.length_map ..
  refine sq_drop (en_callD (ea_cons (ed_var rfl) ea_nil) ⟨vs, rfl, ⟨h1, h5⟩, rfl⟩) ?_
  refine sq_asg (d := fr 0) (ed_tup (ea_cons ed_int (ea_cons ed_int ea_nil))) ?_
  refine sq_asgO (eld_lst ea_nil) ?_
  refine sq_forE (ei_list (ed_var rfl)) (ι := Rat × List Int) (fun _ z => [.val (.lst (vs.map fr)), .val (fr z.1), .own (z.2.map Dt.int), .no, .no, .no, .no]) (fun i z => Meas (vs.take i) z.1 z.2 ∧ Bd (1 + 19 * i) z.1 ∧ ∀ w ∈ z.2, w.natAbs < 2 ^ wz i) (0, []) ⟨Meas.nil, ⟨by decide, by decide⟩, fun w hw => by cases hw⟩ (.keep (.keep (.keep (.keep (.keep (.keep (.keep .nil))))))) (fun C' le i hi z hz N hN => ⟨_, [3], asg_name, ?_⟩) ?_
  · obtain ⟨g, ws⟩ := z
    obtain ⟨hm, hg, hw⟩ := hz
    have hil : i < vs.length := by omega
    rw [getD_map hi]
    have hv := hb _ (List.getElem_mem hil)
    have tk : vs.take (i + 1) = vs.take i ++ [vs[i]] := (List.take_append_getElem hil).symm
    revert hv tk
    generalize vs[i] = v
    intro hv tk
    have hg' : Bd (1 + 19 * i) g := hg
    have wl : ws.length ≤ 5 := by
      have := hm.len
      rw [List.length_take] at this
      have h0 : ws.length = min i vs.length := this
      omega
    show NX C' _ [.val (.lst (vs.map fr)), .val (fr g), .own (ws.map Dt.int), .val (fr v), .no, .no, .no]
    refine sq_asg3N (R := fun e => ∃ (h : Rat) (x y : Int), e = .tup [fr h, .int x, .int y] ∧ Joint g v h x y ∧ Bd (1 + 19 * i + 18 + 1) h ∧ x.natAbs < 2 ^ (1 + 19 * i + 18 + 1) ∧ y.natAbs < 2 ^ (1 + 19 * i + 18 + 1)) (en_callD (ea_cons (ed_var rfl) (ea_cons (ed_var rfl) ea_nil)) ⟨g, v, _, _, rfl, ⟨hm.nn, hg', hv, by omega⟩, rfl⟩) ?_
    rintro d ⟨h, x, y, rfl, hj, hh, hx, hy⟩
    refine ⟨_, _, _, rfl, ?_⟩
    refine nx_freeze (i := 2) rfl ?_
    refine sq_asgO (ds := (ws.map fun w => w * x).map Dt.int) ?_ ?_
    · have hl := eld_lc (C := C') (wi := iList K (tVar 2)) (tg := gName 6) (te := tOp (rI CMulW fun i j => .int (i * j)) (tVar 6) (tVar 4)) (vs := [6]) (n := (ws.map Dt.int).length) (item := fun i => (ws.map Dt.int).getD i .non) (Γ := [.val (.lst (vs.map fr)), .val (fr h), .val (.lst (ws.map Dt.int)), .val (fr v), .val (.int x), .val (.int y), .no]) (fun k => ((ws.map fun w => w * x).map Dt.int).getD k .non) (ei_list (ed_var rfl)) rfl (by rw [List.length_map]; omega) fun C2 le2 k hk => ⟨_, asg_name (by simp), ?_⟩
      · have e := range_getD (ds := (ws.map fun w => w * x).map Dt.int) (f := fun d => d)
        have e2 : ((ws.map fun w => w * x).map Dt.int).length = (ws.map Dt.int).length := by simp
        rw [e2, List.map_id'] at e
        rw [e] at hl
        exact hl
      · have hk2 : k < ws.length := by simpa using hk
        rw [getD_map hk, getD_map (l := ws.map fun w => w * x) (by simpa using hk2)]
        rw [List.getElem_map]
        have hwk := hw _ (List.getElem_mem hk2)
        refine ed_rI (ed_var rfl) (ed_var rfl) ?_
        (rcases Nat.eq_zero_or_pos i with z | z)
        · exfalso
          subst z
          have := hm.len
          simp at this
          rw [this] at hk2
          cases hk2
        · exact mw_ii (n := wz i) hwk hx (by show 0 < 100 * i; omega) (by omega) (by show 100 * i + _ ≤ _; omega)
    · refine nx_app (i := 2) rfl (ed_var rfl) (by rw [List.length_map, List.length_map]; omega) ?_
      have h3 := hN (h, ws.map (fun w => w * x) ++ [y]) ⟨by rw [tk]; exact hm.snoc hj, hh.mono (by omega), fun u hu => ?_⟩
      · have e : (ws.map (fun w => w * x) ++ [y]).map Dt.int = (ws.map fun w => w * x).map Dt.int ++ [.int y] := by rw [List.map_append] <;> rfl
        have h4 : NX C' N [.val (.lst (vs.map fr)), .val (fr h), .own ((ws.map (fun w => w * x) ++ [y]).map Dt.int), .no, .no, .no, .no] := h3
        rw [e] at h4
        exact h4.wk (.keep (.keep (.keep (.drop (.drop (.drop (.drop .nil)))))))
      · have hu' : u ∈ ws.map (fun w => w * x) ++ [y] := hu
        rcases List.mem_append.mp hu' with hz | hz
        · obtain ⟨w, hw2, rfl⟩ := List.mem_map.mp hz
          rw [Int.natAbs_mul]
          exact lt_two_pow (mul_lt_pow (hw w hw2) hx) (by show 100 * i + _ ≤ 100 * (i + 1); omega)
        · (rw [List.mem_singleton.mp hz])
          exact lt_two_pow hy (by show _ ≤ 100 * (i + 1); omega)
  · rintro ⟨g, ws⟩ ⟨hm, hg, hw⟩
    rw [len, List.take_length] at hm
    rw [len] at hg hw
    refine nx_freeze (i := 2) rfl ?_
    exact nx_ret hrt (ed_tup (ea_cons (ed_var rfl) (ea_cons (ed_tuple (ed_var rfl)) ea_nil))) ⟨g, ws, rfl, hm, hg.mono (by omega), fun w hw2 => lt_two_pow (hw w hw2) (by show 100 * _ ≤ 500; omega)⟩
end
end Wk
-- D18
namespace Wk
open PySem PySem.Spec
open PyProof.Rows L2
section
variable {P : Program}
variable {w : World} {K : PySem.W.Frag} {mg : Str → Option Value} {base : Heap}
theorem fbf {ns : List Str} {k : Nat} {f : Str} (h : ((ns.take k).all fun n => decide (n ≠ f)) = true) : ∀ j, j < k → ns[j]? ≠ some f := fun j hj e => by
  have h1 : (ns.take k)[j]? = some f := by rw [List.getElem?_take, if_pos hj]; exact e
  have := List.all_eq_true.mp h f (List.mem_of_getElem? h1)
  simp at this
def perD (r : Rat) : Dt := if r = 0 then .non else fr (istep r)
/-- a cycle, a span -/
def cyc (K : PySem.W.Frag) (p : Rat × Rat) : Dt := .ins (He.ga K "Cycle") ["rate", "start", "period"] [fr p.1, fr p.2, perD p.1]
def spn (K : PySem.W.Frag) (a b : Rat) : Dt := .ins (He.ga K "Span") ["first", "last", "length"] [fr a, fr b, fr (b - a)]
def Rl_need_cycles (K : PySem.W.Frag) : Rel := fun zs0 Pz => ∃ rows : List (Rat × Rat), zs0 = [.lst (rows.map (cyc K))] ∧ (2 ≤ rows.length ∧ rows.length ≤ 6) ∧ Pz = (fun e => e = .non)
theorem len_need_cycles {K : PySem.W.Frag} : ∀ ds Post, Rl_need_cycles K ds Post → ds.length = 1 := fun _ _ ⟨_, e, _⟩ => by rw [e]; rfl
theorem rl_need_cycles {K : PySem.W.Frag} {rows : List (Rat × Rat)} (h : 2 ≤ rows.length ∧ rows.length ≤ 6) : Rl_need_cycles K [.lst (rows.map (cyc K))] (fun e => e = .non) := ⟨rows, rfl, h, rfl⟩
theorem ok_need_cycles (B : Bs K mg) : Cl P w K mg base CX0 3 "need_cycles" (spP (Rl_need_cycles K)) [] := by
  refine cl_of (N := ["cycles", "cycle"]) (ps := ["cycles"]) B.d_need_cycles B.g_need_cycles (by decide +kernel) (fun _ _ _ _ _ _ us hl => match us, hl with | [_], _ => rfl)
    (len_P len_need_cycles) fun f cdv A outer s H vs Q E hr h => ?_
  have nd : (["cycles", "cycle"] : List Str).Nodup := by decide +kernel
  refine ⟨_, PSs.nox (pss_cons (ps_if (PW.pt (pw_or (pt_not (pt_val (pe_callB call_isi (by rfl) B.z_isinstance (by decide +kernel) (pa_cons (pv 0) (pa_cons (pe_bltn (v := .ty "list") rfl B.z_list (by decide +kernel) rfl) pa_nil))))) (pw_or1 (pt_not (pt_chain op_le op_le (C8.pe_gc rfl B.i_LEAST_CYCLES) (pe_callB call_len_seq (by rfl) B.z_len (by decide +kernel) (pa_cons (pv 0) pa_nil)) (C8.pe_gc rfl B.i_MOST_CYCLES)))))) (pss_one ps_never) pss_nil)
  (pss_one (ps_if (pt_not (pt_val (pe_callB (cr_all rfl) (by rfl) B.z_all (by decide +kernel) (pa_cons (pe_lc (own := [("cycle", 1)]) rfl nd (pi_list (pv 0)) (blkOk_by (by show blkC ["cycles", "cycle"] (defScope (top 75)) _ _ = true; decide +kernel)) (fun _ _ _ _ _ => pg_name (i := 1) nd rfl (Or.inl rfl)) (fun _ _ _ _ _ => pts_nil) (fun _ _ _ _ _ => (pe_callB (call_isiK (K := K)) (by rfl) B.z_isinstance (by decide +kernel) (pa_cons (pv 1) (pa_cons (pe_glob (v := .ref _) rfl B.g_Cycle rfl) pa_nil))))) pa_nil)))) (pss_one ps_never) pss_nil))), enterP h fun C ds Post hR hrt => ?_⟩
  obtain ⟨rows, rfl, ⟨h1, h5⟩, rfl⟩ := hR
  show NX C _ [.val (.lst (rows.map (cyc K))), .no]
  have len : (rows.map (cyc K)).length = rows.length := List.length_map ..
  refine sq_no (etd_or (etd_not (etd_B (ed_isT (ed_var rfl) rfl))) fun _ => etd_not (etd_B (ed_chain ed_int (ed_lenL (ed_var rfl)) ed_int))) ?_ ?_
  · rw [len, decide_eq_true (by omega), decide_eq_true (by omega)] <;> rfl
  refine nx_no (etd_not (etd_B (ed_all (bs := rows.map fun _ => true) ((eld_lcL (ds := rows.map (cyc K)) (fun _ => .bl true) (ed_var rfl) rfl (by omega) (by simp) fun C' le d hd => ?_).ed.is ?_)))) ?_ (nx_end hrt rfl)
  · obtain ⟨q, _, rfl⟩ := List.mem_map.mp hd
    exact ed_isC B.k_Cycle (ed_var rfl)
  · rw [List.map_map, ← all_true fun _ => rfl] <;> rfl
  · rw [all_id] <;> rfl
def Rl_weighed : Rel := fun zs0 Pz => ∃ (ws : List Int) (ts : List Rat), zs0 = [.tup (ws.map Dt.int), .lst (ts.map fr)] ∧ ((ws.length = ts.length ∧ ts.length ≤ 5) ∧ (∀ w ∈ ws, w.natAbs < 2 ^ 500) ∧ ∀ t ∈ ts, Bd 31 t) ∧ Pz = (fun e => e = fr (dot ws ts) ∧ Bd 3000 (dot ws ts))
theorem len_weighed : ∀ ds Post, Rl_weighed ds Post → ds.length = 2 := fun _ _ ⟨_, _, e, _⟩ => by rw [e]; rfl
theorem dot_take {ws : List Int} {ts : List Rat} {i : Nat} (h1 : i < ws.length) (h2 : i < ts.length) : dot (ws.take (i + 1)) (ts.take (i + 1)) = dot (ws.take i) (ts.take i) + (ws[i] : Rat) * ts[i] := by
  rw [← List.take_append_getElem h1, ← List.take_append_getElem h2, dot_snoc]
  rw [List.length_take, List.length_take]
  omega
theorem ok_weighed (B : Bs K mg) : Cl P w K mg base CX0 5 "weighed" (spP Rl_weighed) [] := by
  refine cl_of (N := ["weights", "values", "total", "weight", "value"]) (ps := ["weights", "values"]) B.d_weighed B.g_weighed (by decide +kernel) (fun _ _ _ _ _ _ us hl => match us, hl with | [_, _], _ => rfl)
    (len_P len_weighed) fun f cdv A outer s H vs Q E hr h => ?_
  have nd : (["weights", "values", "total", "weight", "value"] : List Str).Nodup := by decide +kernel
  refine ⟨_, PSs.nox (pss_cons (ps_set (i := 2) nd rfl (by first | exact Or.inl rfl | exact Or.inr rfl) (pe_tup (pa_cons pe_int (pa_cons pe_int pa_nil))))
  (pss_cons (ps_for PassesOwn.never rfl (pi_zipX rfl B.z_zip (pa_cons (pv 0) (pa_cons (pv 1) pa_nil))) (pg_tup rfl (pgs_cons (pg_name (i := 3) nd rfl (by first | exact Or.inl rfl | exact Or.inr rfl)) (pgs_cons (pg_name (i := 4) nd rfl (by first | exact Or.inl rfl | exact Or.inr rfl)) pgs_nil))) (pss_one (ps_set (i := 2) nd rfl (by first | exact Or.inl rfl | exact Or.inr rfl) (pe_cl (ok_plus B) hr (by decide) pass0 (pa_cons (pv 2) (pa_cons (pe_cl (ok_times B) hr (by decide) pass0 (pa_cons (pe_tup (pa_cons (pv 3) (pa_cons pe_int pa_nil))) (pa_cons (pv 4) pa_nil))) pa_nil))))))
  (pss_one (ps_ret (pv 2))))), enterP h fun C ds Post hR hrt => ?_⟩
  obtain ⟨ws, ts, rfl, ⟨⟨hl, h5⟩, hw, ht⟩, rfl⟩ := hR
  show NX C _ [.val (.tup (ws.map Dt.int)), .val (.lst (ts.map fr)), .no, .no, .no]
  refine sq_asg (d := fr 0) (ed_tup (ea_cons ed_int (ea_cons ed_int ea_nil))) ?_
  refine sq_forE (ei_mix (n := ts.length) (ea_cons (ed_var rfl) (ea_cons (ed_var rfl) ea_nil)) (by rw [List.length_map]; exact hl) (List.length_map ..)) (ι := Rat) (fun _ q => [.val (.tup (ws.map Dt.int)), .val (.lst (ts.map fr)), .val (fr q), .no, .no]) (fun i q => q = dot (ws.take i) (ts.take i) ∧ Bd (1 + 550 * i) q) 0 ⟨rfl, by decide, by decide⟩ (.refl _) (fun C' le i hi q hq N hN => ⟨_, [3, 4], asg_tup2, ?_⟩) ?_
  · obtain ⟨e, hb⟩ := hq
    have h1 : i < ws.length := by omega
    rw [getD_map (by rw [List.length_map]; exact h1), getD_map (by rw [List.length_map]; exact hi)]
    have hw1 := hw _ (List.getElem_mem h1)
    have ht1 := ht _ (List.getElem_mem hi)
    have dt := dot_take h1 hi
    revert hw1 ht1 dt
    generalize ws[i] = w0
    generalize ts[i] = t0
    intro hw1 ht1 dt
    have iq : Bz q (1 + 550 * i) := ⟨hb⟩
    have it : Bz t0 31 := ⟨ht1⟩
    have iw : Bz (w0 : Rat) 500 := ⟨bd_int hw1 (by decide)⟩
    show NX C' _ [.val (.tup (ws.map Dt.int)), .val (.lst (ts.map fr)), .val (fr q), .val (.int w0), .val (fr t0)]
    refine nx_asg (ed_call (ea_cons (ed_var rfl) (ea_cons (ed_call (ea_cons (EvN.is (ed_tup (ea_cons (ed_var rfl) (ea_cons ed_int ea_nil))) (fr_int _)) (ea_cons (ed_var rfl) ea_nil)) rl_times) ea_nil)) rl_plus) ?_
    exact (hN _ ⟨by rw [dt, e], (bz (q := q + (w0 : Rat) * t0)).mono (by omega)⟩).wk (.keep (.keep (.keep (.drop (.drop .nil)))))
  · rintro q ⟨e, hb⟩
    rw [← hl, List.take_length, hl, List.take_length] at e
    subst e
    exact nx_ret hrt (ed_var rfl) ⟨rfl, hb.mono (by omega)⟩
def Rl_never_weights : Rel := fun zs0 Pz => ∃ (i : Nat) (ws cs : List Int), zs0 = [.int (i : Int), .tup (ws.map Dt.int), .lst (cs.map Dt.int)] ∧ ((i < ws.length ∧ i < cs.length ∧ ws.length ≤ 5) ∧ (∀ w ∈ ws, w.natAbs < 2 ^ 500) ∧ ∀ c ∈ cs, c.natAbs < 2 ^ 500) ∧ Pz = (fun e => ∃ ds, e = .tup ds)
theorem len_never_weights : ∀ ds Post, Rl_never_weights ds Post → ds.length = 3 := fun _ _ ⟨_, _, _, e, _⟩ => by rw [e]; rfl
theorem ok_never_weights (B : Bs K mg) : Cl P w K mg base CX0 1 "never_weights" (spP Rl_never_weights) [] := by
  refine cl_of (N := ["at", "weights", "counts", "own", "weight"]) (ps := ["at", "weights", "counts"]) B.d_never_weights B.g_never_weights (by decide +kernel) (fun _ _ _ _ _ _ us hl => match us, hl with | [_, _, _], _ => rfl)
    (len_P len_never_weights) fun f cdv A outer s H vs Q E hr h => ?_
  have nd : (["at", "weights", "counts", "own", "weight"] : List Str).Nodup := by decide +kernel
  refine ⟨_, PSs.nox (pss_cons (ps_setLc (i := 3) (own := [("weight", 4)]) rfl nd rfl rfl (sw_true rfl rfl rfl (by decide +kernel)) (pi_tup (pv 1)) (blkOk_by (by show blkC ["at", "weights", "counts", "own", "weight"] (defScope (top 77)) _ _ = true; decide +kernel)) (fun _ _ _ _ _ => pg_name (i := 4) nd rfl (Or.inl rfl)) (fun _ _ _ _ _ => pts_nil) (fun _ _ _ _ _ => (pe_op op_mulW (pe_un un_neg (pe_ix (ix_listK (K := K)) (pv 2) (pv 0) (fun _ _ => rfl))) (pv 4))))
  (pss_cons (ps_asg (pe_op op_add (pe_ix ix_list (pv 3) (pv 0) (fun _ _ => rfl)) pe_int) (pg_sub (pv 3) (pv 0) set_list))
  (pss_one (ps_ret (pe_op op_catT (pe_tup (pa_cons (pe_un un_neg (pe_callB (cr_sum rfl) (by rfl) B.z_sum (by decide +kernel) (pa_cons (pv 3) pa_nil))) pa_nil)) (pe_callTy call_tuple_of (by rfl) B.z_tuple (by decide +kernel) (pa_cons (pv 3) pa_nil))))))), enterP h fun C ds Post hR hrt => ?_⟩
  obtain ⟨i, ws, cs, rfl, ⟨⟨h1, h2, h5⟩, hw, hc⟩, rfl⟩ := hR
  show NX C _ [.val (.int (i : Int)), .val (.tup (ws.map Dt.int)), .val (.lst (cs.map Dt.int)), .no, .no]
  have hat : atI (cs.map Dt.int) (i : Int) = some (.int cs[i]) := atI_nat (by rw [List.getElem?_map, List.getElem?_eq_getElem h2]; rfl)
  have hc1 := hc _ (List.getElem_mem h2)
  have lenw : (ws.map Dt.int).length = ws.length := List.length_map ..
  refine sq_asgO (ds := (ws.map fun w => -cs[i] * w).map Dt.int) ?_ ?_
  · have hl := eld_lc (C := C) (wi := iTup K (tVar 1)) (tg := gName 4) (te := tOp (rI CMulW fun i j => .int (i * j)) (tUn (rU fun i => .int (-i)) (tOp (rIxL K) (tVar 2) (tVar 0))) (tVar 4)) (vs := [4]) (n := (ws.map Dt.int).length) (item := fun i => (ws.map Dt.int).getD i .non) (Γ := [.val (.int (i : Int)), .val (.tup (ws.map Dt.int)), .val (.lst (cs.map Dt.int)), .no, .no]) (fun k => ((ws.map fun w => -cs[i] * w).map Dt.int).getD k .non) (ei_tup (ed_var rfl)) rfl (by omega) fun C2 le2 k hk => ⟨_, asg_name (by simp), ?_⟩
    · have e := range_getD (ds := (ws.map fun w => -cs[i] * w).map Dt.int) (f := fun d => d)
      have e2 : ((ws.map fun w => -cs[i] * w).map Dt.int).length = (ws.map Dt.int).length := by simp
      rw [e2, List.map_id'] at e
      rw [e] at hl
      exact hl
    · have hk2 : k < ws.length := by simpa using hk
      rw [getD_map hk, getD_map (l := ws.map fun w => -cs[i] * w) (by simpa using hk2), List.getElem_map]
      exact ed_rI (ed_neg (ed_ixL (ed_var rfl) (ed_var rfl) hat)) (ed_var rfl) (mw_ii (n := 500) (m := 500) (by rw [Int.natAbs_neg]; exact hc1) (hw _ (List.getElem_mem hk2)) (by decide) (by decide) (by decide))
  · generalize hxs : (ws.map fun w => -cs[i] * w) = xs
    have lx : xs.length = ws.length := by rw [← hxs]; simp
    have hx : i < xs.length := by omega
    have hat2 : atI (xs.map Dt.int) (i : Int) = some (.int xs[i]) := atI_nat (by rw [List.getElem?_map, List.getElem?_eq_getElem hx]; rfl)
    refine sq_setItem (n := i) rfl (ed_rI0 (ed_ixO rfl (ed_var rfl) hat2) ed_int) (ed_var rfl) ?_ ?_
    · rw [List.length_map]
      exact ixN_nat (by omega) (by omega)
    · have e : (xs.map Dt.int).set i (.int (xs[i] + 1)) = (xs.set i (xs[i] + 1)).map Dt.int := List.map_set.symm
      refine nx_freeze (i := 3) rfl ?_
      show NX C _ [.val (.int (i : Int)), .val (.tup (ws.map Dt.int)), .val (.lst (cs.map Dt.int)), .val (.lst ((xs.map Dt.int).set i (.int (xs[i] + 1)))), .no]
      rw [e]
      have ly : (xs.set i (xs[i] + 1)).length = ws.length := by rw [List.length_set, lx]
      generalize xs.set i (xs[i] + 1) = ys at ly
      have ly2 : (ys.map Dt.int).length = ws.length := by rw [List.length_map, ly]
      refine nx_ret hrt (ed_catT (ed_tup (ea_cons (ed_neg (ed_sum (ed_var rfl))) ea_nil)) (ed_tuple (ed_var rfl)) (by simp) (by simp only [List.length_cons, List.length_nil]; omega) ?_) ⟨_, rfl⟩
      intro z
      rw [z] at ly2
      simp at ly2
      omega
end
end Wk
-- D19
namespace Wk
open PySem PySem.Spec
open PyProof.Rows L2
section
variable {P : Program}
variable {w : World} {K : PySem.W.Frag} {mg : Str → Option Value} {base : Heap}
theorem bd_part {a : Rat} {n : Nat} (h : Bd n a) : Bd n (part0 a) := by
  have e : Rat.divInt (a.num % (a.den : Int)) (a.den : Int) = part0 a := part_mk a
  rw [← e, divInt_nat]
  refine bd_mk a.den_nz ?_ h.2
  have h1 := Int.emod_nonneg a.num (den_ne a)
  have h2 := Int.emod_lt_of_pos a.num (show (0 : Int) < (a.den : Int) by have := a.den_pos; omega)
  have h3 := h.2
  omega
instance {a : Rat} {n : Nat} [Bz a n] : Bz (part0 a) n := ⟨bd_part bz⟩
theorem lenM {α β : Type} {l : List α} {f : α → β} {n : Nat} (h : l.length = n) : (l.map f).length = n := by rw [List.length_map]; exact h
def PaperP (rows : List (Rat × Rat)) : Dt → Prop := fun e => (∃ x, e = .tup [.str "never", x] ∧ IsRule rows none) ∨ (e = .tup [.str "always"] ∧ IsRule rows (some (0, none))) ∨ ∃ f s x, e = .tup [.str "every", fr f, fr s, x] ∧ IsRule rows (some (f, some s))
def Rl_meeting_paper (K : PySem.W.Frag) : Rel := fun zs0 Pz => ∃ rows : List (Rat × Rat), zs0 = [.lst (rows.map (cyc K))] ∧ RowsOk rows ∧ Pz = PaperP rows
theorem len_meeting_paper {K : PySem.W.Frag} : ∀ ds Post, Rl_meeting_paper K ds Post → ds.length = 1 := fun _ _ ⟨_, e, _⟩ => by rw [e]; rfl
theorem cnt_bd {g r : Rat} {n m : Nat} (hg : Bd n g) (hr : Bd m r) (hm : 0 < m) : (cnt g r).natAbs < 2 ^ (m + n) := by
  unfold cnt
  split
  · exact Nat.pow_pos (by decide)
  · exact (hr.div hg).1
theorem cut_tailM {α : Type} {f : α → Dt} {a : α} {l : List α} : cutD ((a :: l).map f) (some 1) none = l.map f := cut_tail _ _
section
variable {C : Ctx} {K : PySem.W.Frag} {Γ : List Slot} {tl te : TE} {α : Type} {a b : α → Dt} {l : List α} {j : Nat} {vs : List Nat}
theorem range_map : (List.range l.length).map (fun i => (l.map b).getD i .non) = l.map b := by
  have e := range_getD (ds := l.map b) (f := fun d => d)
  rw [List.map_id', List.length_map] at e
  exact e
theorem eld_lcM (h : EvD C tl Γ (.lst (l.map a))) (no : noOwn Γ = true) (hn : l.length ≤ 1000) (hj : j ∈ vs) (hs : ∀ C', Le C C' → ∀ x, x ∈ l → EvD C' te ((wipeG Γ vs).set j (.val (a x))) (b x)) : ElD C (tLc (iList K tl) (gName j) tYes te vs) Γ (l.map b) := by
  have k := eld_lc (fun i => (l.map b).getD i .non) (ei_list (K := K) h) no (by rw [List.length_map]; exact hn) (te := te) (tg := gName j) (vs := vs) fun C' le i hi => ⟨_, asg_name hj, by
    have hi2 : i < l.length := by simpa using hi
    rw [getD_map hi, getD_map (by simpa using hi2)]
    exact hs C' le _ (List.getElem_mem hi2)⟩
  rw [List.length_map, range_map] at k
  exact k
end
theorem ok_meeting_paper (B : Bs K mg) : Cl P w K mg base CX0 6 "meeting_paper" (spP (Rl_meeting_paper K)) [] := by
  refine cl_of (N := ["cycles", "lead", "rates", "cycle", "starts", "measure", "weights", "counts", "rate", "ahead", "at", "start", "left", "interval", "first"]) (ps := ["cycles"]) B.d_meeting_paper B.g_meeting_paper (by decide +kernel) (fun _ _ _ _ _ _ us hl => match us, hl with | [_], _ => rfl)
    (len_P len_meeting_paper) fun f cdv A outer s H vs Q E hr h => ?_
  have nd : (["cycles", "lead", "rates", "cycle", "starts", "measure", "weights", "counts", "rate", "ahead", "at", "start", "left", "interval", "first"] : List Str).Nodup := by decide +kernel
  refine ⟨_, PSs.nox (pss_cons (ps_expr (pe_cl (ok_need_cycles B) hr (by decide) pass0 (pa_cons (pv 0) pa_nil)))
  (pss_cons (ps_set (i := 1) nd rfl (by first | exact Or.inl rfl | exact Or.inr rfl) (pe_ix ix_list (pv 0) pe_int (fun _ _ => rfl)))
  (pss_cons (ps_setLc (i := 2) (own := [("cycle", 3)]) rfl nd rfl rfl (sw_true rfl rfl rfl (by decide +kernel)) (pi_list (pe_slice sl_list (pv 0) (po_some pe_int) po_none)) (blkOk_by (by show blkC ["cycles", "lead", "rates", "cycle", "starts", "measure", "weights", "counts", "rate", "ahead", "at", "start", "left", "interval", "first"] (defScope (top 79)) _ _ = true; decide +kernel)) (fun _ _ _ _ _ => pg_name (i := 3) nd rfl (Or.inl rfl)) (fun _ _ _ _ _ => pts_nil) (fun _ _ _ _ _ => (pe_cl (ok_minus B) hr (by decide) pass0 (pa_cons (pe_fldK (K := K) (pv 3) rfl) (pa_cons (pe_fldK (K := K) (pv 1) rfl) pa_nil)))))
  (pss_cons (ps_setLc (i := 4) (own := [("cycle", 3)]) rfl nd rfl rfl (sw_true rfl rfl rfl (by decide +kernel)) (pi_list (pe_slice sl_list (pv 0) (po_some pe_int) po_none)) (blkOk_by (by show blkC ["cycles", "lead", "rates", "cycle", "starts", "measure", "weights", "counts", "rate", "ahead", "at", "start", "left", "interval", "first"] (defScope (top 79)) _ _ = true; decide +kernel)) (fun _ _ _ _ _ => pg_name (i := 3) nd rfl (Or.inl rfl)) (fun _ _ _ _ _ => pts_nil) (fun _ _ _ _ _ => (pe_cl (ok_minus B) hr (by decide) pass0 (pa_cons (pe_fldK (K := K) (pv 3) rfl) (pa_cons (pe_fldK (K := K) (pv 1) rfl) pa_nil)))))
  (pss_cons (ps_asg (pe_cl (ok_measure_paper B) hr (by decide) pass0 (pa_cons (pv 2) pa_nil)) (pg_tup rfl (pgs_cons (pg_name (i := 5) nd rfl (by first | exact Or.inl rfl | exact Or.inr rfl)) (pgs_cons (pg_name (i := 6) nd rfl (by first | exact Or.inl rfl | exact Or.inr rfl)) pgs_nil))))
  (pss_cons (ps_setLc (i := 7) (own := [("rate", 8)]) rfl nd rfl rfl (sw_true rfl rfl rfl (by decide +kernel)) (pi_list (pv 2)) (blkOk_by (by show blkC ["cycles", "lead", "rates", "cycle", "starts", "measure", "weights", "counts", "rate", "ahead", "at", "start", "left", "interval", "first"] (defScope (top 79)) _ _ = true; decide +kernel)) (fun _ _ _ _ _ => pg_name (i := 8) nd rfl (Or.inl rfl)) (fun _ _ _ _ _ => pts_nil) (fun _ _ _ _ _ => (pe_ifExp (pt_cmpR op_eq (pe_ix (ix_tupK (K := K)) (pv 5) pe_int (fun _ _ => rfl)) pe_int (nomark _)) pe_int (pe_ix (ix_tupK (K := K)) (pe_cl (ok_over B) hr (by decide) pass0 (pa_cons (pv 8) (pa_cons (pv 5) pa_nil))) pe_int (fun _ _ => rfl)))))
  (pss_cons (ps_set (i := 9) nd rfl (by first | exact Or.inl rfl | exact Or.inr rfl) (pe_cl (ok_weighed B) hr (by decide) pass0 (pa_cons (pv 6) (pa_cons (pv 4) pa_nil))))
  (pss_cons (ps_for PassesOwn.never rfl (pi_enum rfl B.z_enumerate (pa_cons (pv 4) pa_nil)) (pg_tup rfl (pgs_cons (pg_name (i := 10) nd rfl (by first | exact Or.inl rfl | exact Or.inr rfl)) (pgs_cons (pg_name (i := 11) nd rfl (by first | exact Or.inl rfl | exact Or.inr rfl)) pgs_nil))) (pss_cons (ps_set (i := 12) nd rfl (by first | exact Or.inl rfl | exact Or.inr rfl) (pe_cl (ok_minus B) hr (by decide) pass0 (pa_cons (pv 11) (pa_cons (pe_cl (ok_times B) hr (by decide) pass0 (pa_cons (pe_tup (pa_cons (pe_ix ix_list (pv 7) (pv 10) (fun _ _ => rfl)) (pa_cons pe_int pa_nil))) (pa_cons (pv 9) pa_nil))) pa_nil))))
  (pss_one (ps_if (pt_cmpR op_ne (pe_ix ix_tup (pv 12) pe_int (fun _ _ => rfl)) pe_int (nomark _)) (pss_one (ps_ret (pe_tup (pa_cons pe_str (pa_cons (pe_cl (ok_never_weights B) hr (by decide) pass0 (pa_cons (pv 10) (pa_cons (pv 6) (pa_cons (pv 7) pa_nil)))) pa_nil))))) pss_nil))))
  (pss_cons (ps_if (pt_cmpR op_eq (pe_ix ix_tup (pv 5) pe_int (fun _ _ => rfl)) pe_int (nomark _)) (pss_one (ps_ret (pe_tup (pa_cons pe_str pa_nil)))) pss_nil)
  (pss_cons (ps_set (i := 13) nd rfl (by first | exact Or.inl rfl | exact Or.inr rfl) (pe_cl (ok_over B) hr (by decide) pass0 (pa_cons (pe_tup (pa_cons pe_int (pa_cons pe_int pa_nil))) (pa_cons (pv 5) pa_nil))))
  (pss_cons (ps_set (i := 14) nd rfl (by first | exact Or.inl rfl | exact Or.inr rfl) (pe_cl (ok_times B) hr (by decide) pass0 (pa_cons (pe_cl (ok_part_of B) hr (by decide) pass0 (pa_cons (pe_cl (ok_minus B) hr (by decide) pass0 (pa_cons (pe_tup (pa_cons pe_int (pa_cons pe_int pa_nil))) (pa_cons (pv 9) pa_nil))) pa_nil)) (pa_cons (pv 13) pa_nil))))
  (pss_one (ps_ret (pe_tup (pa_cons pe_str (pa_cons (pv 14) (pa_cons (pv 13) (pa_cons (pe_op op_catT (pe_tup (pa_cons pe_int pa_nil)) (pe_callTy call_tuple_of (by rfl) B.z_tuple (by decide +kernel) (pa_cons (pv 7) pa_nil))) pa_nil)))))))))))))))))), enterP h fun C ds Post hR hrt => ?_⟩
  obtain ⟨rows, rfl, ⟨h2, h6, hro⟩, rfl⟩ := hR
  cases rows with
  | nil => exact absurd h2 (by decide)
  | cons p0 l =>
  have hl1 : 1 ≤ l.length := by
    have : 2 ≤ l.length + 1 := h2
    omega
  have hl : l.length ≤ 5 := by
    have : l.length + 1 ≤ 6 := h6
    omega
  have g0 := hro p0 List.mem_cons_self
  have ia0 := g0.br
  have ib0 := g0.bs
  have hp : ∀ p ∈ l, RowOk p := fun p hp => hro p (List.mem_cons_of_mem _ hp)
  have hrt' : Rt C Q (PaperP (p0 :: l)) := hrt
  show NX C _ [.val (.lst (cyc K p0 :: l.map (cyc K))), .no, .no, .no, .no, .no, .no, .no, .no, .no, .no, .no, .no, .no, .no]
  refine sq_drop (en_callD (ea_cons (ed_var rfl) ea_nil) (rl_need_cycles (rows := p0 :: l) ⟨h2, h6⟩)) ?_
  refine sq_asg (ed_ixL (ed_var rfl) ed_int atI0) ?_
  have tl : ∀ {Γ : List Slot}, Γ[0]? = some (.val (.lst (cyc K p0 :: l.map (cyc K)))) → EvD C (tSl (rSlL K) (tVar 0) (tPart (tC (.int 1))) tNoPart) Γ (.lst (l.map (cyc K))) := fun h => ((eld_sl (ed_var h) (eo_some ed_int) eo_none).ed).is (congrArg Dt.lst (cut_tail _ _))
  refine sq_asgO (ds := l.map fun p => fr (p.1 - p0.1)) (eld_lcM (a := cyc K) (tl rfl) rfl (by omega) (by simp) fun C' le p hpl => ?_) ?_
  · have iap := (hp p hpl).br
    exact ed_call (ea_cons (ed_fld (ed_var rfl) B.c_Cycle B.n_rate (k := 0) rfl (fbf (by decide +kernel)) rfl) (ea_cons (ed_fld (ed_var rfl) B.c_Cycle B.n_rate (k := 0) rfl (fbf (by decide +kernel)) rfl) ea_nil)) rl_minus
  refine nx_freeze (i := 2) rfl ?_
  refine sq_asgO (ds := l.map fun p => fr (p.2 - p0.2)) (eld_lcM (a := cyc K) (tl rfl) rfl (by omega) (by simp) fun C' le p hpl => ?_) ?_
  · have ibp := (hp p hpl).bs
    exact ed_call (ea_cons (ed_fld (ed_var rfl) B.c_Cycle B.n_start (k := 1) rfl (fbf (by decide +kernel)) rfl) (ea_cons (ed_fld (ed_var rfl) B.c_Cycle B.n_start (k := 1) rfl (fbf (by decide +kernel)) rfl) ea_nil)) rl_minus
  refine nx_freeze (i := 4) rfl ?_
  refine sq_asg2N (R := fun e => ∃ g ws, e = .tup [fr g, .tup (ws.map Dt.int)] ∧ Meas (l.map fun p => p.1 - p0.1) g ws ∧ Bd 100 g ∧ ∀ w ∈ ws, w.natAbs < 2 ^ 500) (en_callD (ea_cons (ed_var rfl) ea_nil) ⟨l.map fun p => p.1 - p0.1, by rw [List.map_map]; rfl, ⟨⟨by rw [List.length_map]; exact hl1, by rw [List.length_map]; exact hl⟩, fun v hv => ?_⟩, rfl⟩) ?_
  · obtain ⟨p, hpl, rfl⟩ := List.mem_map.mp hv
    exact (hp p hpl).subr g0
  rintro d ⟨g, ws, rfl, hM, hg, hw⟩
  refine ⟨_, _, rfl, ?_⟩
  have ig : Bz g 100 := ⟨hg⟩
  have wl : ws.length = l.length := hM.len.trans (List.length_map ..)
  refine sq_asgO (ds := l.map fun p => .int (cnt g (p.1 - p0.1))) (eld_lcM (a := fun p : Rat × Rat => fr (p.1 - p0.1)) (ed_var rfl) rfl (by omega) (by simp) fun C' le p hpl => ?_) ?_
  · have ir : Bz (p.1 - p0.1) 18 := ⟨(hp p hpl).subr g0⟩
    refine ed_if (etd_test (ed_eqI (ed_ixT (ed_var rfl) ed_int rfl) ed_int)) (fun hb => ed_int.is ?_) fun hb => ?_
    · have : g = 0 := Rat.num_eq_zero.mp (of_decide_eq_true hb)
      unfold cnt
      rw [if_pos this]
    · have gne : g ≠ 0 := fun z => (of_decide_eq_false hb) (Rat.num_eq_zero.mpr z)
      refine EvN.is (ed_ixT (ed_call (ea_cons (ed_var rfl) (ea_cons (ed_var rfl) ea_nil)) (rl_over (by assumption))) ed_int rfl) ?_
      show Dt.int ((p.1 - p0.1) / g).num = _
      unfold cnt
      rw [if_neg gne]
  refine nx_freeze (i := 7) rfl ?_
  have cb : ∀ p ∈ l, (cnt g (p.1 - p0.1)).natAbs < 2 ^ 118 := fun p hpl => cnt_bd hg ((hp p hpl).subr g0) (by decide)
  refine sq_asgN (en_callD (ea_cons (ed_var rfl) (ea_cons (ed_var rfl) ea_nil)) ⟨ws, l.map fun p => p.2 - p0.2, by rw [List.map_map]; rfl, ⟨⟨by rw [List.length_map]; exact wl, by rw [List.length_map]; exact hl⟩, hw, fun v hv => ?_⟩, rfl⟩) ?_
  · obtain ⟨p, hpl, rfl⟩ := List.mem_map.mp hv
    exact (hp p hpl).subs g0
  rintro d ⟨rfl, hah⟩
  have eah : dot ws (l.map fun p => p.2 - p0.2) = dot ws (l.map fun p => p.2 - p0.2) := rfl
  revert hah eah
  generalize hx : dot ws (l.map fun p => p.2 - p0.2) = ah
  intro hah _
  have iah : Bz ah 3000 := ⟨hah⟩
  show NX C _ [.val (.lst (cyc K p0 :: l.map (cyc K))), .val (cyc K p0), .val (.lst (l.map fun p => fr (p.1 - p0.1))), .no, .val (.lst (l.map fun p => fr (p.2 - p0.2))), .val (fr g), .val (.tup (ws.map Dt.int)), .val (.lst (l.map fun p => .int (cnt g (p.1 - p0.1)))), .no, .val (fr ah), .no, .no, .no, .no, .no]
  refine sq_forE (ei_enum (ea_cons (ed_var rfl) ea_nil)) (ι := Unit) (fun _ _ => [.val (.lst (cyc K p0 :: l.map (cyc K))), .val (cyc K p0), .val (.lst (l.map fun p => fr (p.1 - p0.1))), .no, .val (.lst (l.map fun p => fr (p.2 - p0.2))), .val (fr g), .val (.tup (ws.map Dt.int)), .val (.lst (l.map fun p => .int (cnt g (p.1 - p0.1)))), .no, .val (fr ah), .no, .no, .no, .no, .no]) (fun i _ => ∀ p ∈ l.take i, Whole ((p.2 - p0.2) - (cnt g (p.1 - p0.1) : Rat) * ah)) () (fun p hp => by simp at hp) (.refl _) (fun C' le i hi _ hst N hN => ⟨_, [10, 11], asg_tup2, ?_⟩) ?_
  · have hrt2 := hrt'.up le
    have hil : i < l.length := by simpa using hi
    rw [getD_map hi]
    have hpl := List.getElem_mem hil
    have hat : atI (l.map fun p => Dt.int (cnt g (p.1 - p0.1))) (i : Int) = some (.int (cnt g (l[i].1 - p0.1))) := atI_nat (by rw [List.getElem?_map, List.getElem?_eq_getElem hil]; rfl)
    have tk : l.take (i + 1) = l.take i ++ [l[i]] := (List.take_append_getElem hil).symm
    revert hpl hat tk
    generalize l[i] = p
    intro hpl hat tk
    have cbp := cb p hpl
    have ic : Bz ((cnt g (p.1 - p0.1) : Int) : Rat) 118 := ⟨bd_int cbp (by decide)⟩
    have is : Bz (p.2 - p0.2) 31 := ⟨(hp p hpl).subs g0⟩
    refine sq_asg (ed_call (ea_cons (ed_var rfl) (ea_cons (ed_call (ea_cons ((ed_tup (ea_cons (ed_ixL (ed_var rfl) (ed_var rfl) hat) (ea_cons ed_int ea_nil))).is (fr_int _)) (ea_cons (ed_var rfl) ea_nil)) rl_times) ea_nil)) rl_minus) ?_
    refine nx_if (etd_test (ed_neI (ed_ixT (ed_var rfl) ed_int rfl) ed_int)) (fun hb => ?_) fun hb => ?_
    · have hnw : ¬ Whole ((p.2 - p0.2) - (cnt g (p.1 - p0.1) : Rat) * ah) := fun z => by
        rw [whole_den] at z
        rw [z] at hb
        simp at hb
      refine nx_retN hrt2 (en_tup (en_cons ed_str (en_cons (en_callD (ea_cons (ed_var rfl) (ea_cons (ed_var rfl) (ea_cons (ed_var rfl) ea_nil))) ⟨i, ws, l.map fun p => cnt g (p.1 - p0.1), by rw [List.map_map]; rfl, ⟨⟨by omega, by rw [List.length_map]; exact hil, by omega⟩, hw, fun c hc => ?_⟩, rfl⟩) ea_nil)) ?_)
      · obtain ⟨p', hp', rfl⟩ := List.mem_map.mp hc
        exact lt_two_pow (cb p' hp') (by decide)
      · rintro ds ⟨d1, l1, rfl, rfl, d2, l2, rfl, ⟨x, rfl⟩, rfl⟩
        exact ⟨by simp, .inl ⟨_, rfl, paper_never hM hx hpl hnw⟩⟩
    · have hw1 : Whole ((p.2 - p0.2) - (cnt g (p.1 - p0.1) : Rat) * ah) := by
        rw [whole_den]
        have : ((((p.2 - p0.2) - (cnt g (p.1 - p0.1) : Rat) * ah).den : Nat) : Int) = 1 := by simpa using hb
        omega
      refine nx_next ((hN () fun q hq => ?_).wk (.keep (.keep (.keep (.keep (.keep (.keep (.keep (.keep (.keep (.keep (.drop (.drop (.drop (.keep (.keep .nil))))))))))))))))
      rw [tk] at hq
      rcases List.mem_append.mp hq with h | h
      · exact hst q h
      · rw [List.mem_singleton.mp h]
        exact hw1
  · rintro _ hst
    have hst' : ∀ p ∈ l, Whole ((p.2 - p0.2) - (cnt g (p.1 - p0.1) : Rat) * ah) := by
      rw [List.length_map, List.take_length] at hst
      exact hst
    refine sq_when (etd_test (ed_eqI (ed_ixT (ed_var rfl) ed_int rfl) ed_int)) (fun hb => ?_) fun hb => ?_
    · have gz : g = 0 := Rat.num_eq_zero.mp (of_decide_eq_true hb)
      exact nx_ret hrt' (ed_tup (ea_cons ed_str ea_nil)) (.inr (.inl ⟨rfl, paper_always (ah := ah) hM gz hst'⟩))
    · have gne : g ≠ 0 := fun z => (of_decide_eq_false hb) (Rat.num_eq_zero.mpr z)
      refine sq_asg (ed_call (ea_cons (EvN.is (ed_tup (ea_cons ed_int (ea_cons ed_int ea_nil))) (fr_lit (q := 1) (by decide))) (ea_cons (ed_var rfl) ea_nil)) (rl_over (by assumption))) ?_
      refine sq_asg (ed_call (ea_cons (ed_call (ea_cons (ed_call (ea_cons (EvN.is (ed_tup (ea_cons ed_int (ea_cons ed_int ea_nil))) (fr_lit (q := 0) (by decide))) (ea_cons (ed_var rfl) ea_nil)) rl_minus) ea_nil) rl_part) (ea_cons (ed_var rfl) ea_nil)) rl_times) ?_
      refine nx_ret hrt' (ed_tup (ea_cons ed_str (ea_cons (ed_var rfl) (ea_cons (ed_var rfl) (ea_cons (ed_catT (ed_tup (ea_cons ed_int ea_nil)) (ed_tuple (ed_var rfl)) (by simp) (by rw [List.length_map]; show 1 + _ ≤ 1000; omega) ?_) ea_nil))))) (.inr (.inr ⟨_, _, _, rfl, paper_every hM hx gne hst'⟩))
      intro z
      have := congrArg List.length z
      rw [List.length_map] at this
      have : l.length = 0 := this
      omega
def Rl_meeting_rule (K : PySem.W.Frag) : Rel := fun zs0 Pz => ∃ rows : List (Rat × Rat), zs0 = [.lst (rows.map (cyc K))] ∧ RowsOk rows ∧ Pz = (fun e => ∃ r, e = ruleD r ∧ IsRule rows r)
theorem len_meeting_rule {K : PySem.W.Frag} : ∀ ds Post, Rl_meeting_rule K ds Post → ds.length = 1 := fun _ _ ⟨_, e, _⟩ => by rw [e]; rfl
theorem ok_meeting_rule (B : Bs K mg) : Cl P w K mg base CX0 7 "meeting_rule" (spP (Rl_meeting_rule K)) [] := by
  refine cl_of (N := ["cycles", "paper"]) (ps := ["cycles"]) B.d_meeting_rule B.g_meeting_rule (by decide +kernel) (fun _ _ _ _ _ _ us hl => match us, hl with | [_], _ => rfl)
    (len_P len_meeting_rule) fun f cdv A outer s H vs Q E hr h => ?_
  have nd : (["cycles", "paper"] : List Str).Nodup := by decide +kernel
  refine ⟨_, PSs.nox (pss_cons (ps_set (i := 1) nd rfl (by first | exact Or.inl rfl | exact Or.inr rfl) (pe_cl (ok_meeting_paper B) hr (by decide) pass0 (pa_cons (pv 0) pa_nil)))
  (pss_cons (ps_if (pt_cmpR op_eq (pe_ix ix_tup (pv 1) pe_int (fun _ _ => rfl)) pe_str (nomark _)) (pss_one (ps_ret pe_non)) pss_nil)
  (pss_cons (ps_if (pt_cmpR op_eq (pe_ix ix_tup (pv 1) pe_int (fun _ _ => rfl)) pe_str (nomark _)) (pss_one (ps_ret (pe_tup (pa_cons (pe_tup (pa_cons pe_int (pa_cons pe_int pa_nil))) (pa_cons pe_non pa_nil))))) pss_nil)
  (pss_one (ps_ret (pe_tup (pa_cons (pe_ix ix_tup (pv 1) pe_int (fun _ _ => rfl)) (pa_cons (pe_ix ix_tup (pv 1) pe_int (fun _ _ => rfl)) pa_nil)))))))), enterP h fun C ds Post hR hrt => ?_⟩
  obtain ⟨rows, rfl, hok, rfl⟩ := hR
  show NX C _ [.val (.lst (rows.map (cyc K))), .no]
  refine sq_asgN (R := PaperP rows) (en_callD (ea_cons (ed_var rfl) ea_nil) ⟨rows, rfl, hok, rfl⟩) ?_
  rintro d (⟨x, rfl, h⟩ | ⟨rfl, h⟩ | ⟨f, s, x, rfl, h⟩)
  · exact sq_yes (etd_test (ed_eqS (ed_ixT (ed_var rfl) ed_int rfl) ed_str)) (by decide +kernel) (nx_ret hrt ed_non ⟨none, rfl, h⟩)
  · refine sq_no (etd_test (ed_eqS (ed_ixT (ed_var rfl) ed_int rfl) ed_str)) (by decide +kernel) ?_
    exact sq_yes (etd_test (ed_eqS (ed_ixT (ed_var rfl) ed_int rfl) ed_str)) (by decide +kernel) (nx_ret hrt (ed_tup (ea_cons (ed_tup (ea_cons ed_int (ea_cons ed_int ea_nil))) (ea_cons ed_non ea_nil))) ⟨some (0, none), rfl, h⟩)
  · refine sq_no (etd_test (ed_eqS (ed_ixT (ed_var rfl) ed_int rfl) ed_str)) (by decide +kernel) ?_
    refine sq_no (etd_test (ed_eqS (ed_ixT (ed_var rfl) ed_int rfl) ed_str)) (by decide +kernel) ?_
    exact nx_ret hrt (ed_tup (ea_cons (ed_ixT (ed_var rfl) ed_int rfl) (ea_cons (ed_ixT (ed_var rfl) ed_int rfl) ea_nil))) ⟨some (f, some s), rfl, h⟩
end
end Wk
-- M5
namespace Wk
/-! ### lines -/
def lTop (r t m : Rat) : Int := r.num * (t.den : Int) * m.num + t.num * (r.den : Int) * (m.den : Int)
def lBot (r t m : Rat) : Int := (r.den : Int) * (t.den : Int) * (m.den : Int)
theorem lBot_pos (r t m : Rat) : 0 < lBot r t m := by
  unfold lBot
  have a := r.den_pos
  have b := t.den_pos
  have c := m.den_pos
  exact Int.mul_pos (Int.mul_pos (by omega) (by omega)) (by omega)
theorem lTop_eq (r t m : Rat) : (lTop r t m : Rat) = (r * m + t) * (lBot r t m : Rat) := by
  unfold lTop lBot
  rw [Rat.intCast_add, Rat.intCast_mul, Rat.intCast_mul, Rat.intCast_mul, Rat.intCast_mul, Rat.intCast_mul, Rat.intCast_mul, num_eq r, num_eq t, num_eq m]
  simp only [Rat.intCast_natCast]
  grind
theorem lTop_bd {a b c : Nat} {r t m : Rat} (hr : Bd a r) (ht : Bd b t) (hm : Bd c m) : (lTop r t m).natAbs < 2 ^ (a + b + c + 1) ∧ (lBot r t m).natAbs < 2 ^ (a + b + c) := by
  unfold lTop lBot
  constructor
  · refine Nat.lt_of_le_of_lt (Int.natAbs_add_le _ _) (add_lt_pow ?_ ?_)
    · rw [Int.natAbs_mul, Int.natAbs_mul, Int.natAbs_natCast]
      exact mul_lt_pow (mul_lt_pow hr.1 ht.2) hm.1
    · rw [Int.natAbs_mul, Int.natAbs_mul, Int.natAbs_natCast, Int.natAbs_natCast, Nat.add_comm a b]
      exact mul_lt_pow (mul_lt_pow ht.1 hr.2) hm.2
  · rw [Int.natAbs_mul, Int.natAbs_mul, Int.natAbs_natCast, Int.natAbs_natCast, Int.natAbs_natCast]
    exact mul_lt_pow (mul_lt_pow hr.2 ht.2) hm.2
theorem int_cancel {a b c : Int} (hc : (c : Rat) ≠ 0) (h : (a : Rat) * (c : Rat) = (b : Rat) * (c : Rat)) : a = b := by
  have := congrArg (· / (c : Rat)) h
  simp only [Rat.mul_div_cancel hc] at this
  exact Rat.intCast_inj.mp this
theorem rat_ne_of_pos {c : Int} (h : 0 < c) : (c : Rat) ≠ 0 := fun z => by
  have := Rat.intCast_eq_zero_iff.mp z
  omega
/-- n // d, as the floor of a fraction -/
theorem ediv_floor {n d : Int} {q : Rat} (hd : 0 < d) (h : (n : Rat) = q * (d : Rat)) : n / d = q.floor := by
  have hp : (0 : Rat) < (d : Rat) := Rat.intCast_pos.mpr hd
  have key : ∀ k : Int, k ≤ n / d ↔ k ≤ q.floor := fun k => by
    rw [Int.le_ediv_iff_mul_le hd, Rat.le_floor_iff]
    constructor
    · intro z
      have z1 := Rat.intCast_le_intCast.mpr z
      rw [Rat.intCast_mul, h] at z1
      have : (d : Rat) * (k : Rat) ≤ (d : Rat) * q := by grind
      exact Rat.le_of_mul_le_mul_left this hp
    · intro z
      have := Rat.mul_le_mul_of_nonneg_right z (Rat.le_of_lt hp)
      rw [← h, ← Rat.intCast_mul] at this
      exact Rat.intCast_le_intCast.mp this
  exact Int.le_antisymm ((key _).mp (Int.le_refl _)) ((key _).mpr (Int.le_refl _))
def cei (q : Rat) : Int := -(-q).floor
theorem cei_le {q : Rat} {k : Int} : cei q ≤ k ↔ q ≤ (k : Rat) := by
  unfold cei
  constructor
  · intro h
    have : -k ≤ (-q).floor := by omega
    have := Rat.le_floor_iff.mp this
    rw [Rat.intCast_neg] at this
    grind
  · intro h
    have : ((-k : Int) : Rat) ≤ -q := by
      rw [Rat.intCast_neg]
      grind
    have := Rat.le_floor_iff.mpr this
    omega
/-- is the nearest whole number on the line -/
theorem near_whole {top bot : Int} {q : Rat} (hb : 0 < bot) (h : (top : Rat) = q * (bot : Rat)) : (((top - (2 * top + bot) / (2 * bot) * bot).natAbs : Int) * 1 ≤ 0 * bot) ↔ Whole q := by
  have hp := rat_ne_of_pos hb
  constructor
  · intro z
    refine ⟨(2 * top + bot) / (2 * bot), ?_⟩
    have e : top = (2 * top + bot) / (2 * bot) * bot := by omega
    generalize (2 * top + bot) / (2 * bot) = w at e
    rw [e, Rat.intCast_mul] at h
    have := congrArg (· / (bot : Rat)) h
    simp only [Rat.mul_div_cancel hp] at this
    exact this.symm
  · rintro ⟨k, rfl⟩
    have e : top = k * bot := by
      rw [← Rat.intCast_mul] at h
      exact Rat.intCast_inj.mp h
    have e2 : (2 * top + bot) / (2 * bot) = k := by
      rw [e]
      have e3 : 2 * (k * bot) + bot = bot + k * (2 * bot) := by grind
      rw [e3, Int.add_mul_ediv_right _ _ (by omega), Int.ediv_eq_zero_of_lt (by omega) (by omega), Int.zero_add]
    rw [e2, e]
    omega
/-! ### what stands on both -/
/-- a stretch of time [a, b] where S holds: all of it, or the moments listed -/
structure Pts (a b : Rat) (S : Rat → Prop) (ps : List Rat) : Prop where
  so : ps.Pairwise (· < ·)
  mem : ∀ m, m ∈ ps ↔ a ≤ m ∧ m ≤ b ∧ S m
def Track (a b : Rat) (S : Rat → Prop) (rows : List (Rat × Rat)) : Prop :=
  (rows = [(a, b)] ∧ ∀ m, S m) ∨ ((¬ ∀ m, S m) ∧ ∃ ps, rows = ps.map (fun p => (p, p)) ∧ Pts a b S ps)
theorem sorted_eq : ∀ {l k : List Rat}, l.Pairwise (· < ·) → k.Pairwise (· < ·) → (∀ m, m ∈ l ↔ m ∈ k) → l = k
  | [], [], _, _, _ => rfl
  | [], y :: k, _, _, h => by
    have := (h y).mpr List.mem_cons_self
    cases this
  | x :: l, [], _, _, h => by
    have := (h x).mp List.mem_cons_self
    cases this
  | x :: l, y :: k, hl, hk, h => by
    obtain ⟨l1, l2⟩ := List.pairwise_cons.mp hl
    obtain ⟨k1, k2⟩ := List.pairwise_cons.mp hk
    have exy : x = y := by
      rcases List.mem_cons.mp ((h x).mp List.mem_cons_self) with e | e
      · exact e
      · rcases List.mem_cons.mp ((h y).mpr List.mem_cons_self) with e2 | e2
        · exact e2.symm
        · have a1 := k1 x e
          have a2 := l1 y e2
          exact absurd (Std.lt_trans a1 a2) Rat.lt_irrefl
    subst exy
    congr 1
    refine sorted_eq l2 k2 fun m => ?_
    constructor
    · intro hm
      rcases List.mem_cons.mp ((h m).mp (List.mem_cons_of_mem _ hm)) with e | e
      · subst e
        exact absurd (l1 m hm) Rat.lt_irrefl
      · exact e
    · intro hm
      rcases List.mem_cons.mp ((h m).mpr (List.mem_cons_of_mem _ hm)) with e | e
      · subst e
        exact absurd (k1 m hm) Rat.lt_irrefl
      · exact e
theorem Pts.uniq {a b : Rat} {S : Rat → Prop} {ps qs : List Rat} (h : Pts a b S ps) (k : Pts a b S qs) : ps = qs := sorted_eq h.so k.so fun m => (h.mem m).trans (k.mem m).symm
end Wk
-- D20
namespace Wk
open PySem PySem.Spec
open PyProof.Rows L2
section
variable {P : Program}
variable {w : World} {K : PySem.W.Frag} {mg : Str → Option Value} {base : Heap}
/-- a def with defaults, all its parameters given -/
theorem cl_ofD {P : Program} {w : World} {K : PySem.W.Frag} {mg : Str → Option Value} {base : Heap} {CX : CXT} {x : Str} {st : Stmt} {f : Addr} {k : Nat} {sp : Sp} {N ps : List Str} {dv : List V} (hd : dv ≠ []) (hf : ∃ fd, FunD K x x (defArgs st) (defBody st) (defScope st) dv [] f fd) (hm : mg x = some (.ref f)) (hs : C8.scC N ps (defScope st) = true)
    (hb : ∀ (T : Addr) (kV doc pm : Value) (an : Option Addr) (cdv ct : Value) (us its : List Value), us.length = ps.length → its.length = dv.length → ∃ k, bindArgs (PySem.W.fnOf x x (defArgs st) (defBody st) (defScope st) (.ref T) kV doc pm an cdv ct) ⟨us, []⟩ = seqItems? (.ref T) >>= k ∧ k (some its.toArray) = pure (ps.zip (us ++ its.drop dv.length))) (len : ∀ vs H Q E, sp vs H Q E → vs.length = ps.length)
    (hbody : ∀ (f : Addr) (cdv : Value) (A : Around) (outer : List Env) (s : Shared) (H : Hp) (vs : List V) (Q : VK) (E : XK), Room k (A.deeper (envOfC x (defScope st) s.heap.objs.size f cdv)) → sp vs H Q E →
      ∃ t, PSs (cxOf CX P w K mg base N x (defScope st) f cdv A outer s H E) (defBody st) t ∧ t { nx := fun _ H' => Q .non H', rt := Q } (L2.start N vs) H) : Cl P w K mg base CX (k + 1) x sp [] := by
  obtain ⟨fd, F⟩ := hf
  obtain ⟨ds, hv, hbd⟩ := F.binds1 (ps := ps) ps.length dv.length hd (by rw [Nat.sub_self, Nat.add_zero]) hb
  rw [List.drop_length] at hv
  cases hv
  exact ⟨f, fd, ps, [], F.ok (C8.fnScope_by hs) len (fun cdv A outer s H vs Q E hr h => hbody f cdv A outer s H vs Q E hr h), hm, F.kp, hbd, .nil⟩
theorem rl_fraction {n d : Int} (h : d ≠ 0) (h2 : d.natAbs < 2 ^ 9000) : Rl_fraction [.int n, .int d] (fun e => e = fr (Rat.divInt n d)) := ⟨n, d, rfl, ⟨h, h2⟩, rfl⟩
theorem ok_fraction (B : Bs K mg) : Cl P w K mg base CX0 3 "fraction" (spP Rl_fraction) [] := by
  refine cl_ofD (by simp) (N := ["numerator", "denominator"]) (ps := ["numerator", "denominator"]) B.d_fraction B.g_fraction (by decide +kernel) (fun _ _ _ _ _ _ _ us its hl hl2 => match us, hl, its, hl2 with | [_, _], _, [_], _ => ⟨_, rfl, rfl⟩)
    (len_P len_fraction) fun f cdv A outer s H vs Q E hr h => ?_
  have nd : (["numerator", "denominator"] : List Str).Nodup := by decide +kernel
  refine ⟨_, PSs.nox (pss_cons (ps_if (pt_not (pt_val (pe_cl (ok_whole_number B) hr (by decide) pass0 (pa_cons (pv 0) pa_nil)))) (pss_one ps_never) pss_nil)
  (pss_cons (ps_if (PW.pt (pw_or (pt_not (pt_val (pe_cl (ok_whole_number B) hr (by decide) pass0 (pa_cons (pv 1) pa_nil)))) (pw_or1 (pt_cmpR op_eq (pv 1) pe_int (nomark _))))) (pss_one ps_never) pss_nil)
  (pss_one (ps_ret (pe_cl (ok_lowest B) hr (by decide) pass0 (pa_cons (pv 0) (pa_cons (pv 1) pa_nil))))))), enterP h fun C ds Post hR hrt => ?_⟩
  obtain ⟨n, d, rfl, ⟨h0, h1⟩, rfl⟩ := hR
  show NX C _ [.val (.int n), .val (.int d)]
  refine sq_no (etd_not (etd_B (ed_call (ea_cons (ed_var rfl) ea_nil) (rl_whole_number rfl)))) rfl ?_
  refine sq_no (etd_or (b := false) (etd_not (etd_B (ed_call (ea_cons (ed_var rfl) ea_nil) (rl_whole_number rfl)))) fun _ => (etd_test (ed_eqI (ed_var rfl) ed_int)).is (decide_eq_false h0)) rfl ?_
  exact nx_ret hrt (ed_call (ea_cons (ed_var rfl) (ea_cons (ed_var rfl) ea_nil)) (rl_lowest h0 h1)) rfl
def lineD (r t : Rat) : Dt := .tup [.int (r.num * (t.den : Int)), .int (t.num * (r.den : Int)), .int ((r.den : Int) * (t.den : Int))]
def lineP (p0 p : Rat × Rat) : Dt := lineD (p.1 - p0.1) (p.2 - p0.2)
def Rl_lines_of (K : PySem.W.Frag) : Rel := fun zs0 Pz => ∃ (p0 : Rat × Rat) (l : List (Rat × Rat)), zs0 = [.lst ((p0 :: l).map (cyc K))] ∧ (l.length ≤ 5 ∧ ∀ p ∈ p0 :: l, RowOk p) ∧ Pz = (fun e => e = .lst (l.map (lineP p0)))
theorem len_lines_of {K : PySem.W.Frag} : ∀ ds Post, Rl_lines_of K ds Post → ds.length = 1 := fun _ _ ⟨_, _, e, _⟩ => by rw [e]; rfl
theorem ok_lines_of (B : Bs K mg) : Cl P w K mg base CX0 5 "lines_of" (spP (Rl_lines_of K)) [] := by
  refine cl_of (N := ["cycles", "leader", "lines", "cycle", "rate", "start"]) (ps := ["cycles"]) B.d_lines_of B.g_lines_of (by decide +kernel) (fun _ _ _ _ _ _ us hl => match us, hl with | [_], _ => rfl)
    (len_P len_lines_of) fun f cdv A outer s H vs Q E hr h => ?_
  have nd : (["cycles", "leader", "lines", "cycle", "rate", "start"] : List Str).Nodup := by decide +kernel
  refine ⟨_, PSs.nox (pss_cons (ps_set (i := 1) nd rfl (by first | exact Or.inl rfl | exact Or.inr rfl) (pe_ix ix_list (pv 0) pe_int (fun _ _ => rfl)))
  (pss_cons (ps_set (i := 2) nd rfl (by first | exact Or.inl rfl | exact Or.inr rfl) (pe_lst pa_nil))
  (pss_cons (ps_for PassesOwn.never rfl (pi_list (pe_slice sl_list (pv 0) (po_some pe_int) po_none)) (pg_name (i := 3) nd rfl (by first | exact Or.inl rfl | exact Or.inr rfl)) (pss_cons (ps_set (i := 4) nd rfl (by first | exact Or.inl rfl | exact Or.inr rfl) (pe_cl (ok_minus B) hr (by decide) pass0 (pa_cons (pe_fld (pv 3) rfl) (pa_cons (pe_fld (pv 1) rfl) pa_nil))))
  (pss_cons (ps_set (i := 5) nd rfl (by first | exact Or.inl rfl | exact Or.inr rfl) (pe_cl (ok_minus B) hr (by decide) pass0 (pa_cons (pe_fld (pv 3) rfl) (pa_cons (pe_fld (pv 1) rfl) pa_nil))))
  (pss_one (ps_expr (pe_bm PySem.F.plainAttrs_list PySem.F.slot_list_append PySem.F.type_list_append mt_append (pv 2) (pa_cons (pe_tup (pa_cons (pe_op op_mulW (pe_ix ix_tup (pv 4) pe_int (fun _ _ => rfl)) (pe_ix ix_tup (pv 5) pe_int (fun _ _ => rfl))) (pa_cons (pe_op op_mulW (pe_ix ix_tup (pv 5) pe_int (fun _ _ => rfl)) (pe_ix ix_tup (pv 4) pe_int (fun _ _ => rfl))) (pa_cons (pe_op op_mulW (pe_ix ix_tup (pv 4) pe_int (fun _ _ => rfl)) (pe_ix ix_tup (pv 5) pe_int (fun _ _ => rfl))) pa_nil)))) pa_nil)))))))
  (pss_one (ps_ret (pv 2)))))), enterP h fun C ds Post hR hrt => ?_⟩
  obtain ⟨p0, l, rfl, ⟨hl, hro⟩, rfl⟩ := hR
  have g0 := hro p0 List.mem_cons_self
  have ia0 := g0.br
  have ib0 := g0.bs
  show NX C _ [.val (.lst (cyc K p0 :: l.map (cyc K))), .no, .no, .no, .no, .no]
  refine sq_asg (ed_ixL (ed_var rfl) ed_int atI0) ?_
  refine sq_asgO (eld_lst ea_nil) ?_
  have tl : EvI C (iList K (tSl (rSlL K) (tVar 0) (tPart (tC (.int 1))) tNoPart)) [.val (.lst (cyc K p0 :: l.map (cyc K))), .val (cyc K p0), .own [], .no, .no, .no] (l.map (cyc K)).length (fun i => (l.map (cyc K)).getD i .non) := ei_tail (ed_var rfl)
  refine sq_forE tl (ι := Unit) (fun i _ => [.val (.lst (cyc K p0 :: l.map (cyc K))), .val (cyc K p0), .own ((l.take i).map (lineP p0)), .no, .no, .no]) (fun i _ => True) () trivial (.refl _) (fun C' le i hi _ hst N hN => ⟨_, [3], asg_name, ?_⟩) ?_
  · have hil : i < l.length := by simpa using hi
    rw [getD_map hi]
    have hpl := hro _ (List.mem_cons_of_mem _ (List.getElem_mem hil))
    have tk : l.take (i + 1) = l.take i ++ [l[i]] := (List.take_append_getElem hil).symm
    revert hpl tk
    generalize l[i] = p
    intro hpl tk
    have iap := hpl.br
    have ibp := hpl.bs
    have ir : Bz (p.1 - p0.1) 18 := ⟨hpl.subr g0⟩
    have it : Bz (p.2 - p0.2) 31 := ⟨hpl.subs g0⟩
    refine sq_asg (ed_call (ea_cons (ed_fld (ed_var rfl) B.c_Cycle B.n_rate (k := 0) rfl (fbf (by decide +kernel)) rfl) (ea_cons (ed_fld (ed_var rfl) B.c_Cycle B.n_rate (k := 0) rfl (fbf (by decide +kernel)) rfl) ea_nil)) rl_minus) ?_
    refine sq_asg (ed_call (ea_cons (ed_fld (ed_var rfl) B.c_Cycle B.n_start (k := 1) rfl (fbf (by decide +kernel)) rfl) (ea_cons (ed_fld (ed_var rfl) B.c_Cycle B.n_start (k := 1) rfl (fbf (by decide +kernel)) rfl) ea_nil)) rl_minus) ?_
    refine nx_app (i := 2) rfl (ed_tup (ea_cons (ed_rI (ed_ixT (ed_var rfl) ed_int rfl) (ed_ixT (ed_var rfl) ed_int rfl) (by first | exact .inr ⟨by decide, by decide⟩ | exact mw_nd | exact mw_nn | exact mw_dn | exact mw_dd | assumption)) (ea_cons (ed_rI (ed_ixT (ed_var rfl) ed_int rfl) (ed_ixT (ed_var rfl) ed_int rfl) (by first | exact .inr ⟨by decide, by decide⟩ | exact mw_nd | exact mw_nn | exact mw_dn | exact mw_dd | assumption)) (ea_cons (ed_rI (ed_ixT (ed_var rfl) ed_int rfl) (ed_ixT (ed_var rfl) ed_int rfl) (by first | exact .inr ⟨by decide, by decide⟩ | exact mw_nd | exact mw_nn | exact mw_dn | exact mw_dd | assumption)) ea_nil)))) (by rw [List.length_map, List.length_take]; omega) ?_
    have h3 := hN () trivial
    rw [tk, List.map_append] at h3
    exact h3.wk (.keep (.keep (.keep (.drop (.drop (.drop .nil))))))
  · intro _ _
    refine nx_freeze (i := 2) rfl ?_
    refine nx_ret hrt (ed_var rfl) ?_
    (rw [List.length_map, List.take_length])
def Rl_turns_on : Rel := fun zs0 Pz => ∃ (r t m : Rat) (a b c : Nat), zs0 = [lineD r t, fr m] ∧ (Bd a r ∧ Bd b t ∧ Bd c m ∧ a + b + c ≤ 8000) ∧ Pz = (fun e => e = .tup [.int (lTop r t m), .int (lBot r t m)])
theorem len_turns_on : ∀ ds Post, Rl_turns_on ds Post → ds.length = 2 := fun _ _ ⟨_, _, _, _, _, _, e, _⟩ => by rw [e]; rfl
theorem rl_turns_on {r t m : Rat} {a b c : Nat} [Bz r a] [Bz t b] [Bz m c] (h : a + b + c ≤ 8000 := by omega) : Rl_turns_on [lineD r t, fr m] (fun e => e = .tup [.int (lTop r t m), .int (lBot r t m)]) := ⟨r, t, m, a, b, c, rfl, ⟨bz, bz, bz, h⟩, rfl⟩
theorem ok_turns_on (B : Bs K mg) : Cl P w K mg base CX0 1 "turns_on" (spP Rl_turns_on) [] := by
  refine cl_of (N := ["line", "moment", "slope", "start", "unit"]) (ps := ["line", "moment"]) B.d_turns_on B.g_turns_on (by decide +kernel) (fun _ _ _ _ _ _ us hl => match us, hl with | [_, _], _ => rfl)
    (len_P len_turns_on) fun f cdv A outer s H vs Q E hr h => ?_
  have nd : (["line", "moment", "slope", "start", "unit"] : List Str).Nodup := by decide +kernel
  refine ⟨_, PSs.nox (pss_cons (ps_asg (pv 0) (pg_tup rfl (pgs_cons (pg_name (i := 2) nd rfl (by first | exact Or.inl rfl | exact Or.inr rfl)) (pgs_cons (pg_name (i := 3) nd rfl (by first | exact Or.inl rfl | exact Or.inr rfl)) (pgs_cons (pg_name (i := 4) nd rfl (by first | exact Or.inl rfl | exact Or.inr rfl)) pgs_nil)))))
  (pss_one (ps_ret (pe_tup (pa_cons (pe_op op_add (pe_op op_mulW (pv 2) (pe_ix ix_tup (pv 1) pe_int (fun _ _ => rfl))) (pe_op op_mulW (pv 3) (pe_ix ix_tup (pv 1) pe_int (fun _ _ => rfl)))) (pa_cons (pe_op op_mulW (pv 4) (pe_ix ix_tup (pv 1) pe_int (fun _ _ => rfl))) pa_nil)))))), enterP h fun C ds Post hR hrt => ?_⟩
  obtain ⟨r, t, m, a, b, c, rfl, ⟨hr1, ht, hm, hs⟩, rfl⟩ := hR
  have ra : ((r.den : Int)).natAbs < 2 ^ a := by rw [Int.natAbs_natCast]; exact hr1.2
  have ta : ((t.den : Int)).natAbs < 2 ^ b := by rw [Int.natAbs_natCast]; exact ht.2
  have ma : ((m.den : Int)).natAbs < 2 ^ c := by rw [Int.natAbs_natCast]; exact hm.2
  have p1 := hr1.pos
  have p2 := ht.pos
  have p3 := hm.pos
  have b1 : (r.num * (t.den : Int)).natAbs < 2 ^ (a + b) := by rw [Int.natAbs_mul]; exact mul_lt_pow hr1.1 ta
  have b2 : (t.num * (r.den : Int)).natAbs < 2 ^ (b + a) := by rw [Int.natAbs_mul]; exact mul_lt_pow ht.1 ra
  have b3 : ((r.den : Int) * (t.den : Int)).natAbs < 2 ^ (a + b) := by rw [Int.natAbs_mul]; exact mul_lt_pow ra ta
  show NX C _ [.val (lineD r t), .val (fr m), .no, .no, .no]
  refine sq_asg3 (ed_var rfl) ?_
  exact nx_ret hrt (ed_tup (ea_cons (ed_rI0 (ed_rI (ed_var rfl) (ed_ixT (ed_var rfl) ed_int rfl) (mw_ii b1 hm.1 (by omega) p3 (by omega))) (ed_rI (ed_var rfl) (ed_ixT (ed_var rfl) ed_int rfl) (mw_ii b2 ma (by omega) p3 (by omega)))) (ea_cons (ed_rI (ed_var rfl) (ed_ixT (ed_var rfl) ed_int rfl) (mw_ii b3 ma (by omega) p3 (by omega))) ea_nil))) rfl
def Rl_is_within : Rel := fun zs0 Pz => ∃ (x k y : Int) (n : Nat), zs0 = [.tup [.int x, .int y], .int k, fr 0] ∧ (x.natAbs < 2 ^ n ∧ k.natAbs < 2 ^ n ∧ y.natAbs < 2 ^ n ∧ 0 < n ∧ n ≤ 20000) ∧ Pz = (fun e => e = .bl (decide (((x - k * y).natAbs : Int) * 1 ≤ 0 * y)))
theorem len_is_within : ∀ ds Post, Rl_is_within ds Post → ds.length = 3 := fun _ _ ⟨_, _, _, _, e, _⟩ => by rw [e]; rfl
theorem ok_is_within (B : Bs K mg) : Cl P w K mg base CX0 1 "is_within" (spP Rl_is_within) [] := by
  refine cl_of (N := ["turns", "whole", "width", "top", "bottom"]) (ps := ["turns", "whole", "width"]) B.d_is_within B.g_is_within (by decide +kernel) (fun _ _ _ _ _ _ us hl => match us, hl with | [_, _, _], _ => rfl)
    (len_P len_is_within) fun f cdv A outer s H vs Q E hr h => ?_
  have nd : (["turns", "whole", "width", "top", "bottom"] : List Str).Nodup := by decide +kernel
  refine ⟨_, PSs.nox (pss_cons (ps_asg (pv 0) (pg_tup rfl (pgs_cons (pg_name (i := 3) nd rfl (by first | exact Or.inl rfl | exact Or.inr rfl)) (pgs_cons (pg_name (i := 4) nd rfl (by first | exact Or.inl rfl | exact Or.inr rfl)) pgs_nil))))
  (pss_one (ps_ret (pe_cmpR op_le (pe_op op_mulW (pe_callB call_abs (by rfl) B.z_abs (by decide +kernel) (pa_cons (pe_op op_sub (pv 3) (pe_op op_mulW (pv 1) (pv 4))) pa_nil)) (pe_ix ix_tup (pv 2) pe_int (fun _ _ => rfl))) (pe_op op_mulW (pe_ix ix_tup (pv 2) pe_int (fun _ _ => rfl)) (pv 4)) (nomark _))))), enterP h fun C ds Post hR hrt => ?_⟩
  obtain ⟨x, k, y, n, rfl, ⟨h1, h2, h3, h0, hn⟩, rfl⟩ := hR
  show NX C _ [.val (.tup [.int x, .int y]), .val (.int k), .val (fr 0), .no, .no]
  refine sq_asg2 (ed_var rfl) ?_
  have c0 : CMulW k y := mw_ii h2 h3 h0 h0 (by omega)
  have sz : (x - k * y).natAbs < 2 ^ (n + n + 1) := by
    rw [Int.sub_eq_add_neg]
    refine Nat.lt_of_le_of_lt (Int.natAbs_add_le _ _) (add_lt_pow (lt_two_pow h1 (by omega)) ?_)
    rw [Int.natAbs_neg, Int.natAbs_mul]
    exact mul_lt_pow h2 h3
  exact nx_ret hrt (ed_cmp (ed_rI (ed_abs (ed_rI0 (ed_var rfl) (ed_rI (ed_var rfl) (ed_var rfl) c0))) (ed_ixT (ds := [.int 0, .int 1]) (ed_var rfl) ed_int rfl) (mw_ii (m := 1) (by rw [Int.natAbs_natCast]; exact sz) (by decide) (by omega) (by decide) (by omega))) (ed_rI (ed_ixT (ds := [.int 0, .int 1]) (ed_var rfl) ed_int rfl) (ed_var rfl) (mw_ii (n := 1) (by decide) h3 (by decide) h0 (by omega)))) rfl
def Rl_whole_near : Rel := fun zs0 Pz => ∃ (x y : Int) (n : Nat), zs0 = [.tup [.int x, .int y]] ∧ (0 < y ∧ y.natAbs < 2 ^ n ∧ n ≤ 8000) ∧ Pz = (fun e => e = .int ((2 * x + y) / (2 * y)))
theorem len_whole_near : ∀ ds Post, Rl_whole_near ds Post → ds.length = 1 := fun _ _ ⟨_, _, _, e, _⟩ => by rw [e]; rfl
theorem ok_whole_near (B : Bs K mg) : Cl P w K mg base CX0 1 "whole_near" (spP Rl_whole_near) [] := by
  refine cl_of (N := ["turns", "top", "bottom"]) (ps := ["turns"]) B.d_whole_near B.g_whole_near (by decide +kernel) (fun _ _ _ _ _ _ us hl => match us, hl with | [_], _ => rfl)
    (len_P len_whole_near) fun f cdv A outer s H vs Q E hr h => ?_
  have nd : (["turns", "top", "bottom"] : List Str).Nodup := by decide +kernel
  refine ⟨_, PSs.nox (pss_cons (ps_asg (pv 0) (pg_tup rfl (pgs_cons (pg_name (i := 1) nd rfl (by first | exact Or.inl rfl | exact Or.inr rfl)) (pgs_cons (pg_name (i := 2) nd rfl (by first | exact Or.inl rfl | exact Or.inr rfl)) pgs_nil))))
  (pss_one (ps_ret (pe_op op_fdivZ (pe_op op_add (pe_op op_mul pe_int (pv 1)) (pv 2)) (pe_op op_mul pe_int (pv 2)))))), enterP h fun C ds Post hR hrt => ?_⟩
  obtain ⟨x, y, n, rfl, ⟨h0, h1, hn⟩, rfl⟩ := hR
  show NX C _ [.val (.tup [.int x, .int y]), .no, .no]
  refine sq_asg2 (ed_var rfl) ?_
  have h2 : (2 * y).natAbs < 2 ^ (2 + n) := by
    rw [Int.natAbs_mul]
    exact mul_lt_pow (by decide) h1
  refine nx_ret hrt (ed_rI (ed_rI0 (ed_rI ed_int (ed_var rfl) (.inl ⟨by decide, by decide⟩)) (ed_var rfl)) (ed_rI ed_int (ed_var rfl) (.inl ⟨by decide, by decide⟩)) (dv_int (by omega) h2 (by omega))) ?_
  rw [Int.fdiv_eq_ediv_of_nonneg _ (by omega)]
theorem rl_is_within {x k y : Int} {n : Nat} (h : x.natAbs < 2 ^ n ∧ k.natAbs < 2 ^ n ∧ y.natAbs < 2 ^ n ∧ 0 < n ∧ n ≤ 20000) : Rl_is_within [.tup [.int x, .int y], .int k, fr 0] (fun e => e = .bl (decide (((x - k * y).natAbs : Int) * 1 ≤ 0 * y))) := ⟨x, k, y, n, rfl, h, rfl⟩
theorem rl_whole_near {x y : Int} {n : Nat} (h : 0 < y ∧ y.natAbs < 2 ^ n ∧ n ≤ 8000) : Rl_whole_near [.tup [.int x, .int y]] (fun e => e = .int ((2 * x + y) / (2 * y))) := ⟨x, y, n, rfl, h, rfl⟩
def Rl_line_is_near : Rel := fun zs0 Pz => ∃ (r t m : Rat) (a b c : Nat), zs0 = [lineD r t, fr m, fr 0] ∧ (Bd a r ∧ Bd b t ∧ Bd c m ∧ a + b + c ≤ 7000) ∧ Pz = (fun e => e = .bl (decide ((r * m + t).den = 1)))
theorem len_line_is_near : ∀ ds Post, Rl_line_is_near ds Post → ds.length = 3 := fun _ _ ⟨_, _, _, _, _, _, e, _⟩ => by rw [e]; rfl
theorem rl_line_is_near {r t m : Rat} {a b c : Nat} [Bz r a] [Bz t b] [Bz m c] (h : a + b + c ≤ 7000 := by omega) : Rl_line_is_near [lineD r t, fr m, fr 0] (fun e => e = .bl (decide ((r * m + t).den = 1))) := ⟨r, t, m, a, b, c, rfl, ⟨bz, bz, bz, h⟩, rfl⟩
theorem ok_line_is_near (B : Bs K mg) : Cl P w K mg base CX0 2 "line_is_near" (spP Rl_line_is_near) [] := by
  refine cl_of (N := ["line", "moment", "width", "turns"]) (ps := ["line", "moment", "width"]) B.d_line_is_near B.g_line_is_near (by decide +kernel) (fun _ _ _ _ _ _ us hl => match us, hl with | [_, _, _], _ => rfl)
    (len_P len_line_is_near) fun f cdv A outer s H vs Q E hr h => ?_
  have nd : (["line", "moment", "width", "turns"] : List Str).Nodup := by decide +kernel
  refine ⟨_, PSs.nox (pss_cons (ps_set (i := 3) nd rfl (by first | exact Or.inl rfl | exact Or.inr rfl) (pe_cl (ok_turns_on B) hr (by decide) pass0 (pa_cons (pv 0) (pa_cons (pv 1) pa_nil))))
  (pss_one (ps_ret (pe_cl (ok_is_within B) hr (by decide) pass0 (pa_cons (pv 3) (pa_cons (pe_cl (ok_whole_near B) hr (by decide) pass0 (pa_cons (pv 3) pa_nil)) (pa_cons (pv 2) pa_nil))))))), enterP h fun C ds Post hR hrt => ?_⟩
  obtain ⟨r, t, m, a, b, c, rfl, ⟨hr1, ht, hm, hs⟩, rfl⟩ := hR
  have ir : Bz r a := ⟨hr1⟩
  have it : Bz t b := ⟨ht⟩
  have im : Bz m c := ⟨hm⟩
  show NX C _ [.val (lineD r t), .val (fr m), .val (fr 0), .no]
  refine sq_asg (ed_call (ea_cons (ed_var rfl) (ea_cons (ed_var rfl) ea_nil)) rl_turns_on) ?_
  obtain ⟨z1, z2⟩ := lTop_bd hr1 ht hm
  have hb := lBot_pos r t m
  have p1 := hr1.pos
  refine nx_ret hrt (ed_call (ea_cons (ed_var rfl) (ea_cons (ed_call (ea_cons (ed_var rfl) ea_nil) (rl_whole_near ⟨hb, z2, by omega⟩)) (ea_cons (ed_var rfl) ea_nil))) (rl_is_within (n := a + b + c + 3) ⟨lt_two_pow z1 (by omega), ?_, lt_two_pow z2 (by omega), by omega, by omega⟩)) ?_
  · refine Nat.lt_of_le_of_lt (Int.natAbs_ediv_le_natAbs _ _) (Nat.lt_of_le_of_lt (Int.natAbs_add_le _ _) (add_lt_pow (n := a + b + c + 2) ?_ (lt_two_pow z2 (by omega))))
    rw [Int.natAbs_mul]
    have := mul_lt_pow (a := 2) (n := 2) (by decide) z1
    have h3 : 2 ^ (a + b + c + 2) = 2 * 2 ^ (a + b + c + 1) := by rw [Nat.pow_succ, Nat.mul_comm]
    rw [h3]
    exact Nat.mul_lt_mul_of_pos_left z1 (by decide)
  · refine congrArg Dt.bl (decide_eq_decide.mpr ?_)
    rw [near_whole hb (lTop_eq r t m), whole_den]
theorem mtP_take1 {p0 : Rat × Rat} {l : List (Rat × Rat)} {i : Nat} (hi : i < l.length) {m : Rat} : MtP p0 (l.take (i + 1)) m ↔ MtP p0 (l.take i) m ∧ Whole ((l[i].1 - p0.1) * m + (l[i].2 - p0.2)) := mtP_take hi
def Rl_lines_are_near : Rel := fun zs0 Pz => ∃ (p0 : Rat × Rat) (l : List (Rat × Rat)) (m : Rat) (n : Nat), zs0 = [.lst (l.map (lineP p0)), fr m, fr 0] ∧ ((l.length ≤ 5 ∧ ∀ p ∈ p0 :: l, RowOk p) ∧ Bd n m ∧ n ≤ 2000) ∧ Pz = (fun e => e = .bl (nearB (p0 :: l) m))
theorem len_lines_are_near : ∀ ds Post, Rl_lines_are_near ds Post → ds.length = 3 := fun _ _ ⟨_, _, _, _, e, _⟩ => by rw [e]; rfl
theorem ok_lines_are_near (B : Bs K mg) : Cl P w K mg base CX0 3 "lines_are_near" (spP Rl_lines_are_near) [] := by
  refine cl_of (N := ["lines", "moment", "width", "line"]) (ps := ["lines", "moment", "width"]) B.d_lines_are_near B.g_lines_are_near (by decide +kernel) (fun _ _ _ _ _ _ us hl => match us, hl with | [_, _, _], _ => rfl)
    (len_P len_lines_are_near) fun f cdv A outer s H vs Q E hr h => ?_
  have nd : (["lines", "moment", "width", "line"] : List Str).Nodup := by decide +kernel
  refine ⟨_, PSs.nox (pss_cons (ps_for PassesOwn.never rfl (pi_list (pv 0)) (pg_name (i := 3) nd rfl (by first | exact Or.inl rfl | exact Or.inr rfl)) (pss_one (ps_if (pt_not (pt_val (pe_cl (ok_line_is_near B) hr (by decide) pass0 (pa_cons (pv 3) (pa_cons (pv 1) (pa_cons (pv 2) pa_nil)))))) (pss_one (ps_ret pe_bl)) pss_nil)))
  (pss_one (ps_ret pe_bl))), enterP h fun C ds Post hR hrt => ?_⟩
  obtain ⟨p0, l, m, n, rfl, ⟨⟨hl, hro⟩, hm, hn⟩, rfl⟩ := hR
  have im : Bz m n := ⟨hm⟩
  have g0 := hro p0 List.mem_cons_self
  show NX C _ [.val (.lst (l.map (lineP p0))), .val (fr m), .val (fr 0), .no]
  refine sq_forE (ei_list (ed_var rfl)) (ι := Unit) (fun _ _ => [.val (.lst (l.map (lineP p0))), .val (fr m), .val (fr 0), .no]) (fun i _ => MtP p0 (l.take i) m) () (fun p hp => by simp at hp) (.refl _) (fun C' le i hi st hst N hN => ⟨_, [3], asg_name, ?_⟩) ?_
  · have hrt2 := hrt.up le
    have hil : i < l.length := by simpa using hi
    rw [getD_map hi]
    have gp : RowOk l[i] := hro _ (List.mem_cons_of_mem _ (List.getElem_mem hil))
    have take := mtP_take (p0 := p0) hil (m := m)
    have mtof := mtP_of (p0 := p0) hil (m := m)
    revert take mtof gp
    generalize l[i] = p
    intro gp take mtof
    have ir : Bz (p.1 - p0.1) 18 := ⟨gp.subr g0⟩
    have it : Bz (p.2 - p0.2) 31 := ⟨gp.subs g0⟩
    refine nx_if (etd_not (etd_B (ed_call (ea_cons (ed_var rfl) (ea_cons (ed_var rfl) (ea_cons (ed_var rfl) ea_nil))) rl_line_is_near))) (fun hb => ?_) fun hb => ?_
    · refine nx_ret hrt2 ed_bl ?_
      rw [nearB_false (rows := p0 :: l) (m := m) fun z => ?_]
      have := (mtof z).2
      rw [whole_den] at this
      rw [this] at hb
      simp at hb
    · refine nx_next ((hN () (take.mpr ⟨hst, ?_⟩)).wk (.keep (.keep (.keep (.drop .nil)))))
      rw [whole_den]
      simpa using hb
  · intro _ hst
    have hlen : (l.map (lineP p0)).length = l.length := List.length_map ..
    rw [hlen, List.take_length] at hst
    refine nx_ret hrt ed_bl ?_
    rw [nearB_true (rows := p0 :: l) hst]
end
end Wk
-- D21
namespace Wk
open PySem PySem.Spec
open PyProof.Rows L2
section
variable {P : Program}
variable {w : World} {K : PySem.W.Frag} {mg : Str → Option Value} {base : Heap}
def Rl_need_fraction : Rel := fun zs0 Pz => ∃ (q : Rat) (x : Str), zs0 = [fr q, .str x] ∧ (True) ∧ Pz = (fun e => e = .non)
theorem len_need_fraction : ∀ ds Post, Rl_need_fraction ds Post → ds.length = 2 := fun _ _ ⟨_, _, e, _⟩ => by rw [e]; rfl
theorem ok_need_fraction (B : Bs K mg) : Cl P w K mg base CX0 3 "need_fraction" (spP Rl_need_fraction) [] := by
  refine cl_of (N := ["value", "what"]) (ps := ["value", "what"]) B.d_need_fraction B.g_need_fraction (by decide +kernel) (fun _ _ _ _ _ _ us hl => match us, hl with | [_, _], _ => rfl)
    (len_P len_need_fraction) fun f cdv A outer s H vs Q E hr h => ?_
  have nd : (["value", "what"] : List Str).Nodup := by decide +kernel
  refine ⟨_, PSs.nox (pss_one (ps_if (pt_not (pt_val (pe_cl (ok_is_fraction B) hr (by decide) pass0 (pa_cons (pv 0) pa_nil)))) (pss_one ps_never) pss_nil)), enterP h fun C ds Post hR hrt => ?_⟩
  obtain ⟨q, x, rfl, _, rfl⟩ := hR
  show NX C _ [.val (fr q), .val (.str x)]
  exact nx_no (etd_not (etd_B (ed_call (ea_cons (ed_var rfl) ea_nil) (rl_is_fraction (.fr q))))) rfl (nx_end hrt rfl)
def Rl_check_moment : Rel := fun zs0 Pz => ∃ (q : Rat), zs0 = [fr q] ∧ (True) ∧ Pz = (fun e => e = .non)
theorem len_check_moment : ∀ ds Post, Rl_check_moment ds Post → ds.length = 1 := fun _ _ ⟨_, e, _⟩ => by rw [e]; rfl
theorem ok_check_moment (B : Bs K mg) : Cl P w K mg base CX0 3 "check_moment" (spP Rl_check_moment) [] := by
  refine cl_of (N := ["moment"]) (ps := ["moment"]) B.d_check_moment B.g_check_moment (by decide +kernel) (fun _ _ _ _ _ _ us hl => match us, hl with | [_], _ => rfl)
    (len_P len_check_moment) fun f cdv A outer s H vs Q E hr h => ?_
  have nd : (["moment"] : List Str).Nodup := by decide +kernel
  refine ⟨_, PSs.nox (pss_one (ps_if (pt_not (pt_val (pe_cl (ok_is_fraction B) hr (by decide) pass0 (pa_cons (pv 0) pa_nil)))) (pss_one ps_never) pss_nil)), enterP h fun C ds Post hR hrt => ?_⟩
  obtain ⟨q, rfl, _, rfl⟩ := hR
  show NX C _ [.val (fr q)]
  exact nx_no (etd_not (etd_B (ed_call (ea_cons (ed_var rfl) ea_nil) (rl_is_fraction (.fr q))))) rfl (nx_end hrt rfl)
def Rl_need_span (K : PySem.W.Frag) : Rel := fun zs0 Pz => ∃ (a b : Rat) (x : Str), zs0 = [spn K a b, .str x] ∧ Pz = (fun e => e = .non)
theorem len_need_span {K : PySem.W.Frag} : ∀ ds Post, Rl_need_span K ds Post → ds.length = 2 := fun _ _ ⟨_, _, _, e, _⟩ => by rw [e]; rfl
theorem ok_need_span (B : Bs K mg) : Cl P w K mg base CX0 3 "need_span" (spP (Rl_need_span K)) [] := by
  refine cl_of (N := ["value", "what"]) (ps := ["value", "what"]) B.d_need_span B.g_need_span (by decide +kernel) (fun _ _ _ _ _ _ us hl => match us, hl with | [_, _], _ => rfl)
    (len_P len_need_span) fun f cdv A outer s H vs Q E hr h => ?_
  have nd : (["value", "what"] : List Str).Nodup := by decide +kernel
  refine ⟨_, PSs.nox (pss_one (ps_if (pt_not (pt_val (pe_callB call_isi (by rfl) B.z_isinstance (by decide +kernel) (pa_cons (pv 0) (pa_cons (pe_glob (v := .ref _) rfl B.g_Span rfl) pa_nil))))) (pss_one ps_never) pss_nil)), enterP h fun C ds Post hR hrt => ?_⟩
  obtain ⟨a, b, x, rfl, rfl⟩ := hR
  show NX C _ [.val (spn K a b), .val (.str x)]
  exact nx_no (etd_not (etd_B (ed_isC B.k_Span (ed_var rfl)))) rfl (nx_end hrt rfl)
def Rl_check_span (K : PySem.W.Frag) : Rel := fun zs0 Pz => ∃ (a b : Rat), zs0 = [spn K a b] ∧ Pz = (fun e => e = .non)
theorem len_check_span {K : PySem.W.Frag} : ∀ ds Post, Rl_check_span K ds Post → ds.length = 1 := fun _ _ ⟨_, _, e, _⟩ => by rw [e]; rfl
theorem ok_check_span (B : Bs K mg) : Cl P w K mg base CX0 3 "check_span" (spP (Rl_check_span K)) [] := by
  refine cl_of (N := ["span"]) (ps := ["span"]) B.d_check_span B.g_check_span (by decide +kernel) (fun _ _ _ _ _ _ us hl => match us, hl with | [_], _ => rfl)
    (len_P len_check_span) fun f cdv A outer s H vs Q E hr h => ?_
  have nd : (["span"] : List Str).Nodup := by decide +kernel
  refine ⟨_, PSs.nox (pss_one (ps_if (pt_not (pt_val (pe_callB call_isi (by rfl) B.z_isinstance (by decide +kernel) (pa_cons (pv 0) (pa_cons (pe_glob (v := .ref _) rfl B.g_Span rfl) pa_nil))))) (pss_one ps_never) pss_nil)), enterP h fun C ds Post hR hrt => ?_⟩
  obtain ⟨a, b, rfl, rfl⟩ := hR
  show NX C _ [.val (spn K a b)]
  exact nx_no (etd_not (etd_B (ed_isC B.k_Span (ed_var rfl)))) rfl (nx_end hrt rfl)
def Rl_next_step : Rel := fun zs0 Pz => ∃ (f s m : Rat) (n k : Nat), zs0 = [fr f, fr s, fr m] ∧ (s ≠ 0 ∧ Bd n f ∧ Bd n s ∧ Bd k m ∧ 4 * n + k ≤ 8000) ∧ Pz = (fun e => e = fr (f + s * ((numLo f s m : Int) : Rat)))
theorem len_next_step : ∀ ds Post, Rl_next_step ds Post → ds.length = 3 := fun _ _ ⟨_, _, _, _, _, e, _⟩ => by rw [e]; rfl
theorem rl_next_step {f s m : Rat} {n k : Nat} [Bz f n] [Bz s n] [Bz m k] (h0 : s ≠ 0) (h : 4 * n + k ≤ 8000 := by omega) : Rl_next_step [fr f, fr s, fr m] (fun e => e = fr (f + s * ((numLo f s m : Int) : Rat))) := ⟨f, s, m, n, k, rfl, ⟨h0, bz, bz, bz, h⟩, rfl⟩
theorem ok_next_step (B : Bs K mg) : Cl P w K mg base CX0 5 "next_step" (spP Rl_next_step) [] := by
  refine cl_of (N := ["first", "interval", "moment", "steps"]) (ps := ["first", "interval", "moment"]) B.d_next_step B.g_next_step (by decide +kernel) (fun _ _ _ _ _ _ us hl => match us, hl with | [_, _, _], _ => rfl)
    (len_P len_next_step) fun f cdv A outer s H vs Q E hr h => ?_
  have nd : (["first", "interval", "moment", "steps"] : List Str).Nodup := by decide +kernel
  refine ⟨_, PSs.nox (pss_cons (ps_set (i := 3) nd rfl (by first | exact Or.inl rfl | exact Or.inr rfl) (pe_un un_neg (pe_cl (ok_floor_of B) hr (by decide) pass0 (pa_cons (pe_cl (ok_over B) hr (by decide) pass0 (pa_cons (pe_cl (ok_minus B) hr (by decide) pass0 (pa_cons (pv 0) (pa_cons (pv 2) pa_nil))) (pa_cons (pv 1) pa_nil))) pa_nil))))
  (pss_one (ps_ret (pe_cl (ok_plus B) hr (by decide) pass0 (pa_cons (pv 0) (pa_cons (pe_cl (ok_times B) hr (by decide) pass0 (pa_cons (pe_tup (pa_cons (pv 3) (pa_cons pe_int pa_nil))) (pa_cons (pv 1) pa_nil))) pa_nil)))))), enterP h fun C ds Post hR hrt => ?_⟩
  obtain ⟨f, s, m, n, k, rfl, ⟨h0, h1, h2, h3, hs⟩, rfl⟩ := hR
  have i1 : Bz f n := ⟨h1⟩
  have i2 : Bz s n := ⟨h2⟩
  have i3 : Bz m k := ⟨h3⟩
  show NX C _ [.val (fr f), .val (fr s), .val (fr m), .no]
  have e : (f - m) / s = -((m - f) / s) := by rw [Rat.div_def, Rat.div_def]; grind
  have i4 : Bz ((-((f - m) / s).floor : Int) : Rat) (n + k + 1 + n) := ⟨by
    rw [Rat.intCast_neg]
    exact (bz (q := (((f - m) / s).floor : Rat))).neg⟩
  refine sq_asg (ed_neg (ed_call (ea_cons (ed_call (ea_cons (ed_call (ea_cons (ed_var rfl) (ea_cons (ed_var rfl) ea_nil)) rl_minus) (ea_cons (ed_var rfl) ea_nil)) (rl_over h0)) ea_nil) rl_floor)) ?_
  refine nx_ret hrt (ed_call (ea_cons (ed_var rfl) (ea_cons (ed_call (ea_cons (EvN.is (ed_tup (ea_cons (ed_var rfl) (ea_cons ed_int ea_nil))) (fr_int _)) (ea_cons (ed_var rfl) ea_nil)) rl_times) ea_nil)) rl_plus) ?_
  unfold numLo
  rw [e, Rat.mul_comm]
def firstD : Rule → Rat → Dt
  | none, _ => .non
  | some (_, none), m => fr m
  | some (f, some s), m => fr (f + s * ((numLo f s m : Int) : Rat))
def Rl_next_meeting (K : PySem.W.Frag) : Rel := fun zs0 Pz => ∃ (rows : List (Rat × Rat)) (m : Rat), zs0 = [.lst (rows.map (cyc K)), fr m] ∧ (RowsOk rows ∧ Bd 2000 m) ∧ Pz = (fun e => ∃ r, IsRule rows r ∧ e = firstD r m)
theorem len_next_meeting {K : PySem.W.Frag} : ∀ ds Post, Rl_next_meeting K ds Post → ds.length = 2 := fun _ _ ⟨_, _, e, _⟩ => by rw [e]; rfl
theorem ok_next_meeting (B : Bs K mg) : Cl P w K mg base CX0 8 "next_meeting" (spP (Rl_next_meeting K)) [] := by
  refine cl_of (N := ["cycles", "moment", "rule"]) (ps := ["cycles", "moment"]) B.d_next_meeting B.g_next_meeting (by decide +kernel) (fun _ _ _ _ _ _ us hl => match us, hl with | [_, _], _ => rfl)
    (len_P len_next_meeting) fun f cdv A outer s H vs Q E hr h => ?_
  have nd : (["cycles", "moment", "rule"] : List Str).Nodup := by decide +kernel
  refine ⟨_, PSs.nox (pss_cons (ps_expr (pe_cl (ok_need_cycles B) hr (by decide) pass0 (pa_cons (pv 0) pa_nil)))
  (pss_cons (ps_expr (pe_cl (ok_need_fraction B) hr (by decide) pass0 (pa_cons (pv 1) (pa_cons pe_str pa_nil))))
  (pss_cons (ps_set (i := 2) nd rfl (by first | exact Or.inl rfl | exact Or.inr rfl) (pe_cl (ok_meeting_rule B) hr (by decide) pass0 (pa_cons (pv 0) pa_nil)))
  (pss_cons (ps_if (pt_cmpR op_isN (pv 2) pe_non (nomark _)) (pss_one (ps_ret pe_non)) pss_nil)
  (pss_cons (ps_if (pt_cmpR op_isN (pe_ix ix_tup (pv 2) pe_int (fun _ _ => rfl)) pe_non (nomark _)) (pss_one (ps_ret (pv 1))) pss_nil)
  (pss_one (ps_ret (pe_cl (ok_next_step B) hr (by decide) pass0 (pa_cons (pe_ix ix_tup (pv 2) pe_int (fun _ _ => rfl)) (pa_cons (pe_ix ix_tup (pv 2) pe_int (fun _ _ => rfl)) (pa_cons (pv 1) pa_nil))))))))))), enterP h fun C ds Post hR hrt => ?_⟩
  obtain ⟨rows, m, rfl, ⟨hok, hm⟩, rfl⟩ := hR
  have im : Bz m 2000 := ⟨hm⟩
  show NX C _ [.val (.lst (rows.map (cyc K))), .val (fr m), .no]
  refine sq_drop (en_callD (ea_cons (ed_var rfl) ea_nil) (rl_need_cycles ⟨hok.1, hok.2.1⟩)) ?_
  refine sq_drop (en_callD (ea_cons (ed_var rfl) (ea_cons ed_str ea_nil)) ⟨m, _, rfl, trivial, rfl⟩) ?_
  refine sq_asgN (R := fun e => ∃ r, e = ruleD r ∧ IsRule rows r) (en_callD (ea_cons (ed_var rfl) ea_nil) ⟨rows, rfl, hok, rfl⟩) ?_
  rintro d ⟨r, rfl, hr1⟩
  have hr2 := hr1.ok hok.2.2
  rcases r with _ | ⟨f, _ | s⟩
  · exact sq_yes (etd_test (ed_isN (ed_var rfl))) rfl (nx_ret hrt ed_non ⟨_, hr1, rfl⟩)
  · refine sq_no (etd_test (ed_isN (ed_var rfl))) rfl ?_
    exact sq_yes (etd_test (ed_isN (ed_ixT (ds := [fr f, .non]) (ed_var rfl) ed_int rfl))) rfl (nx_ret hrt (ed_var rfl) ⟨_, hr1, rfl⟩)
  · obtain ⟨s0, h8, bf, bs, f0, f1, s1⟩ := hr2
    have if_ : Bz f 70 := ⟨bf⟩
    have is : Bz s 70 := ⟨bs⟩
    have sne : s ≠ 0 := fun z => by rw [z] at s0; exact Rat.lt_irrefl s0
    refine sq_no (etd_test (ed_isN (ed_var rfl))) rfl ?_
    refine sq_no (etd_test (ed_isN (ed_ixT (ds := [fr f, fr s]) (ed_var rfl) ed_int rfl))) rfl ?_
    exact nx_ret hrt (ed_call (ea_cons (ed_ixT (ds := [fr f, fr s]) (ed_var rfl) ed_int rfl) (ea_cons (ed_ixT (ds := [fr f, fr s]) (ed_var rfl) ed_int rfl) (ea_cons (ed_var rfl) ea_nil))) (rl_next_step sne)) ⟨_, hr1, rfl⟩
def turnD (r t m : Rat) : Dt := .tup [.int (lTop r t m), .int (lBot r t m)]
def loM (r a b : Rat) : Rat := if 0 < r then a else b
def hiM (r a b : Rat) : Rat := if 0 < r then b else a
def Rl_turned_bounds : Rel := fun zs0 Pz => ∃ (r t a b : Rat) (n m k : Nat), zs0 = [lineD r t, fr a, fr b] ∧ (Bd n r ∧ Bd m t ∧ Bd k a ∧ Bd k b ∧ n + m + k ≤ 8000) ∧ Pz = (fun e => e = .tup [turnD r t (loM r a b), turnD r t (hiM r a b)])
theorem len_turned_bounds : ∀ ds Post, Rl_turned_bounds ds Post → ds.length = 3 := fun _ _ ⟨_, _, _, _, _, _, _, e, _⟩ => by rw [e]; rfl
theorem slope_pos {r t : Rat} : 0 < r.num * (t.den : Int) ↔ 0 < r := by
  have hd : (0 : Int) < (t.den : Int) := by have := t.den_pos; omega
  have h0 : 0 < r ↔ 0 < r.num := by
    constructor
    · intro h
      have h1 : 0 ≤ r.num := Rat.num_nonneg.mpr (Rat.le_of_lt h)
      have h2 : r.num ≠ 0 := fun z => by rw [Rat.num_eq_zero.mp z] at h; exact Rat.lt_irrefl h
      omega
    · intro h
      have h1 : 0 ≤ r := Rat.num_nonneg.mp (by omega)
      exact Rat.lt_of_le_of_ne h1 fun z => by rw [← z] at h; exact absurd h (by decide)
  rw [h0]
  constructor
  · intro h
    exact Classical.byContradiction fun z => by
      have : r.num * (t.den : Int) ≤ 0 := Int.mul_nonpos_of_nonpos_of_nonneg (by omega) (by omega)
      omega
  · intro h
    exact Int.mul_pos h hd
theorem ok_turned_bounds (B : Bs K mg) : Cl P w K mg base CX0 2 "turned_bounds" (spP Rl_turned_bounds) [] := by
  refine cl_of (N := ["line", "first", "last"]) (ps := ["line", "first", "last"]) B.d_turned_bounds B.g_turned_bounds (by decide +kernel) (fun _ _ _ _ _ _ us hl => match us, hl with | [_, _, _], _ => rfl)
    (len_P len_turned_bounds) fun f cdv A outer s H vs Q E hr h => ?_
  have nd : (["line", "first", "last"] : List Str).Nodup := by decide +kernel
  refine ⟨_, PSs.nox (pss_cons (ps_if (pt_cmpR op_gt (pe_ix ix_tup (pv 0) pe_int (fun _ _ => rfl)) pe_int (nomark _)) (pss_one (ps_ret (pe_tup (pa_cons (pe_cl (ok_turns_on B) hr (by decide) pass0 (pa_cons (pv 0) (pa_cons (pv 1) pa_nil))) (pa_cons (pe_cl (ok_turns_on B) hr (by decide) pass0 (pa_cons (pv 0) (pa_cons (pv 2) pa_nil))) pa_nil))))) pss_nil)
  (pss_one (ps_ret (pe_tup (pa_cons (pe_cl (ok_turns_on B) hr (by decide) pass0 (pa_cons (pv 0) (pa_cons (pv 2) pa_nil))) (pa_cons (pe_cl (ok_turns_on B) hr (by decide) pass0 (pa_cons (pv 0) (pa_cons (pv 1) pa_nil))) pa_nil)))))), enterP h fun C ds Post hR hrt => ?_⟩
  obtain ⟨r, t, a, b, n, m, k, rfl, ⟨h1, h2, h3, h4, hs⟩, rfl⟩ := hR
  have i1 : Bz r n := ⟨h1⟩
  have i2 : Bz t m := ⟨h2⟩
  have i3 : Bz a k := ⟨h3⟩
  have i4 : Bz b k := ⟨h4⟩
  show NX C _ [.val (lineD r t), .val (fr a), .val (fr b)]
  refine sq_when (etd_test (ed_cmp (ed_ixT (ds := [.int (r.num * (t.den : Int)), .int (t.num * (r.den : Int)), .int ((r.den : Int) * (t.den : Int))]) (ed_var rfl) ed_int rfl) ed_int)) (fun hb => ?_) fun hb => ?_
  · have hp := slope_pos.mp (of_decide_eq_true hb)
    refine nx_ret hrt (ed_tup (ea_cons (ed_call (ea_cons (ed_var rfl) (ea_cons (ed_var rfl) ea_nil)) rl_turns_on) (ea_cons (ed_call (ea_cons (ed_var rfl) (ea_cons (ed_var rfl) ea_nil)) rl_turns_on) ea_nil))) ?_
    unfold loM hiM
    rw [if_pos hp, if_pos hp] <;> rfl
  · have hp : ¬ 0 < r := fun z => (of_decide_eq_false hb) (slope_pos.mpr z)
    refine nx_ret hrt (ed_tup (ea_cons (ed_call (ea_cons (ed_var rfl) (ea_cons (ed_var rfl) ea_nil)) rl_turns_on) (ea_cons (ed_call (ea_cons (ed_var rfl) (ea_cons (ed_var rfl) ea_nil)) rl_turns_on) ea_nil))) ?_
    unfold loM hiM
    rw [if_neg hp, if_neg hp] <;> rfl
def Rl_wholes_met (K : PySem.W.Frag) : Rel := fun zs0 Pz => ∃ (r t a b : Rat) (n : Nat), zs0 = [lineD r t, spn K a b, fr 0] ∧ (Bd 18 r ∧ Bd 31 t ∧ Bd n a ∧ Bd n b ∧ n ≤ 2000) ∧ Pz = (fun e => e = .tup [.int (cei (r * loM r a b + t)), .int ((r * hiM r a b + t).floor)])
theorem len_wholes_met {K : PySem.W.Frag} : ∀ ds Post, Rl_wholes_met K ds Post → ds.length = 3 := fun _ _ ⟨_, _, _, _, _, e, _⟩ => by rw [e]; rfl
theorem ok_wholes_met (B : Bs K mg) : Cl P w K mg base CX0 3 "wholes_met" (spP (Rl_wholes_met K)) [] := by
  refine cl_of (N := ["line", "span", "width", "low", "high", "part", "unit", "least", "most"]) (ps := ["line", "span", "width"]) B.d_wholes_met B.g_wholes_met (by decide +kernel) (fun _ _ _ _ _ _ us hl => match us, hl with | [_, _, _], _ => rfl)
    (len_P len_wholes_met) fun f cdv A outer s H vs Q E hr h => ?_
  have nd : (["line", "span", "width", "low", "high", "part", "unit", "least", "most"] : List Str).Nodup := by decide +kernel
  refine ⟨_, PSs.nox (pss_cons (ps_asg (pe_cl (ok_turned_bounds B) hr (by decide) pass0 (pa_cons (pv 0) (pa_cons (pe_fld (pv 1) rfl) (pa_cons (pe_fld (pv 1) rfl) pa_nil)))) (pg_tup rfl (pgs_cons (pg_name (i := 3) nd rfl (by first | exact Or.inl rfl | exact Or.inr rfl)) (pgs_cons (pg_name (i := 4) nd rfl (by first | exact Or.inl rfl | exact Or.inr rfl)) pgs_nil))))
  (pss_cons (ps_asg (pv 2) (pg_tup rfl (pgs_cons (pg_name (i := 5) nd rfl (by first | exact Or.inl rfl | exact Or.inr rfl)) (pgs_cons (pg_name (i := 6) nd rfl (by first | exact Or.inl rfl | exact Or.inr rfl)) pgs_nil))))
  (pss_cons (ps_set (i := 7) nd rfl (by first | exact Or.inl rfl | exact Or.inr rfl) (pe_un un_neg (pe_op op_fdivZ (pe_op op_sub (pe_op op_mulW (pv 5) (pe_ix ix_tup (pv 3) pe_int (fun _ _ => rfl))) (pe_op op_mulW (pe_ix ix_tup (pv 3) pe_int (fun _ _ => rfl)) (pv 6))) (pe_op op_mulW (pe_ix ix_tup (pv 3) pe_int (fun _ _ => rfl)) (pv 6)))))
  (pss_cons (ps_set (i := 8) nd rfl (by first | exact Or.inl rfl | exact Or.inr rfl) (pe_op op_fdivZ (pe_op op_add (pe_op op_mulW (pe_ix ix_tup (pv 4) pe_int (fun _ _ => rfl)) (pv 6)) (pe_op op_mulW (pv 5) (pe_ix ix_tup (pv 4) pe_int (fun _ _ => rfl)))) (pe_op op_mulW (pe_ix ix_tup (pv 4) pe_int (fun _ _ => rfl)) (pv 6))))
  (pss_one (ps_ret (pe_tup (pa_cons (pv 7) (pa_cons (pv 8) pa_nil))))))))), enterP h fun C ds Post hR hrt => ?_⟩
  obtain ⟨r, t, a, b, n, rfl, ⟨h1, h2, h3, h4, hs⟩, rfl⟩ := hR
  have i1 : Bz r 18 := ⟨h1⟩
  have i2 : Bz t 31 := ⟨h2⟩
  have i3 : Bz a n := ⟨h3⟩
  have i4 : Bz b n := ⟨h4⟩
  show NX C _ [.val (lineD r t), .val (spn K a b), .val (fr 0), .no, .no, .no, .no, .no, .no]
  refine sq_asg2 (d1 := turnD r t (loM r a b)) (d2 := turnD r t (hiM r a b)) (ed_call (ea_cons (ed_var rfl) (ea_cons (ed_fld (ed_var rfl) B.c_Span B.n_first (k := 0) rfl (fbf (by decide +kernel)) rfl) (ea_cons (ed_fld (ed_var rfl) B.c_Span B.n_last (k := 1) rfl (fbf (by decide +kernel)) rfl) ea_nil))) ⟨r, t, a, b, 18, 31, n, rfl, ⟨h1, h2, h3, h4, by omega⟩, rfl⟩) ?_
  have hlo : Bd n (loM r a b) := by unfold loM; split <;> assumption
  have hhi : Bd n (hiM r a b) := by unfold hiM; split <;> assumption
  obtain ⟨l1, l2⟩ := lTop_bd h1 h2 hlo
  obtain ⟨g1, g2⟩ := lTop_bd h1 h2 hhi
  have lb := lBot_pos r t (loM r a b)
  have gb := lBot_pos r t (hiM r a b)
  have le1 := lTop_eq r t (loM r a b)
  have ge1 := lTop_eq r t (hiM r a b)
  unfold turnD
  revert l1 l2 g1 g2 lb gb le1 ge1
  generalize lTop r t (loM r a b) = x1
  generalize lBot r t (loM r a b) = y1
  generalize lTop r t (hiM r a b) = x2
  generalize lBot r t (hiM r a b) = y2
  intro l1 l2 g1 g2 lb gb le1 ge1
  refine sq_asg2 (d1 := .int 0) (d2 := .int 1) (ed_var rfl) ?_
  have m1 : ∀ {i : Int}, i.natAbs < 2 ^ (18 + 31 + n + 1) → CMulW 0 i := fun h => mw_ii (n := 1) (by decide) h (by decide) (by omega) (by omega)
  have m2 : ∀ {i : Int}, i.natAbs < 2 ^ (18 + 31 + n + 1) → CMulW i 1 := fun h => mw_ii (m := 1) h (by decide) (by omega) (by decide) (by omega)
  have y1s : y1.natAbs < 2 ^ (18 + 31 + n + 1) := lt_two_pow l2 (by omega)
  have y2s : y2.natAbs < 2 ^ (18 + 31 + n + 1) := lt_two_pow g2 (by omega)
  refine sq_asg (ed_neg (ed_rI (ed_rI0 (ed_rI (ed_var rfl) (ed_ixT (ds := [.int x1, .int y1]) (ed_var rfl) ed_int rfl) (m1 y1s)) (ed_rI (ed_ixT (ds := [.int x1, .int y1]) (ed_var rfl) ed_int rfl) (ed_var rfl) (m2 l1))) (ed_rI (ed_ixT (ds := [.int x1, .int y1]) (ed_var rfl) ed_int rfl) (ed_var rfl) (m2 y1s)) (dv_int (n := 18 + 31 + n + 1) (by omega) (by rw [Int.mul_one]; exact y1s) (by omega)))) ?_
  refine sq_asg (ed_rI (ed_rI0 (ed_rI (ed_ixT (ds := [.int x2, .int y2]) (ed_var rfl) ed_int rfl) (ed_var rfl) (m2 g1)) (ed_rI (ed_var rfl) (ed_ixT (ds := [.int x2, .int y2]) (ed_var rfl) ed_int rfl) (m1 y2s))) (ed_rI (ed_ixT (ds := [.int x2, .int y2]) (ed_var rfl) ed_int rfl) (ed_var rfl) (m2 y2s)) (dv_int (n := 18 + 31 + n + 1) (by omega) (by rw [Int.mul_one]; exact y2s) (by omega))) ?_
  refine nx_ret hrt (ed_tup (ea_cons (ed_var rfl) (ea_cons (ed_var rfl) ea_nil))) ?_
  have q1 : (0 * y1 - x1 * 1).fdiv (y1 * 1) = (-(r * loM r a b + t)).floor := by
    rw [Int.mul_one, Int.mul_one, Int.zero_mul, Int.zero_sub, Int.fdiv_eq_ediv_of_nonneg _ (by omega)]
    refine ediv_floor lb ?_
    rw [Rat.intCast_neg, le1]
    grind
  have q2 : (x2 * 1 + 0 * y2).fdiv (y2 * 1) = (r * hiM r a b + t).floor := by
    rw [Int.mul_one, Int.mul_one, Int.zero_mul, Int.add_zero, Int.fdiv_eq_ediv_of_nonneg _ (by omega)]
    exact ediv_floor gb ge1
  rw [q1, q2] <;> rfl
end
end Wk
-- M6
namespace Wk
abbrev Rows := List (Rat × Rat)
def cut1 (x y : Rat × Rat) (e : Rat) : Rows := if e < (if x.1 < y.1 then y.1 else x.1) then [] else [(if x.1 < y.1 then y.1 else x.1, e)]
def com : Rows → Rows → Rows
  | [], _ => []
  | _ :: _, [] => []
  | x :: L, y :: R => if y.2 < x.2 then cut1 x y y.2 ++ com (x :: L) R else cut1 x y x.2 ++ com L (y :: R)
termination_by l r => l.length + r.length
theorem com_nil (R : Rows) : com [] R = [] := by rw [com]
theorem com_nil2 (L : Rows) : com L [] = [] := by
  cases L with
  | nil => rw [com]
  | cons x L => rw [com]
theorem com_cons (x y : Rat × Rat) (L R : Rows) : com (x :: L) (y :: R) = if y.2 < x.2 then cut1 x y y.2 ++ com (x :: L) R else cut1 x y x.2 ++ com L (y :: R) := by rw [com]
theorem cut1_len (x y : Rat × Rat) (e : Rat) : (cut1 x y e).length ≤ 1 := by
  unfold cut1
  generalize (if x.1 < y.1 then y.1 else x.1) = f
  by_cases h : e < f
  · rw [if_pos h]
    exact Nat.zero_le _
  · rw [if_neg h]
    exact Nat.le_refl _
theorem cut1_P {P : Rat → Prop} {x y : Rat × Rat} {e : Rat} (h1 : P x.1) (h2 : P y.1) (h3 : P e) : ∀ z ∈ cut1 x y e, P z.1 ∧ P z.2 := fun z hz => by
  unfold cut1 at hz
  have hf : P (if x.1 < y.1 then y.1 else x.1) := by split <;> assumption
  revert hz hf
  generalize (if x.1 < y.1 then y.1 else x.1) = f
  intro hz hf
  by_cases h : e < f
  · rw [if_pos h] at hz
    cases hz
  · rw [if_neg h] at hz
    rw [List.mem_singleton.mp hz]
    exact ⟨hf, h3⟩
theorem com_all {P : Rat → Prop} : ∀ (n : Nat) (L R : Rows), L.length + R.length ≤ n → (∀ z ∈ L, P z.1 ∧ P z.2) → (∀ z ∈ R, P z.1 ∧ P z.2) → (com L R).length ≤ L.length + R.length ∧ ∀ z ∈ com L R, P z.1 ∧ P z.2
  | n, [], R, _, _, _ => by
    rw [com_nil]
    exact ⟨Nat.zero_le _, fun z hz => by cases hz⟩
  | n, x :: L, [], _, _, _ => by
    rw [com_nil2]
    exact ⟨Nat.zero_le _, fun z hz => by cases hz⟩
  | 0, x :: L, y :: R, h, _, _ => by simp at h
  | n + 1, x :: L, y :: R, h, hL, hR => by
    have hx := hL x List.mem_cons_self
    have hy := hR y List.mem_cons_self
    have hh : L.length + 1 + (R.length + 1) ≤ n + 1 := h
    rw [com_cons]
    split
    · have ih := com_all n (x :: L) R (by show L.length + 1 + R.length ≤ n; omega) hL fun z hz => hR z (List.mem_cons_of_mem _ hz)
      have c := cut1_len x y y.2
      refine ⟨?_, fun z hz => ?_⟩
      · rw [List.length_append]
        have := ih.1
        show _ ≤ (L.length + 1) + (R.length + 1)
        have : (com (x :: L) R).length ≤ (L.length + 1) + R.length := ih.1
        omega
      · rcases List.mem_append.mp hz with h1 | h1
        · exact cut1_P hx.1 hy.1 hy.2 z h1
        · exact ih.2 z h1
    · have ih := com_all n L (y :: R) (by show L.length + (R.length + 1) ≤ n; omega) (fun z hz => hL z (List.mem_cons_of_mem _ hz)) hR
      have c := cut1_len x y x.2
      refine ⟨?_, fun z hz => ?_⟩
      · rw [List.length_append]
        show _ ≤ (L.length + 1) + (R.length + 1)
        have : (com L (y :: R)).length ≤ L.length + (R.length + 1) := ih.1
        omega
      · rcases List.mem_append.mp hz with h1 | h1
        · exact cut1_P hx.1 hy.1 hx.2 z h1
        · exact ih.2 z h1
def dg (p : Rat) : Rat × Rat := (p, p)
theorem com_pts : ∀ (n : Nat) (ps qs : List Rat), ps.length + qs.length ≤ n → ps.Pairwise (· < ·) → qs.Pairwise (· < ·) → ∃ rs : List Rat, com (ps.map dg) (qs.map dg) = rs.map dg ∧ rs.Pairwise (· < ·) ∧ ∀ m, m ∈ rs ↔ m ∈ ps ∧ m ∈ qs
  | n, [], qs, _, _, _ => ⟨[], by rw [List.map_nil, com_nil], .nil, fun m => by simp⟩
  | n, p :: ps, [], _, _, _ => ⟨[], by rw [List.map_nil, com_nil2], .nil, fun m => by simp⟩
  | 0, p :: ps, q :: qs, h, _, _ => by simp at h
  | n + 1, p :: ps, q :: qs, h, hp, hq => by
    have hh : ps.length + 1 + (qs.length + 1) ≤ n + 1 := h
    obtain ⟨p1, p2⟩ := List.pairwise_cons.mp hp
    obtain ⟨q1, q2⟩ := List.pairwise_cons.mp hq
    rw [List.map_cons, List.map_cons, com_cons]
    show ∃ rs : List Rat, (if q < p then cut1 (dg p) (dg q) q ++ com (dg p :: ps.map dg) (qs.map dg) else cut1 (dg p) (dg q) p ++ com (ps.map dg) (dg q :: qs.map dg)) = _ ∧ _
    by_cases h1 : q < p
    · rw [if_pos h1]
      have c : cut1 (dg p) (dg q) q = [] := by
        unfold cut1
        have : ¬ (dg p).1 < (dg q).1 := fun z => Rat.lt_irrefl (Std.lt_trans z h1)
        rw [if_neg this]
        exact if_pos h1
      rw [c, List.nil_append]
      obtain ⟨rs, e, so, mm⟩ := com_pts n (p :: ps) qs (by show ps.length + 1 + qs.length ≤ n; omega) hp q2
      refine ⟨rs, e, so, fun m => (mm m).trans ⟨fun z => ⟨z.1, List.mem_cons_of_mem _ z.2⟩, fun z => ⟨z.1, ?_⟩⟩⟩
      rcases List.mem_cons.mp z.2 with e1 | e1
      · subst e1
        rcases List.mem_cons.mp z.1 with e2 | e2
        · subst e2
          exact absurd h1 Rat.lt_irrefl
        · exact absurd (Std.lt_trans h1 (p1 _ e2)) Rat.lt_irrefl
      · exact e1
    · rw [if_neg h1]
      obtain ⟨rs, e, so, mm⟩ := com_pts n ps (q :: qs) (by show ps.length + (qs.length + 1) ≤ n; omega) p2 hq
      have e' : com (ps.map dg) (dg q :: qs.map dg) = rs.map dg := e
      rw [e']
      by_cases h2 : p < q
      · have c : cut1 (dg p) (dg q) p = [] := by
          unfold cut1
          rw [if_pos (show (dg p).1 < (dg q).1 from h2)]
          exact if_pos h2
        rw [c, List.nil_append]
        refine ⟨rs, rfl, so, fun m => (mm m).trans ⟨fun z => ⟨List.mem_cons_of_mem _ z.1, z.2⟩, fun z => ⟨?_, z.2⟩⟩⟩
        rcases List.mem_cons.mp z.1 with e1 | e1
        · subst e1
          rcases List.mem_cons.mp z.2 with e2 | e2
          · subst e2
            exact absurd h2 Rat.lt_irrefl
          · exact absurd (Std.lt_trans h2 (q1 _ e2)) Rat.lt_irrefl
        · exact e1
      · have epq : p = q := Rat.le_antisymm (Rat.not_lt.mp h1) (Rat.not_lt.mp h2)
        subst epq
        have c : cut1 (dg p) (dg p) p = [dg p] := by
          unfold cut1
          rw [if_neg (show ¬ (dg p).1 < (dg p).1 from Rat.lt_irrefl)]
          exact if_neg Rat.lt_irrefl
        rw [c]
        refine ⟨p :: rs, rfl, List.pairwise_cons.mpr ⟨fun m hm => p1 m ((mm m).mp hm).1, so⟩, fun m => ?_⟩
        constructor
        · intro z
          rcases List.mem_cons.mp z with e1 | e1
          · subst e1
            exact ⟨List.mem_cons_self, List.mem_cons_self⟩
          · have := (mm m).mp e1
            exact ⟨List.mem_cons_of_mem _ this.1, this.2⟩
        · rintro ⟨z1, z2⟩
          rcases List.mem_cons.mp z1 with e1 | e1
          · rw [e1]
            exact List.mem_cons_self
          · exact List.mem_cons_of_mem _ ((mm m).mpr ⟨e1, z2⟩)
theorem com_fp {a b : Rat} : ∀ (qs : List Rat), qs.Pairwise (· < ·) → (∀ q ∈ qs, a ≤ q ∧ q ≤ b) → com [(a, b)] (qs.map dg) = qs.map dg
  | [], _, _ => com_nil2 _
  | q :: qs, hq, h => by
    obtain ⟨q1, q2⟩ := List.pairwise_cons.mp hq
    obtain ⟨ha, hb⟩ := h q List.mem_cons_self
    have mx : (if (a, b).1 < (dg q).1 then (dg q).1 else (a, b).1) = q := by
      show (if a < q then q else a) = q
      by_cases z : a < q
      · rw [if_pos z]
      · rw [if_neg z]
        exact Rat.le_antisymm ha (Rat.not_lt.mp z)
    rw [List.map_cons, com_cons]
    by_cases h1 : q < b
    · rw [if_pos (show (dg q).2 < (a, b).2 from h1), com_fp qs q2 fun x hx => h x (List.mem_cons_of_mem _ hx)]
      have c : cut1 (a, b) (dg q) (dg q).2 = [dg q] := by
        unfold cut1
        rw [mx]
        exact if_neg Rat.lt_irrefl
      rw [c] <;> rfl
    · have eb : q = b := Rat.le_antisymm hb (Rat.not_lt.mp h1)
      rw [if_neg (show ¬ (dg q).2 < (a, b).2 from h1), com_nil]
      have c : cut1 (a, b) (dg q) (a, b).2 = [dg q] := by
        unfold cut1
        rw [mx]
        show (if b < q then [] else [(q, b)]) = _
        rw [← eb]
        exact if_neg Rat.lt_irrefl
      rw [c]
      cases qs with
      | nil => rfl
      | cons x xs =>
        have a1 := q1 x List.mem_cons_self
        have a2 := (h x (List.mem_cons_of_mem _ List.mem_cons_self)).2
        rw [eb] at a1
        exact absurd a1 (Rat.not_lt.mpr a2)
theorem com_pf {a b : Rat} : ∀ (ps : List Rat), (∀ p ∈ ps, a ≤ p ∧ p ≤ b) → com (ps.map dg) [(a, b)] = ps.map dg
  | [], _ => com_nil _
  | p :: ps, h => by
    obtain ⟨ha, hb⟩ := h p List.mem_cons_self
    rw [List.map_cons, com_cons, if_neg (show ¬ (a, b).2 < (dg p).2 from Rat.not_lt.mpr hb), com_pf ps fun x hx => h x (List.mem_cons_of_mem _ hx)]
    have c : cut1 (dg p) (a, b) (dg p).2 = [dg p] := by
      unfold cut1
      rw [if_neg (show ¬ (dg p).1 < (a, b).1 from Rat.not_lt.mpr ha)]
      exact if_neg Rat.lt_irrefl
    rw [c] <;> rfl
theorem com_ff {a b : Rat} (h : a ≤ b) : com [(a, b)] [(a, b)] = [(a, b)] := by
  rw [com_cons, if_neg (show ¬ (a, b).2 < (a, b).2 from Rat.lt_irrefl), com_nil]
  have c : cut1 (a, b) (a, b) (a, b).2 = [(a, b)] := by
    unfold cut1
    rw [if_neg (show ¬ (a, b).1 < (a, b).1 from Rat.lt_irrefl)]
    exact if_neg (Rat.not_lt.mpr h)
  rw [c] <;> rfl
theorem track_com {a b : Rat} {S T : Rat → Prop} {L R : Rows} (hab : a ≤ b) (hL : Track a b S L) (hR : Track a b T R) : Track a b (fun m => S m ∧ T m) (com L R) := by
  rcases hL with ⟨rfl, hS⟩ | ⟨nS, ps, rfl, hp⟩ <;> rcases hR with ⟨rfl, hT⟩ | ⟨nT, qs, rfl, hq⟩
  · exact .inl ⟨com_ff hab, fun m => ⟨hS m, hT m⟩⟩
  · refine .inr ⟨fun z => nT fun m => (z m).2, qs, com_fp qs hq.so fun q hq2 => ⟨((hq.mem q).mp hq2).1, ((hq.mem q).mp hq2).2.1⟩, hq.so, fun m => ?_⟩
    rw [hq.mem]
    exact ⟨fun z => ⟨z.1, z.2.1, hS m, z.2.2⟩, fun z => ⟨z.1, z.2.1, z.2.2.2⟩⟩
  · refine .inr ⟨fun z => nS fun m => (z m).1, ps, com_pf ps fun q hq2 => ⟨((hp.mem q).mp hq2).1, ((hp.mem q).mp hq2).2.1⟩, hp.so, fun m => ?_⟩
    rw [hp.mem]
    exact ⟨fun z => ⟨z.1, z.2.1, z.2.2, hT m⟩, fun z => ⟨z.1, z.2.1, z.2.2.1⟩⟩
  · obtain ⟨rs, e, so, mm⟩ := com_pts _ ps qs (Nat.le_refl _) hp.so hq.so
    refine .inr ⟨fun z => nT fun m => (z m).2, rs, e, so, fun m => ?_⟩
    rw [mm, hp.mem, hq.mem]
    exact ⟨fun z => ⟨z.1.1, z.1.2.1, z.1.2.2, z.2.2.2⟩, fun z => ⟨⟨z.1, z.2.1, z.2.2.1⟩, z.1, z.2.1, z.2.2.2⟩⟩
theorem Track.congr {a b : Rat} {S T : Rat → Prop} {L : Rows} (h : Track a b S L) (e : ∀ m, S m ↔ T m) : Track a b T L := by
  have : S = T := funext fun m => propext (e m)
  rw [← this]
  exact h
theorem Track.uniq {a b : Rat} {S : Rat → Prop} {L R : Rows} (h : Track a b S L) (k : Track a b S R) : L = R := by
  rcases h with ⟨rfl, hS⟩ | ⟨nS, ps, rfl, hp⟩ <;> rcases k with ⟨rfl, hT⟩ | ⟨nT, qs, rfl, hq⟩
  · rfl
  · exact absurd hS nT
  · exact absurd hT nS
  · rw [hp.uniq hq]
/-- all the tracks, one behind another -/
theorem track_fold {a b : Rat} (hab : a ≤ b) {S : Rat × Rat → Rat → Prop} {f : Rat × Rat → Rows} : ∀ (l : Rows) (T : Rat → Prop) (L : Rows), Track a b T L → (∀ p ∈ l, Track a b (S p) (f p)) → Track a b (fun m => T m ∧ ∀ p ∈ l, S p m) ((l.map f).foldl com L)
  | [], T, L, h, _ => h.congr fun m => ⟨fun z => ⟨z, fun p hp => by cases hp⟩, fun z => z.1⟩
  | x :: l, T, L, h, hf => by
    have h1 := track_com hab h (hf x List.mem_cons_self)
    have h2 := track_fold hab (S := S) (f := f) l _ _ h1 fun p hp => hf p (List.mem_cons_of_mem _ hp)
    exact h2.congr fun m => ⟨fun z => ⟨z.1.1, fun p hp => by
      (rcases List.mem_cons.mp hp with e | e)
      · rw [e]; exact z.1.2
      · exact z.2 p e⟩, fun z => ⟨⟨z.1, z.2 x List.mem_cons_self⟩, fun p hp => z.2 p (List.mem_cons_of_mem _ hp)⟩⟩
end Wk
-- M7
namespace Wk
def wls (lo hi : Int) : List Int := (List.range (hi - lo + 1).toNat).map fun i : Nat => lo + (i : Int)
theorem mem_wls {lo hi w : Int} : w ∈ wls lo hi ↔ lo ≤ w ∧ w ≤ hi := by
  unfold wls
  rw [List.mem_map]
  constructor
  · rintro ⟨i, hi', rfl⟩
    have := List.mem_range.mp hi'
    omega
  · rintro ⟨h1, h2⟩
    exact ⟨(w - lo).toNat, List.mem_range.mpr (by omega), by omega⟩
theorem wls_so (lo hi : Int) : (wls lo hi).Pairwise (· < ·) := by
  unfold wls
  rw [List.pairwise_map]
  exact List.pairwise_lt_range.imp fun h => by omega
def loB (r a b : Rat) : Rat := if 0 < r then a else b
def hiB (r a b : Rat) : Rat := if 0 < r then b else a
/-- the least and the last whole number on the line -/
def wLo (r t a b : Rat) : Int := cei (r * loB r a b + t)
def wHi (r t a b : Rat) : Int := (r * hiB r a b + t).floor
def lineWs (r t a b : Rat) : List Int := if r < 0 then (wls (wLo r t a b) (wHi r t a b)).reverse else wls (wLo r t a b) (wHi r t a b)
def onL (r t : Rat) (w : Int) : Rat := ((w : Rat) - t) / r
theorem onL_eq {r t m : Rat} {w : Int} (hr : r ≠ 0) : onL r t w = m ↔ r * m + t = (w : Rat) := by
  unfold onL
  constructor
  · rintro rfl
    have := Rat.div_mul_cancel (a := (w : Rat) - t) hr
    grind
  · intro h
    rw [← h]
    have e : r * m + t - t = m * r := by grind
    rw [e, Rat.mul_div_cancel hr]
theorem on_mono {r t : Rat} {v w : Int} (hr : r ≠ 0) : onL r t v < onL r t w ↔ if 0 < r then v < w else w < v := by
  have ev := (onL_eq (t := t) (w := v) (m := onL r t v) hr).mp rfl
  have ew := (onL_eq (t := t) (w := w) (m := onL r t w) hr).mp rfl
  generalize onL r t v = x at ev ⊢
  generalize onL r t w = y at ew ⊢
  by_cases hp : 0 < r
  · rw [if_pos hp]
    have h1 : v < w ↔ (v : Rat) < (w : Rat) := Rat.intCast_lt_intCast.symm
    rw [h1, ← ev, ← ew]
    constructor
    · intro h
      have := Rat.mul_lt_mul_of_pos_left h hp
      grind
    · intro h
      have h2 : r * x < r * y := by grind
      exact Classical.byContradiction fun z => by
        have := Rat.mul_le_mul_of_nonneg_left (Rat.not_lt.mp z) (Rat.le_of_lt hp)
        grind
  · rw [if_neg hp]
    have hn : 0 < -r := by
      have : r ≤ 0 := Rat.not_lt.mp hp
      have h2 : r < 0 := Rat.lt_of_le_of_ne this hr
      grind
    have h1 : w < v ↔ (w : Rat) < (v : Rat) := Rat.intCast_lt_intCast.symm
    rw [h1, ← ev, ← ew]
    constructor
    · intro h
      have := Rat.mul_lt_mul_of_pos_left h hn
      grind
    · intro h
      have h2 : -r * x < -r * y := by grind
      exact Classical.byContradiction fun z => by
        have := Rat.mul_le_mul_of_nonneg_left (Rat.not_lt.mp z) (Rat.le_of_lt hn)
        grind
theorem on_range {r t a b m : Rat} {w : Int} (hr : r ≠ 0) (hm : r * m + t = (w : Rat)) : (wLo r t a b ≤ w ∧ w ≤ wHi r t a b) ↔ a ≤ m ∧ m ≤ b := by
  unfold wLo wHi
  rw [cei_le, Rat.le_floor_iff, ← hm]
  by_cases hp : 0 < r
  · have e1 : loB r a b = a := if_pos hp
    have e2 : hiB r a b = b := if_pos hp
    rw [e1, e2]
    constructor
    · rintro ⟨h1, h2⟩
      have g1 : r * a ≤ r * m := by grind
      have g2 : r * m ≤ r * b := by grind
      exact ⟨Rat.le_of_mul_le_mul_left g1 hp, Rat.le_of_mul_le_mul_left g2 hp⟩
    · rintro ⟨h1, h2⟩
      have g1 := Rat.mul_le_mul_of_nonneg_left h1 (Rat.le_of_lt hp)
      have g2 := Rat.mul_le_mul_of_nonneg_left h2 (Rat.le_of_lt hp)
      constructor <;> grind
  · have e1 : loB r a b = b := if_neg hp
    have e2 : hiB r a b = a := if_neg hp
    have hn : 0 < -r := by
      have : r ≤ 0 := Rat.not_lt.mp hp
      have h2 : r < 0 := Rat.lt_of_le_of_ne this hr
      grind
    rw [e1, e2]
    constructor
    · rintro ⟨h1, h2⟩
      have g1 : -r * m ≤ -r * b := by grind
      have g2 : -r * a ≤ -r * m := by grind
      exact ⟨Rat.le_of_mul_le_mul_left g2 hn, Rat.le_of_mul_le_mul_left g1 hn⟩
    · rintro ⟨h1, h2⟩
      have g1 := Rat.mul_le_mul_of_nonneg_left h1 (Rat.le_of_lt hn)
      have g2 := Rat.mul_le_mul_of_nonneg_left h2 (Rat.le_of_lt hn)
      constructor <;> grind
theorem mem_lineWs {r t a b : Rat} {w : Int} : w ∈ lineWs r t a b ↔ wLo r t a b ≤ w ∧ w ≤ wHi r t a b := by
  unfold lineWs
  split
  · rw [List.mem_reverse, mem_wls]
  · exact mem_wls
theorem line_pts {r t a b : Rat} (hr : r ≠ 0) : Pts a b (fun m => Whole (r * m + t)) ((lineWs r t a b).map (onL r t)) where
  so := by
    rw [List.pairwise_map]
    unfold lineWs
    by_cases hn : r < 0
    · rw [if_pos hn, List.pairwise_reverse]
      refine (wls_so _ _).imp fun h => ?_
      rw [on_mono hr, if_neg (fun z => Rat.lt_irrefl (Std.lt_trans z hn))]
      exact h
    · rw [if_neg hn]
      have hp : 0 < r := Rat.lt_of_le_of_ne (Rat.not_lt.mp hn) (Ne.symm hr)
      refine (wls_so _ _).imp fun h => ?_
      rw [on_mono hr, if_pos hp]
      exact h
  mem := fun m => by
    rw [List.mem_map]
    constructor
    · rintro ⟨w, hw, e⟩
      have e2 := (onL_eq hr).mp e
      have := (on_range (a := a) (b := b) hr e2).mp (mem_lineWs.mp hw)
      exact ⟨this.1, this.2, w, e2⟩
    · rintro ⟨h1, h2, w, hw⟩
      exact ⟨w, mem_lineWs.mpr ((on_range hr hw).mpr ⟨h1, h2⟩), (onL_eq hr).mpr hw⟩
theorem not_whole_half {r t : Rat} (hr : r ≠ 0) : ¬ ∀ m, Whole (r * m + t) := fun h => by
  obtain ⟨x, hx⟩ := h 0
  obtain ⟨y, hy⟩ := h (1 / (2 * r))
  have e : r * (1 / (2 * r)) * 2 = 1 := by
    have h2 : (2 * r) ≠ 0 := fun z => by
      rcases Rat.mul_eq_zero.mp z with q | q
      · exact absurd q (by decide)
      · exact hr q
    have := Rat.div_mul_cancel (a := 1) h2
    grind
  have e2 : ((2 * (y - x) : Int) : Rat) = ((1 : Int) : Rat) := by
    rw [Rat.intCast_mul, Rat.intCast_sub, Rat.intCast_one]
    have : ((2 : Int) : Rat) = 2 := rfl
    rw [this]
    grind
  have := Rat.intCast_inj.mp e2
  omega
/-- the rows of one line -/
def lineRows (r t a b : Rat) : Rows := if r = 0 then (if t.den = 1 then [(a, b)] else []) else ((lineWs r t a b).map (onL r t)).map dg
theorem line_track {r t a b : Rat} : Track a b (fun m => Whole (r * m + t)) (lineRows r t a b) := by
  unfold lineRows
  by_cases hr : r = 0
  · rw [if_pos hr]
    have e : ∀ m, (r * m + t) = t := fun m => by rw [hr]; grind
    by_cases ht : t.den = 1
    · rw [if_pos ht]
      exact .inl ⟨rfl, fun m => by
        show Whole (r * m + t)
        rw [e]
        exact whole_den.mpr ht⟩
    · rw [if_neg ht]
      have nw : ∀ m, ¬ Whole (r * m + t) := fun m z => by
        rw [e] at z
        exact ht (whole_den.mp z)
      exact .inr ⟨fun z => nw 0 (z 0), [], rfl, .nil, fun m => ⟨fun z => absurd z List.not_mem_nil, fun z => absurd z.2.2 (nw m)⟩⟩
  · rw [if_neg hr]
    exact .inr ⟨not_whole_half hr, _, rfl, line_pts hr⟩
/-! ### the rule's rows -/
def numLo' (f s a : Rat) : Int := -(-((a - f) / s)).floor
def ptsK (f s : Rat) (lo hi : Int) : List Rat := (wls lo hi).map fun k : Int => f + s * (k : Rat)
theorem rule_pts {rows : Rows} {f s a b : Rat} (h : IsRule rows (some (f, some s))) : Pts a b (Mt rows) (ptsK f s (cei ((a - f) / s)) (((b - f) / s).floor)) where
  so := by
    unfold ptsK
    rw [List.pairwise_map]
    refine (wls_so _ _).imp fun hk => ?_
    have := Rat.mul_lt_mul_of_pos_left (Rat.intCast_lt_intCast.mpr hk) h.1
    grind
  mem := fun m => by
    have hs := h.1
    have hne : s ≠ 0 := fun z => by rw [z] at hs; exact Rat.lt_irrefl hs
    unfold ptsK
    rw [List.mem_map, h.2.2.2]
    have key : ∀ k : Int, (cei ((a - f) / s) ≤ k ∧ k ≤ ((b - f) / s).floor) ↔ a ≤ f + s * (k : Rat) ∧ f + s * (k : Rat) ≤ b := fun k => by
      rw [cei_le, Rat.le_floor_iff]
      have e1 := Rat.div_mul_cancel (a := a - f) hne
      have e2 := Rat.div_mul_cancel (a := b - f) hne
      constructor
      · rintro ⟨h1, h2⟩
        have g1 := Rat.mul_le_mul_of_nonneg_left h1 (Rat.le_of_lt hs)
        have g2 := Rat.mul_le_mul_of_nonneg_left h2 (Rat.le_of_lt hs)
        constructor <;> grind
      · rintro ⟨h1, h2⟩
        have g1 : s * ((a - f) / s) ≤ s * (k : Rat) := by grind
        have g2 : s * (k : Rat) ≤ s * ((b - f) / s) := by grind
        exact ⟨Rat.le_of_mul_le_mul_left g1 hs, Rat.le_of_mul_le_mul_left g2 hs⟩
    constructor
    · rintro ⟨k, hk, rfl⟩
      have := (key k).mp (mem_wls.mp hk)
      exact ⟨this.1, this.2, k, by grind⟩
    · rintro ⟨h1, h2, k, rfl⟩
      have e : f + (k : Rat) * s = f + s * (k : Rat) := by grind
      rw [e] at h1 h2
      exact ⟨k, mem_wls.mpr ((key k).mpr ⟨h1, h2⟩), e.symm⟩
theorem rule_not_all {rows : Rows} {f s : Rat} (h : IsRule rows (some (f, some s))) : ¬ ∀ m, Mt rows m := fun z => by
  have := rule_unique h (r' := some (0, none)) ⟨rfl, z⟩
  cases this
def ruleRows (r : Rule) (a b : Rat) : Rows := match r with
  | none => []
  | some (_, none) => [(a, b)]
  | some (f, some s) => (ptsK f s (cei ((a - f) / s)) (((b - f) / s).floor)).map dg
theorem rule_track {rows : Rows} {r : Rule} {a b : Rat} (h : IsRule rows r) : Track a b (Mt rows) (ruleRows r a b) := by
  rcases r with _ | ⟨f, _ | s⟩
  · exact .inr ⟨fun z => h 0 (z 0), [], rfl, .nil, fun m => ⟨fun z => absurd z List.not_mem_nil, fun z => absurd z.2.2 (h m)⟩⟩
  · exact .inl ⟨rfl, h.2⟩
  · exact .inr ⟨rule_not_all h, _, rfl, rule_pts h⟩
/-- few whole numbers on each line, few meetings -/
theorem few {p0 : Rat × Rat} {l : Rows} {f s a b : Rat} (h : IsRule (p0 :: l) (some (f, some s))) (hf : ∀ p ∈ l, p.1 - p0.1 ≠ 0 → wHi (p.1 - p0.1) (p.2 - p0.2) a b - wLo (p.1 - p0.1) (p.2 - p0.2) a b + 1 ≤ 200) : ((b - f) / s).floor - cei ((a - f) / s) < 400 := by
  apply Classical.byContradiction
  intro hbig
  have ⟨p, hp, hpr⟩ : ∃ p ∈ l, p.1 - p0.1 ≠ 0 := by
    apply Classical.byContradiction
    intro z
    have h0 : ∀ p ∈ l, p.1 - p0.1 = 0 := fun p hp => Classical.byContradiction fun y => z ⟨p, hp, y⟩
    have hm : Mt (p0 :: l) f := (h.2.2.2 f).mpr ⟨0, by rw [Rat.intCast_zero]; grind⟩
    exact rule_not_all h fun m p hp => by
      have := hm p hp
      rw [h0 p hp] at this ⊢
      rw [Rat.zero_mul] at this ⊢
      exact this
  have hc := hf p hp hpr
  have P := rule_pts (a := a) (b := b) h
  generalize hlo : cei ((a - f) / s) = lo at P hbig
  generalize hhi : ((b - f) / s).floor = hi at P hbig
  have at_ : ∀ k : Int, lo ≤ k → k ≤ hi → ∃ w : Int, (p.1 - p0.1) * (f + s * (k : Rat)) + (p.2 - p0.2) = (w : Rat) ∧ wLo (p.1 - p0.1) (p.2 - p0.2) a b ≤ w ∧ w ≤ wHi (p.1 - p0.1) (p.2 - p0.2) a b := fun k h1 h2 => by
    have hm := (P.mem (f + s * (k : Rat))).mp (List.mem_map.mpr ⟨k, mem_wls.mpr ⟨h1, h2⟩, rfl⟩)
    obtain ⟨w, hw⟩ := hm.2.2 p hp
    exact ⟨w, hw, (on_range hpr hw).mpr ⟨hm.1, hm.2.1⟩⟩
  obtain ⟨w1, e1, a1, b1⟩ := at_ lo (Int.le_refl _) (by omega)
  obtain ⟨w2, e2, a2, b2⟩ := at_ (lo + 1) (by omega) (by omega)
  obtain ⟨w3, e3, a3, b3⟩ := at_ hi (by omega) (Int.le_refl _)
  -- w3 - w1 = (w2 - w1) * (hi - lo)
  have es : ((w2 - w1 : Int) : Rat) = (p.1 - p0.1) * s := by
    rw [Rat.intCast_sub, ← e1, ← e2, Rat.intCast_add, Rat.intCast_one]
    grind
  have el : ((w3 - w1 : Int) : Rat) = (((w2 - w1) * (hi - lo) : Int) : Rat) := by
    rw [Rat.intCast_mul, es, Rat.intCast_sub, ← e1, ← e3, Rat.intCast_sub]
    grind
  have el' := Rat.intCast_inj.mp el
  have ne : w2 - w1 ≠ 0 := fun z => by
    rw [z, Rat.intCast_zero] at es
    rcases Rat.mul_eq_zero.mp es.symm with q | q
    · exact hpr q
    · have := h.1
      rw [q] at this
      exact Rat.lt_irrefl this
  have hN : (w3 - w1).natAbs = (w2 - w1).natAbs * (hi - lo).natAbs := by rw [el', Int.natAbs_mul]
  have one : 1 ≤ (w2 - w1).natAbs := by omega
  have : 1 * (hi - lo).natAbs ≤ (w2 - w1).natAbs * (hi - lo).natAbs := Nat.mul_le_mul_right _ one
  omega
end Wk
-- D22
namespace Wk
open PySem PySem.Spec
open PyProof.Rows L2
section
variable {P : Program}
variable {w : World} {K : PySem.W.Frag} {mg : Str → Option Value} {base : Heap}
section
variable {C : Ctx} {te : TE} {Γ : List Slot} {D : Ends} {u : TS} {i : Nat} {a b : Int}
theorem nx_augI (hi : Γ[i]? = some (.val (.int a))) (h : EvD C te Γ (.int b)) (k : NX C D.nx (Γ.set i (.val (.int (a + b))))) : NX C (tAug i te (ipI fun i j => i + j) D) Γ := fun σ F H I => by
  obtain ⟨o, ho, v, rfl, r⟩ := I.sl i _ hi
  refine ⟨v, ho, h σ F H I _ fun y F1 H1 d I1 s1 r1 k1 => ?_⟩
  subst k1
  cases r.int_inv
  cases r1.int_inv
  exact ⟨a, b, rfl, rfl, k _ F1 H1 (I1.setVal (.int _))⟩
theorem sq_augI (hi : Γ[i]? = some (.val (.int a))) (h : EvD C te Γ (.int b)) (k : NX C (u D) (Γ.set i (.val (.int (a + b))))) : NX C (tSeq (tAug i te (ipI fun i j => i + j)) u D) Γ := nx_augI (D := { D with nx := u D }) hi h k
end
structure RowsBd (n : Nat) (L : Rows) : Prop where
  b : ∀ z ∈ L, Bd n z.1 ∧ Bd n z.2
def Rl_common_rows : Rel := fun zs0 Pz => ∃ (L R : List (Rat × Rat)) (n : Nat), zs0 = [.lst (L.map rowD), .lst (R.map rowD)] ∧ ((L.length + R.length ≤ 1000) ∧ RowsBd n L ∧ RowsBd n R ∧ n ≤ 4000) ∧ Pz = (fun e => e = .lst ((com L R).map rowD))
theorem len_common_rows : ∀ ds Post, Rl_common_rows ds Post → ds.length = 2 := fun _ _ ⟨_, _, _, e, _⟩ => by rw [e]; rfl
theorem com_drop {L R : Rows} {i j : Nat} (hi : i < L.length) (hj : j < R.length) : com (L.drop i) (R.drop j) = if R[j].2 < L[i].2 then cut1 L[i] R[j] R[j].2 ++ com (L.drop i) (R.drop (j + 1)) else cut1 L[i] R[j] L[i].2 ++ com (L.drop (i + 1)) (R.drop j) := by
  have e1 : L.drop i = L[i] :: L.drop (i + 1) := List.drop_eq_getElem_cons hi
  have e2 : R.drop j = R[j] :: R.drop (j + 1) := List.drop_eq_getElem_cons hj
  rw [e1, e2, com_cons, ← e1, ← e2]
theorem ok_common_rows (B : Bs K mg) : Cl P w K mg base CX0 2 "common_rows" (spP Rl_common_rows) [] := by
  refine cl_of (N := ["left", "right", "rows", "at", "other", "first", "last"]) (ps := ["left", "right"]) B.d_common_rows B.g_common_rows (by decide +kernel) (fun _ _ _ _ _ _ us hl => match us, hl with | [_, _], _ => rfl)
    (len_P len_common_rows) fun f cdv A outer s H vs Q E hr h => ?_
  have nd : (["left", "right", "rows", "at", "other", "first", "last"] : List Str).Nodup := by decide +kernel
  refine ⟨_, PSs.nox (pss_cons (ps_set (i := 2) nd rfl (by first | exact Or.inl rfl | exact Or.inr rfl) (pe_lst pa_nil))
  (pss_cons (ps_set (i := 3) nd rfl (by first | exact Or.inl rfl | exact Or.inr rfl) pe_int)
  (pss_cons (ps_set (i := 4) nd rfl (by first | exact Or.inl rfl | exact Or.inr rfl) pe_int)
  (pss_cons (ps_while PassesOwn.never (PW.pt (pw_and (pt_cmpR op_lt (pv 3) (pe_callB call_len_seq (by rfl) B.z_len (by decide +kernel) (pa_cons (pv 0) pa_nil)) (nomark _)) (pw_and1 (pt_cmpR op_lt (pv 4) (pe_callB call_len_seq (by rfl) B.z_len (by decide +kernel) (pa_cons (pv 1) pa_nil)) (nomark _))))) (pss_cons (ps_asg (pe_ix ix_list (pv 0) (pv 3) (fun _ _ => rfl)) (pg_tup rfl (pgs_cons (pg_name (i := 5) nd rfl (by first | exact Or.inl rfl | exact Or.inr rfl)) (pgs_cons (pg_name (i := 6) nd rfl (by first | exact Or.inl rfl | exact Or.inr rfl)) pgs_nil))))
  (pss_cons (ps_if (pt_val (pe_cl (ok_is_earlier B) hr (by decide) pass0 (pa_cons (pv 5) (pa_cons (pe_ix ix_tup (pe_ix ix_list (pv 1) (pv 4) (fun _ _ => rfl)) pe_int (fun _ _ => rfl)) pa_nil)))) (pss_one (ps_set (i := 5) nd rfl (by first | exact Or.inl rfl | exact Or.inr rfl) (pe_ix ix_tup (pe_ix ix_list (pv 1) (pv 4) (fun _ _ => rfl)) pe_int (fun _ _ => rfl)))) pss_nil)
  (pss_cons (ps_if (pt_val (pe_cl (ok_is_earlier B) hr (by decide) pass0 (pa_cons (pe_ix ix_tup (pe_ix ix_list (pv 1) (pv 4) (fun _ _ => rfl)) pe_int (fun _ _ => rfl)) (pa_cons (pv 6) pa_nil)))) (pss_cons (ps_set (i := 6) nd rfl (by first | exact Or.inl rfl | exact Or.inr rfl) (pe_ix ix_tup (pe_ix ix_list (pv 1) (pv 4) (fun _ _ => rfl)) pe_int (fun _ _ => rfl)))
  (pss_one (ps_aug (i := 4) nd rfl (by first | exact Or.inl rfl | exact Or.inr rfl) pe_int ip_add))) (pss_one (ps_aug (i := 3) nd rfl (by first | exact Or.inl rfl | exact Or.inr rfl) pe_int ip_add)))
  (pss_one (ps_if (pt_not (pt_val (pe_cl (ok_is_earlier B) hr (by decide) pass0 (pa_cons (pv 6) (pa_cons (pv 5) pa_nil))))) (pss_one (ps_expr (pe_bm PySem.F.plainAttrs_list PySem.F.slot_list_append PySem.F.type_list_append mt_append (pv 2) (pa_cons (pe_tup (pa_cons (pv 5) (pa_cons (pv 6) pa_nil))) pa_nil)))) pss_nil))))))
  (pss_one (ps_ret (pv 2))))))), enterP h fun C ds Post hR hrt => ?_⟩
  obtain ⟨L, R, n, rfl, ⟨hlen, ⟨hL⟩, ⟨hR'⟩, hn⟩, rfl⟩ := hR
  show NX C _ [.val (.lst (L.map rowD)), .val (.lst (R.map rowD)), .no, .no, .no, .no, .no]
  have lL : (L.map rowD).length = L.length := List.length_map ..
  have lR : (R.map rowD).length = R.length := List.length_map ..
  refine sq_asgO (eld_lst ea_nil) ?_
  refine sq_asg ed_int ?_
  refine sq_asg ed_int ?_
  refine sq_while (ι := Nat × Nat × Rows) (fun z => [.val (.lst (L.map rowD)), .val (.lst (R.map rowD)), .own (z.2.2.map rowD), .val (.int (z.1 : Int)), .val (.int (z.2.1 : Int)), .no, .no]) (fun z => com L R = z.2.2 ++ com (L.drop z.1) (R.drop z.2.1) ∧ z.1 ≤ L.length ∧ z.2.1 ≤ R.length ∧ z.2.2.length ≤ z.1 + z.2.1) (fun z => L.length + R.length - z.1 - z.2.1) (0, 0, []) ⟨rfl, Nat.zero_le _, Nat.zero_le _, Nat.le_refl _⟩ (.refl _) ?_
  rintro ⟨i, j, acc⟩ ⟨he, hi, hj, hacc⟩
  replace he : com L R = acc ++ com (L.drop i) (R.drop j) := he
  replace hi : i ≤ L.length := hi
  replace hj : j ≤ R.length := hj
  replace hacc : acc.length ≤ i + j := hacc
  show ∃ b, EtD C _ [.val (.lst (L.map rowD)), .val (.lst (R.map rowD)), .own (acc.map rowD), .val (.int (i : Int)), .val (.int (j : Int)), .no, .no] b ∧ _
  refine ⟨_, etd_and (etd_test (ed_cmp (ed_var rfl) (ed_lenL (ed_var rfl)))) fun _ => etd_test (ed_cmp (ed_var rfl) (ed_lenL (ed_var rfl))), fun hb N hN => ?_, fun hb => ?_⟩
  · rw [lL, lR] at hb
    have hb' := Bool.and_eq_true_iff.mp hb
    have h1 : i < L.length := by
      have := of_decide_eq_true hb'.1
      omega
    have h2 : j < R.length := by
      have := of_decide_eq_true hb'.2
      omega
    have a1 : atI (L.map rowD) (i : Int) = some (rowD L[i]) := atI_nat (by rw [List.getElem?_map, List.getElem?_eq_getElem h1]; rfl)
    have a2 : atI (R.map rowD) (j : Int) = some (rowD R[j]) := atI_nat (by rw [List.getElem?_map, List.getElem?_eq_getElem h2]; rfl)
    have b1 := hL _ (List.getElem_mem h1)
    have b2 := hR' _ (List.getElem_mem h2)
    have cd := com_drop h1 h2
    rw [cd] at he
    clear cd
    revert a1 a2 b1 b2 he
    generalize L[i] = x
    generalize R[j] = y
    intro he a1 a2 b1 b2
    have ix1 : Bz x.1 n := ⟨b1.1⟩
    have ix2 : Bz x.2 n := ⟨b1.2⟩
    have iy1 : Bz y.1 n := ⟨b2.1⟩
    have iy2 : Bz y.2 n := ⟨b2.2⟩
    refine sq_asg2 (d1 := fr x.1) (d2 := fr x.2) (ed_ixL (ed_var rfl) (ed_var rfl) a1) ?_
    have mx : Bd n (if x.1 < y.1 then y.1 else x.1) := by split <;> exact bz
    have ec : ∀ e, cut1 x y e = if e < (if x.1 < y.1 then y.1 else x.1) then [] else [(if x.1 < y.1 then y.1 else x.1, e)] := fun e => rfl
    refine sq_joinI (ι := Unit) (fun _ => [.val (.lst (L.map rowD)), .val (.lst (R.map rowD)), .own (acc.map rowD), .val (.int (i : Int)), .val (.int (j : Int)), .val (fr (if x.1 < y.1 then y.1 else x.1)), .val (fr x.2)]) (fun hJ => ?_) fun _ => ?_
    · refine nx_if (etd_B (ed_call (ea_cons (ed_var rfl) (ea_cons (ed_ixT (ds := [fr y.1, fr y.2]) (ed_ixL (ed_var rfl) (ed_var rfl) a2) ed_int rfl) ea_nil)) rl_is_earlier)) (fun hc => ?_) fun hc => ?_
      · refine nx_asg (ed_ixT (ds := [fr y.1, fr y.2]) (ed_ixL (ed_var rfl) (ed_var rfl) a2) ed_int rfl) ?_
        have := hJ ()
        rw [if_pos (of_decide_eq_true hc)] at this
        exact this
      · refine nx_next ?_
        have := hJ ()
        rw [if_neg (of_decide_eq_false hc)] at this
        exact this
    revert mx ec he
    generalize (if x.1 < y.1 then y.1 else x.1) = f
    intro he mx ec
    have if_ : Bz f n := ⟨mx⟩
    -- the end, and which side goes on
    have app : ∀ (i' j' : Nat) (e : Rat), Bd n e → i' ≤ L.length → j' ≤ R.length → i' + j' = i + j + 1 → com L R = acc ++ (cut1 x y e ++ com (L.drop i') (R.drop j')) → NX C (tIfS (tNot (tB (tCall (spP Rl_is_earlier) [] E0 (tCons (tVar 6) (tCons (tVar 5) tNil))))) (tDrop (tBM K "list" rAppend (tVar 2) (tCons (tTup (tCons (tVar 5) (tCons (tVar 6) tNil))) tNil))) tNext { nx := N, rt := Q }) [.val (.lst (L.map rowD)), .val (.lst (R.map rowD)), .own (acc.map rowD), .val (.int (i' : Int)), .val (.int (j' : Int)), .val (fr f), .val (fr e)] := fun i' j' e be hi' hj' hs hc => by
      have ie : Bz e n := ⟨be⟩
      refine nx_if (etd_not (etd_B (ed_call (ea_cons (ed_var rfl) (ea_cons (ed_var rfl) ea_nil)) rl_is_earlier))) (fun hz => ?_) fun hz => ?_
      · have hz' : ¬ e < f := by simpa using hz
        rw [ec, if_neg hz'] at hc
        refine nx_app (i := 2) rfl (ed_tup (ea_cons (ed_var rfl) (ea_cons (ed_var rfl) ea_nil))) (by rw [List.length_map]; omega) ?_
        have := hN (i', j', acc ++ [(f, e)]) ⟨by rw [hc, List.append_assoc], hi', hj', by show (acc ++ [(f, e)]).length ≤ i' + j'; rw [List.length_append]; show acc.length + 1 ≤ _; omega⟩ (by show L.length + R.length - i' - j' < L.length + R.length - i - j; omega)
        have h5 : NX C N [.val (.lst (L.map rowD)), .val (.lst (R.map rowD)), .own ((acc ++ [(f, e)]).map rowD), .val (.int (i' : Int)), .val (.int (j' : Int)), .no, .no] := this
        rw [List.map_append] at h5
        exact h5.wk (.keep (.keep (.keep (.keep (.keep (.drop (.drop .nil)))))))
      · have hz' : e < f := by simpa using hz
        rw [ec, if_pos hz', List.nil_append] at hc
        refine nx_next ?_
        have := hN (i', j', acc) ⟨hc, hi', hj', by show acc.length ≤ i' + j'; omega⟩ (by show L.length + R.length - i' - j' < L.length + R.length - i - j; omega)
        exact this.wk (.keep (.keep (.keep (.keep (.keep (.drop (.drop .nil)))))))
    refine sq_if (etd_B (ed_call (ea_cons (ed_ixT (ds := [fr y.1, fr y.2]) (ed_ixL (ed_var rfl) (ed_var rfl) a2) ed_int rfl) (ea_cons (ed_var rfl) ea_nil)) rl_is_earlier)) (fun hc => ?_) fun hc => ?_
    · rw [if_pos (of_decide_eq_true hc)] at he
      refine sq_asg (ed_ixT (ds := [fr y.1, fr y.2]) (ed_ixL (ed_var rfl) (ed_var rfl) a2) ed_int rfl) ?_
      refine nx_augI rfl ed_int ?_
      exact app i (j + 1) y.2 bz hi h2 rfl he
    · rw [if_neg (of_decide_eq_false hc)] at he
      refine nx_augI rfl ed_int ?_
      exact app (i + 1) j x.2 bz h1 hj (by omega) he
  · rw [lL, lR] at hb
    have hd : com (L.drop i) (R.drop j) = [] := by
      rcases Bool.and_eq_false_iff.mp hb with z | z
      · have : ¬ ((i : Int) < (L.length : Int)) := of_decide_eq_false z
        rw [List.drop_eq_nil_of_le (by omega), com_nil]
      · have : ¬ ((j : Int) < (R.length : Int)) := of_decide_eq_false z
        rw [List.drop_eq_nil_of_le (as := R) (by omega), com_nil2]
    rw [hd, List.append_nil] at he
    rw [he] at hrt
    refine nx_freeze (i := 2) rfl ?_
    exact nx_ret hrt (ed_var rfl) rfl
def trackD (L : Rows) : Dt := .lst (L.map rowD)
def lenSum (ts : List Rows) : Nat := (ts.map List.length).sum
def Rl_shared_rows : Rel := fun zs0 Pz => ∃ (t : List (Rat × Rat)) (ts : List (List (Rat × Rat))) (n : Nat), zs0 = [.lst ((t :: ts).map trackD)] ∧ (t.length + lenSum ts ≤ 1000 ∧ (∀ L ∈ t :: ts, RowsBd n L) ∧ n ≤ 4000) ∧ Pz = (fun e => e = .lst ((ts.foldl com t).map rowD))
theorem len_shared_rows : ∀ ds Post, Rl_shared_rows ds Post → ds.length = 1 := fun _ _ ⟨_, _, _, e, _⟩ => by rw [e]; rfl
theorem fold_com {n : Nat} : ∀ (ts : List Rows) (t : Rows), RowsBd n t → (∀ L ∈ ts, RowsBd n L) → RowsBd n (ts.foldl com t) ∧ (ts.foldl com t).length ≤ t.length + lenSum ts
  | [], t, h, _ => ⟨h, Nat.le_add_right _ _⟩
  | x :: ts, t, h, hs => by
    have h1 := com_all (P := Bd n) _ t x (Nat.le_refl _) h.b (hs x List.mem_cons_self).b
    have h2 := fold_com ts (com t x) ⟨h1.2⟩ fun L hL => hs L (List.mem_cons_of_mem _ hL)
    refine ⟨h2.1, ?_⟩
    have e : lenSum (x :: ts) = x.length + lenSum ts := by simp [lenSum]
    rw [e]
    have := h2.2
    have := h1.1
    show (ts.foldl com (com t x)).length ≤ _
    omega
theorem fold_take {ts : List Rows} {t : Rows} {i : Nat} (hi : i < ts.length) : (ts.take (i + 1)).foldl com t = com ((ts.take i).foldl com t) ts[i] := by
  rw [← List.take_append_getElem hi, List.foldl_append] <;> rfl
theorem lenSum_take {ts : List Rows} {i : Nat} (hi : i < ts.length) : lenSum (ts.take i) + ts[i].length ≤ lenSum ts := by
  have e : lenSum ts = lenSum (ts.take i) + (ts[i].length + lenSum (ts.drop (i + 1))) := by
    have h1 : ts = ts.take i ++ (ts[i] :: ts.drop (i + 1)) := by rw [← List.drop_eq_getElem_cons hi, List.take_append_drop]
    refine (congrArg lenSum h1).trans ?_
    unfold lenSum
    rw [List.map_append, List.sum_append, List.map_cons, List.sum_cons]
  omega
theorem ok_shared_rows (B : Bs K mg) : Cl P w K mg base CX0 3 "shared_rows" (spP Rl_shared_rows) [] := by
  refine cl_of (N := ["tracks", "rows", "track"]) (ps := ["tracks"]) B.d_shared_rows B.g_shared_rows (by decide +kernel) (fun _ _ _ _ _ _ us hl => match us, hl with | [_], _ => rfl)
    (len_P len_shared_rows) fun f cdv A outer s H vs Q E hr h => ?_
  have nd : (["tracks", "rows", "track"] : List Str).Nodup := by decide +kernel
  refine ⟨_, PSs.nox (pss_cons (ps_set (i := 1) nd rfl (by first | exact Or.inl rfl | exact Or.inr rfl) (pe_ix ix_list (pv 0) pe_int (fun _ _ => rfl)))
  (pss_cons (ps_for PassesOwn.never rfl (pi_list (pe_slice sl_list (pv 0) (po_some pe_int) po_none)) (pg_name (i := 2) nd rfl (by first | exact Or.inl rfl | exact Or.inr rfl)) (pss_one (ps_set (i := 1) nd rfl (by first | exact Or.inl rfl | exact Or.inr rfl) (pe_cl (ok_common_rows B) hr (by decide) pass0 (pa_cons (pv 1) (pa_cons (pv 2) pa_nil))))))
  (pss_one (ps_ret (pv 1))))), enterP h fun C ds Post hR hrt => ?_⟩
  obtain ⟨t, ts, n, rfl, ⟨hlen, hb, hn⟩, rfl⟩ := hR
  show NX C _ [.val (.lst (trackD t :: ts.map trackD)), .no, .no]
  refine sq_asg (ed_ixL (ed_var rfl) ed_int atI0) ?_
  refine sq_forE (ei_tail (ed_var rfl)) (ι := Unit) (fun i _ => [.val (.lst (trackD t :: ts.map trackD)), .val (trackD ((ts.take i).foldl com t)), .no]) (fun _ _ => True) () trivial (.refl _) (fun C' le i hi _ _ N hN => ⟨_, [2], asg_name, ?_⟩) ?_
  · have hil : i < ts.length := by simpa using hi
    rw [getD_map hi]
    have f1 := fold_com (n := n) (ts.take i) t (hb _ List.mem_cons_self) fun L hL => hb _ (List.mem_cons_of_mem _ (List.mem_of_mem_take hL))
    have f2 := lenSum_take hil
    have f3 := f1.2
    refine nx_asg (ed_call (ea_cons (ed_var rfl) (ea_cons (ed_var rfl) ea_nil)) ⟨_, _, n, rfl, ⟨by omega, f1.1, hb _ (List.mem_cons_of_mem _ (List.getElem_mem hil)), hn⟩, rfl⟩) ?_
    have := hN () trivial
    rw [fold_take hil] at this
    exact this.wk (.keep (.keep (.drop .nil)))
  · intro _ _
    refine nx_ret hrt (ed_var rfl) ?_
    rw [List.length_map, List.take_length] <;> rfl
end
end Wk
-- D23
namespace Wk
open PySem PySem.Spec
open PyProof.Rows L2
section
variable {P : Program}
variable {w : World} {K : PySem.W.Frag} {mg : Str → Option Value} {base : Heap}
/-! ### objects and errors, being made -/
theorem noOwn_cases {Γ : List Slot} (no : noOwn Γ = true) {i : Nat} {ds : List Dt} : Γ[i]? ≠ some (.own ds) := fun e => by
  have := List.all_eq_true.mp no _ (List.mem_of_getElem? e)
  cases this
/-- on from here: what is at hand is data and plain values -/
theorem iv_here {C : Ctx} {σ : L2.St} {F H H2 : Hp} {Γ : List Slot} (I : IV C σ F H Γ) (no : noOwn Γ = true) (hs : ∀ i : Nat, Γ[i]? ≠ some Slot.sto) (e : Same F H2) : IV (ctx0 F H2) σ F H2 Γ where
  cS := fun _ z => z.elim
  cT := fun q z => absurd z (by simp [ctx0])
  f0 := .refl _
  fh := e
  hh := fun _ _ h _ _ => h
  fn := fun _ _ h => h
  st := fun _ z => z.elim
  tb := fun q z => absurd z (by simp [ctx0])
  ft := fun q z => absurd z (by simp [ctx0])
  len := I.len
  sl := fun i s h => by
    obtain ⟨o, ho, k⟩ := I.sl i s h
    refine ⟨o, ho, ?_⟩
    cases s with
    | no => trivial
    | val d => exact k
    | own ds => exact absurd h (noOwn_cases no)
    | sto => exact absurd h (hs i)
    | raw v => exact k
  dj := fun i j d1 d2 p h1 => absurd h1 (noOwn_cases no)
/-- the object at x is being made -/
structure Bld (x A dx : Addr) (fs : List (Str × V)) (Fb Hb : Hp) (σ : L2.St) (F H : Hp) (Γ : List Slot) : Prop where
  iv : IV (ctx0 F H) σ F H Γ
  ff : Same Fb F
  hh : ∀ a o, a ≠ x → Hb a = some o → H a = some o
  fn : ∀ a, Hb a ≠ none → Fb a = none → F a = none
  ox : H x = some (.ins A dx fs)
  fx : F x = none
  s0 : σ[0]? = some (some (.ref x))
/-- what follows holds while the object has these fields, their data es -/
def NXi (x A dx : Addr) (ns : List Str) (es : List Dt) (Fb Hb : Hp) (P : L2.St → Hp → Prop) (Γ : List Slot) : Prop := ∀ σ F H vs, Bld x A dx (ns.zip vs) Fb Hb σ F H Γ → vs.length = ns.length → Reps F vs es → P σ H
theorem putF_new {f : Str} {v : V} : ∀ {ns : List Str} {vs : List V}, vs.length = ns.length → f ∉ ns → putF f v (ns.zip vs) = (ns ++ [f]).zip (vs ++ [v])
  | [], [], _, _ => rfl
  | [], _ :: _, h, _ => (by cases h)
  | _ :: _, [], h, _ => (by cases h)
  | n :: ns, u :: vs, h, hf => by
    show (if n = f then _ else (n, u) :: putF f v (ns.zip vs)) = _
    rw [if_neg (fun e => hf (by rw [e]; exact List.mem_cons_self)), putF_new (Nat.succ.inj h) fun z => hf (List.mem_cons_of_mem _ z)]
    rfl
theorem nxi_fld {K : PySem.W.Frag} {x A dx : Addr} {ns : List Str} {es : List Dt} {Fb Hb : Hp} {Γ : List Slot} {te : TE} {d : Dt} {f : Str} {D : Ends} (no : noOwn Γ = true) (hs : ∀ i : Nat, Γ[i]? ≠ some Slot.sto) (hc : Cls K A) (hn : NoAttr K A f) (hf : f ∉ ns) (hl : ns.length < 1000)
    (h : ∀ C, EvD C te Γ d) (k : NXi x A dx (ns ++ [f]) (es ++ [d]) Fb Hb D.nx Γ) : NXi x A dx ns es Fb Hb (sFld K (tVar 0) te f D) Γ := fun σ F H vs b hlen r =>
  h _ σ F H b.iv _ fun v F1 H1 d' I1 s1 r1 k1 => by
    subst k1
    have ox1 : H1 x = some (.ins A dx (ns.zip vs)) := I1.hh _ _ b.ox (fun z => z) (fun q z => absurd z (by simp [ctx0]))
    have fx1 : F1 x = none := I1.fn x (by show H x ≠ none; rw [b.ox]; simp) b.fx
    refine ⟨.ref x, b.s0, x, A, dx, ns.zip vs, rfl, ox1, hc, hn, by rw [List.length_zip]; omega, ?_⟩
    rw [putF_new hlen hf]
    have sm : Same F1 (upd H1 x (.ins A dx ((ns ++ [f]).zip (vs ++ [v])))) := fun a o z => by
      have : a ≠ x := fun e => by rw [e, fx1] at z; cases z
      rw [upd_ne this]
      exact I1.fh a o z
    refine k σ F1 _ (vs ++ [v]) ⟨iv_here I1 no hs sm, b.ff.trans s1, fun a o ha z => ?_, fun a z z2 => ?_, upd_same, fx1, b.s0⟩ (by rw [List.length_append, List.length_append, hlen] <;> rfl) ((r.mono s1).append (.cons r1 .nil))
    · rw [upd_ne ha]
      exact I1.hh a o (b.hh a o ha z) (fun z => z) (fun q z => absurd z (by simp [ctx0]))
    · by_cases ha : a = x
      · rw [ha]
        exact fx1
      · cases e : Hb a with
        | none => exact absurd e z
        | some o => exact I1.fn a (by show H a ≠ none; rw [b.hh a o ha e]; simp) (b.fn a z z2)
/-- a promise of __init__ -/
def spI (A : Addr) (ns : List Str) (Rl : List Dt → List Dt → Prop) : Sp := fun vs H Q _ => ∃ x dx vs' F ds es, vs = .ref x :: vs' ∧ H x = some (.ins A dx []) ∧ F x = none ∧ Same F H ∧ Reps F vs' ds ∧ Rl ds es ∧
  ∀ F' H' ws, Same F F' → Same F' H' → (∀ a o, a ≠ x → H a = some o → H' a = some o) → (∀ a, H a ≠ none → F a = none → F' a = none) → H' x = some (.ins A dx (ns.zip ws)) → ws.length = ns.length → Reps F' ws es → Q .non H'
theorem len_I {A : Addr} {ns : List Str} {Rl : List Dt → List Dt → Prop} {n : Nat} (h : ∀ ds es, Rl ds es → ds.length = n) : ∀ vs H Q E, spI A ns Rl vs H Q E → vs.length = n + 1 := fun vs H Q E z => by
  obtain ⟨x, dx, vs', F, ds, es, rfl, _, _, _, r, hR, _⟩ := z
  rw [List.length_cons, r.length, h ds es hR]
structure Ci (P : Program) (w : World) (K : PySem.W.Frag) (mg : Str → Option Value) (base : Heap) (CX : CXT) (k : Nat) (x : Str) (sp : Sp) : Prop where
  ex : ∃ (f : Addr) (fd : FuncData) (ps : List Str) (us : List Value), FnOk P w K mg base CX k f fd ps sp ∧ Mk K (He.ga K x) f ∧ mg x = some (.ref (He.ga K x)) ∧ Binds K fd ps us ∧ Vals [] us
theorem pe_ci {X : Cx} {CX : CXT} {k j : Nat} {x : Str} {sp : Sp} {p pos : Pos} {e : Expr} {es : List Expr} {t : TA} {E : XK} (c : Ci X.prog X.w X.K X.mg X.base CX k x sp) (hr : Room j X.A) (hk : k + 1 ≤ j) (hx : Passes CX X E) (ha : PA X (e :: es) t) (hg : Gl X x := by rfl) (hdb : (x == ("__debug__" : Str)) = false := by decide) (he : starEach (e :: es) X.env = (false, eval e X.env) :: starEach es X.env := by rfl) (hpl : (backTo pos (starEach es X.env)).any (·.1) = false := by rfl) :
    PE X (.Call (.Name x p) (e :: es) [] pos) (tMake (He.ga X.K x) sp [] E t) := by
  obtain ⟨f, fd, ps, us, F, m, hm, b, d⟩ := c.ex
  exact pe_make m F (hr.mono hk) hg hm b d hx ha hdb he hpl
section
variable {C : Ctx} {Γ : List Slot} {ta : TA} {ds es : List Dt} {E : XK} {A : Addr} {ns : List Str} {Rl : List Dt → List Dt → Prop}
theorem en_make {R : Dt → Prop} (ha : EvA C ta Γ fun ds => ∃ es, Rl ds es ∧ R (.ins A ns es)) : EvN C (tMake A (spI A ns Rl) [] E ta) Γ R := fun σ F H I Q q =>
  ha σ F H I _ fun vs F1 H1 ds I1 s1 r1 ⟨es, hR, kR⟩ x dx hx hdx hne => by
    rw [List.append_nil]
    have fx : F1 x = none := free_F I1.fh hx
    refine ⟨x, dx, vs, F1, ds, es, rfl, upd_same, fx, fun a o z => ?_, r1, hR, fun F' H' ws s2 s3 s4 s5 ox hl r2 => ⟨rfl, ?_⟩⟩
    · rw [upd_ne (ne_of_none (I1.fh a o z) hx), upd_ne (ne_of_none (I1.fh a o z) hdx)]
      exact I1.fh a o z
    · have nx : ∀ a o, H1 a = some o → a ≠ x := fun a o z => ne_of_none z hx
      have hx' : F' x = none := s5 x (by rw [upd_same]; simp) fx
      have up : ∀ a o, H1 a = some o → upd (upd H1 dx (.own x)) x (.ins A dx []) a = some o := fun a o z => by
        rw [upd_ne (nx a o z), upd_ne (ne_of_none z hdx)]
        exact z
      have g : Grow F1 H1 (upd F' x (.ins A dx (ns.zip ws))) H' := ⟨fun a o z => by
        rw [upd_ne (nx a o (I1.fh a o z))]
        exact s2 a o z, fun a o z => by
        by_cases e : a = x
        · subst e
          rw [upd_same] at z
          rw [← z]
          exact ox
        · rw [upd_ne e] at z
          exact s3 a o z, fun a o z => s4 a o (nx a o z) (up a o z), fun a z z2 => by
        cases e : H1 a with
        | none => exact absurd e z
        | some o =>
          rw [upd_ne (nx a o e)]
          exact s5 a (by rw [up a o e]; simp) z2⟩
      have same2 : Same F' (upd F' x (.ins A dx (ns.zip ws))) := same_upd hx'
      exact q (.ref x) _ H' _ (I1.grow g) (s1.trans g.ff) (.ins upd_same hl (r2.mono same2)) kR
theorem ed_make (ha : EaD C ta Γ ds) (h : Rl ds es) : EvD C (tMake A (spI A ns Rl) [] E ta) Γ (.ins A ns es) := en_make (ha.imp fun _ z => ⟨es, by rw [z]; exact h, rfl⟩)
end
/-- the entry -/
theorem enterI {A : Addr} {ns : List Str} {Rl : List Dt → List Dt → Prop} {N : List Str} {t : TS} {vs : List V} {H : Hp} {Q : VK} {E : XK} (h : spI A ns Rl vs H Q E)
    (k : ∀ x dx ds es Fb Hb, Rl ds es → NXi x A dx ns es Fb Hb (fun _ H' => Q .non H') (slots N (.raw (.ref x) :: ds.map .val)) → NXi x A dx [] [] Fb Hb (t { nx := fun _ H' => Q .non H', rt := Q }) (slots N (.raw (.ref x) :: ds.map .val))) : t { nx := fun _ H' => Q .non H', rt := Q } (L2.start N vs) H := by
  obtain ⟨x, dx, vs', F, ds, es, rfl, hx, fx, hF, r, hR, hq⟩ := h
  obtain ⟨h1, h2⟩ := slot_start (N := N) (vs := .ref x :: vs') (l := .raw (.ref x) :: ds.map Slot.val) (C := ctx0 F H) (F := F) (H := H) (by rw [List.length_cons, List.length_cons, List.length_map, r.length]) fun i s hs => by
    cases i with
    | zero =>
      cases Option.some.inj hs
      exact ⟨_, rfl, rfl⟩
    | succ i =>
      have hs' : (ds.map Slot.val)[i]? = some s := hs
      rw [List.getElem?_map] at hs'
      cases e : ds[i]? with
      | none =>
        rw [e] at hs'
        cases hs'
      | some d =>
        rw [e] at hs'
        cases Option.some.inj hs'
        obtain ⟨v, hv, r⟩ := r.get e
        exact ⟨v, hv, v, rfl, r⟩
  have no : noOwn (slots N (.raw (.ref x) :: ds.map Slot.val)) = true := by
    unfold noOwn slots
    rw [List.all_append]
    simp [List.all_eq_true]
  refine k x dx ds es F H hR (fun σ F' H' ws b hl rr => hq F' H' ws b.ff b.iv.fh b.hh b.fn b.ox hl rr) _ F H [] ⟨⟨fun _ z => z.elim, fun q z => absurd z (by simp [ctx0]), .refl _, hF, fun _ _ h _ _ => h, fun _ _ h => h, fun _ z => z.elim, fun q z => absurd z (by simp [ctx0]), fun q z => absurd z (by simp [ctx0]), h1, h2, fun i j d1 d2 p e1 => absurd e1 (noOwn_cases no)⟩, .refl _, fun _ _ _ h => h, fun _ _ h => h, hx, fx, rfl⟩ rfl .nil
/-- steps that make nothing of the object -/
theorem nxi_of {x A dx : Addr} {ns : List Str} {es : List Dt} {Fb Hb : Hp} {Γ : List Slot} {P R : L2.St → Hp → Prop} (no : noOwn Γ = true) (hs : ∀ i : Nat, Γ[i]? ≠ some Slot.sto) (h : ∀ C, NX C R Γ → NX C P Γ) (k : NXi x A dx ns es Fb Hb R Γ) (s0 : Γ[0]? = some (.raw (.ref x))) : NXi x A dx ns es Fb Hb P Γ := fun σ F H vs b hl r => by
  let C : Ctx := ctx0 F H
  refine h C (fun σ' F' H' I => ?_) σ F H b.iv
  have ox' : H' x = some (.ins A dx (ns.zip vs)) := I.hh _ _ b.ox (fun z => z) (fun q z => absurd z (by simp [C, ctx0]))
  have fx' : F' x = none := I.fn x (by show H x ≠ none; rw [b.ox]; simp) b.fx
  have s0' : σ'[0]? = some (some (.ref x)) := by
    obtain ⟨o, ho, k⟩ := I.sl 0 _ s0
    rw [ho, k]
  refine k σ' F' H' vs ⟨iv_here I no hs I.fh, b.ff.trans I.f0, fun a o ha z => I.hh a o (b.hh a o ha z) (fun z => z) (fun q z => absurd z (by simp [C, ctx0])), fun a z z2 => ?_, ox', fx', s0'⟩ hl (r.mono I.f0)
  by_cases ha : a = x
  · rw [ha]
    exact fx'
  · cases e : Hb a with
    | none => exact absurd e z
    | some o => exact I.fn a (by show H a ≠ none; rw [b.hh a o ha e]; simp) (b.fn a z z2)
end
end Wk
-- D24
namespace Wk
open PySem PySem.Spec
open PyProof.Rows L2
section
variable {P : Program}
variable {w : World} {K : PySem.W.Frag} {mg : Str → Option Value} {base : Heap}
def noSto (Γ : List Slot) : Bool := Γ.all fun s => match s with
  | .sto => false
  | _ => true
theorem nsb {Γ : List Slot} (h : noSto Γ = true) : ∀ i : Nat, Γ[i]? ≠ some Slot.sto := fun i e => by
  have := List.all_eq_true.mp h _ (List.mem_of_getElem? e)
  cases this
theorem sqi_fld {K : PySem.W.Frag} {x A dx : Addr} {ns : List Str} {es : List Dt} {Fb Hb : Hp} {Γ : List Slot} {te : TE} {d : Dt} {f : Str} {D : Ends} {u : TS} (no : noOwn Γ = true) (hs : noSto Γ = true) (hc : Cls K A) (hn : NoAttr K A f) (hf : f ∉ ns) (hl : ns.length < 1000)
    (h : ∀ C, EvD C te Γ d) (k : NXi x A dx (ns ++ [f]) (es ++ [d]) Fb Hb (u D) Γ) : NXi x A dx ns es Fb Hb (tSeq (sFld K (tVar 0) te f) u D) Γ := nxi_fld (D := { D with nx := u D }) no (nsb hs) hc hn hf hl h k
def Rl_Span (ds es : List Dt) : Prop := ∃ (a b : Rat) (n : Nat), ds = [fr a, fr b] ∧ es = [fr a, fr b, fr (b - a)] ∧ a ≤ b ∧ Bd n a ∧ Bd n b ∧ n ≤ 4000
theorem ok_Span_init (B : Bs K mg) : Ci P w K mg base CX0 5 "Span" (spI (He.ga K "Span") ["first", "last", "length"] Rl_Span) := by
  obtain ⟨fd, F⟩ := B.d_Span_init
  refine ⟨_, fd, ["self", "first", "last"], [], F.ok (CX := CX0) (k := 4) (N := ["self", "first", "last"]) (ps := ["self", "first", "last"]) (C8.fnScope_by (by decide +kernel)) (len_I (n := 2) fun ds es ⟨_, _, _, e, _⟩ => by rw [e]; rfl) (fun cdv A outer s H vs Q E hr h => ?_), B.m_Span, B.g_Span, F.bindsN (fun _ _ _ _ _ _ us hl => match us, hl with | [_, _, _], _ => rfl), .nil⟩
  have nd : (["self", "first", "last"] : List Str).Nodup := by decide +kernel
  refine ⟨_, PSs.nox (pss_cons (ps_if (pt_not (pt_val (pe_cl (ok_is_fraction B) hr (by decide) pass0 (pa_cons (pv 1) pa_nil)))) (pss_one ps_never) pss_nil)
  (pss_cons (ps_if (pt_not (pt_val (pe_cl (ok_is_fraction B) hr (by decide) pass0 (pa_cons (pv 2) pa_nil)))) (pss_one ps_never) pss_nil)
  (pss_cons (ps_if (pt_val (pe_cl (ok_precedes B) hr (by decide) pass0 (pa_cons (pv 2) (pa_cons (pv 1) pa_nil)))) (pss_one ps_never) pss_nil)
  (pss_cons (ps_fld (pv 0) (pv 1) (by rfl))
  (pss_cons (ps_fld (pv 0) (pv 2) (by rfl))
  (pss_one (ps_fld (pv 0) (pe_cl (ok_minus B) hr (by decide) pass0 (pa_cons (pv 2) (pa_cons (pv 1) pa_nil))) (by rfl)))))))), enterI h fun x dx ds es Fb Hb hR k => ?_⟩
  obtain ⟨a, b, n, rfl, rfl, hab, ha, hb, hn⟩ := hR
  have ia : Bz a n := ⟨ha⟩
  have ib : Bz b n := ⟨hb⟩
  show NXi x _ dx [] [] Fb Hb _ [.raw (.ref x), .val (fr a), .val (fr b)]
  have hlt : ¬ b < a := Rat.not_lt.mpr hab
  refine nxi_of rfl (nsb rfl) (fun C hk => sq_no (etd_not (etd_B (ed_call (ea_cons (ed_var rfl) ea_nil) (rl_is_fraction (.fr a))))) rfl (sq_no (etd_not (etd_B (ed_call (ea_cons (ed_var rfl) ea_nil) (rl_is_fraction (.fr b))))) rfl (sq_no (etd_B (ed_call (ea_cons (ed_var rfl) (ea_cons (ed_var rfl) ea_nil)) rl_precedes)) (decide_eq_false hlt) hk))) ?_ rfl
  refine sqi_fld rfl rfl B.c_Span B.n_first (by simp) (by decide) (fun C => ed_var rfl) ?_
  refine sqi_fld rfl rfl B.c_Span B.n_last (by decide +kernel) (by decide) (fun C => ed_var rfl) ?_
  exact nxi_fld rfl (nsb rfl) B.c_Span B.n_length (by decide +kernel) (by decide) (fun C => ed_call (ea_cons (ed_var rfl) (ea_cons (ed_var rfl) ea_nil)) rl_minus) k
def Rl_need_place : Rel := fun zs0 Pz => ∃ (q : Rat) (x : Str), zs0 = [fr q, .str x] ∧ (0 ≤ q ∧ q < 1) ∧ Pz = (fun e => e = .non)
theorem len_need_place : ∀ ds Post, Rl_need_place ds Post → ds.length = 2 := fun _ _ ⟨_, _, e, _⟩ => by rw [e]; rfl
theorem ok_need_place (B : Bs K mg) : Cl P w K mg base CX0 3 "need_place" (spP Rl_need_place) [] := by
  refine cl_of (N := ["value", "what"]) (ps := ["value", "what"]) B.d_need_place B.g_need_place (by decide +kernel) (fun _ _ _ _ _ _ us hl => match us, hl with | [_, _], _ => rfl)
    (len_P len_need_place) fun f cdv A outer s H vs Q E hr h => ?_
  have nd : (["value", "what"] : List Str).Nodup := by decide +kernel
  refine ⟨_, PSs.nox (pss_one (ps_if (PW.pt (pw_or (pt_not (pt_val (pe_cl (ok_is_fraction B) hr (by decide) pass0 (pa_cons (pv 0) pa_nil)))) (pw_or1 (pt_not (pt_chain op_le op_lt pe_int (pe_ix ix_tup (pv 0) pe_int (fun _ _ => rfl)) (pe_ix ix_tup (pv 0) pe_int (fun _ _ => rfl))))))) (pss_one ps_never) pss_nil)), enterP h fun C ds Post hR hrt => ?_⟩
  obtain ⟨q, x, rfl, ⟨h0, h1⟩, rfl⟩ := hR
  have g0 : 0 ≤ q.num := Rat.num_nonneg.mpr h0
  have g1 : q.num < (q.den : Int) := by
    have := (Rat.lt_iff q 1).mp h1
    have e1 : (1 : Rat).num = 1 := rfl
    have e2 : (1 : Rat).den = 1 := rfl
    rw [e1, e2] at this
    omega
  show NX C _ [.val (fr q), .val (.str x)]
  refine nx_no (etd_or (b := false) (etd_not (etd_B (ed_call (ea_cons (ed_var rfl) ea_nil) (rl_is_fraction (.fr q))))) fun _ => (etd_not (etd_B (ed_chain ed_int (ed_ixT (ed_var rfl) ed_int rfl) (ed_ixT (ed_var rfl) ed_int rfl)))).is ?_) rfl (nx_end hrt rfl)
  rw [decide_eq_true g0, decide_eq_true g1] <;> rfl
def Rl_Cycle (ds es : List Dt) : Prop := ∃ (r s : Rat), ds = [fr r, fr s] ∧ es = [fr r, fr s, perD r] ∧ 0 ≤ s ∧ s < 1
theorem ok_Cycle_init (B : Bs K mg) : Ci P w K mg base CX0 4 "Cycle" (spI (He.ga K "Cycle") ["rate", "start", "period"] Rl_Cycle) := by
  obtain ⟨fd, F⟩ := B.d_Cycle_init
  obtain ⟨us, hv, hbd⟩ := F.binds1 (ps := ["self", "rate", "start"]) 3 1 (by simp) (by rfl) (fun _ _ _ _ _ _ _ us its hl hl2 => match us, hl, its, hl2 with | [_, _, _], _, [_], _ => ⟨_, rfl, rfl⟩)
  refine ⟨_, fd, ["self", "rate", "start"], us, F.ok (CX := CX0) (k := 3) (N := ["self", "rate", "start"]) (ps := ["self", "rate", "start"]) (C8.fnScope_by (by decide +kernel)) (len_I (n := 2) fun ds es ⟨_, _, e, _⟩ => by rw [e]; rfl) (fun cdv A outer s H vs Q E hr h => ?_), B.m_Cycle, B.g_Cycle, hbd, hv⟩
  have nd : (["self", "rate", "start"] : List Str).Nodup := by decide +kernel
  refine ⟨_, PSs.nox (pss_cons (ps_expr (pe_cl (ok_need_fraction B) hr (by decide) pass0 (pa_cons (pv 1) (pa_cons pe_str pa_nil))))
  (pss_cons (ps_expr (pe_cl (ok_need_place B) hr (by decide) pass0 (pa_cons (pv 2) (pa_cons pe_str pa_nil))))
  (pss_cons (ps_fld (pv 0) (pv 1) (by rfl))
  (pss_cons (ps_fld (pv 0) (pv 2) (by rfl))
  (pss_one (ps_fld (pv 0) (pe_ifExp (pt_cmpR op_eq (pe_ix ix_tup (pv 1) pe_int (fun _ _ => rfl)) pe_int (nomark _)) pe_non (pe_tup (pa_cons (pe_ix ix_tup (pv 1) pe_int (fun _ _ => rfl)) (pa_cons (pe_callB call_abs (by rfl) B.z_abs (by decide +kernel) (pa_cons (pe_ix ix_tup (pv 1) pe_int (fun _ _ => rfl)) pa_nil)) pa_nil)))) (by rfl))))))), enterI h fun x dx ds es Fb Hb hR k => ?_⟩
  obtain ⟨r, s, rfl, rfl, h0, h1⟩ := hR
  show NXi x _ dx [] [] Fb Hb _ [.raw (.ref x), .val (fr r), .val (fr s)]
  refine nxi_of rfl (nsb rfl) (fun C hk => sq_drop (en_callD (ea_cons (ed_var rfl) (ea_cons ed_str ea_nil)) ⟨r, _, rfl, trivial, rfl⟩) (sq_drop (en_callD (ea_cons (ed_var rfl) (ea_cons ed_str ea_nil)) ⟨s, _, rfl, ⟨h0, h1⟩, rfl⟩) hk)) ?_ rfl
  refine sqi_fld rfl rfl B.c_Cycle B.n_rate (by simp) (by decide) (fun C => ed_var rfl) ?_
  refine sqi_fld rfl rfl B.c_Cycle B.n_start (by decide +kernel) (by decide) (fun C => ed_var rfl) ?_
  refine nxi_fld rfl (nsb rfl) B.c_Cycle B.n_period (by decide +kernel) (by decide) (fun C => ed_if (d := perD r) (etd_test (ed_eqI (ed_ixT (ds := [.int r.num, .int (r.den : Int)]) (ed_var rfl) ed_int rfl) ed_int)) (fun hb => ed_non.is ?_) fun hb => (ed_tup (ea_cons (ed_ixT (ds := [.int r.num, .int (r.den : Int)]) (ed_var rfl) ed_int rfl) (ea_cons (ed_abs (ed_ixT (ds := [.int r.num, .int (r.den : Int)]) (ed_var rfl) ed_int rfl)) ea_nil))).is ?_) k
  · have : r = 0 := Rat.num_eq_zero.mp (of_decide_eq_true hb)
    unfold perD
    rw [if_pos this]
  · have : r ≠ 0 := fun z => (of_decide_eq_false hb) (Rat.num_eq_zero.mpr z)
    unfold perD
    rw [if_neg this]
    exact istep_fr this
/-! ### errors -/
/-- a promise of an error's __init__ -/
def spE (C : Addr) (f : Str) : Sp := fun vs H Q _ => ∃ a y, vs = [.ref a, y] ∧ H a = some (exo a C none) ∧ ∀ dx, H dx = none → dx ≠ a → Q .non (upd (upd H dx (exd dx [(f, y)])) a (exo a C (some dx)))
theorem len_E {C : Addr} {f : Str} : ∀ vs H Q E, spE C f vs H Q E → vs.length = 2 := fun vs H Q E ⟨a, y, e, _⟩ => by rw [e] <;> rfl
theorem ok_BadValue_init (B : Bs K mg) : ∃ fd, FnOk P w K mg base CX0 1 (He.ma K (He.ga K "BadValue") "__init__") fd ["self", "what"] (spE (He.ga K "BadValue") "what") ∧ Binds K fd ["self", "what"] [] := by
  obtain ⟨fd, F⟩ := B.d_BadValue_init
  refine ⟨fd, F.ok (CX := CX0) (k := 0) (N := ["self", "what"]) (ps := ["self", "what"]) (C8.fnScope_by (by decide +kernel)) len_E (fun cdv A outer s H vs Q E hr h => ?_), F.bindsN (fun _ _ _ _ _ _ us hl => match us, hl with | [_, _], _ => rfl)⟩
  have nd : (["self", "what"] : List Str).Nodup := by decide +kernel
  obtain ⟨a, y, rfl, ha, hq⟩ := h
  exact ⟨_, PSs.nox (pss_one (ps_ost (pv 0) (pv 1) (by rfl))), y, rfl, .ref a, rfl, a, He.ga K "BadValue", rfl, B.f_BadValue.o, B.f_BadValue.n, .inl ⟨ha, fun dx h1 h2 => hq dx h1 h2⟩⟩
theorem pmk_BadValue {X : Cx} {j : Nat} {e : Expr} {p pos : Pos} {ta : TA} (B : Bs X.K X.mg) (hr : Room j X.A) (hk : 2 ≤ j) (ha : PA X [e] ta) (he : starEach [e] X.env = (false, eval e X.env) :: starEach [] X.env) (hpl : (backTo pos (starEach [] X.env)).any (·.1) = false) (hg : Gl X "BadValue" := by rfl) :
    PMk X (.Call (.Name "BadValue" p) [e] [] pos) (tMkO (He.ga X.K "BadValue") (spE (He.ga X.K "BadValue") "what") [] ta) := by
  obtain ⟨fd, F, hb⟩ := ok_BadValue_init (P := X.prog) (w := X.w) (base := X.base) B
  exact pmk_oex B.f_BadValue.o B.f_BadValue.i B.f_BadValue.t F (hr.mono hk) hb .nil (fun _ _ _ _ _ _ _ h => False.elim h) hg B.g_BadValue ha (by decide) he hpl
theorem ok_TooMany_init (B : Bs K mg) : ∃ fd, FnOk P w K mg base CX0 1 (He.ma K (He.ga K "TooMany") "__init__") fd ["self", "limit"] (spE (He.ga K "TooMany") "limit") ∧ Binds K fd ["self", "limit"] [] := by
  obtain ⟨fd, F⟩ := B.d_TooMany_init
  refine ⟨fd, F.ok (CX := CX0) (k := 0) (N := ["self", "limit"]) (ps := ["self", "limit"]) (C8.fnScope_by (by decide +kernel)) len_E (fun cdv A outer s H vs Q E hr h => ?_), F.bindsN (fun _ _ _ _ _ _ us hl => match us, hl with | [_, _], _ => rfl)⟩
  have nd : (["self", "limit"] : List Str).Nodup := by decide +kernel
  obtain ⟨a, y, rfl, ha, hq⟩ := h
  exact ⟨_, PSs.nox (pss_one (ps_ost (pv 0) (pv 1) (by rfl))), y, rfl, .ref a, rfl, a, He.ga K "TooMany", rfl, B.f_TooMany.o, B.f_TooMany.n, .inl ⟨ha, fun dx h1 h2 => hq dx h1 h2⟩⟩
theorem pmk_TooMany {X : Cx} {j : Nat} {e : Expr} {p pos : Pos} {ta : TA} (B : Bs X.K X.mg) (hr : Room j X.A) (hk : 2 ≤ j) (ha : PA X [e] ta) (he : starEach [e] X.env = (false, eval e X.env) :: starEach [] X.env) (hpl : (backTo pos (starEach [] X.env)).any (·.1) = false) (hg : Gl X "TooMany" := by rfl) :
    PMk X (.Call (.Name "TooMany" p) [e] [] pos) (tMkO (He.ga X.K "TooMany") (spE (He.ga X.K "TooMany") "limit") [] ta) := by
  obtain ⟨fd, F, hb⟩ := ok_TooMany_init (P := X.prog) (w := X.w) (base := X.base) B
  exact pmk_oex B.f_TooMany.o B.f_TooMany.i B.f_TooMany.t F (hr.mono hk) hb .nil (fun _ _ _ _ _ _ _ h => False.elim h) hg B.g_TooMany ha (by decide) he hpl
theorem pmk_Endless {X : Cx} {p pos : Pos} (B : Bs X.K X.mg) (hg : Gl X "Endless" := by rfl) : PMk X (.Call (.Name "Endless" p) [] [] pos) (fun _ H Q => Q (.ref (He.ga X.K "Endless")) none H) := by
  intro pins s σ H Q I h
  obtain ⟨q, kC, sb, ty⟩ := B.e_Endless
  refine wpAny_Call_Name_kw (ld_glob I hg B.g_Endless (PySem.W.callWith_K0 I.kIn kC ?_) (by decide))
  obtain ⟨bm, N, nm, qn, bs, hdct, sn, sub, ab, col, dd, k0, k1, k2, k3, k5, mN, hC, hN, hni, T⟩ := exc_obj I.kIn q
  (obtain ⟨hp, g, d, tk, os⟩ := s)
  show wpAny _ _ (call (.ref (He.ga X.K "Endless")) []) _ _ _
  exact wpAny_call_exc_subT PySem.F.excBase_ValueError T hC hN hni (fun h' e hm => mk_of I hm (raises_own sb ty) h (I.hok.gone hm.new)) (Nat.zero_le _)
section
variable {C : Ctx} {Γ : List Slot} {ta : TA} {E : XK} {PE : Exc → Prop}
theorem nx_raiseE {K : PySem.W.Frag} {A : Addr} {f : Str} {d : Dt} {x : Exc} (hE : Eh C E (ecl K) PE) (h : EaD C ta Γ [d]) (hx : PE x) (hr : ∀ F H dd v, Rep F v d → H dd = some (.xd [(f, v)]) → ERep (ecl K) H (.ref A) (some dd) x) :
    NX C (fun σ H => tMkO A (spE A f) [] ta σ H fun cls dd H' => E cls dd H') Γ := fun σ F H I => h σ F H I _ fun vs F1 H1 ds I1 s1 r1 k1 => by
  subst k1
  cases r1 with
  | cons rv r2 =>
    rename_i v _
    cases r2
    refine ⟨by show 1 ≤ 1000; decide, fun a ha => ⟨a, v, rfl, upd_same, fun dx h1 h2 => ⟨rfl, dx, [(f, v)], upd_same, ?_, ?_, ?_⟩⟩⟩
    · rw [upd_ne h2, upd_same]
    · rw [upd_ne h2] at h1
      exact h1
    · have hd1 : H1 dx = none := by
        rw [upd_ne h2] at h1
        exact h1
      have sm : Same H1 (upd (del (upd (upd (upd H1 a (exo a A none)) dx (exd dx [(f, v)])) a (exo a A (some dx))) a) dx (.xd [(f, v)])) := fun b o z => by
        have n1 : b ≠ a := ne_of_none z ha
        have n2 : b ≠ dx := ne_of_none z hd1
        rw [upd_ne n2, del_ne n1, upd_ne n1, upd_ne n2, upd_ne n1]
        exact z
      exact hE σ F1 _ Γ _ _ x (I1.grow ⟨.refl _, I1.fh.trans sm, sm, fun _ _ z => z⟩) (hr F1 _ dx _ rv upd_same) hx
theorem nx_bad {K : PySem.W.Frag} {z : Str} (hE : Eh C E (ecl K) PE) (h : EaD C ta Γ [.str z]) (hx : PE (.bad z)) : NX C (fun σ H => tMkO (He.ga K "BadValue") (spE (He.ga K "BadValue") "what") [] ta σ H fun cls dd H' => E cls dd H') Γ :=
  nx_raiseE hE h hx fun F H dd v r hH => ⟨rfl, dd, rfl, by rw [hH, r.str_inv]⟩
theorem nx_many {K : PySem.W.Frag} {n : Int} (hE : Eh C E (ecl K) PE) (h : EaD C ta Γ [.int n]) (hx : PE (.many n)) : NX C (fun σ H => tMkO (He.ga K "TooMany") (spE (He.ga K "TooMany") "limit") [] ta σ H fun cls dd H' => E cls dd H') Γ :=
  nx_raiseE hE h hx fun F H dd v r hH => ⟨rfl, dd, rfl, by rw [hH, r.int_inv]⟩
theorem nx_endl {K : PySem.W.Frag} (hE : Eh C E (ecl K) PE) (hx : PE .endless) : NX C (fun σ H => E (.ref (He.ga K "Endless")) none H) Γ := fun σ F H I => hE σ F H Γ _ _ .endless I ⟨rfl, rfl⟩ hx
end
end
end Wk
-- D25
namespace Wk
open PySem PySem.Spec
open PyProof.Rows L2
section
variable {P : Program}
variable {w : World} {K : PySem.W.Frag} {mg : Str → Option Value} {base : Heap}
inductive CkC (K : PySem.W.Frag) : Dt → Bool → Prop
  | good (rows : Rows) (h : 2 ≤ rows.length ∧ rows.length ≤ 6) : CkC K (.lst (rows.map (cyc K))) true
  | one (p : Rat × Rat) : CkC K (.lst [cyc K p]) false
  | tup (ds : List Dt) : CkC K (.tup ds) false
def Rl_check_cycles (K : PySem.W.Frag) : RelX := fun zs0 Pz Pe => ∃ (d : Dt) (b : Bool), zs0 = [d] ∧ CkC K d b ∧ Pz = (fun e => b = true ∧ e = .non) ∧ Pe = (fun x => b = false ∧ x = .bad "cycles")
theorem len_check_cycles {K : PySem.W.Frag} : ∀ ds Post PE, Rl_check_cycles K ds Post PE → ds.length = 1 := fun _ _ _ ⟨_, _, e, _⟩ => by rw [e]; rfl
theorem ok_check_cycles (B : Bs K mg) : Cl P w K mg base (L2.CX P w) 3 "check_cycles" (spX (ecl K) (Rl_check_cycles K)) [] := by
  refine cl_of (N := ["cycles", "cycle"]) (ps := ["cycles"]) B.d_check_cycles B.g_check_cycles (by decide +kernel) (fun _ _ _ _ _ _ us hl => match us, hl with | [_], _ => rfl)
    (len_X len_check_cycles) fun f cdv A outer s H vs Q E hr h => ?_
  have nd : (["cycles", "cycle"] : List Str).Nodup := by decide +kernel
  have tk : Takes (cxOf (L2.CX P w) P w K mg base ["cycles", "cycle"] "check_cycles" (defScope (top 51)) f cdv A outer s H E) (fun cls d _ H' => E cls d H') := takes_of rfl rfl rfl rfl
  refine ⟨_, (pss_cons (ps_if (PW.pt (pw_or (pt_not (pt_val (pe_callB call_isi (by rfl) B.z_isinstance (by decide +kernel) (pa_cons (pv 0) (pa_cons (pe_bltn (v := .ty "list") rfl B.z_list (by decide +kernel) rfl) pa_nil))))) (pw_or1 (pt_not (pt_chain op_le op_le pe_int (pe_callB call_len_seq (by rfl) B.z_len (by decide +kernel) (pa_cons (pv 0) pa_nil)) pe_int))))) (pss_one (ps_raise rfl tk (pmk_BadValue B hr (by decide) (pa_cons pe_str pa_nil) rfl rfl))) pss_nil)
  (pss_one (ps_for (passes_of rfl) rfl (pi_list (pv 0)) (pg_name (i := 1) nd rfl (by first | exact Or.inl rfl | exact Or.inr rfl)) (pss_one (ps_if (pt_not (pt_val (pe_callB call_isi (by rfl) B.z_isinstance (by decide +kernel) (pa_cons (pv 1) (pa_cons (pe_glob (v := .ref _) rfl B.g_Cycle rfl) pa_nil))))) (pss_one (ps_raise rfl tk (pmk_BadValue B hr (by decide) (pa_cons pe_str pa_nil) rfl rfl))) pss_nil))))), enterX h fun C ds Post PE hR hrt hE => ?_⟩
  obtain ⟨d, b, rfl, hd, rfl, rfl⟩ := hR
  show NX C _ [.val d, .no]
  cases hd with
  | good rows h =>
    have len : (rows.map (cyc K)).length = rows.length := List.length_map ..
    refine sq_no (etd_or (etd_not (etd_B (ed_isT (ed_var rfl) rfl))) fun _ => etd_not (etd_B (ed_chain ed_int (ed_lenL (ed_var rfl)) ed_int))) ?_ ?_
    · rw [len, decide_eq_true (by omega), decide_eq_true (by omega)] <;> rfl
    refine nx_for (ei_list (ed_var rfl)) (fun _ => [.val (.lst (rows.map (cyc K))), .no]) (.refl _) (fun C' le i hi N hN => ⟨_, [1], asg_name, ?_⟩) (nx_end hrt ⟨rfl, rfl⟩)
    rw [getD_map hi]
    exact nx_no (etd_not (etd_B (ed_isC B.k_Cycle (ed_var rfl)))) rfl (hN.wk (.keep (.drop .nil)))
  | one p =>
    exact sq_yes (etd_or (etd_not (etd_B (ed_isT (ed_var rfl) rfl))) fun _ => etd_not (etd_B (ed_chain ed_int (ed_lenL (ed_var rfl)) ed_int))) rfl (nx_bad hE (ea_cons ed_str ea_nil) ⟨rfl, rfl⟩)
  | tup ds =>
    exact sq_yes (etd_or1 (etd_not (etd_B (ed_isT (ed_var rfl) rfl))) rfl) rfl (nx_bad hE (ea_cons ed_str ea_nil) ⟨rfl, rfl⟩)
inductive WdOk : Dt → Bool → Prop
  | zero : WdOk (fr 0) true
  | notfr {d : Dt} (h : IsFr d false) : WdOk d false
  | neg (q : Rat) (h : q.num < 0) : WdOk (fr q) false
  | wide (q : Rat) (h : (q.den : Int) ≤ 2 * q.num) : WdOk (fr q) false
def Rl_check_width : RelX := fun zs0 Pz Pe => ∃ (d : Dt) (b : Bool), zs0 = [d] ∧ WdOk d b ∧ Pz = (fun e => b = true ∧ e = .non) ∧ Pe = (fun x => b = false ∧ x = .bad "width")
theorem len_check_width : ∀ ds Post PE, Rl_check_width ds Post PE → ds.length = 1 := fun _ _ _ ⟨_, _, e, _⟩ => by rw [e]; rfl
theorem ok_check_width (B : Bs K mg) : Cl P w K mg base (L2.CX P w) 3 "check_width" (spX (ecl K) Rl_check_width) [] := by
  refine cl_of (N := ["width"]) (ps := ["width"]) B.d_check_width B.g_check_width (by decide +kernel) (fun _ _ _ _ _ _ us hl => match us, hl with | [_], _ => rfl)
    (len_X len_check_width) fun f cdv A outer s H vs Q E hr h => ?_
  have nd : (["width"] : List Str).Nodup := by decide +kernel
  have tk : Takes (cxOf (L2.CX P w) P w K mg base ["width"] "check_width" (defScope (top 54)) f cdv A outer s H E) (fun cls d _ H' => E cls d H') := takes_of rfl rfl rfl rfl
  refine ⟨_, (pss_one (ps_if (PW.pt (pw_or (pt_not (pt_val (pe_cl (ok_is_fraction B) hr (by decide) pass0 (pa_cons (pv 0) pa_nil)))) (pw_or (pt_cmpR op_lt (pe_ix ix_tup (pv 0) pe_int (fun _ _ => rfl)) pe_int (nomark _)) (pw_or1 (pt_cmpR op_ge (pe_op op_mul pe_int (pe_ix ix_tup (pv 0) pe_int (fun _ _ => rfl))) (pe_ix ix_tup (pv 0) pe_int (fun _ _ => rfl)) (nomark _)))))) (pss_one (ps_raise rfl tk (pmk_BadValue B hr (by decide) (pa_cons pe_str pa_nil) rfl rfl))) pss_nil)), enterX h fun C ds Post PE hR hrt hE => ?_⟩
  obtain ⟨d, b, rfl, hd, rfl, rfl⟩ := hR
  show NX C _ [.val d]
  have two : ∀ {Γ : List Slot} {q : Rat}, Γ[0]? = some (.val (fr q)) → EvD C (tOp (rI CMul fun i j => .int (i * j)) (tC (.int 2)) (tOp (rIxT K) (tVar 0) (tC (.int 0)))) Γ (.int (2 * q.num)) := fun h => ed_rI ed_int (ed_ixT (ed_var h) ed_int rfl) (.inl (by decide))
  cases hd with
  | zero =>
    exact nx_no (etd_or (etd_not (etd_B (ed_call (ea_cons (ed_var rfl) ea_nil) (rl_is_fraction (.fr 0))))) fun _ => etd_or (etd_test (ed_cmp (ed_ixT (ed_var rfl) ed_int rfl) ed_int)) fun _ => etd_test (ed_cmp (two rfl) (ed_ixT (ed_var rfl) ed_int rfl))) rfl (nx_end hrt ⟨rfl, rfl⟩)
  | notfr h =>
    exact nx_yes (etd_or1 (etd_not (etd_B (ed_call (ea_cons (ed_var rfl) ea_nil) (rl_is_fraction h)))) rfl) rfl (nx_bad hE (ea_cons ed_str ea_nil) ⟨rfl, rfl⟩)
  | neg q h =>
    refine nx_yes (b := true) (etd_or (a := false) (b := true) (etd_not (etd_B (ed_call (ea_cons (ed_var rfl) ea_nil) (rl_is_fraction (.fr q))))) fun _ => etd_or1 (etd_test (ed_cmp (ed_ixT (ed_var rfl) ed_int rfl) ed_int)) (decide_eq_true h)) rfl (nx_bad hE (ea_cons ed_str ea_nil) ⟨rfl, rfl⟩)
  | wide q h =>
    refine nx_yes (etd_or (a := false) (etd_not (etd_B (ed_call (ea_cons (ed_var rfl) ea_nil) (rl_is_fraction (.fr q))))) fun _ => etd_or (etd_test (ed_cmp (ed_ixT (ed_var rfl) ed_int rfl) ed_int)) fun _ => etd_test (ed_cmp (two rfl) (ed_ixT (ed_var rfl) ed_int rfl))) ?_ (nx_bad hE (ea_cons ed_str ea_nil) ⟨rfl, rfl⟩)
    rw [decide_eq_true (show 2 * q.num ≥ (q.den : Int) from h)]
    simp
end
end Wk
-- D26
namespace Wk
open PySem PySem.Spec
open PyProof.Rows L2
section
variable {P : Program}
variable {w : World} {K : PySem.W.Frag} {mg : Str → Option Value} {base : Heap}
/-! ### steps in a span -/
def stepsL (f s : Rat) (lo : Int) (i : Nat) : List Rat := (List.range i).map fun j : Nat => f + s * ((lo + (j : Int) : Int) : Rat)
def Rl_steps_within (K : PySem.W.Frag) : RelX := fun zs0 Pz Pe => ∃ (f s a b : Rat), zs0 = [fr f, fr s, spn K a b] ∧ (RuleOk (some (f, some s)) ∧ EndOk a ∧ EndOk b) ∧ Pz = (fun e => ¬ 400 ≤ numHi f s b - numLo f s a ∧ e = .lst ((ptsL f s (numLo f s a) (numHi f s b)).map fr)) ∧ Pe = (fun x => 400 ≤ numHi f s b - numLo f s a ∧ x = .many 400)
theorem len_steps_within {K : PySem.W.Frag} : ∀ ds Post PE, Rl_steps_within K ds Post PE → ds.length = 3 := fun _ _ _ ⟨_, _, _, _, e, _⟩ => by rw [e]; rfl
theorem sgn_pos {a b : Rat} : 0 < sgn a b ↔ b < a := by
  unfold sgn
  by_cases h : a < b
  · rw [if_pos h]
    exact ⟨fun z => absurd z (by decide), fun z => absurd (Std.lt_trans h z) Rat.lt_irrefl⟩
  · rw [if_neg h]
    by_cases h2 : b < a
    · rw [if_pos h2]; exact ⟨fun _ => h2, fun _ => by decide⟩
    · rw [if_neg h2]; exact ⟨fun z => absurd z (by decide), fun z => absurd z h2⟩
theorem lo_gt {f s a b : Rat} {k : Int} (hs : 0 < s) : b < f + s * (k : Rat) ↔ numHi f s b < k := by
  have hne : s ≠ 0 := fun z => by rw [z] at hs; exact Rat.lt_irrefl hs
  have e := Rat.div_mul_cancel (a := b - f) hne
  unfold numHi
  rw [Rat.floor_lt_iff]
  constructor
  · intro h
    have : s * ((b - f) / s) < s * (k : Rat) := by grind
    exact Classical.byContradiction fun z => by
      have := Rat.mul_le_mul_of_nonneg_left (Rat.not_lt.mp z) (Rat.le_of_lt hs)
      grind
  · intro h
    have := Rat.mul_lt_mul_of_pos_left h hs
    grind
theorem more_eq {f s b : Rat} {k : Int} (hs : 0 < s) : ((b - (f + s * (k : Rat))) / s).floor = numHi f s b - k := by
  have hne : s ≠ 0 := fun z => by rw [z] at hs; exact Rat.lt_irrefl hs
  have e : (b - (f + s * (k : Rat))) / s = (b - f) / s - (k : Rat) := by
    have e1 := Rat.div_mul_cancel (a := b - (f + s * (k : Rat))) hne
    have e2 := Rat.div_mul_cancel (a := b - f) hne
    have : ((b - (f + s * (k : Rat))) / s) * s = ((b - f) / s - (k : Rat)) * s := by grind
    have h3 := congrArg (· / s) this
    simp only [Rat.mul_div_cancel hne] at h3
    exact h3
  rw [e]
  unfold numHi
  have h1 : ∀ z : Int, z ≤ ((b - f) / s - (k : Rat)).floor ↔ z ≤ ((b - f) / s).floor - k := fun z => by
    have : z ≤ ((b - f) / s).floor - k ↔ z + k ≤ ((b - f) / s).floor := by omega
    rw [this, Rat.le_floor_iff, Rat.le_floor_iff, Rat.intCast_add]
    constructor <;> intro h <;> grind
  exact Int.le_antisymm ((h1 _).mp (Int.le_refl _)) ((h1 _).mpr (Int.le_refl _))
theorem ok_steps_within (B : Bs K mg) : Cl P w K mg base (L2.CX P w) 6 "steps_within" (spX (ecl K) (Rl_steps_within K)) [] := by
  refine cl_of (N := ["first", "interval", "span", "moment", "more", "found", "spare"]) (ps := ["first", "interval", "span"]) B.d_steps_within B.g_steps_within (by decide +kernel) (fun _ _ _ _ _ _ us hl => match us, hl with | [_, _, _], _ => rfl)
    (len_X len_steps_within) fun f cdv A outer s H vs Q E hr h => ?_
  have nd : (["first", "interval", "span", "moment", "more", "found", "spare"] : List Str).Nodup := by decide +kernel
  have tk : Takes (cxOf (L2.CX P w) P w K mg base ["first", "interval", "span", "moment", "more", "found", "spare"] "steps_within" (defScope (top 47)) f cdv A outer s H E) (fun cls d _ H' => E cls d H') := takes_of rfl rfl rfl rfl
  refine ⟨_, (pss_cons (ps_set (i := 3) nd rfl (by first | exact Or.inl rfl | exact Or.inr rfl) (pe_cl (ok_next_step B) hr (by decide) pass0 (pa_cons (pv 0) (pa_cons (pv 1) (pa_cons (pe_fld (pv 2) rfl) pa_nil)))))
  (pss_cons (ps_if (pt_cmpR op_gt (pe_cl (ok_compare B) hr (by decide) pass0 (pa_cons (pv 3) (pa_cons (pe_fld (pv 2) rfl) pa_nil))) pe_int (nomark _)) (pss_one (ps_ret (pe_lst pa_nil))) pss_nil)
  (pss_cons (ps_set (i := 4) nd rfl (by first | exact Or.inl rfl | exact Or.inr rfl) (pe_cl (ok_floor_of B) hr (by decide) pass0 (pa_cons (pe_cl (ok_over B) hr (by decide) pass0 (pa_cons (pe_cl (ok_minus B) hr (by decide) pass0 (pa_cons (pe_fld (pv 2) rfl) (pa_cons (pv 3) pa_nil))) (pa_cons (pv 1) pa_nil))) pa_nil)))
  (pss_cons (ps_if (pt_cmpR op_gt (pe_op op_add (pv 4) pe_int) (C8.pe_gc rfl B.i_MOST_MOMENTS) (nomark _)) (pss_one (ps_raise rfl tk (pmk_TooMany B hr (by decide) (pa_cons (C8.pe_gc rfl B.i_MOST_MOMENTS) pa_nil) rfl rfl))) pss_nil)
  (pss_cons (ps_set (i := 5) nd rfl (by first | exact Or.inl rfl | exact Or.inr rfl) (pe_lst (pa_cons (pv 3) pa_nil)))
  (pss_cons (ps_for (passes_of rfl) rfl (pi_range1 rfl B.z_range (pa_cons (pv 4) pa_nil)) (pg_name (i := 6) nd rfl (by first | exact Or.inl rfl | exact Or.inr rfl)) (pss_cons (ps_set (i := 3) nd rfl (by first | exact Or.inl rfl | exact Or.inr rfl) (pe_cl (ok_plus B) hr (by decide) pass0 (pa_cons (pv 3) (pa_cons (pv 1) pa_nil))))
  (pss_one (ps_expr (pe_bm PySem.F.plainAttrs_list PySem.F.slot_list_append PySem.F.type_list_append mt_append (pv 5) (pa_cons (pv 3) pa_nil))))))
  (pss_one (ps_ret (pv 5))))))))), enterX h fun C ds Post PE hR hrt hE => ?_⟩
  obtain ⟨f0, s0, a, b, rfl, ⟨hro, ha, hb⟩, rfl, rfl⟩ := hR
  have nl := (num_bds hro ha).1
  have nh := (num_bds hro hb).2
  obtain ⟨sp, h8, bf, bs, f1, f2, s1⟩ := hro
  have i1 : Bz f0 70 := ⟨bf⟩
  have i2 : Bz s0 70 := ⟨bs⟩
  have i3 : Bz a 500 := ⟨ha.b⟩
  have i4 : Bz b 500 := ⟨hb.b⟩
  have sne : s0 ≠ 0 := fun z => by rw [z] at sp; exact Rat.lt_irrefl sp
  revert nl nh
  generalize hlo : numLo f0 s0 a = lo at hrt hE ⊢
  generalize hhi : numHi f0 s0 b = hi at hrt hE ⊢
  intro nl nh
  have ik : ∀ k : Int, -600000001 ≤ k → k ≤ 600000001 → Bz (f0 + s0 * (k : Rat)) (70 + (70 + 30) + 1) := fun k h1 h2 => by
    have : Bz (k : Rat) 30 := ⟨bd_int (by show k.natAbs < 1073741824; omega) (by decide)⟩
    exact inferInstance
  show NX C _ [.val (fr f0), .val (fr s0), .val (spn K a b), .no, .no, .no, .no]
  have ilo := ik lo (by omega) (by omega)
  refine sq_asg (d := fr (f0 + s0 * (lo : Rat))) ((ed_call (ea_cons (ed_var rfl) (ea_cons (ed_var rfl) (ea_cons (ed_fld (ed_var rfl) B.c_Span B.n_first (k := 0) rfl (fbf (by decide +kernel)) rfl) ea_nil))) (rl_next_step sne)).is (by rw [hlo])) ?_
  have ptsE : ¬ hi < lo → ptsL f0 s0 lo hi = stepsL f0 s0 lo ((hi - lo).toNat + 1) := fun h => by
    unfold ptsL stepsL
    rw [show (hi + 1 - lo).toNat = (hi - lo).toNat + 1 by omega]
  refine sq_when (etd_test (ed_cmp (ed_call (ea_cons (ed_var rfl) (ea_cons (ed_fld (ed_var rfl) B.c_Span B.n_last (k := 1) rfl (fbf (by decide +kernel)) rfl) ea_nil)) rl_compare) ed_int)) (fun hc => ?_) fun hc => ?_
  · have h1 : hi < lo := by rw [← hhi]; exact (lo_gt (a := a) sp).mp (sgn_pos.mp (of_decide_eq_true hc))
    refine nx_ret hrt (eld_lst ea_nil).ed ⟨by omega, ?_⟩
    unfold ptsL
    rw [show (hi + 1 - lo).toNat = 0 by omega] <;> rfl
  · have h1 : ¬ hi < lo := fun z => (of_decide_eq_false hc) (sgn_pos.mpr ((lo_gt (a := a) sp).mpr (by rw [hhi]; exact z)))
    have hm : ((b - (f0 + s0 * (lo : Rat))) / s0).floor = hi - lo := by rw [more_eq sp, hhi]
    refine sq_asg (d := .int (hi - lo)) ((ed_call (ea_cons (ed_call (ea_cons (ed_call (ea_cons (ed_fld (ed_var rfl) B.c_Span B.n_last (k := 1) rfl (fbf (by decide +kernel)) rfl) (ea_cons (ed_var rfl) ea_nil)) rl_minus) (ea_cons (ed_var rfl) ea_nil)) (rl_over sne)) ea_nil) rl_floor).is (congrArg Dt.int hm)) ?_
    refine sq_when (etd_test (ed_cmp (ed_rI0 (ed_var rfl) ed_int) ed_int)) (fun hd => ?_) fun hd => ?_
    · have := of_decide_eq_true hd
      exact nx_many hE (ea_cons ed_int ea_nil) ⟨by omega, rfl⟩
    · have h4 : ¬ 400 < hi - lo + 1 := of_decide_eq_false hd
      refine sq_asgO (ds := (stepsL f0 s0 lo 1).map fr) ?_ ?_
      · have e1 : (stepsL f0 s0 lo 1).map fr = [fr (f0 + s0 * (lo : Rat))] := by
          unfold stepsL
          show [fr (f0 + s0 * ((lo + ((0 : Nat) : Int) : Int) : Rat))] = [fr (f0 + s0 * (lo : Rat))]
          rw [show lo + ((0 : Nat) : Int) = lo by omega]
        rw [e1]
        exact eld_lst (ea_cons (ed_var rfl) ea_nil)
      have tn : ((hi - lo).toNat : Int) = hi - lo := by omega
      refine sq_for (ei_range1 (ea_cons (ed_var rfl) ea_nil) ⟨by omega, by omega⟩) (fun i => [.val (fr f0), .val (fr s0), .val (spn K a b), .val (fr (f0 + s0 * ((lo + (i : Int) : Int) : Rat))), .val (.int (hi - lo)), .own ((stepsL f0 s0 lo (i + 1)).map fr), .no]) ?_ (fun C' le i hi' N hN => ⟨_, [6], asg_name, ?_⟩) ?_
      · show Wks [.val (fr f0), .val (fr s0), .val (spn K a b), .val (fr (f0 + s0 * (lo : Rat))), .val (.int (hi - lo)), .own ((stepsL f0 s0 lo 1).map fr), .no] [.val (fr f0), .val (fr s0), .val (spn K a b), .val (fr (f0 + s0 * ((lo + ((0 : Nat) : Int) : Int) : Rat))), .val (.int (hi - lo)), .own ((stepsL f0 s0 lo (0 + 1)).map fr), .no]
        rw [show lo + ((0 : Nat) : Int) = lo by omega]
        exact .refl _
      · have hi2 : i < (hi - lo).toNat := hi'
        have ii := ik (lo + (i : Int)) (by omega) (by omega)
        have ii2 := ik (lo + (i : Int) + 1) (by omega) (by omega)
        have e : f0 + s0 * ((lo + (i : Int) : Int) : Rat) + s0 = f0 + s0 * ((lo + ((i + 1 : Nat) : Int) : Int) : Rat) := by
          have : lo + ((i + 1 : Nat) : Int) = lo + (i : Int) + 1 := by omega
          rw [this, Rat.intCast_add (lo + (i : Int)) 1, Rat.intCast_one]
          grind
        refine sq_asg ((ed_call (ea_cons (ed_var rfl) (ea_cons (ed_var rfl) ea_nil)) rl_plus).is (congrArg fr e)) ?_
        refine nx_app (i := 5) rfl (ed_var rfl) (by unfold stepsL; rw [List.length_map, List.length_map, List.length_range]; omega) ?_
        have e2 : (stepsL f0 s0 lo (i + 1 + 1)).map fr = (stepsL f0 s0 lo (i + 1)).map fr ++ [fr (f0 + s0 * ((lo + ((i + 1 : Nat) : Int) : Int) : Rat))] := by
          unfold stepsL
          rw [List.range_succ (n := i + 1), List.map_append, List.map_append] <;> rfl
        have h5 : NX C' N [.val (fr f0), .val (fr s0), .val (spn K a b), .val (fr (f0 + s0 * ((lo + ((i + 1 : Nat) : Int) : Int) : Rat))), .val (.int (hi - lo)), .own ((stepsL f0 s0 lo (i + 1 + 1)).map fr), .no] := hN
        rw [e2] at h5
        exact h5.wk (.keep (.keep (.keep (.keep (.keep (.keep (.drop .nil)))))))
      · refine nx_freeze (i := 5) rfl ?_
        exact nx_ret hrt (ed_var rfl) ⟨by omega, by rw [ptsE h1]⟩
end
end Wk
-- D27
namespace Wk
open PySem PySem.Spec
open PyProof.Rows L2
section
variable {P : Program}
variable {w : World} {K : PySem.W.Frag} {mg : Str → Option Value} {base : Heap}
theorem rat_cancel {a b c : Rat} (hc : c ≠ 0) (h : a * c = b * c) : a = b := by
  have := congrArg (· / c) h
  simp only [Rat.mul_div_cancel hc] at this
  exact this
theorem frac_onL {r t : Rat} {w : Int} (hr : r ≠ 0) : Rat.divInt ((w * 1 - 0) * ((r.den : Int) * (t.den : Int)) - t.num * (r.den : Int) * 1) (r.num * (t.den : Int) * 1) = onL r t w := by
  symm
  rw [onL_eq hr]
  have hsl : ((r.num * (t.den : Int) * 1 : Int) : Rat) ≠ 0 := fun z => by
    have := Rat.intCast_eq_zero_iff.mp z
    rw [Int.mul_one] at this
    rcases Int.mul_eq_zero.mp this with h | h
    · exact hr (Rat.num_eq_zero.mp h)
    · have := t.den_pos
      omega
  have hX := Rat.div_mul_cancel (a := (((w * 1 - 0) * ((r.den : Int) * (t.den : Int)) - t.num * (r.den : Int) * 1 : Int) : Rat)) hsl
  rw [Rat.divInt_eq_div]
  generalize (((w * 1 - 0) * ((r.den : Int) * (t.den : Int)) - t.num * (r.den : Int) * 1 : Int) : Rat) / ((r.num * (t.den : Int) * 1 : Int) : Rat) = X at hX
  have hd : ((r.den : Nat) : Rat) * ((t.den : Nat) : Rat) ≠ 0 := fun z => by
    rcases Rat.mul_eq_zero.mp z with h | h
    · exact natRat_ne r.den_pos h
    · exact natRat_ne t.den_pos h
  refine rat_cancel hd ?_
  simp only [Int.mul_one, Int.sub_zero, Rat.intCast_mul, Rat.intCast_sub, Rat.intCast_natCast, num_eq] at hX
  grind
theorem wLo_le {r t a b : Rat} (hab : a ≤ b) : wLo r t a b ≤ wHi r t a b + 1 := by
  unfold wLo wHi
  rw [cei_le]
  have h1 := Rat.lt_floor_add_one (r * hiB r a b + t)
  refine Rat.le_of_lt (Std.lt_of_le_of_lt ?_ h1)
  unfold loB hiB
  by_cases hp : 0 < r
  · rw [if_pos hp, if_pos hp]
    have := Rat.mul_le_mul_of_nonneg_left hab (Rat.le_of_lt hp)
    grind
  · rw [if_neg hp, if_neg hp]
    have : 0 ≤ -r := by grind
    have := Rat.mul_le_mul_of_nonneg_left hab this
    grind
theorem floor_bd {n : Nat} {q : Rat} (h : Bd n q) : q.floor.natAbs < 2 ^ n := (bd_floor h).1
theorem wls_bd {n : Nat} {r t a b : Rat} {w : Int} (hr : Bd 18 r) (ht : Bd 31 t) (ha : Bd n a) (hb : Bd n b) (h : wLo r t a b ≤ w ∧ w ≤ wHi r t a b) : w.natAbs < 2 ^ (18 + n + 31 + 1) := by
  have ir : Bz r 18 := ⟨hr⟩
  have it : Bz t 31 := ⟨ht⟩
  have h1 : Bd n (loB r a b) := by unfold loB; split <;> assumption
  have h2 : Bd n (hiB r a b) := by unfold hiB; split <;> assumption
  have i1 : Bz (loB r a b) n := ⟨h1⟩
  have i2 : Bz (hiB r a b) n := ⟨h2⟩
  have a1 := floor_bd (bz (q := -(r * loB r a b + t)))
  have a2 := floor_bd (bz (q := r * hiB r a b + t))
  have e1 : wLo r t a b = -(-(r * loB r a b + t)).floor := rfl
  have e2 : wHi r t a b = (r * hiB r a b + t).floor := rfl
  have a1' : (-(-(r * loB r a b + t)).floor).natAbs < 2 ^ (18 + n + 31 + 1) := by rw [Int.natAbs_neg]; exact a1
  rw [← e1] at a1'
  rw [← e2] at a2
  omega
def manyL (r t a b : Rat) : Prop := r ≠ 0 ∧ 200 < wHi r t a b - wLo r t a b + 1
def Rl_line_spans (K : PySem.W.Frag) : RelX := fun zs0 Pz Pe => ∃ (r t a b : Rat) (n : Nat), zs0 = [lineD r t, spn K a b, fr 0] ∧ (Bd 18 r ∧ Bd 31 t ∧ Bd n a ∧ Bd n b ∧ n ≤ 2000 ∧ a ≤ b) ∧ Pz = (fun e => ¬ manyL r t a b ∧ e = trackD (lineRows r t a b)) ∧ Pe = (fun x => manyL r t a b ∧ x = .many 200)
theorem len_line_spans {K : PySem.W.Frag} : ∀ ds Post PE, Rl_line_spans K ds Post PE → ds.length = 3 := fun _ _ _ ⟨_, _, _, _, _, e, _⟩ => by rw [e]; rfl
theorem slope_zero {r t : Rat} : r.num * (t.den : Int) = 0 ↔ r = 0 := by
  constructor
  · intro h
    rcases Int.mul_eq_zero.mp h with h | h
    · exact Rat.num_eq_zero.mp h
    · have := t.den_pos
      omega
  · rintro rfl
    exact Int.zero_mul _
theorem slope_neg {r t : Rat} : r.num * (t.den : Int) < 0 ↔ r < 0 := by
  have h1 := slope_pos (r := r) (t := t)
  have h2 := slope_zero (r := r) (t := t)
  constructor
  · intro h
    have a1 : ¬ 0 < r := fun z => by have := h1.mpr z; omega
    have a2 : r ≠ 0 := fun z => by have := h2.mpr z; omega
    exact Rat.lt_of_le_of_ne (Rat.not_lt.mp a1) a2
  · intro h
    have a1 : ¬ 0 < r.num * (t.den : Int) := fun z => Rat.lt_irrefl (Std.lt_trans (h1.mp z) h)
    have a2 : r.num * (t.den : Int) ≠ 0 := fun z => by rw [h2.mp z] at h; exact Rat.lt_irrefl h
    omega
theorem ok_line_spans (B : Bs K mg) : Cl P w K mg base (L2.CX P w) 4 "line_spans" (spX (ecl K) (Rl_line_spans K)) [] := by
  refine cl_of (N := ["line", "span", "width", "slope", "start", "unit", "least", "most", "wholes", "step", "part", "rows", "whole", "base", "first", "last"]) (ps := ["line", "span", "width"]) B.d_line_spans B.g_line_spans (by decide +kernel) (fun _ _ _ _ _ _ us hl => match us, hl with | [_, _, _], _ => rfl)
    (len_X len_line_spans) fun f cdv A outer s H vs Q E hr h => ?_
  have nd : (["line", "span", "width", "slope", "start", "unit", "least", "most", "wholes", "step", "part", "rows", "whole", "base", "first", "last"] : List Str).Nodup := by decide +kernel
  have tk : Takes (cxOf (L2.CX P w) P w K mg base ["line", "span", "width", "slope", "start", "unit", "least", "most", "wholes", "step", "part", "rows", "whole", "base", "first", "last"] "line_spans" (defScope (top 64)) f cdv A outer s H E) (fun cls d _ H' => E cls d H') := takes_of rfl rfl rfl rfl
  refine ⟨_, (pss_cons (ps_asg (pv 0) (pg_tup rfl (pgs_cons (pg_name (i := 3) nd rfl (by first | exact Or.inl rfl | exact Or.inr rfl)) (pgs_cons (pg_name (i := 4) nd rfl (by first | exact Or.inl rfl | exact Or.inr rfl)) (pgs_cons (pg_name (i := 5) nd rfl (by first | exact Or.inl rfl | exact Or.inr rfl)) pgs_nil)))))
  (pss_cons (ps_if (pt_cmpR op_eq (pv 3) pe_int (nomark _)) (pss_cons (ps_if (pt_val (pe_cl (ok_line_is_near B) hr (by decide) pass0 (pa_cons (pv 0) (pa_cons (pe_fld (pv 1) rfl) (pa_cons (pv 2) pa_nil))))) (pss_one (ps_ret (pe_lst (pa_cons (pe_tup (pa_cons (pe_fld (pv 1) rfl) (pa_cons (pe_fld (pv 1) rfl) pa_nil))) pa_nil)))) pss_nil)
  (pss_one (ps_ret (pe_lst pa_nil)))) pss_nil)
  (pss_cons (ps_asg (pe_cl (ok_wholes_met B) hr (by decide) pass0 (pa_cons (pv 0) (pa_cons (pv 1) (pa_cons (pv 2) pa_nil)))) (pg_tup rfl (pgs_cons (pg_name (i := 6) nd rfl (by first | exact Or.inl rfl | exact Or.inr rfl)) (pgs_cons (pg_name (i := 7) nd rfl (by first | exact Or.inl rfl | exact Or.inr rfl)) pgs_nil))))
  (pss_cons (ps_if (pt_cmpR op_gt (pe_op op_add (pe_op op_sub (pv 7) (pv 6)) pe_int) (C8.pe_gc rfl B.i_MOST_NEAR) (nomark _)) (pss_one (ps_raise rfl tk (pmk_TooMany B hr (by decide) (pa_cons (C8.pe_gc rfl B.i_MOST_NEAR) pa_nil) rfl rfl))) pss_nil)
  (pss_cons (ps_setLc (i := 8) (own := [("step", 9)]) rfl nd rfl rfl (sw_true rfl rfl rfl (by decide +kernel)) (pi_range1 rfl B.z_range (pa_cons (pe_op op_add (pe_op op_sub (pv 7) (pv 6)) pe_int) pa_nil)) (blkOk_by (by show blkC ["line", "span", "width", "slope", "start", "unit", "least", "most", "wholes", "step", "part", "rows", "whole", "base", "first", "last"] (defScope (top 64)) _ _ = true; decide +kernel)) (fun _ _ _ _ _ => pg_name (i := 9) nd rfl (Or.inl rfl)) (fun _ _ _ _ _ => pts_nil) (fun _ _ _ _ _ => (pe_op op_add (pv 6) (pv 9))))
  (pss_cons (ps_set (i := 10) nd rfl (by first | exact Or.inl rfl | exact Or.inr rfl) (pe_ix ix_tup (pv 2) pe_int (fun _ _ => rfl)))
  (pss_cons (ps_if (pt_cmpR op_lt (pv 3) pe_int (nomark _)) (pss_cons (ps_set (i := 8) nd rfl (by first | exact Or.inl rfl | exact Or.inr rfl) (pe_revL (pv 8)))
  (pss_one (ps_set (i := 10) nd rfl (by first | exact Or.inl rfl | exact Or.inr rfl) (pe_un un_neg (pv 10))))) pss_nil)
  (pss_cons (ps_set (i := 11) nd rfl (by first | exact Or.inl rfl | exact Or.inr rfl) (pe_lst pa_nil))
  (pss_cons (ps_for (passes_of rfl) rfl (pi_list (pv 8)) (pg_name (i := 12) nd rfl (by first | exact Or.inl rfl | exact Or.inr rfl)) (pss_cons (ps_set (i := 13) nd rfl (by first | exact Or.inl rfl | exact Or.inr rfl) (pe_op op_mulW (pv 12) (pe_ix ix_tup (pv 2) pe_int (fun _ _ => rfl))))
  (pss_cons (ps_set (i := 14) nd rfl (by first | exact Or.inl rfl | exact Or.inr rfl) (pe_cl (ok_fraction B) hr (by decide) pass0 (pa_cons (pe_op op_sub (pe_op op_mulW (pe_op op_sub (pv 13) (pv 10)) (pv 5)) (pe_op op_mulW (pv 4) (pe_ix ix_tup (pv 2) pe_int (fun _ _ => rfl)))) (pa_cons (pe_op op_mulW (pv 3) (pe_ix ix_tup (pv 2) pe_int (fun _ _ => rfl))) pa_nil))))
  (pss_cons (ps_set (i := 15) nd rfl (by first | exact Or.inl rfl | exact Or.inr rfl) (pe_cl (ok_fraction B) hr (by decide) pass0 (pa_cons (pe_op op_sub (pe_op op_mulW (pe_op op_add (pv 13) (pv 10)) (pv 5)) (pe_op op_mulW (pv 4) (pe_ix ix_tup (pv 2) pe_int (fun _ _ => rfl)))) (pa_cons (pe_op op_mulW (pv 3) (pe_ix ix_tup (pv 2) pe_int (fun _ _ => rfl))) pa_nil))))
  (pss_cons (ps_if (pt_val (pe_cl (ok_is_earlier B) hr (by decide) pass0 (pa_cons (pv 14) (pa_cons (pe_fld (pv 1) rfl) pa_nil)))) (pss_one (ps_set (i := 14) nd rfl (by first | exact Or.inl rfl | exact Or.inr rfl) (pe_fld (pv 1) rfl))) pss_nil)
  (pss_cons (ps_if (pt_val (pe_cl (ok_is_earlier B) hr (by decide) pass0 (pa_cons (pe_fld (pv 1) rfl) (pa_cons (pv 15) pa_nil)))) (pss_one (ps_set (i := 15) nd rfl (by first | exact Or.inl rfl | exact Or.inr rfl) (pe_fld (pv 1) rfl))) pss_nil)
  (pss_one (ps_expr (pe_bm PySem.F.plainAttrs_list PySem.F.slot_list_append PySem.F.type_list_append mt_append (pv 11) (pa_cons (pe_tup (pa_cons (pv 14) (pa_cons (pv 15) pa_nil))) pa_nil))))))))))
  (pss_one (ps_ret (pv 11)))))))))))), enterX h fun C ds Post PE hR hrt hE => ?_⟩
  obtain ⟨r, t, a, b, n, rfl, ⟨hr1, ht, ha, hb, hn, hab⟩, rfl, rfl⟩ := hR
  have ir : Bz r 18 := ⟨hr1⟩
  have it : Bz t 31 := ⟨ht⟩
  have ia : Bz a n := ⟨ha⟩
  have ib : Bz b n := ⟨hb⟩
  have sfirst : ∀ {C : Ctx} {Γ : List Slot}, Γ[1]? = some (.val (spn K a b)) → EvD C (tFld K (tVar 1) "first") Γ (fr a) := fun h => ed_fld (ed_var h) B.c_Span B.n_first (k := 0) rfl (fbf (by decide +kernel)) rfl
  have slast : ∀ {C : Ctx} {Γ : List Slot}, Γ[1]? = some (.val (spn K a b)) → EvD C (tFld K (tVar 1) "last") Γ (fr b) := fun h => ed_fld (ed_var h) B.c_Span B.n_last (k := 1) rfl (fbf (by decide +kernel)) rfl
  have wid1 : ∀ {C : Ctx} {Γ : List Slot}, Γ[2]? = some (.val (fr 0)) → EvD C (tOp (rIxT K) (tVar 2) (tC (.int 1))) Γ (.int 1) := fun h => ed_ixT (ds := [.int 0, .int 1]) (ed_var h) ed_int rfl
  show NX C _ [.val (lineD r t), .val (spn K a b), .val (fr 0), .no, .no, .no, .no, .no, .no, .no, .no, .no, .no, .no, .no, .no]
  refine sq_asg3 (ed_var rfl) ?_
  refine sq_when (etd_test (ed_eqI (ed_var rfl) ed_int)) (fun hz => ?_) fun hz => ?_
  · have r0 : r = 0 := slope_zero.mp (of_decide_eq_true hz)
    have nm : ¬ manyL r t a b := fun z => z.1 r0
    have e0 : (r * a + t).den = t.den := by rw [r0]; congr 1; grind
    have eL : lineRows r t a b = if t.den = 1 then [(a, b)] else [] := by unfold lineRows; rw [if_pos r0]
    refine sq_when (etd_B (ed_call (ea_cons (ed_var rfl) (ea_cons (sfirst rfl) (ea_cons (ed_var rfl) ea_nil))) rl_line_is_near)) (fun hc => ?_) fun hc => ?_
    · have h1 := of_decide_eq_true hc
      rw [e0] at h1
      refine nx_ret hrt (eld_lst (ea_cons (ed_tup (ea_cons (sfirst rfl) (ea_cons (slast rfl) ea_nil))) ea_nil)).ed ⟨nm, ?_⟩
      rw [eL, if_pos h1] <;> rfl
    · have h1 := of_decide_eq_false hc
      rw [e0] at h1
      refine nx_ret hrt (eld_lst ea_nil).ed ⟨nm, ?_⟩
      rw [eL, if_neg h1] <;> rfl
  have r0 : r ≠ 0 := fun z => (of_decide_eq_false hz) (slope_zero.mpr z)
  refine sq_asg2 (d1 := .int (wLo r t a b)) (d2 := .int (wHi r t a b)) (ed_call (ea_cons (ed_var rfl) (ea_cons (ed_var rfl) (ea_cons (ed_var rfl) ea_nil))) ⟨r, t, a, b, n, rfl, ⟨hr1, ht, ha, hb, hn⟩, rfl⟩) ?_
  refine sq_when (etd_test (ed_cmp (ed_rI0 (ed_rI0 (ed_var rfl) (ed_var rfl)) ed_int) ed_int)) (fun hm => ?_) fun hm => ?_
  · exact nx_many hE (ea_cons ed_int ea_nil) ⟨⟨r0, of_decide_eq_true hm⟩, rfl⟩
  have few200 : ¬ 200 < wHi r t a b - wLo r t a b + 1 := of_decide_eq_false hm
  have nm : ¬ manyL r t a b := fun z => few200 z.2
  have lohi := wLo_le (r := r) (t := t) hab
  have bdw : ∀ {w : Int}, w ∈ lineWs r t a b → w.natAbs < 2 ^ (18 + n + 31 + 1) := fun h => wls_bd hr1 ht ha hb (mem_lineWs.mp h)
  have inw : ∀ {w : Int}, w ∈ lineWs r t a b → a ≤ onL r t w ∧ onL r t w ≤ b := fun {w} h => (on_range r0 ((onL_eq (t := t) (w := w) r0).mp rfl)).mp (mem_lineWs.mp h)
  have lenw : (lineWs r t a b).length ≤ 200 := by
    have e : (lineWs r t a b).length = (wHi r t a b - wLo r t a b + 1).toNat := by
      unfold lineWs wls
      split <;> simp
    omega
  have eW : lineWs r t a b = if r < 0 then (wls (wLo r t a b) (wHi r t a b)).reverse else wls (wLo r t a b) (wHi r t a b) := rfl
  have eR : trackD (lineRows r t a b) = .lst ((lineWs r t a b).map fun w => rowD (dg (onL r t w))) := by
    unfold trackD lineRows
    rw [if_neg r0, List.map_map, List.map_map] <;> rfl
  rw [eR] at hrt
  clear eR
  revert lohi few200 bdw inw lenw eW
  generalize lineWs r t a b = Ws at hrt ⊢
  generalize wLo r t a b = lo
  generalize wHi r t a b = hi
  intro lohi few200 bdw inw lenw eW
  refine sq_asgO (ds := (wls lo hi).map Dt.int) ?_ ?_
  · have h := eld_lc (C := C) (te := tOp (rI0 fun i j => .int (i + j)) (tVar 6) (tVar 9)) (tg := gName 9) (vs := [9]) (Γ := [.val (lineD r t), .val (spn K a b), .val (fr 0), .val (.int (r.num * (t.den : Int))), .val (.int (t.num * (r.den : Int))), .val (.int ((r.den : Int) * (t.den : Int))), .val (.int lo), .val (.int hi), .no, .no, .no, .no, .no, .no, .no, .no]) (fun i => .int (lo + (i : Int))) (ei_range1 (n := hi - lo + 1) (ea_cons (ed_rI0 (ed_rI0 (ed_var (i := 7) rfl) (ed_var (i := 6) rfl)) ed_int) ea_nil) ⟨by omega, by omega⟩) rfl (by omega) fun C' le i hi => ⟨_, asg_name (by simp), ed_rI0 (ed_var rfl) (ed_var rfl)⟩
    have e : (List.range (hi - lo + 1).toNat).map (fun i : Nat => Dt.int (lo + (i : Int))) = (wls lo hi).map Dt.int := by
      unfold wls
      rw [List.map_map] <;> rfl
    rw [e] at h
    exact h
  refine nx_freeze (i := 8) rfl ?_
  refine sq_asg (d := .int 0) (ed_ixT (ds := [.int 0, .int 1]) (ed_var rfl) ed_int rfl) ?_
  refine sq_joinI (ι := Unit) (fun _ => [.val (lineD r t), .val (spn K a b), .val (fr 0), .val (.int (r.num * (t.den : Int))), .val (.int (t.num * (r.den : Int))), .val (.int ((r.den : Int) * (t.den : Int))), .val (.int lo), .val (.int hi), .val (.lst (Ws.map Dt.int)), .no, .val (.int 0), .no, .no, .no, .no, .no]) (fun hJ => ?_) fun _ => ?_
  · refine nx_if (etd_test (ed_cmp (ed_var rfl) ed_int)) (fun hs => ?_) fun hs => ?_
    · have rn : r < 0 := slope_neg.mp (of_decide_eq_true hs)
      rw [if_pos rn] at eW
      refine sq_asgO (eld_rev (ed_var rfl)) ?_
      refine nx_freeze (i := 8) rfl ?_
      refine nx_asg ((ed_neg (ed_var rfl)).is rfl) ?_
      have := hJ ()
      rw [eW, List.map_reverse] at this
      exact this
    · have rn : ¬ r < 0 := fun z => (of_decide_eq_false hs) (slope_neg.mpr z)
      rw [if_neg rn] at eW
      refine nx_next ?_
      have := hJ ()
      rw [eW] at this
      exact this
  refine sq_asgO (eld_lst ea_nil) ?_
  refine sq_forE (ei_list (ed_var rfl)) (ι := Unit) (fun i _ => [.val (lineD r t), .val (spn K a b), .val (fr 0), .val (.int (r.num * (t.den : Int))), .val (.int (t.num * (r.den : Int))), .val (.int ((r.den : Int) * (t.den : Int))), .val (.int lo), .val (.int hi), .val (.lst (Ws.map Dt.int)), .no, .val (.int 0), .own ((Ws.take i).map fun w => rowD (dg (onL r t w))), .no, .no, .no, .no]) (fun _ _ => True) () trivial (.refl _) (fun C' le i hi' _ _ N hN => ⟨_, [12], asg_name, ?_⟩) ?_
  · have hil : i < Ws.length := by simpa using hi'
    rw [getD_map hi']
    have hw := bdw (List.getElem_mem hil)
    have hin := inw (List.getElem_mem hil)
    have tk : Ws.take (i + 1) = Ws.take i ++ [Ws[i]] := (List.take_append_getElem hil).symm
    have tl : (Ws.take i).length ≤ 200 := by rw [List.length_take]; omega
    revert hw hin tk
    generalize Ws[i] = w
    intro hw hin tk
    have iw : Bz (w : Rat) (18 + n + 31 + 1) := ⟨bd_int hw (by omega)⟩
    have io : Bz (onL r t w) (18 + n + 31 + 1 + 31 + 1 + 18) := ⟨by unfold onL; exact bz⟩
    have us : ((r.den : Int) * (t.den : Int)).natAbs < 2 ^ (18 + 31) := by rw [Int.natAbs_mul, Int.natAbs_natCast, Int.natAbs_natCast]; exact mul_lt_pow hr1.2 ht.2
    have ss : (t.num * (r.den : Int)).natAbs < 2 ^ (31 + 18) := by rw [Int.natAbs_mul, Int.natAbs_natCast]; exact mul_lt_pow ht.1 hr1.2
    have sls : (r.num * (t.den : Int)).natAbs < 2 ^ (18 + 31) := by rw [Int.natAbs_mul, Int.natAbs_natCast]; exact mul_lt_pow hr1.1 ht.2
    have sl0 : r.num * (t.den : Int) * 1 ≠ 0 := by
      rw [Int.mul_one]
      exact fun z => r0 (slope_zero.mp z)
    refine sq_asg (ed_rI (ed_var rfl) (wid1 rfl) (mw_ii (m := 1) hw (by decide) (by omega) (by decide) (by omega))) ?_
    have w1 : (w * 1 - 0).natAbs < 2 ^ (18 + n + 31 + 1) := by rw [Int.mul_one, Int.sub_zero]; exact hw
    have w2 : (w * 1 + 0).natAbs < 2 ^ (18 + n + 31 + 1) := by rw [Int.mul_one, Int.add_zero]; exact hw
    have fcall : ∀ {x : Int}, x = (w * 1 - 0) * ((r.den : Int) * (t.den : Int)) - t.num * (r.den : Int) * 1 → fr (Rat.divInt x (r.num * (t.den : Int) * 1)) = fr (onL r t w) := fun h => by rw [h, frac_onL r0]
    have slz : (r.num * (t.den : Int) * 1).natAbs < 2 ^ 9000 := by rw [Int.mul_one]; exact lt_two_pow sls (by decide)
    have c1 : ∀ {i : Int}, i.natAbs < 2 ^ (18 + n + 31 + 1) → CMulW i ((r.den : Int) * (t.den : Int)) := fun h => mw_ii h us (by omega) (by decide) (by omega)
    have c2 : CMulW (t.num * (r.den : Int)) 1 := mw_ii (m := 1) ss (by decide) (by decide) (by decide) (by decide)
    have c3 : CMulW (r.num * (t.den : Int)) 1 := mw_ii (m := 1) sls (by decide) (by decide) (by decide) (by decide)
    refine sq_asg (d := fr (onL r t w)) ((ed_call (ea_cons (ed_rI0 (ed_rI (ed_rI0 (ed_var rfl) (ed_var rfl)) (ed_var rfl) (c1 w1)) (ed_rI (ed_var rfl) (wid1 rfl) c2)) (ea_cons (ed_rI (ed_var rfl) (wid1 rfl) c3) ea_nil)) (rl_fraction sl0 slz)).is (fcall rfl)) ?_
    refine sq_asg (d := fr (onL r t w)) ((ed_call (ea_cons (ed_rI0 (ed_rI (ed_rI0 (ed_var rfl) (ed_var rfl)) (ed_var rfl) (c1 w2)) (ed_rI (ed_var rfl) (wid1 rfl) c2)) (ea_cons (ed_rI (ed_var rfl) (wid1 rfl) c3) ea_nil)) (rl_fraction sl0 slz)).is (fcall (by rw [Int.add_zero, Int.sub_zero]))) ?_
    refine sq_no (etd_B (ed_call (ea_cons (ed_var rfl) (ea_cons (sfirst rfl) ea_nil)) rl_is_earlier)) (decide_eq_false (Rat.not_lt.mpr hin.1)) ?_
    refine sq_no (etd_B (ed_call (ea_cons (slast rfl) (ea_cons (ed_var rfl) ea_nil)) rl_is_earlier)) (decide_eq_false (Rat.not_lt.mpr hin.2)) ?_
    refine nx_app (i := 11) rfl (ed_tup (ea_cons (ed_var rfl) (ea_cons (ed_var rfl) ea_nil))) (by rw [List.length_map]; omega) ?_
    have h3 := hN () trivial
    rw [tk, List.map_append] at h3
    exact h3.wk (.keep (.keep (.keep (.keep (.keep (.keep (.keep (.keep (.keep (.keep (.keep (.keep (.drop (.drop (.drop (.drop .nil))))))))))))))))
  · intro _ _
    refine nx_freeze (i := 11) rfl ?_
    refine nx_ret hrt (ed_var rfl) ⟨nm, ?_⟩
    (rw [List.length_map, List.take_length])
end
end Wk
-- D28
namespace Wk
open PySem PySem.Spec
open PyProof.Rows L2
section
variable {P : Program}
variable {w : World} {K : PySem.W.Frag} {mg : Str → Option Value} {base : Heap}
/-! ### defs with a keyword -/
structure Ck (P : Program) (w : World) (K : PySem.W.Frag) (mg : Str → Option Value) (base : Heap) (CX : CXT) (k : Nat) (x : Str) (sp : Sp) (n : Nat) (ks : List Str) : Prop where
  ex : ∃ (f : Addr) (fd : FuncData) (ps : List Str), FnOk P w K mg base CX k f fd ps sp ∧ mg x = some (.ref f) ∧ PySem.W.keepIn K (.ref f) = true ∧ KBn K fd ps n ks (fun us ws => us ++ ws) (fun vs zs => vs ++ zs)
theorem ck_of {P : Program} {w : World} {K : PySem.W.Frag} {mg : Str → Option Value} {base : Heap} {CX : CXT} {x : Str} {st : Stmt} {f : Addr} {k n : Nat} {sp : Sp} {N ps ks : List Str} {kw : List (Str × V)} (hf : ∃ fd, FunD K x x (defArgs st) (defBody st) (defScope st) [] kw f fd) (hm : mg x = some (.ref f)) (hs : C8.scC N ps (defScope st) = true)
    (hb : ∀ (kV doc pm : Value) (an : Option Addr) (cdv ct : Value) (us ws : List Value), us.length = n → ws.length = ks.length → bindArgs (PySem.W.fnOf x x (defArgs st) (defBody st) (defScope st) .none kV doc pm an cdv ct) ⟨us, ks.zip ws⟩ = pure (ps.zip (us ++ ws))) (len : ∀ vs H Q E, sp vs H Q E → vs.length = ps.length)
    (hbody : ∀ (f : Addr) (cdv : Value) (A : Around) (outer : List Env) (s : Shared) (H : Hp) (vs : List V) (Q : VK) (E : XK), Room k (A.deeper (envOfC x (defScope st) s.heap.objs.size f cdv)) → sp vs H Q E →
      ∃ t, PSs (cxOf CX P w K mg base N x (defScope st) f cdv A outer s H E) (defBody st) t ∧ t { nx := fun _ H' => Q .non H', rt := Q } (L2.start N vs) H) : Ck P w K mg base CX (k + 1) x sp n ks := by
  obtain ⟨fd, F⟩ := hf
  obtain ⟨oc, od, dV, kV, doc, pm, an, cdv, ct, osl, rfl, _, _, hD, _⟩ := F.ex
  (rcases hD with ⟨_, rfl⟩ | ⟨e, _⟩)
  case inr => exact absurd rfl e
  exact ⟨f, _, ps, F.ok (C8.fnScope_by hs) len (fun cdv A outer s H vs Q E hr h => hbody f cdv A outer s H vs Q E hr h), hm, F.kp, fun s us ws _ h1 h2 => .of_eq (hb _ _ _ _ _ _ us ws h1 h2), fun r1 r2 => r1.append r2⟩
def mtPost (r : Rule) (a b : Rat) (e : Dt) : Prop := match r with
  | none => e = .lst []
  | some (_, none) => False
  | some (f, some s) => ¬ 400 ≤ numHi f s b - numLo f s a ∧ e = .lst ((ptsL f s (numLo f s a) (numHi f s b)).map fr)
def mtPE (r : Rule) (a b : Rat) (x : Exc) : Prop := match r with
  | none => False
  | some (_, none) => x = .endless
  | some (f, some s) => 400 ≤ numHi f s b - numLo f s a ∧ x = .many 400
def Rl_meetings (K : PySem.W.Frag) : RelX := fun zs0 Pz Pe => ∃ (rows : Rows) (a b : Rat), zs0 = [.lst (rows.map (cyc K)), spn K a b] ∧ (RowsOk rows ∧ EndOk a ∧ EndOk b) ∧ Pz = (fun e => ∃ r, IsRule rows r ∧ mtPost r a b e) ∧ Pe = (fun x => ∃ r, IsRule rows r ∧ mtPE r a b x)
theorem len_meetings {K : PySem.W.Frag} : ∀ ds Post PE, Rl_meetings K ds Post PE → ds.length = 2 := fun _ _ _ ⟨_, _, _, e, _⟩ => by rw [e]; rfl
theorem ok_meetings (B : Bs K mg) : Cl P w K mg base (L2.CX P w) 8 "meetings" (spX (ecl K) (Rl_meetings K)) [] := by
  refine cl_of (N := ["cycles", "span", "rule"]) (ps := ["cycles", "span"]) B.d_meetings B.g_meetings (by decide +kernel) (fun _ _ _ _ _ _ us hl => match us, hl with | [_, _], _ => rfl)
    (len_X len_meetings) fun f cdv A outer s H vs Q E hr h => ?_
  have nd : (["cycles", "span", "rule"] : List Str).Nodup := by decide +kernel
  have tk : Takes (cxOf (L2.CX P w) P w K mg base ["cycles", "span", "rule"] "meetings" (defScope (top 80)) f cdv A outer s H E) (fun cls d _ H' => E cls d H') := takes_of rfl rfl rfl rfl
  refine ⟨_, (pss_cons (ps_expr (pe_cl (ok_need_cycles B) hr (by decide) pass0 (pa_cons (pv 0) pa_nil)))
  (pss_cons (ps_expr (pe_cl (ok_need_span B) hr (by decide) pass0 (pa_cons (pv 1) (pa_cons pe_str pa_nil))))
  (pss_cons (ps_set (i := 2) nd rfl (by first | exact Or.inl rfl | exact Or.inr rfl) (pe_cl (ok_meeting_rule B) hr (by decide) pass0 (pa_cons (pv 0) pa_nil)))
  (pss_cons (ps_if (pt_cmpR op_isN (pv 2) pe_non (nomark _)) (pss_one (ps_ret (pe_lst pa_nil))) pss_nil)
  (pss_cons (ps_if (pt_cmpR op_isN (pe_ix ix_tup (pv 2) pe_int (fun _ _ => rfl)) pe_non (nomark _)) (pss_one (ps_raise rfl tk (pmk_Endless B))) pss_nil)
  (pss_one (ps_ret (pe_cl (ok_steps_within B) hr (by decide) (passes_call tk fun _ _ _ _ z => z) (pa_cons (pe_ix ix_tup (pv 2) pe_int (fun _ _ => rfl)) (pa_cons (pe_ix ix_tup (pv 2) pe_int (fun _ _ => rfl)) (pa_cons (pv 1) pa_nil))))))))))), enterX h fun C ds Post PE hR hrt hE => ?_⟩
  obtain ⟨rows, a, b, rfl, ⟨hok, ha, hb⟩, rfl, rfl⟩ := hR
  show NX C _ [.val (.lst (rows.map (cyc K))), .val (spn K a b), .no]
  refine sq_drop (en_callD (ea_cons (ed_var rfl) ea_nil) (rl_need_cycles ⟨hok.1, hok.2.1⟩)) ?_
  refine sq_drop (en_callD (ea_cons (ed_var rfl) (ea_cons ed_str ea_nil)) ⟨a, b, _, rfl, rfl⟩) ?_
  refine sq_asgN (R := fun e => ∃ r, e = ruleD r ∧ IsRule rows r) (en_callD (ea_cons (ed_var rfl) ea_nil) ⟨rows, rfl, hok, rfl⟩) ?_
  rintro d ⟨r, rfl, hr1⟩
  have hr2 := hr1.ok hok.2.2
  rcases r with _ | ⟨f, _ | s⟩
  · exact sq_yes (etd_test (ed_isN (ed_var rfl))) rfl (nx_ret hrt (eld_lst ea_nil).ed ⟨_, hr1, rfl⟩)
  · refine sq_no (etd_test (ed_isN (ed_var rfl))) rfl ?_
    exact sq_yes (etd_test (ed_isN (ed_ixT (ds := [fr f, .non]) (ed_var rfl) ed_int rfl))) rfl (nx_endl hE ⟨_, hr1, rfl⟩)
  · refine sq_no (etd_test (ed_isN (ed_var rfl))) rfl ?_
    refine sq_no (etd_test (ed_isN (ed_ixT (ds := [fr f, fr s]) (ed_var rfl) ed_int rfl))) rfl ?_
    refine nx_retN hrt (EvN.imp (Ra := fun e => ¬ 400 ≤ numHi f s b - numLo f s a ∧ e = .lst ((ptsL f s (numLo f s a) (numHi f s b)).map fr)) (en_callX hE (EvA.imp (ea_cons (ed_ixT (ds := [fr f, fr s]) (ed_var rfl) ed_int rfl) (ea_cons (ed_ixT (ds := [fr f, fr s]) (ed_var rfl) ed_int rfl) (ea_cons (ed_var rfl) ea_nil))) ?_)) ?_)
    · rintro _ rfl
      exact ⟨_, ⟨f, s, a, b, rfl, ⟨hr2, ha, hb⟩, rfl, rfl⟩, fun x hx => ⟨_, hr1, hx⟩⟩
    · exact fun d hd => ⟨_, hr1, hd⟩
def Rl_is_near (K : PySem.W.Frag) : RelX := fun zs0 Pz Pe => ∃ (rows : Rows) (m : Rat) (d : Dt) (b : Bool), zs0 = [.lst (rows.map (cyc K)), fr m, d] ∧ (RowsOk rows ∧ Bd 2000 m ∧ WdOk d b) ∧ Pz = (fun e => b = true ∧ e = .bl (nearB rows m)) ∧ Pe = (fun x => b = false ∧ x = .bad "width")
theorem len_is_near {K : PySem.W.Frag} : ∀ ds Post PE, Rl_is_near K ds Post PE → ds.length = 3 := fun _ _ _ ⟨_, _, _, _, e, _⟩ => by rw [e]; rfl
theorem wd_zero {d : Dt} (h : WdOk d true) : d = fr 0 := by
  cases h <;> rfl
theorem ok_is_near (B : Bs K mg) : Ck P w K mg base (L2.CX P w) 6 "is_near" (spX (ecl K) (Rl_is_near K)) 2 ["width"] := by
  refine ck_of (N := ["cycles", "moment", "width"]) (ps := ["cycles", "moment", "width"]) B.d_is_near B.g_is_near (by decide +kernel) (fun _ _ _ _ _ _ us ws hl hl2 => match us, hl, ws, hl2 with | [_, _], _, [_], _ => rfl)
    (len_X len_is_near) fun f cdv A outer s H vs Q E hr h => ?_
  have nd : (["cycles", "moment", "width"] : List Str).Nodup := by decide +kernel
  have tk : Takes (cxOf (L2.CX P w) P w K mg base ["cycles", "moment", "width"] "is_near" (defScope (top 68)) f cdv A outer s H E) (fun cls d _ H' => E cls d H') := takes_of rfl rfl rfl rfl
  refine ⟨_, (pss_cons (ps_expr (pe_cl (ok_check_cycles B) hr (by decide) (passes_call tk fun _ _ _ _ z => z) (pa_cons (pv 0) pa_nil)))
  (pss_cons (ps_expr (pe_cl (ok_check_moment B) hr (by decide) pass0 (pa_cons (pv 1) pa_nil)))
  (pss_cons (ps_expr (pe_cl (ok_check_width B) hr (by decide) (passes_call tk fun _ _ _ _ z => z) (pa_cons (pv 2) pa_nil)))
  (pss_one (ps_ret (pe_cl (ok_lines_are_near B) hr (by decide) pass0 (pa_cons (pe_cl (ok_lines_of B) hr (by decide) pass0 (pa_cons (pv 0) pa_nil)) (pa_cons (pv 1) (pa_cons (pv 2) pa_nil))))))))), enterX h fun C ds Post PE hR hrt hE => ?_⟩
  obtain ⟨rows, m, d, b, rfl, ⟨hok, hm, hw⟩, rfl, rfl⟩ := hR
  show NX C _ [.val (.lst (rows.map (cyc K))), .val (fr m), .val d]
  refine sq_drop (R := fun e => true = true ∧ e = .non) (en_callX hE (EvA.imp (ea_cons (ed_var rfl) ea_nil) ?_)) ?_
  · rintro _ rfl
    exact ⟨_, ⟨_, true, rfl, .good rows ⟨hok.1, hok.2.1⟩, rfl, rfl⟩, fun x hx => by cases hx.1⟩
  refine sq_drop (en_callD (ea_cons (ed_var rfl) ea_nil) ⟨m, rfl, trivial, rfl⟩) ?_
  refine sq_drop' (R := fun e => b = true ∧ e = .non) (en_callX hE (EvA.imp (ea_cons (ed_var rfl) ea_nil) ?_)) ?_
  · rintro _ rfl
    exact ⟨_, ⟨_, b, rfl, hw, rfl, rfl⟩, fun x hx => hx⟩
  rintro ⟨_, hb, _⟩
  subst hb
  have hd := wd_zero hw
  subst hd
  cases rows with
  | nil => exact absurd hok.1 (by decide)
  | cons p0 l =>
    have hl5 : l.length ≤ 5 := by
      have : l.length + 1 ≤ 6 := hok.2.1
      omega
    exact nx_ret hrt (ed_call (ea_cons (ed_call (ea_cons (ed_var rfl) ea_nil) ⟨p0, l, rfl, ⟨hl5, hok.2.2⟩, rfl⟩) (ea_cons (ed_var rfl) (ea_cons (ed_var rfl) ea_nil))) ⟨p0, l, m, 2000, rfl, ⟨⟨hl5, hok.2.2⟩, hm, by decide⟩, rfl⟩) ⟨rfl, rfl⟩
end
end Wk
-- D29
namespace Wk
open PySem PySem.Spec
open PyProof.Rows L2
section
variable {P : Program}
variable {w : World} {K : PySem.W.Frag} {mg : Str → Option Value} {base : Heap}
theorem eld_rng {C : Ctx} {Γ : List Slot} {ta tb : TE} {a b : Int} (ha : EvD C ta Γ (.int a)) (hb : EvD C tb Γ (.int b)) (h : RgOk a b) : ElD C (tLstRg (tRg2 ta tb)) Γ ((List.range (b - a).toNat).map fun i : Nat => .int (a + (i : Int))) := el_new fun σ F H I Q q =>
  ha σ F H I _ fun x F1 H1 d1 I1 s1 r1 k1 => hb σ F1 H1 I1 _ fun y F2 H2 d2 I2 s2 r2 k2 => by
    subst k1 k2
    refine ⟨a, b, r1.int_inv, r2.int_inv, h, fun p hp => ?_⟩
    refine q p _ F2 H2 _ I2 (s1.trans s2) ?_ rfl hp
    unfold rgV
    generalize List.range (b - a).toNat = l
    induction l with
    | nil => exact .nil
    | cons x l ih => exact .cons (.int _) ih
def Rl_days (K : PySem.W.Frag) : RelX := fun zs0 Pz Pe => ∃ (a b : Rat), zs0 = [spn K a b] ∧ (EndOk a ∧ EndOk b) ∧ Pz = (fun e => ¬ 400 < b.floor - cei a + 1 ∧ e = .lst ((wls (cei a) b.floor).map Dt.int)) ∧ Pe = (fun x => 400 < b.floor - cei a + 1 ∧ x = .many 400)
theorem len_days {K : PySem.W.Frag} : ∀ ds Post PE, Rl_days K ds Post PE → ds.length = 1 := fun _ _ _ ⟨_, _, e, _⟩ => by rw [e]; rfl
theorem end_flo {q : Rat} (h : EndOk q) : (-16777216 ≤ q.floor ∧ q.floor ≤ 16777216) ∧ (-16777216 ≤ cei q ∧ cei q ≤ 16777216) := by
  obtain ⟨_, h1, h2⟩ := h
  have e1 : ((16777216 : Int) : Rat) = 16777216 := rfl
  have e2 : ((-16777216 : Int) : Rat) = -16777216 := by rw [Rat.intCast_neg, e1]
  have a1 : q.floor ≤ 16777216 := floor_le_of (by rw [e1]; exact h2)
  have a2 : -16777216 ≤ q.floor := le_floor_of (by rw [e2]; exact h1)
  have a3 : (-q).floor ≤ 16777216 := floor_le_of (by rw [e1]; grind)
  have a4 : -16777216 ≤ (-q).floor := le_floor_of (by rw [e2]; grind)
  unfold cei
  omega
theorem ok_Span_days (B : Bs K mg) : ∃ fd, FnOk P w K mg base (L2.CX P w) 3 (He.ma K (He.ga K "Span") "days") fd ["self"] (spX (ecl K) (Rl_days K)) ∧ Binds K fd ["self"] [] := by
  obtain ⟨fd, F⟩ := B.d_Span_days
  refine ⟨fd, F.ok (CX := L2.CX P w) (k := 2) (N := ["self", "low", "high"]) (ps := ["self"]) (C8.fnScope_by (by decide +kernel)) (len_X len_days) (fun cdv A outer s H vs Q E hr h => ?_), F.bindsN (fun _ _ _ _ _ _ us hl => match us, hl with | [_], _ => rfl)⟩
  have nd : (["self", "low", "high"] : List Str).Nodup := by decide +kernel
  have tk : Takes (cxOf (L2.CX P w) P w K mg base ["self", "low", "high"] "Span.days" (defScope (inClass (top 40) 6)) (He.ma K (He.ga K "Span") "days") cdv A outer s H E) (fun cls d _ H' => E cls d H') := takes_of rfl rfl rfl rfl
  refine ⟨_, (pss_cons (ps_set (i := 1) nd rfl (by first | exact Or.inl rfl | exact Or.inr rfl) (pe_un un_neg (pe_op op_fdivZ (pe_un un_neg (pe_ix ix_tup (pe_fld (pv 0) rfl) pe_int (fun _ _ => rfl))) (pe_ix ix_tup (pe_fld (pv 0) rfl) pe_int (fun _ _ => rfl)))))
  (pss_cons (ps_set (i := 2) nd rfl (by first | exact Or.inl rfl | exact Or.inr rfl) (pe_op op_fdivZ (pe_ix ix_tup (pe_fld (pv 0) rfl) pe_int (fun _ _ => rfl)) (pe_ix ix_tup (pe_fld (pv 0) rfl) pe_int (fun _ _ => rfl))))
  (pss_cons (ps_if (pt_cmpR op_gt (pe_op op_add (pe_op op_sub (pv 2) (pv 1)) pe_int) (C8.pe_gc rfl B.i_MOST_DAYS) (nomark _)) (pss_one (ps_raise rfl tk (pmk_TooMany B hr (by decide) (pa_cons (C8.pe_gc rfl B.i_MOST_DAYS) pa_nil) rfl rfl))) pss_nil)
  (pss_one (ps_ret (pe_listRg rfl rfl B.z_list (prg_2 rfl B.z_range (pv 1) (pe_op op_add (pv 2) pe_int)))))))), enterX h fun C ds Post PE hR hrt hE => ?_⟩
  obtain ⟨a, b, rfl, ⟨ha, hb⟩, rfl, rfl⟩ := hR
  show NX C _ [.val (spn K a b), .no, .no]
  have i3 : Bz a 500 := ⟨ha.b⟩
  have i4 : Bz b 500 := ⟨hb.b⟩
  have fa := (end_flo ha).2
  have fb := (end_flo hb).1
  have e1 : -((-a.num).fdiv (a.den : Int)) = cei a := by
    unfold cei
    rw [fdiv_den, Rat.floor_def, Rat.neg_num, Rat.neg_den]
  have e2 : b.num.fdiv (b.den : Int) = b.floor := by rw [fdiv_den, Rat.floor_def]
  have sf : ∀ {Γ : List Slot}, Γ[0]? = some (.val (spn K a b)) → EvD C (tFld K (tVar 0) "first") Γ (fr a) := fun h => ed_fld (ed_var h) B.c_Span B.n_first (k := 0) rfl (fbf (by decide +kernel)) rfl
  have sl : ∀ {Γ : List Slot}, Γ[0]? = some (.val (spn K a b)) → EvD C (tFld K (tVar 0) "last") Γ (fr b) := fun h => ed_fld (ed_var h) B.c_Span B.n_last (k := 1) rfl (fbf (by decide +kernel)) rfl
  refine sq_asg ((ed_neg (ed_rI (ed_neg (ed_ixT (ds := [.int a.num, .int (a.den : Int)]) (sf rfl) ed_int rfl)) (ed_ixT (ds := [.int a.num, .int (a.den : Int)]) (sf rfl) ed_int rfl) dv_den)).is (congrArg Dt.int e1)) ?_
  refine sq_asg ((ed_rI (ed_ixT (ds := [.int b.num, .int (b.den : Int)]) (sl rfl) ed_int rfl) (ed_ixT (ds := [.int b.num, .int (b.den : Int)]) (sl rfl) ed_int rfl) dv_den).is (congrArg Dt.int e2)) ?_
  refine sq_when (etd_test (ed_cmp (ed_rI0 (ed_rI0 (ed_var rfl) (ed_var rfl)) ed_int) ed_int)) (fun hc => ?_) fun hc => ?_
  · exact nx_many hE (ea_cons ed_int ea_nil) ⟨of_decide_eq_true hc, rfl⟩
  · have hn : ¬ 400 < b.floor - cei a + 1 := of_decide_eq_false hc
    refine nx_ret hrt (eld_rng (ed_var rfl) (ed_rI0 (ed_var rfl) ed_int) ⟨by omega, by omega, by omega, by omega, by omega⟩).ed ⟨hn, ?_⟩
    unfold wls
    rw [show b.floor + 1 - cei a = b.floor - cei a + 1 by omega, List.map_map] <;> rfl
theorem pe_days {X : Cx} {j : Nat} {o : Expr} {apos pos : Pos} {ta : TE} {E : XK} {pl : Sem Bool} (B : Bs X.K X.mg) (hr : Room j X.A) (hk : 3 ≤ j) (hx : Passes (L2.CX X.prog X.w) X E) (he : PE X o ta)
    (ht : eval (.Call (.Attribute o "days" apos) [] [] pos) X.env = (do
      let ov ← eval o X.env
      standAt apos.atName
      let (f, first) ← holding [ov] (getMethod ov "days" pl)
      callWith pos f first [] [])) : PE X (.Call (.Attribute o "days" apos) [] [] pos) (tMeth (He.ga X.K "Span") "days" (spX (ecl X.K) (Rl_days X.K)) [] E ta tNil) := by
  obtain ⟨fd, F, b⟩ := ok_Span_days (P := X.prog) (w := X.w) (base := X.base) B
  exact pe_meth0 he B.c_Span B.m_days F (hr.mono hk) b .nil hx ht
theorem en_days {C : Ctx} {Γ : List Slot} {E : XK} {c : Ecl} {K : PySem.W.Frag} {i : Nat} {a b : Rat} {PEo : Exc → Prop} (hE : Eh C E c PEo) (hi : Γ[i]? = some (.val (spn K a b))) (ha : EndOk a) (hb : EndOk b) (hx : 400 < b.floor - cei a + 1 → PEo (.many 400)) :
    EvN C (tMeth (He.ga K "Span") "days" (spX c (Rl_days K)) [] E (tVar i) tNil) Γ (fun e => ¬ 400 < b.floor - cei a + 1 ∧ e = .lst ((wls (cei a) b.floor).map Dt.int)) := fun σ F H I Q q => by
  obtain ⟨o, ho, v, rfl, r⟩ := I.sl i _ hi
  obtain ⟨x, dx, vs, rfl, hF, hl, rs⟩ := r.ins_inv
  refine ⟨_, ho, x, dx, _, rfl, I.fh _ _ hF, ?_, ?_⟩
  · have : ["first", "last", "length"].length = vs.length := hl.symm
    match vs, hl with
    | [v1, v2, v3], _ => rfl
  · exact ⟨F, [spn K a b], _, _, I.fh, .cons (.ins hF hl rs) .nil, ⟨a, b, rfl, ⟨ha, hb⟩, rfl, rfl⟩, fun v F2 H2 d g rv kd => q v F2 H2 d (I.grow g) g.ff rv kd, fun cls dd H2 x sm er px =>
      hE σ F H2 Γ cls dd x (I.grow ⟨.refl _, I.fh.trans sm, sm, fun _ _ z => z⟩) er (by rw [px.2]; exact hx px.1)⟩
def Rl_near_days (K : PySem.W.Frag) : RelX := fun zs0 Pz Pe => ∃ (rows : Rows) (a b : Rat), zs0 = [.lst (rows.map (cyc K)), spn K a b, fr 0] ∧ (RowsOk rows ∧ EndOk a ∧ EndOk b) ∧ Pz = (fun e => ¬ 400 < b.floor - cei a + 1 ∧ e = .lst (((wls (cei a) b.floor).filter fun k : Int => nearB rows (k : Rat)).map Dt.int)) ∧ Pe = (fun x => 400 < b.floor - cei a + 1 ∧ x = .many 400)
theorem len_near_days {K : PySem.W.Frag} : ∀ ds Post PE, Rl_near_days K ds Post PE → ds.length = 3 := fun _ _ _ ⟨_, _, _, e, _⟩ => by rw [e]; rfl
theorem ok_near_days (B : Bs K mg) : Ck P w K mg base (L2.CX P w) 6 "near_days" (spX (ecl K) (Rl_near_days K)) 2 ["width"] := by
  refine ck_of (N := ["cycles", "span", "width", "days", "lines", "day"]) (ps := ["cycles", "span", "width"]) B.d_near_days B.g_near_days (by decide +kernel) (fun _ _ _ _ _ _ us ws hl hl2 => match us, hl, ws, hl2 with | [_, _], _, [_], _ => rfl)
    (len_X len_near_days) fun f cdv A outer s H vs Q E hr h => ?_
  have nd : (["cycles", "span", "width", "days", "lines", "day"] : List Str).Nodup := by decide +kernel
  have tk : Takes (cxOf (L2.CX P w) P w K mg base ["cycles", "span", "width", "days", "lines", "day"] "near_days" (defScope (top 71)) f cdv A outer s H E) (fun cls d _ H' => E cls d H') := takes_of rfl rfl rfl rfl
  refine ⟨_, (pss_cons (ps_expr (pe_cl (ok_check_cycles B) hr (by decide) (passes_call tk fun _ _ _ _ z => z) (pa_cons (pv 0) pa_nil)))
  (pss_cons (ps_expr (pe_cl (ok_check_span B) hr (by decide) pass0 (pa_cons (pv 1) pa_nil)))
  (pss_cons (ps_expr (pe_cl (ok_check_width B) hr (by decide) (passes_call tk fun _ _ _ _ z => z) (pa_cons (pv 2) pa_nil)))
  (pss_cons (ps_set (i := 3) nd rfl (by first | exact Or.inl rfl | exact Or.inr rfl) (pe_days B hr (by decide) (passes_call tk fun _ _ _ _ z => z) (pv 1) (by rfl)))
  (pss_cons (ps_set (i := 4) nd rfl (by first | exact Or.inl rfl | exact Or.inr rfl) (pe_cl (ok_lines_of B) hr (by decide) pass0 (pa_cons (pv 0) pa_nil)))
  (pss_one (ps_ret (pe_lc (own := [("day", 5)]) rfl nd (pi_list (pv 3)) (blkOk_by (by show blkC ["cycles", "span", "width", "days", "lines", "day"] (defScope (top 71)) _ _ = true; decide +kernel)) (fun _ _ _ _ _ => pg_name (i := 5) nd rfl (Or.inl rfl)) (fun _ _ _ _ _ => pts_one (pt_val (pe_cl (ok_lines_are_near B) hr (by decide) pass0 (pa_cons (pv 4) (pa_cons (pe_tup (pa_cons (pv 5) (pa_cons pe_int pa_nil))) (pa_cons (pv 2) pa_nil)))))) (fun _ _ _ _ _ => (pv 5)))))))))), enterX h fun C ds Post PE hR hrt hE => ?_⟩
  obtain ⟨rows, a, b, rfl, ⟨hok, ha, hb⟩, rfl, rfl⟩ := hR
  show NX C _ [.val (.lst (rows.map (cyc K))), .val (spn K a b), .val (fr 0), .no, .no, .no]
  refine sq_drop (R := fun e => true = true ∧ e = .non) (en_callX hE (EvA.imp (ea_cons (ed_var rfl) ea_nil) ?_)) ?_
  · rintro _ rfl
    exact ⟨_, ⟨_, true, rfl, .good rows ⟨hok.1, hok.2.1⟩, rfl, rfl⟩, fun x hx => by cases hx.1⟩
  refine sq_drop (en_callD (ea_cons (ed_var rfl) ea_nil) ⟨a, b, rfl, rfl⟩) ?_
  refine sq_drop (R := fun e => true = true ∧ e = .non) (en_callX hE (EvA.imp (ea_cons (ed_var rfl) ea_nil) ?_)) ?_
  · rintro _ rfl
    exact ⟨_, ⟨_, true, rfl, .zero, rfl, rfl⟩, fun x hx => by cases hx.1⟩
  refine sq_asgN (en_days hE rfl ha hb fun h => ⟨h, rfl⟩) ?_
  rintro d ⟨hm, rfl⟩
  cases rows with
  | nil => exact absurd hok.1 (by decide)
  | cons p0 l =>
    have hl5 : l.length ≤ 5 := by
      have : l.length + 1 ≤ 6 := hok.2.1
      omega
    refine sq_asg (ed_call (ea_cons (ed_var rfl) ea_nil) ⟨p0, l, rfl, ⟨hl5, hok.2.2⟩, rfl⟩) ?_
    have fa := (end_flo ha).2
    have fb := (end_flo hb).1
    have lw : (wls (cei a) b.floor).length ≤ 400 := by
      unfold wls
      (rw [List.length_map, List.length_range])
      omega
    have mw : ∀ k ∈ wls (cei a) b.floor, k.natAbs < 2 ^ 30 := fun k hk => by
      have := mem_wls.mp hk
      show k.natAbs < 1073741824
      omega
    revert lw mw
    generalize wls (cei a) b.floor = W at hrt ⊢
    intro lw mw
    refine nx_retN hrt (EvL.ev (el_lcN (fun i ds => ds = ((W.take i).filter fun k : Int => nearB (p0 :: l) (k : Rat)).map Dt.int) (ei_list (ed_var rfl)) rfl (by rw [List.length_map]; omega) rfl fun C' le i hi => ⟨_, asg_name (by simp), fun b' => b' = nearB (p0 :: l) ((W[i]'(by simpa using hi) : Int) : Rat), ?_, fun hb' => ?_, fun hb' => ?_⟩) ?_)
    · have hiW : i < W.length := by simpa using hi
      rw [getD_map hi]
      have iw : Bz ((W[i] : Int) : Rat) 30 := ⟨bd_int (mw _ (List.getElem_mem hiW)) (by decide)⟩
      exact etd_B (ed_call (ea_cons (ed_var rfl) (ea_cons ((ed_tup (ea_cons (ed_var rfl) (ea_cons ed_int ea_nil))).is (fr_int _)) (ea_cons (ed_var rfl) ea_nil))) ⟨p0, l, _, 30, rfl, ⟨⟨hl5, hok.2.2⟩, bz, by decide⟩, rfl⟩)
    · have hiW : i < W.length := by simpa using hi
      rw [getD_map hi]
      refine (ed_var rfl).to ?_
      rintro ds rfl
      rw [← List.take_append_getElem hiW, List.filter_append, List.map_append]
      congr 1
      rw [List.filter_cons, if_pos hb'.symm] <;> rfl
    · have hiW : i < W.length := by simpa using hi
      rintro ds rfl
      rw [← List.take_append_getElem hiW, List.filter_append, List.map_append]
      rw [List.filter_cons, if_neg (by rw [← hb']; simp)]
      simp
    · rintro ds rfl
      refine ⟨hm, ?_⟩
      (rw [List.length_map, List.take_length])
end
end Wk
-- D30
namespace Wk
open PySem PySem.Spec
open PyProof.Rows L2
section
variable {P : Program}
variable {w : World} {K : PySem.W.Frag} {mg : Str → Option Value} {base : Heap}
inductive Pl : Nat → Dt → Prop
  | non (n : Nat) : Pl n .non
  | bl (n : Nat) (b : Bool) : Pl n (.bl b)
  | int (n : Nat) (i : Int) : Pl n (.int i)
  | str (n : Nat) (x : Str) : Pl n (.str x)
  | tup {n : Nat} {ds : List Dt} (h : ∀ d ∈ ds, Pl n d) (hl : ds.length ≤ 1000) : Pl (n + 1) (.tup ds)
  | lst {n : Nat} {ds : List Dt} (h : ∀ d ∈ ds, Pl n d) (hl : ds.length ≤ 1000) : Pl (n + 1) (.lst ds)
theorem Pl.ins {n : Nat} {d : Dt} (h : Pl n d) : isIns d = false := by cases h <;> rfl
def Rl_alikeN (n : Nat) : Rel := fun zs0 Pz => ∃ d, zs0 = [d, d] ∧ Pl n d ∧ Pz = (fun e => e = .bl true)
theorem len_alikeN {n : Nat} : ∀ ds Post, Rl_alikeN n ds Post → ds.length = 2 := fun _ _ ⟨_, e, _⟩ => by rw [e]; rfl
section
variable {C : Ctx} {Γ : List Slot} {ta tb : TE} {ds : List Dt} {i : Int} {d : Dt}
theorem ed_ixQL (ha : EvD C ta Γ (.lst ds)) (hb : EvD C tb Γ (.int i)) (h : atI ds i = some d) : EvD C (tOp (rIx K) ta tb) Γ d :=
  en_op ha hb fun d' e k1 k2 σ F H I x y r1 r2 Q q => by
    subst k1 k2
    obtain ⟨a, vs, rfl, hF, rs⟩ := r1.lst_inv
    obtain ⟨v, hv, rv⟩ := rep_at rs h
    exact .inl ⟨a, vs, i, v, rfl, r2.int_inv, .inl (.inl (I.fh _ _ hF)), hv, q v F H d I (.refl _) rv rfl⟩
theorem ed_ixQT (ha : EvD C ta Γ (.tup ds)) (hb : EvD C tb Γ (.int i)) (h : atI ds i = some d) : EvD C (tOp (rIx K) ta tb) Γ d :=
  en_op ha hb fun d' e k1 k2 σ F H I x y r1 r2 Q q => by
    subst k1 k2
    obtain ⟨a, vs, rfl, hF, rs⟩ := r1.tup_inv
    obtain ⟨v, hv, rv⟩ := rep_at rs h
    exact .inr (.inl ⟨a, vs, i, v, rfl, r2.int_inv, .inl (.inl (I.fh _ _ hF)), hv, q v F H d I (.refl _) rv rfl⟩)
end
theorem ok_alike0 (B : Bs K mg) : Cl P w K mg base CX0 1 "_law_alike" (spP (Rl_alikeN 0)) [] := by
  refine cl_of (N := ["_law_told", "_law_due", "_law_k"]) (ps := ["_law_told", "_law_due"]) B.d_law_alike B.g_law_alike (by decide +kernel) (fun _ _ _ _ _ _ us hl => match us, hl with | [_, _], _ => rfl)
    (len_P len_alikeN) fun f cdv A outer s H vs Q E hr h => ?_
  have nd : (["_law_told", "_law_due", "_law_k"] : List Str).Nodup := by decide +kernel
  refine ⟨_, PSs.nox (pss_cons (ps_if (pt_val (pe_callB call_isiT (by rfl) B.z_isinstance (by decide +kernel) (pa_cons (pv 1) (pa_cons (pe_tup (pa_cons (pe_bltn (v := .ty "list") rfl B.z_list (by decide +kernel) rfl) (pa_cons (pe_bltn (v := .ty "tuple") rfl B.z_tuple (by decide +kernel) rfl) pa_nil))) pa_nil)))) pss_never pss_nil) (pss_cons (ps_if (PW.pt (pw_or (pt_cmpR op_isN (pv 1) pe_non (nomark _)) (pw_or1 (pt_cmpR op_ne (pe_callB call_isi (by rfl) B.z_isinstance (by decide +kernel) (pa_cons (pv 0) (pa_cons (pe_bltn (v := .ty "bool") rfl B.z_bool (by decide +kernel) rfl) pa_nil))) (pe_callB call_isi (by rfl) B.z_isinstance (by decide +kernel) (pa_cons (pv 1) (pa_cons (pe_bltn (v := .ty "bool") rfl B.z_bool (by decide +kernel) rfl) pa_nil))) (nomark _))))) (pss_one (ps_ret (pe_and (pe_cmpR op_isN (pv 1) pe_non (nomark _)) (pe_one (pe_cmpR op_isN (pv 0) pe_non (nomark _)))))) pss_nil)
  (pss_one (ps_ret (pe_and (pe_cmpR op_eq (pe_callB call_isi (by rfl) B.z_isinstance (by decide +kernel) (pa_cons (pv 0) (pa_cons (pe_bltn (v := .ty "int") rfl B.z_int (by decide +kernel) rfl) pa_nil))) (pe_callB call_isi (by rfl) B.z_isinstance (by decide +kernel) (pa_cons (pv 1) (pa_cons (pe_bltn (v := .ty "int") rfl B.z_int (by decide +kernel) rfl) pa_nil))) (nomark _)) (pe_and (pe_callB call_isiT (by rfl) B.z_isinstance (by decide +kernel) (pa_cons (pv 0) (pa_cons (pe_tup (pa_cons (pe_bltn (v := .ty "int") rfl B.z_int (by decide +kernel) rfl) (pa_cons (pe_bltn (v := .ty "str") rfl B.z_str (by decide +kernel) rfl) pa_nil))) pa_nil))) (pe_one (pe_cmpR op_eq (pv 0) (pv 1) (nomark _))))))))), enterP h fun C ds Post hR hrt => ?_⟩
  obtain ⟨d, rfl, hd, rfl⟩ := hR
  show NX C _ [.val d, .val d, .no]
  cases hd with
  | non _ =>
    refine sq_no (etd_B (ed_isLT (ed_var rfl) rfl)) rfl ?_
    exact sq_yes (etd_or1 (etd_test (ed_isN (ed_var rfl))) rfl) rfl (nx_ret hrt (ed_andV (ed_isN (ed_var rfl)) fun _ => ed_isN (ed_var rfl)) rfl)
  | bl _ b =>
    refine sq_no (etd_B (ed_isLT (ed_var rfl) rfl)) rfl ?_
    refine sq_no (etd_or (etd_test (ed_isN (ed_var rfl))) fun _ => etd_test (ed_neB (ed_isT (ed_var rfl) rfl) (ed_isT (ed_var rfl) rfl))) rfl ?_
    exact nx_ret hrt (ed_andV (ed_eqB (ed_isT (ed_var rfl) rfl) (ed_isT (ed_var rfl) rfl)) fun _ => ed_andV (ed_isIS (ed_var rfl) rfl) fun _ => ed_eqB (ed_var rfl) (ed_var rfl)) (by simp [isB, tyN])
  | int _ i =>
    refine sq_no (etd_B (ed_isLT (ed_var rfl) rfl)) rfl ?_
    refine sq_no (etd_or (etd_test (ed_isN (ed_var rfl))) fun _ => etd_test (ed_neB (ed_isT (ed_var rfl) rfl) (ed_isT (ed_var rfl) rfl))) rfl ?_
    exact nx_ret hrt (ed_andV (ed_eqB (ed_isT (ed_var rfl) rfl) (ed_isT (ed_var rfl) rfl)) fun _ => ed_andV (ed_isIS (ed_var rfl) rfl) fun _ => ed_eqI (ed_var rfl) (ed_var rfl)) (by simp [isB, tyN])
  | str _ x =>
    refine sq_no (etd_B (ed_isLT (ed_var rfl) rfl)) rfl ?_
    refine sq_no (etd_or (etd_test (ed_isN (ed_var rfl))) fun _ => etd_test (ed_neB (ed_isT (ed_var rfl) rfl) (ed_isT (ed_var rfl) rfl))) rfl ?_
    exact nx_ret hrt (ed_andV (ed_eqB (ed_isT (ed_var rfl) rfl) (ed_isT (ed_var rfl) rfl)) fun _ => ed_andV (ed_isIS (ed_var rfl) rfl) fun _ => ed_eqS (ed_var rfl) (ed_var rfl)) (by simp [isB, tyN])
theorem ok_alikeS (B : Bs K mg) {n k : Nat} (ih : Cl P w K mg base CX0 k "_law_alike" (spP (Rl_alikeN n)) []) : Cl P w K mg base CX0 (k + 1) "_law_alike" (spP (Rl_alikeN (n + 1))) [] := by
  refine cl_of (N := ["_law_told", "_law_due", "_law_k"]) (ps := ["_law_told", "_law_due"]) B.d_law_alike B.g_law_alike (by decide +kernel) (fun _ _ _ _ _ _ us hl => match us, hl with | [_, _], _ => rfl)
    (len_P len_alikeN) fun f cdv A outer s H vs Q E hr h => ?_
  have nd : (["_law_told", "_law_due", "_law_k"] : List Str).Nodup := by decide +kernel
  refine ⟨_, PSs.nox (pss_cons (ps_if (pt_val (pe_callB call_isiT (by rfl) B.z_isinstance (by decide +kernel) (pa_cons (pv 1) (pa_cons (pe_tup (pa_cons (pe_bltn (v := .ty "list") rfl B.z_list (by decide +kernel) rfl) (pa_cons (pe_bltn (v := .ty "tuple") rfl B.z_tuple (by decide +kernel) rfl) pa_nil))) pa_nil)))) (pss_cons (ps_if (PW.pt (pw_or (pt_not (pt_val (pe_callB call_isiT (by rfl) B.z_isinstance (by decide +kernel) (pa_cons (pv 0) (pa_cons (pe_tup (pa_cons (pe_bltn (v := .ty "list") rfl B.z_list (by decide +kernel) rfl) (pa_cons (pe_bltn (v := .ty "tuple") rfl B.z_tuple (by decide +kernel) rfl) pa_nil))) pa_nil))))) (pw_or1 (pt_cmpR op_ne (pe_callB call_isi (by rfl) B.z_isinstance (by decide +kernel) (pa_cons (pv 0) (pa_cons (pe_bltn (v := .ty "list") rfl B.z_list (by decide +kernel) rfl) pa_nil))) (pe_callB call_isi (by rfl) B.z_isinstance (by decide +kernel) (pa_cons (pv 1) (pa_cons (pe_bltn (v := .ty "list") rfl B.z_list (by decide +kernel) rfl) pa_nil))) (nomark _))))) (pss_one (ps_ret pe_bl)) pss_nil)
  (pss_cons (ps_if (pt_cmpR op_ne (pe_callB call_len_seq (by rfl) B.z_len (by decide +kernel) (pa_cons (pv 0) pa_nil)) (pe_callB call_len_seq (by rfl) B.z_len (by decide +kernel) (pa_cons (pv 1) pa_nil)) (nomark _)) (pss_one (ps_ret pe_bl)) pss_nil)
  (pss_cons (ps_for PassesOwn.never rfl (pi_range1 rfl B.z_range (pa_cons (pe_callB call_len_seq (by rfl) B.z_len (by decide +kernel) (pa_cons (pv 1) pa_nil)) pa_nil)) (pg_name (i := 2) nd rfl (by first | exact Or.inl rfl | exact Or.inr rfl)) (pss_one (ps_if (pt_not (pt_val (pe_cl ih hr (by omega) pass0 (pa_cons (pe_ix ix_seq (pv 0) (pv 2) (fun _ _ => rfl)) (pa_cons (pe_ix ix_seq (pv 1) (pv 2) (fun _ _ => rfl)) pa_nil))))) (pss_one (ps_ret pe_bl)) pss_nil)))
  (pss_one (ps_ret pe_bl))))) pss_nil)
  (pss_cons (ps_if (PW.pt (pw_or (pt_cmpR op_isN (pv 1) pe_non (nomark _)) (pw_or1 (pt_cmpR op_ne (pe_callB call_isi (by rfl) B.z_isinstance (by decide +kernel) (pa_cons (pv 0) (pa_cons (pe_bltn (v := .ty "bool") rfl B.z_bool (by decide +kernel) rfl) pa_nil))) (pe_callB call_isi (by rfl) B.z_isinstance (by decide +kernel) (pa_cons (pv 1) (pa_cons (pe_bltn (v := .ty "bool") rfl B.z_bool (by decide +kernel) rfl) pa_nil))) (nomark _))))) (pss_one (ps_ret (pe_and (pe_cmpR op_isN (pv 1) pe_non (nomark _)) (pe_one (pe_cmpR op_isN (pv 0) pe_non (nomark _)))))) pss_nil)
  (pss_one (ps_ret (pe_and (pe_cmpR op_eq (pe_callB call_isi (by rfl) B.z_isinstance (by decide +kernel) (pa_cons (pv 0) (pa_cons (pe_bltn (v := .ty "int") rfl B.z_int (by decide +kernel) rfl) pa_nil))) (pe_callB call_isi (by rfl) B.z_isinstance (by decide +kernel) (pa_cons (pv 1) (pa_cons (pe_bltn (v := .ty "int") rfl B.z_int (by decide +kernel) rfl) pa_nil))) (nomark _)) (pe_and (pe_callB call_isiT (by rfl) B.z_isinstance (by decide +kernel) (pa_cons (pv 0) (pa_cons (pe_tup (pa_cons (pe_bltn (v := .ty "int") rfl B.z_int (by decide +kernel) rfl) (pa_cons (pe_bltn (v := .ty "str") rfl B.z_str (by decide +kernel) rfl) pa_nil))) pa_nil))) (pe_one (pe_cmpR op_eq (pv 0) (pv 1) (nomark _))))))))), enterP h fun C ds Post hR hrt => ?_⟩
  obtain ⟨d, rfl, hd, rfl⟩ := hR
  show NX C _ [.val d, .val d, .no]
  cases hd with
  | non _ =>
    refine sq_no (etd_B (ed_isLT (ed_var rfl) rfl)) rfl ?_
    exact sq_yes (etd_or1 (etd_test (ed_isN (ed_var rfl))) rfl) rfl (nx_ret hrt (ed_andV (ed_isN (ed_var rfl)) fun _ => ed_isN (ed_var rfl)) rfl)
  | bl _ b =>
    refine sq_no (etd_B (ed_isLT (ed_var rfl) rfl)) rfl ?_
    refine sq_no (etd_or (etd_test (ed_isN (ed_var rfl))) fun _ => etd_test (ed_neB (ed_isT (ed_var rfl) rfl) (ed_isT (ed_var rfl) rfl))) rfl ?_
    exact nx_ret hrt (ed_andV (ed_eqB (ed_isT (ed_var rfl) rfl) (ed_isT (ed_var rfl) rfl)) fun _ => ed_andV (ed_isIS (ed_var rfl) rfl) fun _ => ed_eqB (ed_var rfl) (ed_var rfl)) (by simp [isB, tyN])
  | int _ i =>
    refine sq_no (etd_B (ed_isLT (ed_var rfl) rfl)) rfl ?_
    refine sq_no (etd_or (etd_test (ed_isN (ed_var rfl))) fun _ => etd_test (ed_neB (ed_isT (ed_var rfl) rfl) (ed_isT (ed_var rfl) rfl))) rfl ?_
    exact nx_ret hrt (ed_andV (ed_eqB (ed_isT (ed_var rfl) rfl) (ed_isT (ed_var rfl) rfl)) fun _ => ed_andV (ed_isIS (ed_var rfl) rfl) fun _ => ed_eqI (ed_var rfl) (ed_var rfl)) (by simp [isB, tyN])
  | str _ x =>
    refine sq_no (etd_B (ed_isLT (ed_var rfl) rfl)) rfl ?_
    refine sq_no (etd_or (etd_test (ed_isN (ed_var rfl))) fun _ => etd_test (ed_neB (ed_isT (ed_var rfl) rfl) (ed_isT (ed_var rfl) rfl))) rfl ?_
    exact nx_ret hrt (ed_andV (ed_eqB (ed_isT (ed_var rfl) rfl) (ed_isT (ed_var rfl) rfl)) fun _ => ed_andV (ed_isIS (ed_var rfl) rfl) fun _ => ed_eqS (ed_var rfl) (ed_var rfl)) (by simp [isB, tyN])
  | tup hh hl =>
    rename_i ds
    refine sq_yes (etd_B (ed_isLT (ed_var rfl) rfl)) rfl ?_
    refine sq_no (etd_or (etd_not (etd_B (ed_isLT (ed_var rfl) rfl))) fun _ => etd_test (ed_neB (ed_isT (ed_var rfl) rfl) (ed_isT (ed_var rfl) rfl))) rfl ?_
    refine sq_no (etd_test (ed_neI (ed_lenT (ed_var rfl)) (ed_lenT (ed_var rfl)))) (by simp) ?_
    refine sq_for (ei_range1 (n := (ds.length : Int)) (ea_cons (ed_lenT (ed_var rfl)) ea_nil) ⟨by omega, by omega⟩) (fun _ => [.val (.tup ds), .val (.tup ds), .no]) (.refl _) (fun C' le i hi N hN => ⟨_, [2], asg_name, ?_⟩) (nx_ret hrt ed_bl rfl)
    have hil : i < ds.length := by omega
    have hat : atI ds (i : Int) = some ds[i] := atI_nat (List.getElem?_eq_getElem hil)
    exact nx_no (etd_not (etd_B (ed_call (ea_cons (ed_ixQT (ed_var rfl) (ed_var rfl) hat) (ea_cons (ed_ixQT (ed_var rfl) (ed_var rfl) hat) ea_nil)) ⟨ds[i], rfl, hh _ (List.getElem_mem hil), rfl⟩))) rfl (hN.wk (.keep (.keep (.drop .nil))))
  | lst hh hl =>
    rename_i ds
    refine sq_yes (etd_B (ed_isLT (ed_var rfl) rfl)) rfl ?_
    refine sq_no (etd_or (etd_not (etd_B (ed_isLT (ed_var rfl) rfl))) fun _ => etd_test (ed_neB (ed_isT (ed_var rfl) rfl) (ed_isT (ed_var rfl) rfl))) rfl ?_
    refine sq_no (etd_test (ed_neI (ed_lenL (ed_var rfl)) (ed_lenL (ed_var rfl)))) (by simp) ?_
    refine sq_for (ei_range1 (n := (ds.length : Int)) (ea_cons (ed_lenL (ed_var rfl)) ea_nil) ⟨by omega, by omega⟩) (fun _ => [.val (.lst ds), .val (.lst ds), .no]) (.refl _) (fun C' le i hi N hN => ⟨_, [2], asg_name, ?_⟩) (nx_ret hrt ed_bl rfl)
    have hil : i < ds.length := by omega
    have hat : atI ds (i : Int) = some ds[i] := atI_nat (List.getElem?_eq_getElem hil)
    exact nx_no (etd_not (etd_B (ed_call (ea_cons (ed_ixQL (ed_var rfl) (ed_var rfl) hat) (ea_cons (ed_ixQL (ed_var rfl) (ed_var rfl) hat) ea_nil)) ⟨ds[i], rfl, hh _ (List.getElem_mem hil), rfl⟩))) rfl (hN.wk (.keep (.keep (.drop .nil))))
theorem ok_alikeN (B : Bs K mg) : ∀ n : Nat, Cl P w K mg base CX0 (n + 1) "_law_alike" (spP (Rl_alikeN n)) []
  | 0 => ok_alike0 B
  | n + 1 => ok_alikeS B (ok_alikeN B n)
def Rl_law_alike : Rel := Rl_alikeN 5
theorem ok_law_alike (B : Bs K mg) : Cl P w K mg base CX0 6 "_law_alike" (spP Rl_law_alike) [] := ok_alikeN B 5
theorem rl_law_alike {d : Dt} (h : Pl 5 d) : Rl_law_alike [d, d] (fun e => e = .bl true) := ⟨d, rfl, h, rfl⟩
end
end Wk
-- D31
namespace Wk
open PySem PySem.Spec
open PyProof.Rows L2
section
variable {P : Program}
variable {w : World} {K : PySem.W.Frag} {mg : Str → Option Value} {base : Heap}
theorem pl_fr {n : Nat} (q : Rat) : Pl (n + 1) (fr q) := .tup (fun d hd => by
  simp only [List.mem_cons, List.not_mem_nil, or_false] at hd
  rcases hd with rfl | rfl
  · exact .int _ _
  · exact .int _ _) (by show 2 ≤ 1000; decide)
theorem pl_map {α : Type} {n : Nat} {f : α → Dt} {l : List α} (h : ∀ x ∈ l, Pl n (f x)) (hl : l.length ≤ 1000) : Pl (n + 1) (.lst (l.map f)) := .lst (fun d hd => by
  obtain ⟨x, hx, rfl⟩ := List.mem_map.mp hd
  exact h x hx) (by rw [List.length_map]; exact hl)
theorem pl_row {n : Nat} (p : Rat × Rat) : Pl (n + 2) (rowD p) := .tup (fun d hd => by
  simp only [List.mem_cons, List.not_mem_nil, or_false] at hd
  rcases hd with rfl | rfl
  · exact pl_fr _
  · exact pl_fr _) (by show 2 ≤ 1000; decide)
inductive TolD (K : PySem.W.Frag) : Dt → Dt → Prop
  | told (R : Rows) (h : R.length ≤ 1000) (hb : RowsBd 4000 R) : TolD K (.tup [.str "told", .lst (R.map fun p => spn K p.1 p.2)]) (.tup [.str "told", .lst (R.map rowD)])
  | many (n : Int) : TolD K (.tup [.str "TooMany", .int n]) (.tup [.str "TooMany", .int n])
def Rl_law_spans_told (K : PySem.W.Frag) : Rel := fun zs0 Pz => ∃ d e0, zs0 = [d] ∧ TolD K d e0 ∧ Pz = (fun e => e = e0)
theorem len_law_spans_told {K : PySem.W.Frag} : ∀ ds Post, Rl_law_spans_told K ds Post → ds.length = 1 := fun _ _ ⟨_, _, e, _⟩ => by rw [e]; rfl
theorem ok_law_spans_told (B : Bs K mg) : Cl P w K mg base CX0 7 "_law_spans_told" (spP (Rl_law_spans_told K)) [] := by
  refine cl_of (N := ["_law_answer_here", "_law_span", "_law_rows", "_law_row"]) (ps := ["_law_answer_here"]) B.d_law_spans_told B.g_law_spans_told (by decide +kernel) (fun _ _ _ _ _ _ us hl => match us, hl with | [_], _ => rfl)
    (len_P len_law_spans_told) fun f cdv A outer s H vs Q E hr h => ?_
  have nd : (["_law_answer_here", "_law_span", "_law_rows", "_law_row"] : List Str).Nodup := by decide +kernel
  refine ⟨_, PSs.nox (pss_cons (ps_if (PW.pt (pw_or (pt_cmpR op_ne (pe_ix ix_tup (pv 0) pe_int (fun _ _ => rfl)) pe_str (nomark _)) (pw_or1 (pt_not (pt_val (pe_callB call_isi (by rfl) B.z_isinstance (by decide +kernel) (pa_cons (pe_ix ix_tup (pv 0) pe_int (fun _ _ => rfl)) (pa_cons (pe_bltn (v := .ty "list") rfl B.z_list (by decide +kernel) rfl) pa_nil)))))))) (pss_one (ps_ret (pv 0))) pss_nil)
  (pss_cons (ps_if (pt_truth (pe_lc (own := [("_law_span", 1)]) rfl nd (pi_list (pe_ix ix_tup (pv 0) pe_int (fun _ _ => rfl))) (blkOk_by (by show blkC ["_law_answer_here", "_law_span", "_law_rows", "_law_row"] (defScope (top 120)) _ _ = true; decide +kernel)) (fun _ _ _ _ _ => pg_name (i := 1) nd rfl (Or.inl rfl)) (fun _ _ _ _ _ => pts_one (pt_not (pt_val (pe_callB (call_isiK (K := K)) (by rfl) B.z_isinstance (by decide +kernel) (pa_cons (pv 1) (pa_cons (pe_glob (v := .ref _) rfl B.g_Span rfl) pa_nil)))))) (fun _ _ _ _ _ => (pv 1))) (by intro _; rfl)) (pss_one (ps_ret (pe_tup (pa_cons pe_str (pa_cons pe_non pa_nil))))) pss_nil)
  (pss_cons (ps_setLc (i := 2) (own := [("_law_span", 1)]) rfl nd rfl rfl (sw_true rfl rfl rfl (by decide +kernel)) (pi_list (pe_ix ix_tup (pv 0) pe_int (fun _ _ => rfl))) (blkOk_by (by show blkC ["_law_answer_here", "_law_span", "_law_rows", "_law_row"] (defScope (top 120)) _ _ = true; decide +kernel)) (fun _ _ _ _ _ => pg_name (i := 1) nd rfl (Or.inl rfl)) (fun _ _ _ _ _ => pts_nil) (fun _ _ _ _ _ => (pe_tup (pa_cons (pe_fldK (K := K) (pv 1) rfl) (pa_cons (pe_fldK (K := K) (pv 1) rfl) pa_nil)))))
  (pss_cons (ps_if (pt_not (pt_val (pe_cl (ok_law_alike B) hr (by decide) pass0 (pa_cons (pe_lc (own := [("_law_span", 1)]) rfl nd (pi_list (pe_ix ix_tup (pv 0) pe_int (fun _ _ => rfl))) (blkOk_by (by show blkC ["_law_answer_here", "_law_span", "_law_rows", "_law_row"] (defScope (top 120)) _ _ = true; decide +kernel)) (fun _ _ _ _ _ => pg_name (i := 1) nd rfl (Or.inl rfl)) (fun _ _ _ _ _ => pts_nil) (fun _ _ _ _ _ => (pe_fldK (K := K) (pv 1) rfl))) (pa_cons (pe_lc (own := [("_law_row", 3)]) rfl nd (pi_list (pv 2)) (blkOk_by (by show blkC ["_law_answer_here", "_law_span", "_law_rows", "_law_row"] (defScope (top 120)) _ _ = true; decide +kernel)) (fun _ _ _ _ _ => pg_name (i := 3) nd rfl (Or.inl rfl)) (fun _ _ _ _ _ => pts_nil) (fun _ _ _ _ _ => (pe_cl (ok_law_minus B) hr (by decide) pass0 (pa_cons (pe_ix (ix_tupK (K := K)) (pv 3) pe_int (fun _ _ => rfl)) (pa_cons (pe_ix (ix_tupK (K := K)) (pv 3) pe_int (fun _ _ => rfl)) pa_nil))))) pa_nil))))) (pss_one (ps_ret (pe_tup (pa_cons pe_str (pa_cons pe_non pa_nil))))) pss_nil)
  (pss_one (ps_ret (pe_tup (pa_cons pe_str (pa_cons (pv 2) pa_nil))))))))), enterP h fun C ds Post hR hrt => ?_⟩
  obtain ⟨d, e0, rfl, hd, rfl⟩ := hR
  show NX C _ [.val d, .no, .no, .no]
  cases hd with
  | many n =>
    exact sq_yes (etd_or1 (etd_test (ed_neS (ed_ixT (ds := [.str "TooMany", .int n]) (ed_var rfl) ed_int rfl) ed_str)) (by decide +kernel)) rfl (nx_ret hrt (ed_var rfl) rfl)
  | told R hl hb =>
    have a1 : ∀ {C : Ctx} {Γ : List Slot}, Γ[0]? = some (.val (.tup [.str "told", .lst (R.map fun p => spn K p.1 p.2)])) → EvD C (tOp (rIxT K) (tVar 0) (tC (.int 1))) Γ (.lst (R.map fun p => spn K p.1 p.2)) := fun h => ed_ixT (ed_var h) ed_int rfl
    have len : (R.map fun p => spn K p.1 p.2).length = R.length := List.length_map ..
    refine sq_no (etd_or (etd_test (ed_neS (ed_ixT (ds := [.str "told", .lst (R.map fun p => spn K p.1 p.2)]) (ed_var rfl) ed_int rfl) ed_str)) fun _ => etd_not (etd_B (ed_isT (a1 rfl) rfl))) ?_ ?_
    · simp [isB, tyN]
    refine sq_no (b := false) (EvT.is (etd_truL (ds := []) (EvL.ev (R := fun e => e = .lst []) (el_lcN (fun i l => l = []) (ei_list (a1 rfl)) rfl (by omega) rfl fun C' le i hi => ⟨_, asg_name (by simp), (fun b => b = false), ?_, (fun z => absurd z (by decide)), (fun _ l hl => hl)⟩) fun l hl => by rw [hl])) rfl) rfl ?_
    · rw [getD_map hi]
      exact EvT.is (etd_not (etd_B (ed_isC B.k_Span (ed_var rfl)))) rfl
    refine sq_asgO (ds := R.map rowD) (eld_lcM (a := fun p => spn K p.1 p.2) (a1 rfl) rfl hl (by simp) fun C' le p hp => ?_) ?_
    · exact ed_tup (ea_cons (ed_fld (ed_var rfl) B.c_Span B.n_first (k := 0) rfl (fbf (by decide +kernel)) rfl) (ea_cons (ed_fld (ed_var rfl) B.c_Span B.n_last (k := 1) rfl (fbf (by decide +kernel)) rfl) ea_nil))
    refine nx_freeze (i := 2) rfl ?_
    refine sq_no (etd_not (etd_B (ed_call (ea_cons (EvN.is (eld_lcM (b := fun p => fr (p.2 - p.1)) (a := fun p => spn K p.1 p.2) (a1 rfl) rfl hl (by simp) fun C' le p hp => ed_fld (ed_var rfl) B.c_Span B.n_length (k := 2) rfl (fbf (by decide +kernel)) rfl).ed rfl) (ea_cons (eld_lcM (b := fun p => fr (p.2 - p.1)) (a := rowD) (ed_var rfl) rfl hl (by simp) fun C' le p hp => ?_).ed ea_nil)) (rl_law_alike (pl_map (fun x _ => pl_fr _) hl))))) rfl ?_
    · have b1 := hb.b p hp
      have i1 : Bz p.1 4000 := ⟨b1.1⟩
      have i2 : Bz p.2 4000 := ⟨b1.2⟩
      exact ed_call (ea_cons (ed_ixT (ds := [fr p.1, fr p.2]) (ed_var rfl) ed_int rfl) (ea_cons (ed_ixT (ds := [fr p.1, fr p.2]) (ed_var rfl) ed_int rfl) ea_nil)) rl_minus
    exact nx_ret hrt (ed_tup (ea_cons ed_str (ea_cons (ed_var rfl) ea_nil))) rfl
end
end Wk
-- Core9
/-! A list comprehension whose element may raise. -/
namespace Wk
open PySem PySem.Spec
open PyProof.Rows L2
theorem frameOf_as {e1 e2 : Env} (h : e1.frame = e2.frame) : PySem.frameOf e1 = PySem.frameOf e2 := by
  unfold PySem.frameOf
  rw [h]
theorem noteFrame_as {e1 e2 : Env} (h : e1.frame = e2.frame) (x : Value) : noteFrame x e1 = noteFrame x e2 := by
  unfold noteFrame
  rw [h, frameOf_as h]
theorem passOn_as {e1 e2 : Env} (h : e1.frame = e2.frame) (z : String) (x : Value) : (PySem.passOn z x e1 : Sem Value) = PySem.passOn z x e2 := by
  unfold PySem.passOn
  rw [h]
theorem frames_but {h h' B B' : Heap} : ∀ {l : List Env}, h.FunFrames B l → (∀ L ∈ frs l, h'.get? L = h.get? L) → (∀ L ∈ frs l, B.get? L = none → B'.get? L = none) → h'.FunFrames B' l
  | [], _, _, _ => trivial
  | env :: l, ⟨hk, ⟨L, o, hf, hb, ho, hd⟩, hr⟩, k, n => by
    have m : L ∈ frs (env :: l) := List.mem_filterMap.mpr ⟨env, List.mem_cons_self, hf⟩
    have up : ∀ b ∈ frs l, b ∈ frs (env :: l) := fun b hb => by
      (obtain ⟨e, he, q⟩ := List.mem_filterMap.mp hb)
      (exact List.mem_filterMap.mpr ⟨e, List.mem_cons_of_mem _ he, q⟩)
    exact ⟨hk, ⟨L, o, hf, n L m hb, (k L m).trans ho, hd⟩, frames_but hr (fun b hb => k b (up b hb)) fun b hb => n b (up b hb)⟩
section
variable {M : Model}
variable {A : Around} {E : Value → Shared → Prop} {s : Shared} {env : Env}
/-- what the block's end owes, on either road -/
def endX (M : Model) (A : Around) (E Q : Value → Shared → Prop) (acc : Value) (ce : Env) (r : Result) (s' : Shared) : Prop :=
  ∃ m, s'.heap.Ns ce.locals m ∧ ∀ h' m', h'.Ns ce.locals m' → Heap.SameBut ce.locals s'.heap h' → match r with
    | .ok _ => Q acc { s' with heap := h' }
    | .error x => wpAny M A (PySem.passOn "comprehension.variables-let-go" x ce : Sem Value) (fun _ _ => False) E { s' with heap := h' }
theorem comp_mayRaise {e : Expr} {scope : Scope} {pos : Pos} {newAcc first : Sem Value} {g : Comprehension} {gs : List Comprehension} {cl : List (Str × Addr)} {Q : Value → Shared → Prop}
    (hcl : clausesOf e = g :: gs) (hs : ∀ x, foldedSetIterable g.iter env x = pure x) (hclos : closureFor scope env = pure cl) (hkind : scope.kind = .function)
    (hnames : ∀ x ∈ scope.names, x.2 = .local → scope.names.lookup x.1 = some .local)
    (h : wpAny M A first (fun x t1 => wpAny M A (pyIter x) (fun it t2 => wpAny M A newAcc (fun acc t3 => wpAny M A (newFunctionEnv scope env.globals cl [] env.qual none .none (some env))
      (fun ce t4 => codeAny M A (.compStart e 0 it acc { ce with scope := relabel scope env }) (endX M A E Q acc { ce with scope := relabel scope env }) t4) E t3) E t2) E t1) E s) :
    wpAny M A (comprehension e scope env pos newAcc false first none) Q E s := by
  unfold comprehension
  rw [hclos, hcl]
  refine wpAny_bind (thn h fun x t1 h1 => wpAny_bind (wpAny_standAt (wpAny_bind (wpAny_of_eq (hs x) (wpAny_bind (wpAny_holding (thn h1 fun it t2 h2 => ?_)))))))
  refine wpAny_standIf (wpAny_bind (thn h2 fun acc t3 h3 => wpAny_bind (wpAny_pure (wpAny_bind (thn h3 fun ce t4 h4 => ?_)))))
  dsimp only
  have hv : ∀ x ∈ (scope.names.filter fun x => (x.2 == .local || x.2 == .cell) && x.1 != (".0" : Str)).reverse, x.2 = .local → Env.kindOf { ce with scope := relabel scope env } x.1 = some .local := fun x hx hl =>
    lookup_relabel_local (hnames x (List.mem_filter.mp (List.mem_reverse.mp hx)).1 hl)
  refine wpAny_holding (wpAny_bind (wpAny_attempt (wpAny_holding (wpAny_run (codeAny_mono h4 fun r s' hr => ?_)))))
  obtain ⟨m, hn, hr⟩ := hr
  cases r with
  | ok f => exact wpAny_bind (wpAny_holding (wpAny_comp_letGo (cenv := { ce with scope := relabel scope env }) hkind _ s' m hv hn fun h' m' k sb => wpAny_pure (hr h' m' k sb)))
  | error x => exact wpAny_bind (wpAny_holding (wpAny_comp_letGo (cenv := { ce with scope := relabel scope env }) hkind _ s' m hv hn fun h' m' k sb => wpAny_mono (hr h' m' k sb) (fun _ _ f => f.elim) fun _ _ y => y))
end
section
variable {X : Cx}
variable {pins : List (Addr × Obj)} {σ : L2.St} {H : Hp} {s : Shared}
theorem ok_xe {f : Value → Shared → Prop} (h : X.Ok) : ({ X with xe := f } : Cx).Ok :=
  ⟨h.mod, h.kind, h.glob, h.blt, h.above, h.inj, h.has, h.cab, h.hd, h.frames, h.stk, h.exf, h.bs, h.bsz, h.noex, h.exfs, h.funs, h.frf⟩
theorem inv_xe {f : Value → Shared → Prop} (I : Inv X pins σ H s) : Inv { X with xe := f } pins σ H s :=
  ⟨ok_xe I.ok, I.os, I.bare, I.base, I.loc, I.cell, I.free, I.freeC, I.pin, I.hok, I.len⟩
/-- the block's context, what its element lets out told -/
abbrev blx (X : Cx) (E : XK) (s : Shared) (H : Hp) (scope : Scope) (ce : Env) (fp : List Addr) : Cx :=
  { X.blk s H scope ce fp with xe := fun u s' => ∃ pins σ H1 s1, Inv (X.blk s H scope ce fp) pins σ H1 s1 ∧ L2.CX X.prog X.w X.stack H1 s1 E u s' }
theorem passes_blx {E : XK} {H0 : Hp} {scope : Scope} {ce : Env} {fp : List Addr} : Passes (L2.CX X.prog X.w) (blx X E s H0 scope ce fp) E := fun pins σ H1 s1 u s' I c =>
  ⟨pins, σ, H1, s1, inv_xe (X := blx X E s H0 scope ce fp) (f := fun _ _ => False) I, c⟩
theorem raise_out {E : XK} {W : WX} {s3 s1 s' : Shared} {H3 H1 : Hp} {pins' : List (Addr × Obj)} {σ' : L2.St} {scope : Scope} {ce : Env} {fp : List Addr} {u acc : Value} {Qf Ee : Value → Shared → Prop}
    (hs : X.stack = X.env :: X.outer) (hf : X.env.frame = some X.env.locals) (tk : Takes X W) (hW : ∀ cls d H', E cls d H' → W cls d σ H') (I3 : Inv X pins σ H3 s3) (hc : ce.frame = X.env.frame) (hC : s3.heap.objs.size ≤ ce.locals)
    (f3 : ∀ b ∈ fp, FpOk X pins H3 b ∧ b < s3.heap.objs.size) (I1 : Inv (X.blk s3 H3 scope ce fp) pins' σ' H1 s1) (cx : L2.CX X.prog X.w X.stack H1 s1 E u s') :
    wpAny (model X.prog X.w) X.A (noteFrame u ce) (fun _ s'' => endX (model X.prog X.w) X.A X.xe Qf acc ce (.error u) s'') Ee s' := by
  have J : Inv X pins σ H1 s1 := I3.call' (ch := fp) I1.os I1.base I1.hok I1.bare fun b hb => ⟨(f3 b hb).1.2.2.2.1, (f3 b hb).1.2.1, (f3 b hb).1.2.2.2.2.1, (f3 b hb).1.2.2.2.2.2⟩
  obtain ⟨a, B, H2, cls, d, rfl, fl, hok, ub, na, os, ag, hE⟩ := cx
  have hfr : X.A.frames = some (X.env :: X.outer) := by rw [J.ok.frames, hs]
  rw [noteFrame_as hc]
  have fl' := fl
  rw [hs] at fl'
  refine HandSPX.looks_onZ Zc.steady hfr hf fl' fun h' hh up => ?_
  rw [← hs] at hh
  obtain ⟨m, hn, _⟩ := I1.loc
  have hn : s1.heap.Ns ce.locals m := hn
  have hC0 : H1 ce.locals = none := I1.free
  obtain ⟨oC, esC, epC, hoC, rC⟩ := hn
  have nF : ∀ L ∈ frs X.stack, L ≠ ce.locals := fun L hL e => by
    obtain ⟨_, o, ho, _⟩ := (show s3.heap.FunFrames X.base X.stack from I1.ok.funs).mem hL
    have := Heap.lt_size ho
    rw [e] at this
    exact absurd (Nat.lt_of_lt_of_le this hC) (Nat.lt_irrefl _)
  have hBC : B.get? ce.locals = some oC := ub.keep _ _ hoC hC0 fun hm => nF _ hm rfl
  have h2C : H2 ce.locals = none := ub.free _ _ hoC hC0
  obtain ⟨k1, k2, k3, k4⟩ := hh
  refine ⟨m, ⟨oC, esC, epC, k1 _ _ hBC, rC⟩, fun h2 m2 hn2 sb => ?_⟩
  show wpAny _ _ (PySem.passOn _ (.ref a) ce : Sem Value) _ _ _
  rw [passOn_as hc]
  obtain ⟨B3, g1, g2⟩ := restrict h2 fun b => (B.get? b).isSome
  have noB : ∀ b, B.get? b = none → b ≠ ce.locals ∧ B3.get? b = none := fun b e => ⟨(fun z => by rw [z, hBC] at e; exact nomatch e), g2 b (by rw [e]; rfl)⟩
  obtain ⟨oe, vs, T, oT, ts, he, hz, hd, h1, hnT, hTe, hT, hdT, h3⟩ := k4
  have he2 : h2.get? a = some oe := (sb.2 a (noB a k2).1).trans he
  have held : HandSPX.HeldZ B3 X.stack a (Zc cls d) X.env.locals h2 := by
    refine ⟨fun b o e => ?_, (noB a k2).2, frames_but k3 (fun L hL => sb.2 L (nF L hL)) fun L _ e => (noB L e).2, oe, vs, T, oT, ts, he2, hz, hd, h1, (noB T hnT).2, hTe, (sb.2 T (noB T hnT).1).trans hT, hdT, h3⟩
    cases q : (B.get? b).isSome with
    | true => rw [← g1 b q]; exact e
    | false => (rw [g2 b q] at e; cases e)
  unfold PySem.passOn
  refine wpAny_bind (wpAny_field he2 hd h1 ?_)
  rw [if_neg (show ¬ ((Value.ref T == Value.none) = true) from by simp), hf]
  refine wpAny_bind (HandSPX.setFlight_onZ held fun h4 held4 up4 => ?_)
  refine wpAny_throw (tk _ _ ?_)
  obtain ⟨G, q1, q2⟩ := restrict h4 fun b => (B3.get? b).isSome || decide (b ∈ frs X.stack)
  have og : ∀ b o, G.get? b = some o → h4.get? b = some o ∧ ((B3.get? b).isSome = true ∨ b ∈ frs X.stack) := fun b o e => by
    cases q : ((B3.get? b).isSome || decide (b ∈ frs X.stack)) with
    | false => rw [q2 b q] at e; cases e
    | true =>
      rw [q1 b q] at e
      (exact ⟨e, by simpa [Bool.or_eq_true] using q⟩)
  have gB : ∀ b o, b ≠ ce.locals → B.get? b = some o → G.get? b = some o := fun b o n e => by
    have e3 : B3.get? b = some o := by
      rw [g1 b (by rw [e]; rfl), sb.2 b n]
      exact k1 b o e
    rw [q1 b (by rw [e3]; rfl)]
    exact held4.1 b o e3
  have slot : ∀ b o, s1.heap.get? b = some o → b ∈ frs X.stack → ∃ sl, G.get? b = some { o with slots := sl } := fun b o e hb => by
    obtain ⟨_, o0, e0, nf⟩ := J.stack.mem hb
    rw [e] at e0
    cases e0
    obtain ⟨s1', z1⟩ := ub.slot b o e hb
    obtain ⟨s2', z2⟩ := up b _ z1 nf
    obtain ⟨s3', z3⟩ := up4 b _ ((sb.2 b (nF b hb)).trans z2) nf
    exact ⟨s3', by rw [q1 b (by simp [hb])]; exact z3⟩
  obtain ⟨f0, f1, f2, f4, f5, f6⟩ := I3.fpOk hC h2C
  refine ⟨a, B3, { s1 with heap := G, gens := s'.gens, drawn := s'.drawn, toks := s'.toks }, pins, σ, H2, cls, d, rfl, ?_, fun b o e hb => ?_, Heap.UpToSlots.of_keeps fun b o e => (og b o e).1, .inr (.inr held4), na, os, ag, hW _ _ _ hE⟩
  · refine J.call' (ch := [ce.locals]) rfl ⟨fun b o e n hb hx => gB b o (fun z => hx (by simp [z])) (ub.keep b o e n hb), fun b o e _ hb _ => slot b o e hb, fun b o e n _ => ub.free b o e n, fun b o e hx => ?_, ub.tups, ub.frzs, ub.tbls⟩ (fun b o q => ?_) ag fun b hb => ?_
    · (by_cases hb : b ∈ frs X.stack)
      · obtain ⟨sl, q⟩ := slot b o e hb
        exact ⟨_, q⟩
      · (obtain ⟨o', q⟩ := ub.there b o e hb)
        exact ⟨o', gB b o' (fun z => hx (by simp [z])) q⟩
    · refine (hok b o q).stay (fun c v hc' r => gB c v (fun z => ?_) r) (fun _ r => r) fun _ _ r => r
      rcases hc' with w | w
      · rw [← w, z, h2C] at q
        cases q
      · rw [z, h2C] at w
        cases w
    · have e : b = ce.locals := by simpa using hb
      subst e
      exact ⟨f4, f1, f5, f6⟩
  · obtain ⟨e', h⟩ := og b o e
    rcases h with h | h
    · (obtain ⟨o', q⟩ := Option.isSome_iff_exists.mp h)
      have z := held4.1 b o' q
      rw [e'] at z
      cases z
      exact q
    · exact absurd h hb
/-- as a value, the element's calls may raise -/
theorem pe_lcx {elt tg iter : Expr} {ifs : List Expr} {scope : Scope} {own : List (Str × Nat)} {pos : Pos} {wi : TI} {g : TG} {tt : TT} {te : TE} {E : XK} {W : WX} (hs : X.stack = X.env :: X.outer) (hf : X.env.frame = some X.env.locals) (tk : Takes X W) (hW : ∀ cls d σ H, E cls d H → W cls d σ H)
    (hc : X.calm = true) (hN : X.N.Nodup) (hi : PI X tg iter wi) (ok : BlkOk X.N X.env.scope scope own)
    (hg : ∀ s H C cl fp, PG (X.blk s H scope (compEnvC scope cl C X.env) fp) tg g) (ht : ∀ s H C cl fp, PTs (X.blk s H scope (compEnvC scope cl C X.env) fp) ifs tt)
    (he : ∀ s H C cl fp, PE (blx X E s H scope (compEnvC scope cl C X.env) fp) elt te) (hfs : ∀ x, foldedSetIterable iter X.env x = pure x := by intro _; rfl) : PE X (.ListComp elt [⟨tg, iter, ifs, 0⟩] scope pos) (tLc wi g tt te (own.map (·.2))) := by
  (refine ⟨fun pins s σ H Q I h => ?_⟩)
  rw [eval_ListComp]
  have free : ∀ y ∈ scope.names, y.2 = .free → ∃ c, X.env.cells.lookup y.1 = some c := fun y hy e => (ok.free y hy e).elim (fun k => I.ok.has _ (.inl k)) fun k => I.ok.has _ (.inr k)
  refine comp_mayRaise rfl hfs (closure_ok free) ok.kind (fun y hy e => by rw [ok.uniq y hy, e]) (thn (hi.run pins s σ H _ I h) fun xv t1 hx => thn hx fun itv t2 h2 => ?_)
  obtain ⟨it, fp, tn, Y, H2, e, J2, T, st2, f2, q⟩ := h2
  subst e
  (refine wpAny_newObj_type (newEnv_comp ?_) (by show 0 ≤ sizeLine; decide))
  generalize hD : t2.heap.objs.size = D
  have hDn : H2 D = none := J2.hok.fresh (Nat.le_of_eq hD)
  obtain ⟨Wt, ⟨m0, w0⟩, turn⟩ := q D hDn
  generalize e3 : ({ t2 with heap := t2.heap.push { cls := .type "list", data := .seq ([] : List Value).toArray } } : Shared) = t3
  have J3 : Inv X pins σ (upd H2 D (.lst [])) t3 := by
    rw [← e3]
    refine J2.laid (t' := t2.toks) (fun b o z => Heap.get?_push_of_some _ z) (Nat.le_of_eq hD) ⟨Nat.zero_le _, [], 0, .nil, ?_⟩
    rw [← hD]
    (exact Heap.get?_push_size _ rfl)
  have h3 : t3.heap = t2.heap.push { cls := .type "list", data := .seq ([] : List Value).toArray } := by rw [← e3]
  have old : ∀ b ∈ fp, b < t2.heap.objs.size := fun b hb => by
    obtain ⟨o, z, _⟩ := T.obj _ _ st2 b hb
    exact Heap.lt_size z
  have f3 : ∀ b ∈ fp, FpOk X pins (upd H2 D (.lst [])) b ∧ b < t3.heap.objs.size := fun b hb => by
    refine ⟨⟨?_, (f2 b hb).2⟩, by rw [h3, Heap.size_push]; exact Nat.lt_succ_of_lt (old b hb)⟩
    rw [upd_ne (by rw [← hD]; exact Nat.ne_of_lt (old b hb))]
    exact (f2 b hb).1
  have st3 : tn 0 t3.heap := T.keep _ _ _ st2 fun b _ o z => by rw [h3]; exact Heap.get?_push_of_some _ z
  have J4 := block_start J3 ok hN f3
  generalize ek : cellsFrom (t3.heap.objs.size + 1) scope.names (cloFrom X.env.cells scope.names []) = kl at J4
  have pg := hg t3 (upd H2 D (.lst [])) t3.heap.objs.size kl fp
  have pt := ht t3 (upd H2 D (.lst [])) t3.heap.objs.size kl fp
  have pe := he t3 (upd H2 D (.lst [])) t3.heap.objs.size kl fp
  show codeAny _ _ (.compStart _ 0 (.ref it) (.ref D) (compEnvC scope kl t3.heap.objs.size X.env)) (endX (model X.prog X.w) X.A X.xe (EP X pins σ Q) (.ref D) (compEnvC scope kl t3.heap.objs.size X.env)) { t3 with heap := pushCells (t3.heap.push { cls := .type "dict", data := .dict #[] }) scope.names }
  have nfp : (∀ b ∈ fp, (upd H2 D (.lst [])) b = none) := fun b hb => (f3 b hb).1.1
  generalize hce : compEnvC scope kl t3.heap.objs.size X.env = ce at J4 pg pt pe ⊢
  have cL : ce.locals = t3.heap.objs.size := by subst hce; rfl
  have cF : ce.frame = X.env.frame := by subst hce; rfl
  generalize hH3 : upd H2 D (.lst []) = H3 at J3 J4 pg pt pe w0 nfp f3
  generalize e4 : ({ t3 with heap := pushCells (t3.heap.push { cls := .type "dict", data := .dict #[] }) scope.names } : Shared) = t4 at J4 ⊢
  have st4 : tn 0 t4.heap := T.keep _ _ _ st3 fun b _ o z => by rw [← e4]; exact pushCells_keeps _ _ _ _ (Heap.get?_push_of_some _ z)
  have stat : ∀ {σ' : L2.St} {H' : Hp} {s' : Shared}, Inv (X.blk t3 H3 scope ce fp) [] σ' H' s' → (∀ b ∈ fp, H' b = none) → ∀ b ∈ fp, FpOk (X.blk t3 H3 scope ce fp) [] H' b := fun {σ' H' s'} J hn b hb =>
    ⟨hn b hb, (J.ok.exf b hb).1, J.ok.exfs b hb, .inl hb, fun x c z => (J.ok.exf b hb).2 x c z, fun p hp => absurd (show p ∈ ([] : List (Addr × Obj)) ++ [] from hp) (by simp)⟩
  have loop : codeAny (model X.prog X.w) X.A (.compLoop (.ListComp elt [⟨tg, iter, ifs, 0⟩] scope pos) 0 (.ref it) (.ref D) ce) (endX (model X.prog X.w) X.A X.xe (EP X pins σ Q) (.ref D) ce) t4 := by
    refine compLoop_any (fun n s' => ∃ i H', Inv (X.blk t3 H3 scope ce fp) [] (wipe σ (own.map (·.2))) H' s' ∧ tn i s'.heap ∧ (∀ b ∈ fp, H' b = none) ∧ Wt i n H') ?_ m0 ⟨0, H3, J4, st4, nfp, w0⟩
    rintro n t5 ⟨i, H5, J5, st5, n5, w5⟩
    (rcases turn i n H5 w5 with ⟨stop, qq⟩ | ⟨go, Nx, hNx, step⟩)
    · refine thnF (T.done (X.blk t3 H3 scope ce fp) rfl rfl rfl hc i [] t5 _ H5 (fun _ _ => False) J5 (stat J5 n5) st5 stop) fun r t6 ⟨hr, J6⟩ => ?_
      subst hr
      have J7 : Inv X pins σ H5 t6 := J3.call' (ch := fp) J6.os J6.base J6.hok J6.bare fun b hb => ⟨(f3 b hb).1.2.2.2.1, (f3 b hb).1.2.1, (f3 b hb).1.2.2.2.2.1, (f3 b hb).1.2.2.2.2.2⟩
      have nC : H5 ce.locals = none := J6.free
      obtain ⟨m, hn, _⟩ := J6.loc
      refine ⟨m, hn, fun h'' m' _ sb => ?_⟩
      obtain ⟨g0, g1, g2, g3, g4, g5⟩ := J3.fpOk (Nat.le_of_eq cL.symm) nC
      exact ⟨.ref D, H5, J7.turned (t' := t6.toks) (fun b o hb z => (sb.2 b hb).trans z) g0 g1 g3 g4 g5, rfl, qq⟩
    · refine thnF (T.item (X.blk t3 H3 scope ce fp) rfl rfl rfl hc i [] t5 _ H5 (fun _ _ => False) J5 (stat J5 n5) st5 go) fun r t6 ⟨u, hr, h6⟩ => ?_
      subst hr
      refine thnF h6 fun _ t7 ⟨x, H7, J7, r7, y7, st7, n7⟩ => ?_
      have J7' := J7.pinned (stat J7 n7) (T.obj _ _ st7)
      refine thnF (pg.run _ t7 _ H7 x u _ J7' r7 (step x H7 y7)) fun _ t8 ⟨σ8, H8, J8, hw8, q8⟩ => ?_
      refine thnF (pt.run _ t8 σ8 H8 _ J8 q8) fun b t9 ⟨H9, J9, q9⟩ => ?_
      have fin : ∀ {s' : Shared} {H' : Hp}, Inv (X.blk t3 H3 scope ce fp) ([] ++ pinsAt fp t7.heap) σ8 H' s' → Nx H' → ∃ m, m < n ∧ ∃ i H', Inv (X.blk t3 H3 scope ce fp) [] (wipe σ (own.map (·.2))) H' s' ∧ tn i s'.heap ∧ (∀ b ∈ fp, H' b = none) ∧ Wt i m H' := fun {s' H'} J nx => by
        (obtain ⟨m', hm, w'⟩ := hNx H' nx)
        have pin' : ∀ b ∈ fp, ∀ o, t7.heap.get? b = some o → s'.heap.get? b = some o ∧ H' b = none := fun b hb o z =>
          let y := J.pin (b, o) (List.mem_append_right _ (List.mem_append_right _ (mem_pinsAt hb z)))
          ⟨y.1, y.2.1⟩
        refine ⟨m', hm, i + 1, H', (J.unpinned (pins := [])).weak (by rw [← hw8, wipe_length]) (fun j v z => ?_), T.keep _ _ _ st7 fun b hb o z => (pin' b hb o z).1, fun b hb => ?_, w'⟩
        · rw [← hw8] at z
          exact (wipe_some z).1
        · obtain ⟨o, z, _⟩ := T.obj _ _ st7 b hb
          exact (pin' b hb o z).2
      cases b with
      | false =>
        (simp only [Bool.false_eq_true, if_false] at q9 ⊢)
        exact fin J9 q9
      | true =>
        simp only [if_true] at q9 ⊢
        refine wpAny_mono (pe.run _ t9 σ8 H9 _ (inv_xe J9) q9) (fun z t10 ⟨yv, H10, J10, r10, acc, hD10, hz10, nx⟩ => ?_) fun u s' ⟨pins1, σ1, H1, s1, K1, cx⟩ => ?_
        · exact app_ok (X := X.blk t3 H3 scope ce fp) (inv_xe (X := blx X E t3 H3 scope ce fp) (f := fun _ _ => False) J10) hD10 hz10 r10 fun s11 J11 => fin J11 nx
        · exact raise_out (W := W) hs hf tk (fun cls d H' z => hW cls d σ H' z) J3 cF (Nat.le_of_eq cL.symm) f3 K1 cx
  (exact codeAny_compStart_list loop (T.self X.A 0 _ _ _ st4 loop))
end
end Wk
-- D32
namespace Wk
open PySem PySem.Spec
open PyProof.Rows L2
section
variable {P : Program}
variable {w : World} {K : PySem.W.Frag} {mg : Str → Option Value} {base : Heap}
def trk (p0 p : Rat × Rat) (a b : Rat) : Rows := lineRows (p.1 - p0.1) (p.2 - p0.2) a b
def manyA (p0 : Rat × Rat) (l : Rows) (a b : Rat) : Prop := ∃ p ∈ l, manyL (p.1 - p0.1) (p.2 - p0.2) a b
def Rl_all_line_spans (K : PySem.W.Frag) : RelX := fun zs0 Pz Pe => ∃ (p0 : Rat × Rat) (l : Rows) (a b : Rat) (n : Nat), zs0 = [.lst ((p0 :: l).map (cyc K)), spn K a b, fr 0] ∧ ((l.length ≤ 5 ∧ ∀ p ∈ p0 :: l, RowOk p) ∧ Bd n a ∧ Bd n b ∧ n ≤ 2000 ∧ a ≤ b) ∧ Pz = (fun e => ¬ manyA p0 l a b ∧ e = .lst (l.map fun p => trackD (trk p0 p a b))) ∧ Pe = (fun x => manyA p0 l a b ∧ x = .many 200)
theorem len_all_line_spans {K : PySem.W.Frag} : ∀ ds Post PE, Rl_all_line_spans K ds Post PE → ds.length = 3 := fun _ _ _ ⟨_, _, _, _, _, e, _⟩ => by rw [e]; rfl
theorem ok_all_line_spans (B : Bs K mg) : Cl P w K mg base (L2.CX P w) 6 "all_line_spans" (spX (ecl K) (Rl_all_line_spans K)) [] := by
  refine cl_of (N := ["cycles", "span", "width", "line"]) (ps := ["cycles", "span", "width"]) B.d_all_line_spans B.g_all_line_spans (by decide +kernel) (fun _ _ _ _ _ _ us hl => match us, hl with | [_, _, _], _ => rfl)
    (len_X len_all_line_spans) fun f cdv A outer s H vs Q E hr h => ?_
  have nd : (["cycles", "span", "width", "line"] : List Str).Nodup := by decide +kernel
  have tk : Takes (cxOf (L2.CX P w) P w K mg base ["cycles", "span", "width", "line"] "all_line_spans" (defScope (top 66)) f cdv A outer s H E) (fun cls d _ H' => E cls d H') := takes_of rfl rfl rfl rfl
  refine ⟨_, (pss_one (ps_ret (pe_lcx (own := [("line", 3)]) (E := E) rfl rfl tk (fun _ _ _ _ z => z) rfl nd (pi_list (pe_cl (ok_lines_of B) hr (by decide) pass0 (pa_cons (pv 0) pa_nil))) (blkOk_by (by show blkC ["cycles", "span", "width", "line"] (defScope (top 66)) _ _ = true; decide +kernel)) (fun _ _ _ _ _ => pg_name (i := 3) nd rfl (Or.inl rfl)) (fun _ _ _ _ _ => pts_nil) (fun _ _ _ _ _ => (pe_cl (ok_line_spans B) hr (by decide) passes_blx (pa_cons (pv 3) (pa_cons (pv 1) (pa_cons (pv 2) pa_nil)))))))), enterX h fun C ds Post PE hR hrt hE => ?_⟩
  obtain ⟨p0, l, a, b, n, rfl, ⟨⟨hl, hro⟩, ha, hb, hn, hab⟩, rfl, rfl⟩ := hR
  show NX C _ [.val (.lst ((p0 :: l).map (cyc K))), .val (spn K a b), .val (fr 0), .no]
  refine nx_retN hrt (EvL.ev (R := fun e => ¬ manyA p0 l a b ∧ e = .lst (l.map fun p => trackD (trk p0 p a b))) (el_lcN (fun i ds => (¬ manyA p0 (l.take i) a b) ∧ ds = (l.take i).map fun p => trackD (trk p0 p a b)) (ei_list (ed_call (ea_cons (ed_var rfl) ea_nil) ⟨p0, l, rfl, ⟨hl, hro⟩, rfl⟩)) rfl (by rw [List.length_map]; omega) ⟨fun ⟨p, hp, _⟩ => by simp at hp, rfl⟩ fun C' le i hi => ⟨_, asg_name (by simp), (fun b => b = true), (fun σ F H I Q q => q true F H I (.refl _) rfl), (fun _ => ?_), (fun z => absurd z (by decide))⟩) ?_)
  · have hil : i < l.length := by simpa using hi
    rw [getD_map hi]
    have gp : RowOk l[i] := hro _ (List.mem_cons_of_mem _ (List.getElem_mem hil))
    have g0 := hro p0 List.mem_cons_self
    have ta : l.take (i + 1) = l.take i ++ [l[i]] := (List.take_append_getElem hil).symm
    have up : manyL (l[i].1 - p0.1) (l[i].2 - p0.2) a b → manyA p0 l a b := fun z => ⟨_, List.getElem_mem hil, z⟩
    revert gp ta up
    generalize l[i] = p
    intro gp ta up
    refine EvN.imp (Ra := fun e => ¬ manyL (p.1 - p0.1) (p.2 - p0.2) a b ∧ e = trackD (trk p0 p a b)) (en_callX (hE.up le) (EvA.imp (ea_cons (ed_var rfl) (ea_cons (ed_var rfl) (ea_cons (ed_var rfl) ea_nil))) ?_)) ?_
    · rintro _ rfl
      exact ⟨_, ⟨_, _, a, b, n, rfl, ⟨gp.subr g0, gp.subs g0, ha, hb, hn, hab⟩, rfl, rfl⟩, fun x ⟨z1, z2⟩ => ⟨up z1, z2⟩⟩
    · rintro _ ⟨h1, rfl⟩ ds ⟨h2, rfl⟩
      rw [ta]
      refine ⟨fun ⟨q, hq, hm⟩ => ?_, by rw [List.map_append] <;> rfl⟩
      rcases List.mem_append.mp hq with z | z
      · exact h2 ⟨q, z, hm⟩
      · rw [List.mem_singleton.mp z] at hm
        exact h1 hm
  · rintro ds ⟨h1, h2⟩
    rw [List.length_map, List.take_length] at h1 h2
    exact ⟨h1, by rw [h2]⟩
end
end Wk
-- D33
namespace Wk
open PySem PySem.Spec
open PyProof.Rows L2
section
variable {P : Program}
variable {w : World} {K : PySem.W.Frag} {mg : Str → Option Value} {base : Heap}
/-! ### promises of a new list -/
abbrev RelL := List Dt → (List Dt → Prop) → (Exc → Prop) → Prop
def spL (c : Ecl) (Rl : RelL) : Sp := fun vs H Q E => ∃ F ds Post PE, Same F H ∧ Reps F vs ds ∧ Rl ds Post PE ∧ (∀ p xs F' H' es, Grow F H F' H' → H' p = some (.lst xs) → F' p = none → H p = none → Reps F' xs es → Post es → Q (.ref p) H') ∧
  ∀ cls dd H' x, Same H H' → ERep c H' cls dd x → PE x → E cls dd H'
theorem len_L {c : Ecl} {Rl : RelL} {n : Nat} (h : ∀ ds Post PE, Rl ds Post PE → ds.length = n) : ∀ vs H Q E, spL c Rl vs H Q E → vs.length = n := fun vs H Q E z => by
  obtain ⟨F, ds, Post, PE, _, r, hR, _⟩ := z
  exact r.length.trans (h ds Post PE hR)
def RtL (C : Ctx) (Q : VK) (Post : List Dt → Prop) : Prop := ∀ σ F H Γ p xs es, IV C σ F H Γ → H p = some (.lst xs) → F p = none → C.H0 p = none → Reps F xs es → Post es → Q (.ref p) H
theorem enterL {N : List Str} {t : TS} {vs : List V} {H : Hp} {Q : VK} {E : XK} {Rl : RelL} {c : Ecl} (h : spL c Rl vs H Q E) (k : ∀ C ds Post PE, Rl ds Post PE → RtL C Q Post → Eh C E c PE → NX C (t { nx := fun _ H' => Q .non H', rt := Q }) (slots N (ds.map .val))) : t { nx := fun _ H' => Q .non H', rt := Q } (L2.start N vs) H := by
  obtain ⟨F, ds, Post, PE, hF, hr, hR, hq, he⟩ := h
  have no : ∀ {a : Addr}, ∀ q ∈ (ctx0 F H).T, q.1 ≠ a := fun q z => absurd z (by simp [ctx0])
  exact k (ctx0 F H) ds Post PE hR (fun σ F' H' Γ p xs es I h1 h2 h3 r z => hq p xs F' H' es ⟨I.f0, I.fh, fun a o y => I.hh a o y (fun y => y) no, I.fn⟩ h1 h2 h3 r z)
    (fun σ F' H' Γ cls dd x I er px => he cls dd H' x (fun a o y => I.hh a o y (fun y => y) no) er px) _ F H (iv0 hF hr)
theorem nx_retL {C : Ctx} {te : TE} {Γ : List Slot} {D : Ends} {Q : VK} {Post Rs : List Dt → Prop} (hr : RtL C Q Post) (h : EvL C te Γ Rs) (k : ∀ es, Rs es → Post es) (e : D.rt = Q := by rfl) : NX C (tRet te D) Γ := fun σ F H I =>
  h σ F H I _ fun p vs F1 H1 ds I1 s1 h1 h2 h3 h4 r z => by
    rw [e]
    exact hr σ F1 H1 Γ p vs ds I1 h1 h2 h3 r (k ds z)
/-! ### the spans -/
def spRows (p0 : Rat × Rat) (l : Rows) (a b : Rat) : Rows := match l with
  | [] => []
  | p1 :: l' => (l'.map fun p => trk p0 p a b).foldl com (trk p0 p1 a b)
theorem spRows_track {p0 : Rat × Rat} {l : Rows} {a b : Rat} (hab : a ≤ b) (h0 : l ≠ []) : Track a b (Mt (p0 :: l)) (spRows p0 l a b) := by
  cases l with
  | nil => exact absurd rfl h0
  | cons p1 l =>
    have h := track_fold hab (S := fun p m => Whole ((p.1 - p0.1) * m + (p.2 - p0.2))) (f := fun p => trk p0 p a b) l _ _ (line_track (r := p1.1 - p0.1) (t := p1.2 - p0.2)) fun p _ => line_track
    refine h.congr fun m => ⟨fun z p hp => ?_, fun z => ⟨z p1 List.mem_cons_self, fun p hp => z p (List.mem_cons_of_mem _ hp)⟩⟩
    (rcases List.mem_cons.mp hp with e | e)
    · rw [e]; exact z.1
    · exact z.2 p e
theorem track_in {a b : Rat} {S : Rat → Prop} {L : Rows} (hab : a ≤ b) (h : Track a b S L) : ∀ p ∈ L, p.1 ≤ p.2 := by
  intro p hp
  rcases h with ⟨rfl, _⟩ | ⟨_, ps, rfl, _⟩
  · (rw [List.mem_singleton.mp hp])
    exact hab
  · obtain ⟨q, _, rfl⟩ := List.mem_map.mp hp
    exact Rat.le_refl
theorem trk_bd {p0 p : Rat × Rat} {a b : Rat} {n : Nat} (h : RowOk p) (h0 : RowOk p0) (ha : Bd n a) (hb : Bd n b) : RowsBd (n + 110) (trk p0 p a b) := ⟨fun z hz => by
  have hr := h.subr h0
  have ht := h.subs h0
  unfold trk lineRows at hz
  by_cases r0 : p.1 - p0.1 = 0
  · rw [if_pos r0] at hz
    split at hz
    · (rw [List.mem_singleton.mp hz])
      exact ⟨ha.mono (by omega), hb.mono (by omega)⟩
    · cases hz
  · rw [if_neg r0] at hz
    obtain ⟨m, hm, rfl⟩ := List.mem_map.mp hz
    obtain ⟨w, hw, rfl⟩ := List.mem_map.mp hm
    have hw2 := wls_bd hr ht ha hb (mem_lineWs.mp hw)
    have iw : Bz (w : Rat) (18 + n + 31 + 1) := ⟨bd_int hw2 (by omega)⟩
    have ir : Bz (p.1 - p0.1) 18 := ⟨hr⟩
    have it : Bz (p.2 - p0.2) 31 := ⟨ht⟩
    have io : Bd (18 + n + 31 + 1 + 31 + 1 + 18) (onL (p.1 - p0.1) (p.2 - p0.2) w) := by unfold onL; exact bz
    exact ⟨io.mono (by omega), io.mono (by omega)⟩⟩
theorem trk_len {p0 p : Rat × Rat} {a b : Rat} (h : ¬ manyL (p.1 - p0.1) (p.2 - p0.2) a b) : (trk p0 p a b).length ≤ 200 := by
  unfold trk lineRows
  by_cases r0 : p.1 - p0.1 = 0
  · rw [if_pos r0]
    split <;> simp
  · rw [if_neg r0, List.length_map, List.length_map]
    have e : (lineWs (p.1 - p0.1) (p.2 - p0.2) a b).length = (wHi (p.1 - p0.1) (p.2 - p0.2) a b - wLo (p.1 - p0.1) (p.2 - p0.2) a b + 1).toNat := by
      unfold lineWs wls
      split <;> simp
    have : ¬ 200 < wHi (p.1 - p0.1) (p.2 - p0.2) a b - wLo (p.1 - p0.1) (p.2 - p0.2) a b + 1 := fun z => h ⟨r0, z⟩
    omega
theorem lens {p0 : Rat × Rat} {a b : Rat} : ∀ {l : Rows}, (¬ manyA p0 l a b) → lenSum (l.map fun p => trk p0 p a b) ≤ 200 * l.length
  | [], _ => by simp [lenSum]
  | p :: l, h => by
    have h1 := trk_len (p0 := p0) (p := p) (a := a) (b := b) fun z => h ⟨p, List.mem_cons_self, z⟩
    have h2 := lens (l := l) fun ⟨q, hq, z⟩ => h ⟨q, List.mem_cons_of_mem _ hq, z⟩
    have e : lenSum ((p :: l).map fun p => trk p0 p a b) = (trk p0 p a b).length + lenSum (l.map fun p => trk p0 p a b) := by simp [lenSum]
    rw [e, List.length_cons]
    omega
inductive NsArg (K : PySem.W.Frag) (a b : Rat) : Dt → Dt → (List Dt → Prop) → (Exc → Prop) → Prop
  | cyc (dc dw : Dt) (h : CkC K dc false) : NsArg K a b dc dw (fun _ => False) (fun x => x = .bad "cycles")
  | wid (rows : Rows) (dw : Dt) (h : 2 ≤ rows.length ∧ rows.length ≤ 6) (hw : WdOk dw false) : NsArg K a b (.lst (rows.map (cyc K))) dw (fun _ => False) (fun x => x = .bad "width")
  | good (p0 : Rat × Rat) (l : Rows) (n : Nat) (h : RowsOk (p0 :: l)) (ha : Bd n a) (hb : Bd n b) (hn : n ≤ 2000) (hab : a ≤ b) : NsArg K a b (.lst ((p0 :: l).map (cyc K))) (fr 0) (fun es => (¬ manyA p0 l a b) ∧ es = (spRows p0 l a b).map fun p => spn K p.1 p.2) (fun x => manyA p0 l a b ∧ x = .many 200)
def Rl_near_spans (K : PySem.W.Frag) : RelL := fun zs0 Pz Pe => ∃ dc dw a b, zs0 = [dc, spn K a b, dw] ∧ NsArg K a b dc dw Pz Pe
theorem len_near_spans {K : PySem.W.Frag} : ∀ ds Post PE, Rl_near_spans K ds Post PE → ds.length = 3 := fun _ _ _ ⟨_, _, _, _, e, _⟩ => by rw [e]; rfl
theorem ok_near_spans (B : Bs K mg) : Ck P w K mg base (L2.CX P w) 7 "near_spans" (spL (ecl K) (Rl_near_spans K)) 2 ["width"] := by
  refine ck_of (N := ["cycles", "span", "width", "rows", "first", "last"]) (ps := ["cycles", "span", "width"]) B.d_near_spans B.g_near_spans (by decide +kernel) (fun _ _ _ _ _ _ us ws hl hl2 => match us, hl, ws, hl2 with | [_, _], _, [_], _ => rfl)
    (len_L len_near_spans) fun f cdv A outer s H vs Q E hr h => ?_
  have nd : (["cycles", "span", "width", "rows", "first", "last"] : List Str).Nodup := by decide +kernel
  have tk : Takes (cxOf (L2.CX P w) P w K mg base ["cycles", "span", "width", "rows", "first", "last"] "near_spans" (defScope (top 69)) f cdv A outer s H E) (fun cls d _ H' => E cls d H') := takes_of rfl rfl rfl rfl
  refine ⟨_, (pss_cons (ps_expr (pe_cl (ok_check_cycles B) hr (by decide) (passes_call tk fun _ _ _ _ z => z) (pa_cons (pv 0) pa_nil)))
  (pss_cons (ps_expr (pe_cl (ok_check_span B) hr (by decide) pass0 (pa_cons (pv 1) pa_nil)))
  (pss_cons (ps_expr (pe_cl (ok_check_width B) hr (by decide) (passes_call tk fun _ _ _ _ z => z) (pa_cons (pv 2) pa_nil)))
  (pss_cons (ps_set (i := 3) nd rfl (by first | exact Or.inl rfl | exact Or.inr rfl) (pe_cl (ok_shared_rows B) hr (by decide) pass0 (pa_cons (pe_cl (ok_all_line_spans B) hr (by decide) (passes_call tk fun _ _ _ _ z => z) (pa_cons (pv 0) (pa_cons (pv 1) (pa_cons (pv 2) pa_nil)))) pa_nil)))
  (pss_one (ps_ret (pe_lc (own := [("first", 4), ("last", 5)]) (g := gTup K 2 (gCons (gName 4) (gCons (gName 5) gNil))) (te := tMake (He.ga K "Span") (spI (He.ga K "Span") ["first", "last", "length"] Rl_Span) [] (fun _ _ _ => False) (tCons (tVar 4) (tCons (tVar 5) tNil))) rfl nd (pi_list (pv 3)) (blkOk_by (by show blkC ["cycles", "span", "width", "rows", "first", "last"] (defScope (top 69)) _ _ = true; decide +kernel)) (fun _ _ _ _ _ => pg_tup rfl ((pgs_cons (pg_name (i := 4) nd rfl (Or.inl rfl)) (pgs_cons (pg_name (i := 5) nd rfl (Or.inl rfl)) pgs_nil)))) (fun _ _ _ _ _ => pts_nil) (fun _ _ _ _ _ => (pe_ci (ok_Span_init B) hr (by decide) pass0 (pa_cons (pv 4) (pa_cons (pv 5) pa_nil))))))))))), enterL h fun C ds Post PE hR hrt hE => ?_⟩
  obtain ⟨dc, dw, a, b, rfl, hR⟩ := hR
  show NX C _ [.val dc, .val (spn K a b), .val dw, .no, .no, .no]
  cases hR with
  | cyc dc dw h =>
    refine sq_drop' (R := fun _ => False) (en_callX hE (EvA.imp (ea_cons (ed_var rfl) ea_nil) ?_)) fun ⟨_, z⟩ => z.elim
    rintro _ rfl
    exact ⟨_, ⟨_, false, rfl, h, funext fun e => propext ⟨fun z => z.elim, fun z => nomatch z.1⟩, rfl⟩, fun x hx => hx.2⟩
  | wid rows dw h hw =>
    refine sq_drop (R := fun e => true = true ∧ e = .non) (en_callX hE (EvA.imp (ea_cons (ed_var rfl) ea_nil) ?_)) ?_
    · rintro _ rfl
      exact ⟨_, ⟨_, true, rfl, .good rows h, rfl, rfl⟩, fun x hx => by cases hx.1⟩
    refine sq_drop (en_callD (ea_cons (ed_var rfl) ea_nil) ⟨a, b, rfl, rfl⟩) ?_
    refine sq_drop' (R := fun _ => False) (en_callX hE (EvA.imp (ea_cons (ed_var rfl) ea_nil) ?_)) fun ⟨_, z⟩ => z.elim
    rintro _ rfl
    exact ⟨_, ⟨_, false, rfl, hw, funext fun e => propext ⟨fun z => z.elim, fun z => nomatch z.1⟩, rfl⟩, fun x hx => hx.2⟩
  | good p0 l n hok ha hb hn hab =>
    have hl5 : l.length ≤ 5 := by
      have : l.length + 1 ≤ 6 := hok.2.1
      omega
    have l0 : l ≠ [] := fun z => by
      have := hok.1
      rw [z] at this
      exact absurd this (by simp)
    refine sq_drop (R := fun e => true = true ∧ e = .non) (en_callX hE (EvA.imp (ea_cons (ed_var rfl) ea_nil) ?_)) ?_
    · rintro _ rfl
      exact ⟨_, ⟨_, true, rfl, .good _ ⟨hok.1, hok.2.1⟩, rfl, rfl⟩, fun x hx => by cases hx.1⟩
    refine sq_drop (en_callD (ea_cons (ed_var rfl) ea_nil) ⟨a, b, rfl, rfl⟩) ?_
    refine sq_drop (R := fun e => true = true ∧ e = .non) (en_callX hE (EvA.imp (ea_cons (ed_var rfl) ea_nil) ?_)) ?_
    · rintro _ rfl
      exact ⟨_, ⟨_, true, rfl, .zero, rfl, rfl⟩, fun x hx => by cases hx.1⟩
    refine sq_asgN (R := fun e => (¬ manyA p0 l a b) ∧ e = .lst ((spRows p0 l a b).map rowD)) (en_callI (EvA.imp (en_cons (en_callX (R := fun e => ¬ manyA p0 l a b ∧ e = .lst (l.map fun p => trackD (trk p0 p a b))) hE (EvA.imp (ea_cons (ed_var rfl) (ea_cons (ed_var rfl) (ea_cons (ed_var rfl) ea_nil))) ?_)) ea_nil) ?_)) ?_
    · rintro _ rfl
      exact ⟨_, ⟨p0, l, a, b, n, rfl, ⟨⟨hl5, hok.2.2⟩, ha, hb, hn, hab⟩, rfl, rfl⟩, fun x hx => hx⟩
    · rintro _ ⟨_, _, rfl, ⟨nm, rfl⟩, rfl⟩
      cases l with
      | nil => exact absurd rfl l0
      | cons p1 l =>
        have ln := lens nm
        refine ⟨_, ⟨trk p0 p1 a b, l.map fun p => trk p0 p a b, n + 110, by rw [List.map_cons, List.map_cons, List.map_map] <;> rfl, ⟨?_, fun L hL => ?_, by omega⟩, rfl⟩, ?_⟩
        · have e : lenSum ((p1 :: l).map fun p => trk p0 p a b) = (trk p0 p1 a b).length + lenSum (l.map fun p => trk p0 p a b) := by simp [lenSum]
          omega
        · obtain ⟨p, hp, rfl⟩ : ∃ p ∈ p1 :: l, trk p0 p a b = L := by
            rcases List.mem_cons.mp hL with e | e
            · exact ⟨p1, List.mem_cons_self, e.symm⟩
            · obtain ⟨p, hp, e⟩ := List.mem_map.mp e
              exact ⟨p, List.mem_cons_of_mem _ hp, e⟩
          exact trk_bd (hok.2.2 p (List.mem_cons_of_mem _ hp)) (hok.2.2 p0 List.mem_cons_self) ha hb
        · rintro _ rfl
          exact ⟨nm, rfl⟩
    rintro _ ⟨nm, rfl⟩
    have tin := track_in hab (spRows_track (p0 := p0) hab l0)
    have hbl : (∀ z ∈ spRows p0 l a b, Bd (n + 110) z.1 ∧ Bd (n + 110) z.2) ∧ (spRows p0 l a b).length ≤ 1000 := by
      cases l with
      | nil => exact absurd rfl l0
      | cons p1 l =>
        have f := fold_com (n := n + 110) (l.map fun p => trk p0 p a b) (trk p0 p1 a b) (trk_bd (hok.2.2 p1 (by simp)) (hok.2.2 p0 List.mem_cons_self) ha hb) fun L hL => by
          obtain ⟨p, hp, rfl⟩ := List.mem_map.mp hL
          exact trk_bd (hok.2.2 p (by simp [hp])) (hok.2.2 p0 List.mem_cons_self) ha hb
        have ln := lens nm
        have e : lenSum ((p1 :: l).map fun p => trk p0 p a b) = (trk p0 p1 a b).length + lenSum (l.map fun p => trk p0 p a b) := by simp [lenSum]
        exact ⟨f.1.b, by have := f.2; show (List.foldl com _ _).length ≤ _; omega⟩
    refine nx_retL hrt (el_lcN (fun i ds => ds = ((spRows p0 l a b).take i).map fun p => spn K p.1 p.2) (ei_list (ed_var rfl)) rfl (by rw [List.length_map]; exact hbl.2) rfl fun C' le i hi => ?_) ?_
    · have hil : i < (spRows p0 l a b).length := by simpa using hi
      rw [getD_map hi]
      have ta : (spRows p0 l a b).take (i + 1) = (spRows p0 l a b).take i ++ [(spRows p0 l a b)[i]] := (List.take_append_getElem hil).symm
      have hp := hbl.1 _ (List.getElem_mem hil)
      have hq := tin _ (List.getElem_mem hil)
      revert ta hp hq
      generalize (spRows p0 l a b)[i] = p
      intro ta hp hq
      refine ⟨_, asg_tup2 (d1 := fr p.1) (d2 := fr p.2) (by simp) (by simp), (fun b => b = true), (fun σ F H I Q q => q true F H I (.refl _) rfl), (fun _ => ?_), (fun z => absurd z (by decide))⟩
      refine EvN.imp (ed_make (ea_cons (ed_var rfl) (ea_cons (ed_var rfl) ea_nil)) ⟨p.1, p.2, n + 110, rfl, rfl, hq, hp.1, hp.2, by omega⟩) ?_
      rintro _ rfl ds rfl
      rw [ta, List.map_append] <;> rfl
    · rintro es h
      rw [List.length_map, List.take_length] at h
      exact ⟨nm, h⟩
end
end Wk
-- D34
namespace Wk
open PySem PySem.Spec
open PyProof.Rows L2
section
variable {P : Program}
variable {w : World} {K : PySem.W.Frag} {mg : Str → Option Value} {base : Heap}
def firstOf (L : Rows) : Dt := match L with
  | [] => .non
  | p :: _ => fr p.1
def Rl_next_near (K : PySem.W.Frag) : RelX := fun zs0 Pz Pe => ∃ (p0 : Rat × Rat) (l : Rows) (m v : Rat), zs0 = [.lst ((p0 :: l).map (cyc K)), fr m, fr 0, fr v] ∧ (RowsOk (p0 :: l) ∧ Bd 1000 m ∧ Bd 100 v ∧ 0 ≤ v) ∧ Pz = (fun e => ¬ manyA p0 l m (m + v) ∧ e = firstOf (spRows p0 l m (m + v))) ∧ Pe = (fun x => manyA p0 l m (m + v) ∧ x = .many 200)
theorem len_next_near {K : PySem.W.Frag} : ∀ ds Post PE, Rl_next_near K ds Post PE → ds.length = 4 := fun _ _ _ ⟨_, _, _, _, e, _⟩ => by rw [e]; rfl
theorem sp_bd {p0 : Rat × Rat} {l : Rows} {a b : Rat} {n : Nat} (hok : RowsOk (p0 :: l)) (ha : Bd n a) (hb : Bd n b) (nm : ¬ manyA p0 l a b) : (∀ z ∈ spRows p0 l a b, Bd (n + 110) z.1 ∧ Bd (n + 110) z.2) ∧ (spRows p0 l a b).length ≤ 1000 := by
  have hl5 : l.length ≤ 5 := by
    have : l.length + 1 ≤ 6 := hok.2.1
    omega
  cases l with
  | nil => exact ⟨fun z hz => (List.not_mem_nil hz).elim, Nat.zero_le _⟩
  | cons p1 l =>
    have f := fold_com (n := n + 110) (l.map fun p => trk p0 p a b) (trk p0 p1 a b) (trk_bd (hok.2.2 p1 (by simp)) (hok.2.2 p0 List.mem_cons_self) ha hb) fun L hL => by
      obtain ⟨p, hp, rfl⟩ := List.mem_map.mp hL
      exact trk_bd (hok.2.2 p (by simp [hp])) (hok.2.2 p0 List.mem_cons_self) ha hb
    have ln := lens nm
    have e : lenSum ((p1 :: l).map fun p => trk p0 p a b) = (trk p0 p1 a b).length + lenSum (l.map fun p => trk p0 p a b) := by simp [lenSum]
    exact ⟨f.1.b, by have := f.2; show (List.foldl com _ _).length ≤ _; omega⟩
theorem en_rows {C : Ctx} {Γ : List Slot} {t1 t2 t3 : TE} {E : XK} {K : PySem.W.Frag} {p0 : Rat × Rat} {l : Rows} {a b : Rat} {n : Nat} {PE : Exc → Prop} (hE : Eh C E (ecl K) PE) (hok : RowsOk (p0 :: l)) (ha : Bd n a) (hb : Bd n b) (hn : n ≤ 2000) (hab : a ≤ b)
    (hPE : ∀ x, manyA p0 l a b ∧ x = .many 200 → PE x) (h1 : EvD C t1 Γ (.lst ((p0 :: l).map (cyc K)))) (h2 : EvD C t2 Γ (spn K a b)) (h3 : EvD C t3 Γ (fr 0)) {E0 : XK} :
    EvN C (tCall (spP Rl_shared_rows) [] E0 (tCons (tCall (spX (ecl K) (Rl_all_line_spans K)) [] E (tCons t1 (tCons t2 (tCons t3 tNil)))) tNil)) Γ fun e => (¬ manyA p0 l a b) ∧ e = .lst ((spRows p0 l a b).map rowD) := by
  have hl5 : l.length ≤ 5 := by
    have : l.length + 1 ≤ 6 := hok.2.1
    omega
  refine en_callI (EvA.imp (en_cons (en_callX (R := fun e => ¬ manyA p0 l a b ∧ e = .lst (l.map fun p => trackD (trk p0 p a b))) hE (EvA.imp (ea_cons h1 (ea_cons h2 (ea_cons h3 ea_nil))) ?_)) ea_nil) ?_)
  · rintro _ rfl
    exact ⟨_, ⟨p0, l, a, b, n, rfl, ⟨⟨hl5, hok.2.2⟩, ha, hb, hn, hab⟩, rfl, rfl⟩, hPE⟩
  · rintro _ ⟨_, _, rfl, ⟨nm, rfl⟩, rfl⟩
    cases l with
    | nil => exact absurd hok.1 (by simp)
    | cons p1 l =>
      have ln := lens nm
      refine ⟨_, ⟨trk p0 p1 a b, l.map fun p => trk p0 p a b, n + 110, by rw [List.map_cons, List.map_cons, List.map_map] <;> rfl, ⟨?_, fun L hL => ?_, by omega⟩, rfl⟩, ?_⟩
      · have e : lenSum ((p1 :: l).map fun p => trk p0 p a b) = (trk p0 p1 a b).length + lenSum (l.map fun p => trk p0 p a b) := by simp [lenSum]
        omega
      · obtain ⟨p, hp, rfl⟩ : ∃ p ∈ p1 :: l, trk p0 p a b = L := by
          rcases List.mem_cons.mp hL with e | e
          · exact ⟨p1, List.mem_cons_self, e.symm⟩
          · obtain ⟨p, hp, e⟩ := List.mem_map.mp e
            exact ⟨p, List.mem_cons_of_mem _ hp, e⟩
        exact trk_bd (hok.2.2 p (List.mem_cons_of_mem _ hp)) (hok.2.2 p0 List.mem_cons_self) ha hb
      · rintro _ rfl
        exact ⟨nm, rfl⟩
theorem ok_next_near (B : Bs K mg) : Ck P w K mg base (L2.CX P w) 7 "next_near" (spX (ecl K) (Rl_next_near K)) 2 ["width", "within"] := by
  refine ck_of (N := ["cycles", "moment", "width", "within", "span", "rows"]) (ps := ["cycles", "moment", "width", "within"]) B.d_next_near B.g_next_near (by decide +kernel) (fun _ _ _ _ _ _ us ws hl hl2 => match us, hl, ws, hl2 with | [_, _], _, [_, _], _ => rfl)
    (len_X len_next_near) fun f cdv A outer s H vs Q E hr h => ?_
  have nd : (["cycles", "moment", "width", "within", "span", "rows"] : List Str).Nodup := by decide +kernel
  have tk : Takes (cxOf (L2.CX P w) P w K mg base ["cycles", "moment", "width", "within", "span", "rows"] "next_near" (defScope (top 70)) f cdv A outer s H E) (fun cls d _ H' => E cls d H') := takes_of rfl rfl rfl rfl
  refine ⟨_, (pss_cons (ps_expr (pe_cl (ok_check_cycles B) hr (by decide) (passes_call tk fun _ _ _ _ z => z) (pa_cons (pv 0) pa_nil)))
  (pss_cons (ps_expr (pe_cl (ok_check_moment B) hr (by decide) pass0 (pa_cons (pv 1) pa_nil)))
  (pss_cons (ps_expr (pe_cl (ok_check_width B) hr (by decide) (passes_call tk fun _ _ _ _ z => z) (pa_cons (pv 2) pa_nil)))
  (pss_cons (ps_if (PW.pt (pw_or (pt_not (pt_val (pe_cl (ok_is_fraction B) hr (by decide) pass0 (pa_cons (pv 3) pa_nil)))) (pw_or1 (pt_cmpR op_lt (pe_ix ix_tup (pv 3) pe_int (fun _ _ => rfl)) pe_int (nomark _))))) (pss_one (ps_raise rfl tk (pmk_BadValue B hr (by decide) (pa_cons pe_str pa_nil) rfl rfl))) pss_nil)
  (pss_cons (ps_set (i := 4) nd rfl (by first | exact Or.inl rfl | exact Or.inr rfl) (pe_ci (ok_Span_init B) hr (by decide) pass0 (pa_cons (pv 1) (pa_cons (pe_cl (ok_plus B) hr (by decide) pass0 (pa_cons (pv 1) (pa_cons (pv 3) pa_nil))) pa_nil))))
  (pss_cons (ps_set (i := 5) nd rfl (by first | exact Or.inl rfl | exact Or.inr rfl) (pe_cl (ok_shared_rows B) hr (by decide) pass0 (pa_cons (pe_cl (ok_all_line_spans B) hr (by decide) (passes_call tk fun _ _ _ _ z => z) (pa_cons (pv 0) (pa_cons (pv 4) (pa_cons (pv 2) pa_nil)))) pa_nil)))
  (pss_cons (ps_if (pt_cmpR op_eq (pe_callB call_len_seq (by rfl) B.z_len (by decide +kernel) (pa_cons (pv 5) pa_nil)) pe_int (nomark _)) (pss_one (ps_ret pe_non)) pss_nil)
  (pss_one (ps_ret (pe_ix ix_tup (pe_ix ix_list (pv 5) pe_int (fun _ _ => rfl)) pe_int (fun _ _ => rfl))))))))))), enterX h fun C ds Post PE hR hrt hE => ?_⟩
  obtain ⟨p0, l, m, v, rfl, ⟨hok, hm, hv, v0⟩, rfl, rfl⟩ := hR
  show NX C _ [.val (.lst ((p0 :: l).map (cyc K))), .val (fr m), .val (fr 0), .val (fr v), .no, .no]
  have im : Bz m 1000 := ⟨hm⟩
  have iv : Bz v 100 := ⟨hv⟩
  refine sq_drop (R := fun e => true = true ∧ e = .non) (en_callX hE (EvA.imp (ea_cons (ed_var rfl) ea_nil) ?_)) ?_
  · rintro _ rfl
    exact ⟨_, ⟨_, true, rfl, .good _ ⟨hok.1, hok.2.1⟩, rfl, rfl⟩, fun x hx => by cases hx.1⟩
  refine sq_drop (en_callD (ea_cons (ed_var rfl) ea_nil) ⟨m, rfl, trivial, rfl⟩) ?_
  refine sq_drop (R := fun e => true = true ∧ e = .non) (en_callX hE (EvA.imp (ea_cons (ed_var rfl) ea_nil) ?_)) ?_
  · rintro _ rfl
    exact ⟨_, ⟨_, true, rfl, .zero, rfl, rfl⟩, fun x hx => by cases hx.1⟩
  refine sq_no (etd_or (a := false) (etd_not (etd_B (ed_call (ea_cons (ed_var rfl) ea_nil) (rl_is_fraction (.fr v))))) fun _ => etd_test (ed_cmp (ed_ixT (ed_var rfl) ed_int rfl) ed_int)) ?_ ?_
  · have : ¬ v.num < 0 := Int.not_lt.mpr (Rat.num_nonneg.mpr v0)
    simpa using this
  refine sq_asg (d := spn K m (m + v)) (ed_make (ea_cons (ed_var rfl) (ea_cons (ed_call (ea_cons (ed_var rfl) (ea_cons (ed_var rfl) ea_nil)) rl_plus) ea_nil)) ⟨m, m + v, 1101, rfl, rfl, by grind, hm.mono (by decide), bz, by decide⟩) ?_
  refine sq_asgN (en_rows hE hok (n := 1101) (hm.mono (by decide)) bz (by decide) (by grind) (fun _ z => z) (ed_var rfl) (ed_var rfl) (ed_var rfl)) ?_
  rintro _ ⟨nm, rfl⟩
  cases e : spRows p0 l m (m + v) with
  | nil =>
    rw [e] at hrt
    exact sq_yes (etd_test (ed_eqI (ed_lenL (ds := []) (ed_var rfl)) ed_int)) rfl (nx_ret hrt ed_non ⟨nm, rfl⟩)
  | cons p L =>
    rw [e] at hrt
    refine sq_no (etd_test (ed_eqI (ed_lenL (ds := (p :: L).map rowD) (ed_var rfl)) ed_int)) (decide_eq_false (by simp; omega)) ?_
    exact nx_ret hrt (ed_ixT (ds := [fr p.1, fr p.2]) (ed_ixL (ds := (p :: L).map rowD) (ed_var rfl) ed_int atI0) ed_int rfl) ⟨nm, rfl⟩
end
end Wk
-- Core10
/-! Promises of defs that make lambdas: the tables may grow. -/
namespace Wk
open PySem PySem.Spec
open PyProof.Rows L2
/-- how a heap grows where the tables may be written -/
structure GrowT (T : List (Addr × Str)) (F H F' H' : Hp) : Prop where
  ff : Same F F'
  fh : Same F' H'
  hh : ∀ a o, H a = some o → (∀ q ∈ T, q.1 ≠ a) → H' a = some o
  fn : ∀ a, H a ≠ none → F a = none → F' a = none
  tb : LamX.Tabs T H'
structure TabF (T : List (Addr × Str)) (F H : Hp) : Prop where
  tb : LamX.Tabs T H
  ft : ∀ q ∈ T, F q.1 = none
def spT (T : List (Addr × Str)) (Rl : Rel) : Sp := fun vs H Q _ => ∃ F ds Post, Same F H ∧ TabF T F H ∧ Reps F vs ds ∧ Rl ds Post ∧ ∀ v F' H' d, GrowT T F H F' H' → Rep F' v d → Post d → Q v H'
theorem len_T {T : List (Addr × Str)} {Rl : Rel} {n : Nat} (h : ∀ ds Post, Rl ds Post → ds.length = n) : ∀ vs H Q E, spT T Rl vs H Q E → vs.length = n := fun vs H Q E z => by
  obtain ⟨F, ds, Post, _, _, r, hR, _⟩ := z
  exact r.length.trans (h ds Post hR)
def ctxT (T : List (Addr × Str)) (F H : Hp) : Ctx := ⟨fun _ => False, T, F, H⟩
theorem tab_there {T : List (Addr × Str)} {H : Hp} (t : LamX.Tabs T H) : ∀ q ∈ T, H q.1 ≠ none := fun q hq => by
  obtain ⟨ps, e, _⟩ := t q hq
  rw [e]
  simp
theorem ivT {T : List (Addr × Str)} {N : List Str} {vs : List V} {H F : Hp} {ds : List Dt} (hF : Same F H) (t : TabF T F H) (hr : Reps F vs ds) : IV (ctxT T F H) (L2.start N vs) F H (slots N (ds.map .val)) := by
  have I := iv0 (N := N) hF hr
  exact ⟨fun _ z => z.elim, tab_there t.tb, .refl _, hF, fun _ _ h _ _ => h, fun _ _ h => h, fun _ z => z.elim, t.tb, t.ft, I.len, I.sl, I.dj⟩
theorem enterT {T : List (Addr × Str)} {N : List Str} {t : TS} {vs : List V} {H : Hp} {Q : VK} {E : XK} {Rl : Rel} (h : spT T Rl vs H Q E) (k : ∀ C ds Post, C.T = T → Rl ds Post → Rt C Q Post → NX C (t { nx := fun _ H' => Q .non H', rt := Q }) (slots N (ds.map .val))) : t { nx := fun _ H' => Q .non H', rt := Q } (L2.start N vs) H := by
  obtain ⟨F, ds, Post, hF, ht, hr, hR, hq⟩ := h
  exact k (ctxT T F H) ds Post rfl hR (fun σ F' H' Γ v d I r p => hq v F' H' d ⟨I.f0, I.fh, fun a o z n => I.hh a o z (fun z => z) n, I.fn, I.tb⟩ r p) _ F H (ivT hF ht hr)
section
variable {C : Ctx} {σ : L2.St} {F H F' H' : Hp} {Γ : List Slot}
/-- behind a step that may write the tables -/
theorem IV.growT (I : IV C σ F H Γ) (g : GrowT C.T F H F' H') : IV C σ F' H' Γ := by
  have nl : ∀ {p : Addr} {vs : List V}, H p = some (.lst vs) → ∀ q ∈ C.T, q.1 ≠ p := fun {p vs} h q hq e => by
    obtain ⟨ps, z⟩ := I.tabH hq
    rw [e, h] at z
    cases z
  exact {
    cS := I.cS
    cT := I.cT
    f0 := I.f0.trans g.ff
    fh := g.fh
    hh := fun a o h hs ht => g.hh a o (I.hh a o h hs ht) ht
    fn := fun a h h0 => g.fn a (I.taken h) (I.fn a h h0)
    st := fun p hp => by
      obtain ⟨h1, vs, ds, h2, h3⟩ := I.st p hp
      exact StoreAt.mono ⟨h1, vs, ds, h2, h3⟩ g.ff (g.fn p (by rw [h2]; simp) h1) fun o ho => by
        rw [h2] at ho
        cases ho
        exact g.hh p _ h2 (nl h2)
    tb := g.tb
    ft := fun q hq => by
      obtain ⟨ps, e⟩ := I.tabH hq
      exact g.fn q.1 (by rw [e]; simp) (I.ft q hq)
    len := I.len
    sl := fun i s hs => by
      obtain ⟨o, ho, k⟩ := I.sl i s hs
      refine ⟨o, ho, ?_⟩
      cases s with
      | no => trivial
      | val d =>
        obtain ⟨v, h1, h2⟩ := k
        exact ⟨v, h1, h2.mono g.ff⟩
      | own ds =>
        obtain ⟨p, vs, h1, h2, h3, h4, h5⟩ := k
        exact ⟨p, vs, h1, g.hh p _ h2 (nl h2), g.fn p (by rw [h2]; simp) h3, h4, h5.mono g.ff⟩
      | sto => exact k
      | raw v => exact k
    dj := I.dj }
theorem IV.tabF (I : IV C σ F H Γ) : TabF C.T F H := ⟨I.tb, I.ft⟩
theorem en_callT {T : List (Addr × Str)} {ta : TA} {E : XK} {R : Dt → Prop} {Rl : Rel} (hT : C.T = T) (ha : EvA C ta Γ fun ds => Rl ds R) : EvN C (tCall (spT T Rl) [] E ta) Γ R := fun σ F H I Q q =>
  ha σ F H I _ fun vs F1 H1 ds I1 s1 r1 k1 => by
    rw [List.append_nil]
    subst hT
    exact ⟨F1, ds, R, I1.fh, I1.tabF, r1, k1, fun v F2 H2 d g rv kd => q v F2 H2 d (I1.growT g) (s1.trans g.ff) rv kd⟩
theorem en_callTD {T : List (Addr × Str)} {ta : TA} {E : XK} {R : Dt → Prop} {Rl : Rel} {ds : List Dt} (hT : C.T = T) (ha : EaD C ta Γ ds) (h : Rl ds R) : EvN C (tCall (spT T Rl) [] E ta) Γ R := en_callT hT (ha.imp fun _ z => by rw [z]; exact h)
end
end Wk
-- Core11
/-! A lambda is made: all but our tables stays. -/
namespace Wk
open PySem PySem.Spec
open PyProof.Rows L2 LamX
/-- all but the tables of T stays -/
def ExtT (T : List (Addr × Str)) (H H1 : Hp) : Prop := ∀ b o, H b = some o → (∀ q ∈ T, q.1 ≠ b) → H1 b = some o
abbrev lamO (X : Cx) (params : Arguments) (body : Expr) (scope : Scope) (pm ctv : Value) (c' : Addr) : Obj := PySem.W.kla_obj "<lambda>" (X.env.qual ++ "<lambda>") params body scope (cloFrom X.env.cells scope.names []) pm c' ctv
section
variable {X : Cx}
variable {pins : List (Addr × Obj)} {σ : L2.St} {H : Hp} {s : Shared}
theorem lam_made {T : List (Addr × Str)} {c P : Addr} {params : Arguments} {body : Expr} {scope : Scope} {pos : Pos} {E Q : Value → Shared → Prop} (I : Inv X pins σ H s) (TB : TabB X.base X.mg c P) (hcode : X.env.code = .ref c) (hm : (P, X.env.qual ++ "<lambda>") ∈ T)
    (hu : ∀ p ∈ T, p.1 = P → p.2 = X.env.qual ++ "<lambda>") (hT : Tabs T H) (hdef : defaultsOf params X.env = ([], [])) (hfree : ∀ y ∈ scope.names, y.2 = .free → ∃ c, X.env.cells.lookup y.1 = some c)
    (h : ∀ (f c' : Addr) (pm ctv : Value) (H1 : Hp) (s' : Shared), Inv X pins σ H1 s' → ExtT T H H1 → Tabs T H1 → s'.heap.get? f = some (lamO X params body scope pm ctv c') → H1 f = none → f ∉ frs X.stack → H1 c' = some (CodeO c' (X.env.qual ++ "<lambda>")) → Q (.ref f) s') : wpAny (model X.prog X.w) X.A (eval (.Lambda params body scope pos) X.env) Q E s := by
  obtain ⟨ps, hP, triples, known⟩ := hT _ hm
  have bP : (s.heap.BuiltinsAt X.mg P) := TB.bm.keeps I.bk
  have atP : s.heap.get? P = some { cls := .none, data := .fields ps } := I.hok P _ hP
  have nofr : ∀ f, s.heap.objs.size ≤ f → f ∉ frs X.stack := fun f hf z => (List.mem_cons.mp (I.stkSub _ z)).elim (fun e => Nat.lt_irrefl _ (Nat.lt_of_lt_of_le (by rw [e]; exact I.lt) hf)) fun e => I.nofs hf e
  (refine PySem.W.kla_eval hdef ?_)
  cases found : codeAmong pos ps.toList with
  | some cv =>
    obtain ⟨c', rfl, hco⟩ := known pos cv found
    refine PySem.W.kla_makeFunctionHit (mg := X.mg) (c := c) (P := P) (ps := ps) (closure_ok hfree) I.ok.glob (I.mod.glob.keeps I.bk) hcode (TB.code.keeps I.bk) atP triples found bP fun ctv h' tk up le => ?_
    exact h h'.objs.size c' _ ctv H _ (I.kept fun b o e => Heap.get?_push_of_some _ (up b o e)) (fun _ _ e _ => e) hT (Heap.get?_push_size _ rfl) (I.hok.fresh le) (nofr _ le) hco
  | none =>
    refine PySem.W.kla_makeFunction (mg := X.mg) (c := c) (P := P) (ps := ps) (closure_ok hfree) I.ok.glob (I.mod.glob.keeps I.bk) hcode (TB.code.keeps I.bk) atP triples found TB.gP bP fun c' ctv h' tk up ge lt record table => ?_
    obtain ⟨c2, oc, vs, t, e2, hoc, hd, hv⟩ := record
    cases e2
    have le : s.heap.objs.size ≤ h'.objs.size := Nat.le_trans ge (Nat.le_of_lt lt)
    have nC : H c' = none := I.hok.fresh ge
    have J := inv_table (t' := tk) (more := #[rawInt pos.line, rawInt pos.col, .ref c']) (h' := h'.push (lamO X params body scope ((X.mg "__name__").getD .none) ctv c')) I hP
      (fun b o hb e => Heap.get?_push_of_some _ (up b o hb e)) (Heap.get?_push_of_some _ table) ge ⟨oc, vs, t, Heap.get?_push_of_some _ hoc, hd, hv⟩
    generalize eH : upd (upd H P (.tbl (ps ++ #[rawInt pos.line, rawInt pos.col, .ref c']))) c' (CodeO c' (X.env.qual ++ "<lambda>")) = H1 at J
    have stay : ∀ b o, H b = some o → b ≠ P → H1 b = some o := fun b o e n => by
      rw [← eH, upd_ne (ne_of_none e nC), upd_ne n]
      exact e
    have newC : H1 c' = some (CodeO c' (X.env.qual ++ "<lambda>")) := by rw [← eH, upd_same]
    have newP : H1 P = some (.tbl (ps ++ #[rawInt pos.line, rawInt pos.col, .ref c'])) := by rw [← eH, upd_ne (ne_of_none hP nC), upd_same]
    have codeStay : ∀ {c0 : Addr} {q : Str}, H c0 = some (CodeO c0 q) → H1 c0 = some (CodeO c0 q) := fun {c0 q} e => stay _ _ e fun z => by
      rw [z, hP] at e
      exact codeO_ne ps (Option.some.inj e).symm
    have eL : ((ps ++ #[rawInt pos.line, rawInt pos.col, .ref c']).toList = ps.toList ++ [rawInt pos.line, rawInt pos.col, .ref c']) := by simp
    refine h h'.objs.size c' _ ctv H1 _ J (fun b o e n => stay b o e fun z => n _ hm z.symm) (fun p hp => ?_) (Heap.get?_push_size _ rfl) ?_ (nofr _ le) newC
    · by_cases hb : p.1 = P
      · rw [hu p hp hb, hb]
        refine ⟨_, newP, by rw [eL]; exact PySem.TriplesOk_snoc _ _ _ _ triples, fun p' cv hcv => ?_⟩
        rw [eL] at hcv
        rcases among_app _ triples hcv with z | z
        · obtain ⟨c0, z1, z2⟩ := known p' cv z
          exact ⟨c0, z1, codeStay z2⟩
        · exact ⟨c', z, newC⟩
      · obtain ⟨qs, a1, a2, a3⟩ := hT p hp
        refine ⟨qs, stay _ _ a1 hb, a2, fun p' cv hcv => ?_⟩
        obtain ⟨c0, z1, z2⟩ := a3 p' cv hcv
        exact ⟨c0, z1, codeStay z2⟩
    · have n2 : h'.objs.size ≠ P := Nat.ne_of_gt (Nat.lt_of_lt_of_le (Heap.lt_size atP) le)
      rw [← eH, upd_ne (Nat.ne_of_gt lt), upd_ne n2]
      exact I.hok.fresh le
/-- the reading of x(lambda: body) -/
def tLamT (T : List (Addr × Str)) (TT : (XK → Hp → VK → Prop) → Hp → VK → Prop) (t : XK → TE) : TE := fun σ H Q => Tabs T H ∧ ∀ H1, ExtT T H H1 → Tabs T H1 → TT (fun E H' Q' => t E σ H' Q') H1 Q
theorem pe_lamT {T : List (Addr × Str)} {TT : (XK → Hp → VK → Prop) → Hp → VK → Prop} {x a : Str} {g c P : Addr} {k : Nat} {pg : Arguments} {bg : List Stmt} {sg : Scope} {dV kV doc pm cdv ct oc : Value} {an od : Option Addr} {osl : Array (Option Value)} {Ng : List Str}
    {params : Arguments} {body : Expr} {scope : Scope} {t : XK → TE} {p lpos pos : Pos} (hg : Gl X x) (hm : X.mg x = some (.ref g)) (hk : PySem.W.keepIn X.K (.ref g) = true) (lk : X.K.lookup g = some ⟨oc, od, .func (PySem.W.fnOf x x pg bg sg dV kV doc pm an cdv ct), osl⟩)
    (hcg : PySem.W.codeIn X.K cdv x = true) (hb : L2.Binds X.K (PySem.W.fnOf x x pg bg sg dV kV doc pm an cdv ct) [a] []) (Sg : FnScope Ng [a] sg) (hNg : Ng[0]? = some a) (hva : Vis sg a) (hG : GivesTo X Ng x sg g cdv bg a (X.env.qual ++ "<lambda>") TT) (TB : TabB X.base X.mg c P) (hcode : X.env.code = .ref c) (hmT : (P, X.env.qual ++ "<lambda>") ∈ T) (hu : ∀ p ∈ T, p.1 = P → p.2 = X.env.qual ++ "<lambda>") (hr : Room (k + 2) X.A) (L : LamS X.env.scope scope) (hdef : defaultsOf params X.env = ([], []))
    (hbind : ∀ (q : Str) (cl : List (Str × Addr)) (pm cv ctv : Value), bindArgs (PySem.W.kla_fn "<lambda>" q params body scope cl pm cv ctv) ⟨[], []⟩ = pure []) (hbody : ∀ A outer s H E f c', Room k (A.deeper (lamEnv X scope s.heap.objs.size f c')) → PE (lamCx X A outer s H E scope f c') body (t E)) (hdb : (x == ("__debug__" : Str)) = false := by decide) (hd : (a == ("__debug__" : Str)) = false := by decide) (hcd : (a == ("__classdict__" : Str)) = false := by decide) :
    PE X (.Call (.Name x p) [.Lambda params body scope lpos] [] pos) (tLamT T TT t) := by
  refine ⟨fun pins s σ H Q I ⟨hT, h⟩ => wpAny_Call_Name_kw (ld_glob I hg hm ?_ hdb)⟩
  (refine PySem.W.callWith_K (h₀ := X.base) I.ok.mod.kin hk ?_ (by rfl) (by rfl))
  (show wpAny _ _ (spliced ((false, eval (.Lambda params body scope lpos) X.env) :: backTo pos (starEach [] X.env))) _ _ s)
  refine Calls.spliced_cons (lam_made I TB hcode hmT hu hT hdef (L.has I.ok) fun f c' pm' ctv H1 s1 J eT T1 hf hfn hfr hco => Calls.spliced_nil ⟨J.kIn, ?_⟩)
  have rc : codeAny (model X.prog X.w) X.A (.call (.ref g) ⟨[.ref f], []⟩) (CR C8.CX0 X.stack X.prog X.w H1 s1 Q C8.E0) s1 := by
    refine run_ofS (N := Ng) (ps := [a]) (us := [.ref f]) (vs := [.ref f]) lk hcg Sg hr J.env0 (hb s1 [.ref f] J.kIn rfl) (.cons rfl .nil) rfl fun room => ?_
    obtain ⟨u, hu1, hu2⟩ := hG f c' s1 H1 Q (fun E H' Q' => t E σ H' Q') (fun W pn xe E p1 p2 tk hW => pe_act (i := 0) J L hf hfn hfr (hbind _ _ _ _ _) tk hW room (fun A outer s H r2 => hbody A outer s H E f c' r2) hNg hva hd hcd) hco (h H1 eT T1)
    exact ⟨u, hu1.nox, hu2⟩
  (refine wpAny_call (codeAny_mono rc fun r s2 hq => ?_))
  match r, hq with
  | .ok (.ret u), hq => exact J.after hq
end
end Wk
-- Core12
/-! isinstance of a caught error that bears a dict. -/
namespace Wk
open PySem PySem.Spec PyProof.Rows L2 PySem.W PySem.Calls
section
variable {prog : Program} {w : World} {A : Around} {E : Value → Shared → Prop} {s : Shared} {K : PySem.W.Frag} {x D : Addr} {ox : Obj} {od : Option Obj}
theorem find_data {C : Addr} {name : Str} {a g : Value} (hc : (clsIn K C).isSome = true) (ha : findIn K (.ref C) name = some (some a)) (hg : specialIn K a "__get__" = some (some g)) (ht : takesIn K a = some true) : findObj K C od name = some (.bind g a) := by
  obtain ⟨cd, e⟩ := Option.isSome_iff_exists.mp hc
  unfold findObj
  rw [e, Option.bind_some, ha, Option.bind_some]
  cases od <;> simp [hg, ht]
theorem class_of {Q : Option Value → Shared → Prop} (C : ExcC K D) (X : K.In s.heap) (I : InstAt s.heap x ox D od) (h : Q (some (.ref D)) { s with toks := s.toks + 1 }) : wpAny (model prog w) A (getAttr? (.ref x) "__class__") Q E s := by
  have found : findObj K D od "__class__" = some (.bind (.builtin "getset_descriptor.__get__") (.builtin "object.__class__")) := find_data (by obtain ⟨cd, hc, _⟩ := any_some C.hd; rw [hc]; rfl) C.ha C.hn C.ht
  obtain ⟨hp, g, d, t, os⟩ := s
  have T0 := I.type (M := model prog w)
  have T1 := looks_findIn (M := model prog w) X C.hg
  have T2 := looks_findIn (M := model prog w) X C.hk
  have T3 := looks_find (M := model prog w) X I found
  have isE : Looks (model prog w) hp (isInstance (.ref x) (.type "BaseException")) true := T0.andThen (looks_subIn X C.hs)
  have neB : (Value.builtin "BaseException.__getattribute__" == Value.builtin "object.__getattribute__") = false := by decide +kernel
  have off : (onTheHeap (Value.ref D) && Value.builtin "BaseException.__getattribute__" == Value.builtin "object.__getattribute__") = false := by rw [neB]; rfl
  (unfold getAttr? getAttrBy? getAttrBy)
  refine wpAny_bind (wpAny_mkText (wpAny_bind (wpAny_attempt (wpAny_holding (wpAny_bind (T0.at (wpAny_bind (T1.at ?_))))))))
  show wpAny _ _ (if (onTheHeap (Value.ref D) && _) = true then _ else _) _ _ _
  rw [off, if_neg Bool.false_ne_true]
  (unfold getAttrByItsOwn hookBefore)
  refine wpAny_bind ?_
  (rw [if_pos (show onTheHeap (Value.ref D) = true from rfl)])
  refine T2.at (wpAny_bind (wpAny_attempt (wpAny_holding ?_)))
  unfold callGetattribute
  rw [show (false && onTheHeap (Value.builtin "BaseException.__getattribute__")) = false from rfl, if_neg Bool.false_ne_true]
  unfold boundAndCalled
  (rw [PySem.F.excAttr_ValueError.ga.bind (.ref x)])
  (refine wpAny_bind (wpAny_pure ?_))
  show wpAny _ _ (call (.builtin "BaseException.__getattribute__") [_, .str "__class__" t]) _ _ _
  refine wpAny_call (codeAny_call_builtin PySem.F.excAttr_ValueError.ga.plain PySem.F.entry_bexc_ga (@check_slot (model prog w) _ _ ⟨hp, g, d, t + 1, os⟩ "BaseException.__getattribute__" "BaseException" "__getattribute__" (.ref x) [.str "__class__" t] [] _ (by decide +kernel) (by decide +kernel) isE (PySem.F.args_bexc_ga (.ref x) (.str "__class__" t)) ?_))
  (unfold Builtin.«object.__getattribute__»)
  refine wpAny_bind (wpAny_of_eq (a := ((Value.ref x : Value), [Value.str "__class__" t])) (by first | rfl | (simp only [slotArgs]; rfl)) (wpAny_bind (wpAny_pure (wpAny_bind (T0.at (wpAny_bind (T3.at ?_)))))))
  show wpAny _ _ (holding [Value.builtin "object.__class__"] (call (.builtin "getset_descriptor.__get__") [_, .ref x, .ref D]) >>= ret) _ _ _
  refine wpAny_bind (wpAny_holding (wpAny_call (class_get (s := ⟨hp, g, d, t + 1, os⟩) (ox := ox) (od := od) X I C.hm (wpAny_pure ?_))))
  (show wpAny _ _ (handedOut (.ref D)) _ _ _)
  (rw [handedOut_of (v := .ref D) rfl])
  first
    | (exact wpAny_pure (wpAny_pure h))
    | exact wpAny_pure h
    | (exact wpAny_pure (wpAny_bind (wpAny_pure (wpAny_pure h))))
theorem kitx_of (C : ExcC K D) : KitX K (.ref x) (.ref D) (fun h => InstAt h x ox D od) where
  ty := fun _ _ _ I => I.type
  it := fun _ _ X _ => by
    obtain ⟨cd, e, _⟩ := any_some C.hd
    unfold clsIn at e
    split at e
    · rename_i c1 d1 cd1 sl1 o
      intro A' Q' E' s' k q
      unfold isType loadHead
      refine wpAny_bind (wpAny_loadPart (k _ _ (X _ _ o)) ?_)
      exact wpAny_pure q
    · cases e
  ne := fun h tp dd its n sl X htp => (handS_kitx_exc (x := x) (ox := ox) C.hg C.hk C.hs C.hd C.ha C.hn C.ht C.hm).ne h tp dd its n sl X htp
  ca := fun X I k => class_of C X I k
/-- isinstance(e, c), the caught e with its dict -/
theorem call_isX {X : Cx} {a D : Addr} {oe : Obj} {dd : Option Addr} {pn : List (Addr × Obj)} (C : ExcC X.K D) (hz : Zc (.ref D) dd oe) (hf : ∃ vs, oe.data = .fields vs) :
    CallR (X.suite a ((a, oe) :: pn)) (.builtin "isinstance") (fun xs H Q => (∀ b, dd = some b → ∃ o, H b = some o) ∧ rIsE X.K D a xs H Q) := by
  intro pins s σ H xs us Q I r ⟨hdd, c, cv, b, e0, hcv, e, q⟩
  subst e0
  match r with
  | .cons rx (.cons rt .nil) =>
    cases rx
    have ec := hcv _ rt
    subst ec
    (obtain ⟨hget, _⟩ := I.pin (a, oe) (List.mem_append.mpr (.inl List.mem_cons_self)))
    obtain ⟨vs, hv⟩ := hf
    obtain ⟨od, J⟩ : ∃ od, InstAt s.heap a oe D od := by
      obtain ⟨oc, odd, oda, osl⟩ := oe
      obtain ⟨h1, h2⟩ := hz
      dsimp only at h1 h2 hv
      subst h1 h2 hv
      cases odd with
      | none => exact ⟨none, hget, rfl, rfl, trivial⟩
      | some b =>
        obtain ⟨o, ho⟩ := hdd b rfl
        obtain ⟨u, hu⟩ := objOk_get (I.hok b o ho)
        exact ⟨some u, hget, rfl, rfl, hu⟩
    exact kia_one (kitx_of C) I.kIn J e (fun z => nomatch z) fun tk => ⟨.bl b, H, I.kept (t' := tk) fun _ _ z => z, rfl, q⟩
end
end Wk
-- Core13
/-! The data rules of a lambda's call. -/
namespace Wk
open PySem PySem.Spec
open PyProof.Rows L2 LamX
theorem inV_bl : ∀ bs : List Bool, inV (.bl true) (bs.map V.bl) = bs.any id
  | [] => rfl
  | b :: bs => by
    have ih := inV_bl bs
    unfold inV at ih ⊢
    rw [List.map_cons, List.any_cons, List.any_cons, ih]
    cases b <;> rfl
section
variable {C : Ctx} {σ : L2.St} {F H H1 : Hp} {Γ : List Slot}
/-- behind the making of a lambda -/
theorem IV.lam (I : IV C σ F H Γ) (e : ExtT C.T H H1) (t : Tabs C.T H1) : IV C σ F H1 Γ := by
  have noT : ∀ a o, F a = some o → ∀ q ∈ C.T, q.1 ≠ a := fun a o h q hq z => by
    rw [← z, I.ft q hq] at h
    exact nomatch h
  exact I.growT { ff := .refl _, fh := fun a o h => e a o (I.fh a o h) (noT a o h), hh := e, fn := fun _ _ h => h, tb := t }
/-- x in a list of truth values -/
theorem ed_inB {ta tb : TE} {K : PySem.W.Frag} {bs : List Bool} (ha : EvD C ta Γ (.bl true)) (hb : EvD C tb Γ (.lst (bs.map Dt.bl))) : EvD C (tOp (rIn K false) ta tb) Γ (.bl (bs.any id)) :=
  en_op ha hb fun d e k1 k2 σ F H I x y r1 r2 Q q => by
    subst k1 k2
    cases r1.bl_inv
    obtain ⟨a, vs, rfl, hF, rs⟩ := r2.lst_inv
    have ev := rs.bls
    subst ev
    refine ⟨a, _, rfl, .inl (.inl (.inl (I.fh _ _ hF))), rfl, List.all_eq_true.mpr fun v hv => ?_, ?_⟩
    · obtain ⟨b, _, rfl⟩ := List.mem_map.mp hv
      rfl
    · have e := inV_bl bs
      (simp only [Bool.false_eq_true, if_false])
      rw [e]
      exact q _ F H _ I (.refl _) (.bl _) rfl
end
end Wk
-- Core14
/-! What a call told: the data rule. -/
namespace Wk
open PySem PySem.Spec
open PyProof.Rows L2 LamX
def ansV : Exc → List V
  | .bad z => [.str "BadValue", .str z]
  | .many n => [.str "TooMany", .int n]
  | .endless => [.str "Endless", .non]
def ansL : Exc → List Dt
  | .bad z => [.str "BadValue", .str z]
  | .many n => [.str "TooMany", .int n]
  | .endless => [.str "Endless", .non]
def ansD (x : Exc) : Dt := .tup (ansL x)
theorem ans_reps {F : Hp} : ∀ x, Reps F (ansV x) (ansL x)
  | .bad z => .cons (.str _) (.cons (.str _) .nil)
  | .many n => .cons (.str _) (.cons (.int _) .nil)
  | .endless => .cons (.str _) (.cons .non .nil)
/-- told, or the error's name -/
def TAns (c : Ecl) : (XK → Hp → VK → Prop) → Hp → VK → Prop := fun tl H Q =>
  tl (fun cls d H' => ∃ x, ERep c H' cls d x ∧ ∀ r H2, Same H' H2 → H' r = none → H2 r = some (.tup (ansV x)) → Q (.ref r) H2) H fun v H' => [V.str "told", v].length ≤ sizeLine ∧ ∀ p, H' p = none → Q (.ref p) (upd H' p (.tup [.str "told", v]))
section
variable {C : Ctx} {Γ : List Slot}
theorem IV.again {C' : Ctx} {σ σ' : L2.St} {F F' H H' : Hp} {Γ' : List Slot} (I : IV C' σ F H Γ) (J : IV C' σ' F' H' Γ') (no : noOwn Γ = true) (e : Same F F') : IV C' σ F' H' Γ :=
  ⟨J.cS, J.cT, J.f0, J.fh, J.hh, J.fn, J.st, J.tb, J.ft, I.len, fun i s hs => by
    obtain ⟨o, ho, k⟩ := I.sl i s hs
    refine ⟨o, ho, ?_⟩
    cases s with
    | no => trivial
    | val d =>
      obtain ⟨v, h1, h2⟩ := k
      exact ⟨v, h1, h2.mono e⟩
    | own ds => exact absurd (List.all_eq_true.mp no _ (List.mem_of_getElem? hs)) (by simp)
    | sto => exact k
    | raw v => exact k, I.dj⟩
theorem en_ans {c : Ecl} {T : List (Addr × Str)} {t : XK → TE} {R Rv : Dt → Prop} {PE : Exc → Prop} (hT : C.T = T) (no : noOwn Γ = true) (h : ∀ C' E, Le C C' → Eh C' E c PE → EvN C' (t E) Γ Rv)
    (kR : ∀ d, Rv d → R (.tup [.str "told", d])) (kE : ∀ x, PE x → R (ansD x)) : EvN C (tLamT T (TAns c) t) Γ R := fun σ F H I Q q => by
  subst hT
  refine ⟨I.tb, fun H1 e tb => ?_⟩
  have I1 := I.lam e tb
  obtain ⟨J, le⟩ := I1.base2 no
  have hE : Eh { C with F0 := F, H0 := H1 } (fun cls d H' => ∃ x, ERep c H' cls d x ∧ ∀ r H2, Same H' H2 → H' r = none → H2 r = some (.tup (ansV x)) → Q (.ref r) H2) c PE := by
    intro σ' F' H' Γ' cls dd x I' er px
    refine ⟨x, er, fun r H2 sm hr e2 => ?_⟩
    have eF : Same F F' := I'.f0
    have K1 := le _ _ _ _ (J.again I' no eF)
    have fr : F' r = none := free_F I'.fh hr
    have g : Grow F' H' (upd F' r (.tup (ansV x))) H2 := ⟨same_upd fr, fun a o z => by
      by_cases n : a = r
      · subst n
        rw [upd_same] at z
        rw [e2]
        exact z
      · rw [upd_ne n] at z
        exact sm _ _ (I'.fh _ _ z), sm, fun a n z => by
      rw [upd_ne (fun w => n (by rw [w]; exact hr))]
      exact z⟩
    exact q (.ref r) _ H2 (ansD x) (K1.grow g) (eF.trans g.ff) (.tup upd_same (ans_reps x)) (kE x px)
  refine h _ _ le hE σ F H1 J _ fun v F2 H2 d I2 s2 r2 k2 => ⟨by show 2 ≤ sizeLine; decide, fun p hp => ?_⟩
  have I3 := le _ _ _ _ I2
  have g := grow_new (o := .tup [.str "told", v]) I3.fh hp
  exact q (.ref p) _ _ _ (I3.grow g) (s2.trans g.ff) (.tup upd_same (.cons (.str _) (.cons (r2.mono g.ff) .nil))) (kR d k2)
end
end Wk
-- D35
namespace Wk
open PySem PySem.Spec
open PyProof.Rows L2
section
variable {P : Program}
variable {w : World} {K : PySem.W.Frag} {mg : Str → Option Value} {base : Heap}
/-! ### what the spans are -/
theorem sp_rule {p0 : Rat × Rat} {l : Rows} {a b : Rat} {r : Rule} (hab : a ≤ b) (h0 : l ≠ []) (hr : IsRule (p0 :: l) r) : spRows p0 l a b = ruleRows r a b := (spRows_track hab h0).uniq (rule_track hr)
/-- what the law expects of the spans -/
def DueD (p0 : Rat × Rat) (l : Rows) (a b : Rat) (e : Dt) : Prop := (manyA p0 l a b ∧ e = .tup [.str "TooMany", .int 200]) ∨ ((¬ manyA p0 l a b) ∧ e = .tup [.str "told", .lst ((spRows p0 l a b).map rowD)])
theorem due_rule {p0 : Rat × Rat} {l : Rows} {f s a b : Rat} (h : IsRule (p0 :: l) (some (f, some s))) (nm : ¬ manyA p0 l a b) : ¬ 400 ≤ numHi f s b - numLo f s a := fun z => by
  have := few (a := a) (b := b) h fun p hp hne => Classical.byContradiction fun y => nm ⟨p, hp, hne, by omega⟩
  have e : numHi f s b - numLo f s a = ((b - f) / s).floor - cei ((a - f) / s) := rfl
  omega
end
end Wk
-- Core15
/-! _law_answer. -/
namespace Wk
open PySem PySem.Spec
open PyProof.Rows L2 LamX
section
variable {X : Cx}
theorem answer_body {Z : Cx} {W : WX} {tl : XK → Hp → VK → Prop} {f c' : Addr} {q : Str} {p1 p2 p3 p4 p5 : Pos} {k m : Nat}
    (act : ∀ (E : XK), (∀ cls d σ' H', E cls d H' → W cls d σ' H') → PE Z (.Call (.Name "_law_call" p1) [] [] p2) (fun σZ HZ Q => σZ[0]? = some (some (.ref f)) ∧ HZ c' = some (CodeO c' q) ∧ tl E HZ Q)) :
    PSs Z [.Return (some (.Tuple [.Constant (.str "told") k p3, .Call (.Name "_law_call" p1) [] [] p2] m p4)) p5] (fun D σ H => ∃ Ech : XK, (∀ cls d σ' H', Ech cls d H' → W cls d σ' H') ∧ σ[0]? = some (some (.ref f)) ∧ H c' = some (CodeO c' q) ∧
      tl Ech H fun v H' => [V.str "told", v].length ≤ sizeLine ∧ ∀ p, H' p = none → D.rt (.ref p) (upd H' p (.tup [.str "told", v]))) := by
  (refine ⟨fun pins s σ H D I h => ?_⟩)
  obtain ⟨Ech, hW, h1, h2, h3⟩ := h
  have hq : PSs Z [.Return (some (.Tuple [.Constant (.str "told") k p3, .Call (.Name "_law_call" p1) [] [] p2] m p4)) p5] _ := pss_one (ps_ret (pe_tup (pa_cons pe_str (pa_cons (act Ech hW) pa_nil))))
  exact hq.run pins s σ H D I ⟨h1, h2, h3⟩
end
theorem Reps.ansV {F : Hp} {x : Exc} {vs : List V} (r : Reps F vs (ansL x)) : vs = ansV x := by
  cases x with
  | bad z =>
    cases r with
    | cons h1 r =>
      cases r with
      | cons h2 r =>
        cases r
        rw [h1.str_inv, h2.str_inv] <;> rfl
  | many n =>
    cases r with
    | cons h1 r =>
      cases r with
      | cons h2 r =>
        cases r
        rw [h1.str_inv, h2.int_inv] <;> rfl
  | endless =>
    cases r with
    | cons h1 r =>
      cases r with
      | cons h2 r =>
        cases r
        rw [h1.str_inv, h2.non_inv] <;> rfl
abbrev noF : Hp := fun _ => none
theorem rt_ans {x : Exc} {H : Hp} {rt : VK} (hq : ∀ r H2, Same H H2 → H r = none → H2 r = some (.tup (ansV x)) → rt (.ref r) H2) : Rt (ctx0 noF H) rt (fun e => e = ansD x) := fun σ F H2 Γ v d I r p => by
  subst p
  obtain ⟨a, vs, rfl, hF, rs⟩ := r.tup_inv
  have ev := rs.ansV
  subst ev
  refine hq a H2 (fun b o e => I.hh b o e (fun z => z) (fun q z => absurd z (by simp [ctx0]))) ?_ (I.fh _ _ hF)
  cases e : H a with
  | none => rfl
  | some o =>
    have n : (ctx0 noF H).H0 a ≠ none := by
      show H a ≠ none
      rw [e]
      simp
    have := I.fn a n rfl
    rw [hF] at this
    cases this
theorem ivA {σ : L2.St} {H : Hp} {a : Addr} (hl : σ.length = 4) (h1 : σ[1]? = some (some (.ref a))) : IV (ctx0 noF H) σ noF H [.no, .raw (.ref a), .no, .no] := by
  refine ⟨fun _ z => z.elim, fun q z => absurd z (by simp [ctx0]), .refl _, fun _ _ z => (nomatch z), fun _ _ h _ _ => h, fun _ _ h => h, fun _ z => z.elim, fun q z => absurd z (by simp [ctx0]), fun q z => absurd z (by simp [ctx0]), hl, fun i s hs => ?_, fun i j d1 d2 p e1 => ?_⟩
  · have hi : i < 4 := (List.getElem?_eq_some_iff.mp hs).1
    have e : σ[i]? = some σ[i] := List.getElem?_eq_getElem (by omega)
    have : i = 0 ∨ i = 1 ∨ i = 2 ∨ i = 3 := by omega
    rcases this with rfl | rfl | rfl | rfl
    · cases Option.some.inj hs
      exact ⟨_, e, trivial⟩
    · cases Option.some.inj hs
      exact ⟨_, h1, rfl⟩
    · cases Option.some.inj hs
      exact ⟨_, e, trivial⟩
    · cases Option.some.inj hs
      exact ⟨_, e, trivial⟩
  · have hi : i < 4 := (List.getElem?_eq_some_iff.mp e1).1
    have : i = 0 ∨ i = 1 ∨ i = 2 ∨ i = 3 := by omega
    rcases this with rfl | rfl | rfl | rfl <;> cases Option.some.inj e1
theorem PSs.parts {X : Cx} {body : List Stmt} {t : TS} (h : ∀ D σ H, t D σ H → σ.length = X.N.length → ∃ t', PSs X body t' ∧ t' D σ H) : PSs X body t := ⟨fun pins s σ H D I z => by
  obtain ⟨t', h1, h2⟩ := h D σ H z I.len
  exact h1.run pins s σ H D I h2⟩
theorem nx_at {C : Ctx} {σ : L2.St} {F H : Hp} {Γ : List Slot} {t : TS} {D : Ends} (I : IV C σ F H Γ) (h : NX C (t D) Γ) : t D σ H := h σ F H I
theorem ed_isX {H : Hp} {K : PySem.W.Frag} {Γ : List Slot} {D a : Addr} {dd : Option Addr} {c : V} {cv : Value} {b : Bool} (hs : Γ[1]? = some (.raw (.ref a))) (hd : ∀ b, dd = some b → ∃ o, H b = some o) (hc : ∀ u, RelV c u → u = cv) (hk : PySem.W.kitOne K (.ref D) cv = some b) :
    EvD (ctx0 noF H) (tCB (fun xs H Q => (∀ b, dd = some b → ∃ o, H b = some o) ∧ rIsE K D a xs H Q) (tCons (tVar 1) (tCons (tC c) tNil))) Γ (.bl b) := fun σ F H' I Q q => by
  obtain ⟨o, ho, k⟩ := I.sl 1 _ hs
  have k' : o = some (.ref a) := k
  subst k'
  exact ⟨.ref a, ho, fun b e => (hd b e).elim fun o z => ⟨o, I.hh b o z (fun z => z) (fun q z => absurd z (by simp [ctx0]))⟩, c, cv, b, rfl, hc, hk, q _ F H' _ I (.refl _) (.bl b) rfl⟩
theorem ed_xfX {H : Hp} {Γ : List Slot} {a D dd : Addr} {n : Str} {v : V} {d : Dt} (hs : Γ[1]? = some (.raw (.ref a))) (hd : H dd = some (.xd [(n, v)])) (r : Rep noF v d) : EvD (ctx0 noF H) (tXf a (.ref D) (some dd) D n (tVar 1)) Γ d := fun σ F H' I Q q => by
  obtain ⟨o, ho, k⟩ := I.sl 1 _ hs
  have k' : o = some (.ref a) := k
  subst k'
  exact ⟨.ref a, ho, rfl, rfl, dd, _, v, rfl, I.hh dd _ hd (fun z => z) (fun q z => absurd z (by simp [ctx0])), by simp, q v F H' d I (.refl _) (r.mono I.f0) rfl⟩
def tsA (K : PySem.W.Frag) : Addr → Value → Option Addr → TS := fun a cls d D σ H => ∃ x, ERep (ecl K) H cls d x ∧ (∃ σ0 : L2.St, σ = σ0.set 1 (some (.ref a))) ∧ ∀ r H2, Same H H2 → H r = none → H2 r = some (.tup (ansV x)) → D.rt (.ref r) H2
abbrev NA : List Str := ["_law_call", "e", "_law_others", "_law_rows"]
theorem answer_gives {X : Cx} (B : Bs X.K X.mg) {g : Addr} {cdg : Value} {q : Str} : GivesTo X NA "_law_answer" (defScope (top 113)) g cdg (defBody (top 113)) "_law_call" q (TAns (ecl X.K)) := by
  intro f c' s H Q tl act hc h
  have nd : (NA : List Str).Nodup := by decide +kernel
  refine ⟨_, pss_one (ps_try_as (X := (cxOf C8.CX0 X.prog X.w X.K X.mg X.base NA "_law_answer" (defScope (top 113)) g cdg X.A X.stack s H C8.E0).nox) (c := .ref (He.ga X.K "SkyError")) (i := 1) (Wout := fun _ _ _ _ => False)
    (tb := fun W D σ H => ∃ Ech : XK, (∀ cls d σ' H', Ech cls d H' → W cls d σ' H') ∧ σ[0]? = some (some (.ref f)) ∧ H c' = some (CodeO c' q) ∧
      tl Ech H fun v H' => [V.str "told", v].length ≤ sizeLine ∧ ∀ p, H' p = none → D.rt (.ref p) (upd H' p (.tup [.str "told", v])))
    (ts := tsA X.K) rfl rfl nd rfl rfl ⟨rfl, by decide, .inl B.g_SkyError⟩ L2.takes0 (fun W pn xe tk _ => answer_body fun E hW => act W pn xe E _ _ tk hW) (fun a oe cls d pn hz hf => ?_)), ?_⟩
  · refine PSs.parts fun D σ H hh hlen => ?_
    obtain ⟨x, er, ⟨σ0, hσ⟩, hq⟩ := hh
    have hl : σ.length = 4 := hlen
    have h1 : σ[1]? = some (some (.ref a)) := by
      rw [hσ] at hl ⊢
      rw [List.length_set] at hl
      exact List.getElem?_set_self (by omega)
    have I := ivA (H := H) hl h1
    cases x with
    | bad z =>
      obtain ⟨rfl, dd, rfl, ed⟩ := er
      have hd : ∀ b, some dd = some b → ∃ o, H b = some o := fun b e => by cases Option.some.inj e; exact ⟨_, ed⟩
      have isx : ∀ {E : Str} {Γ : List Slot}, E ∈ others → Γ[1]? = some (.raw (.ref a)) → EvD (ctx0 noF H) (tCB (fun xs H Q => (∀ b, some dd = some b → ∃ o, H b = some o) ∧ rIsE X.K (He.ga X.K "BadValue") a xs H Q) (tCons (tVar 1) (tCons (tC (.ref (He.ga X.K E))) tNil))) Γ (.bl (decide (("BadValue" : Str) = E))) := fun hE hs => ed_isX hs hd (fun u z => z) (B.x_BadValue.ot _ hE)
      have ive : ∀ {Γ : List Slot}, Γ[1]? = some (.raw (.ref a)) → EvD (ctx0 noF H) (tCB (fun xs H Q => (∀ b, some dd = some b → ∃ o, H b = some o) ∧ rIsE X.K (He.ga X.K "BadValue") a xs H Q) (tCons (tVar 1) (tCons (tC (.ty "ValueError")) tNil))) Γ (.bl true) := fun hs => ed_isX hs hd (fun u z => z) B.x_BadValue.ve
      have vx : ∀ {Γ : List Slot}, Γ[1]? = some (.raw (.ref a)) → EvD (ctx0 noF H) (tXf a (.ref (He.ga X.K "BadValue")) (some dd) (He.ga X.K "BadValue") "what" (tVar 1)) Γ _ := fun hs => ed_xfX hs ed (.str z)
      refine ⟨_, (pss_cons (ps_set (i := 2) nd rfl (Or.inl rfl) (pe_lst (pa_cons (pe_callB (call_isX (B.x_BadValue.c) hz hf) (by rfl) B.z_isinstance (by decide +kernel) (pa_cons (pv 1) (pa_cons (pe_glob (v := .ref _) rfl B.g_Mismatch rfl) pa_nil))) (pa_cons (pe_callB (call_isX (B.x_BadValue.c) hz hf) (by rfl) B.z_isinstance (by decide +kernel) (pa_cons (pv 1) (pa_cons (pe_glob (v := .ref _) rfl B.g_Still rfl) pa_nil))) (pa_cons (pe_callB (call_isX (B.x_BadValue.c) hz hf) (by rfl) B.z_isinstance (by decide +kernel) (pa_cons (pv 1) (pa_cons (pe_glob (v := .ref _) rfl B.g_NoName rfl) pa_nil))) (pa_cons (pe_callB (call_isX (B.x_BadValue.c) hz hf) (by rfl) B.z_isinstance (by decide +kernel) (pa_cons (pv 1) (pa_cons (pe_glob (v := .ref _) rfl B.g_Taken rfl) pa_nil))) (pa_cons (pe_callB (call_isX (B.x_BadValue.c) hz hf) (by rfl) B.z_isinstance (by decide +kernel) (pa_cons (pv 1) (pa_cons (pe_glob (v := .ref _) rfl B.g_Locked rfl) pa_nil))) (pa_cons (pe_callB (call_isX (B.x_BadValue.c) hz hf) (by rfl) B.z_isinstance (by decide +kernel) (pa_cons (pv 1) (pa_cons (pe_glob (v := .ref _) rfl B.g_Looped rfl) pa_nil))) (pa_cons (pe_callB (call_isX (B.x_BadValue.c) hz hf) (by rfl) B.z_isinstance (by decide +kernel) (pa_cons (pv 1) (pa_cons (pe_glob (v := .ref _) rfl B.g_Broken rfl) pa_nil))) (pa_cons (pe_callB (call_isX (B.x_BadValue.c) hz hf) (by rfl) B.z_isinstance (by decide +kernel) (pa_cons (pv 1) (pa_cons (pe_glob (v := .ref _) rfl B.g_ReadError rfl) pa_nil))) pa_nil))))))))))
      (pss_cons (ps_set (i := 3) nd rfl (Or.inl rfl) (pe_lst pa_nil))
      (pss_cons (ps_if (pt_val (pe_callB (call_isX (B.x_BadValue.c) hz hf) (by rfl) B.z_isinstance (by decide +kernel) (pa_cons (pv 1) (pa_cons (pe_glob (v := .ref _) rfl B.g_BadValue rfl) pa_nil)))) (pss_one (ps_expr (pe_bm PySem.F.plainAttrs_list PySem.F.slot_list_append PySem.F.type_list_append mt_append (pv 3) (pa_cons (pe_tup (pa_cons pe_str (pa_cons (pe_xf B.f_BadValue.x B.f_BadValue.n hz hf (pv 1)) pa_nil))) pa_nil)))) pss_nil)
      (pss_cons (ps_if (pt_val (pe_callB (call_isX (B.x_BadValue.c) hz hf) (by rfl) B.z_isinstance (by decide +kernel) (pa_cons (pv 1) (pa_cons (pe_glob (v := .ref _) rfl B.g_TooMany rfl) pa_nil)))) (pss_one ps_never) pss_nil)
      (pss_cons (ps_if (pt_val (pe_callB (call_isX (B.x_BadValue.c) hz hf) (by rfl) B.z_isinstance (by decide +kernel) (pa_cons (pv 1) (pa_cons (pe_glob (v := .ref _) rfl B.g_Endless rfl) pa_nil)))) (pss_one ps_never) pss_nil)
      (pss_cons (ps_if (PW.pt (pw_or (pt_cmpR op_ne (pe_callB call_len_seq (by rfl) B.z_len (by decide +kernel) (pa_cons (pv 3) pa_nil)) pe_int (nomark _)) (pw_or (pt_cmpR op_in_seq pe_bl (pv 2) (by rfl)) (pw_or1 (pt_not (pt_val (pe_callB (call_isX (B.x_BadValue.c) hz hf) (by rfl) B.z_isinstance (by decide +kernel) (pa_cons (pv 1) (pa_cons (pe_bltn (v := .ty "ValueError") rfl B.z_ValueError (by decide +kernel) rfl) pa_nil))))))))) (pss_one ps_never) pss_nil)
      (pss_one (ps_ret (pe_ix ix_list (pv 3) pe_int (fun _ _ => rfl)))))))))), nx_at I ?_⟩
      refine sq_asgO (ds := [decide (("BadValue" : Str) = "Mismatch"), decide (("BadValue" : Str) = "Still"), decide (("BadValue" : Str) = "NoName"), decide (("BadValue" : Str) = "Taken"), decide (("BadValue" : Str) = "Locked"), decide (("BadValue" : Str) = "Looped"), decide (("BadValue" : Str) = "Broken"), decide (("BadValue" : Str) = "ReadError")].map Dt.bl) (eld_lst (ea_cons (isx (E := "Mismatch") (by simp [others]) rfl) (ea_cons (isx (E := "Still") (by simp [others]) rfl) (ea_cons (isx (E := "NoName") (by simp [others]) rfl) (ea_cons (isx (E := "Taken") (by simp [others]) rfl) (ea_cons (isx (E := "Locked") (by simp [others]) rfl) (ea_cons (isx (E := "Looped") (by simp [others]) rfl) (ea_cons (isx (E := "Broken") (by simp [others]) rfl) (ea_cons (isx (E := "ReadError") (by simp [others]) rfl) ea_nil))))))))) ?_
      refine nx_freeze (i := 2) rfl ?_
      refine sq_asgO (eld_lst ea_nil) ?_
      refine sq_yes (etd_B (isx (E := "BadValue") (by simp [others]) rfl)) (by decide +kernel) ?_
      refine nx_app rfl (ed_tup (ea_cons ed_str (ea_cons (vx rfl) ea_nil))) (by decide) ?_
      refine sq_no (etd_B (isx (E := "TooMany") (by simp [others]) rfl)) (by decide +kernel) ?_
      refine sq_no (etd_B (isx (E := "Endless") (by simp [others]) rfl)) (by decide +kernel) ?_
      refine sq_no (etd_or (a := false) (etd_test (EvN.is (ed_neI (ed_lenO rfl) ed_int) rfl)) fun _ => etd_or (a := false) (etd_test (EvN.is (ed_inB ed_bl (ed_var rfl)) (congrArg Dt.bl (by decide +kernel)))) fun _ => etd_not (etd_B (ive rfl))) rfl ?_
      exact nx_ret (rt_ans hq) (ed_ixO rfl ed_int rfl) rfl
    | many n =>
      obtain ⟨rfl, dd, rfl, ed⟩ := er
      have hd : ∀ b, some dd = some b → ∃ o, H b = some o := fun b e => by cases Option.some.inj e; exact ⟨_, ed⟩
      have isx : ∀ {E : Str} {Γ : List Slot}, E ∈ others → Γ[1]? = some (.raw (.ref a)) → EvD (ctx0 noF H) (tCB (fun xs H Q => (∀ b, some dd = some b → ∃ o, H b = some o) ∧ rIsE X.K (He.ga X.K "TooMany") a xs H Q) (tCons (tVar 1) (tCons (tC (.ref (He.ga X.K E))) tNil))) Γ (.bl (decide (("TooMany" : Str) = E))) := fun hE hs => ed_isX hs hd (fun u z => z) (B.x_TooMany.ot _ hE)
      have ive : ∀ {Γ : List Slot}, Γ[1]? = some (.raw (.ref a)) → EvD (ctx0 noF H) (tCB (fun xs H Q => (∀ b, some dd = some b → ∃ o, H b = some o) ∧ rIsE X.K (He.ga X.K "TooMany") a xs H Q) (tCons (tVar 1) (tCons (tC (.ty "ValueError")) tNil))) Γ (.bl true) := fun hs => ed_isX hs hd (fun u z => z) B.x_TooMany.ve
      have vx : ∀ {Γ : List Slot}, Γ[1]? = some (.raw (.ref a)) → EvD (ctx0 noF H) (tXf a (.ref (He.ga X.K "TooMany")) (some dd) (He.ga X.K "TooMany") "limit" (tVar 1)) Γ _ := fun hs => ed_xfX hs ed (.int n)
      refine ⟨_, (pss_cons (ps_set (i := 2) nd rfl (Or.inl rfl) (pe_lst (pa_cons (pe_callB (call_isX (B.x_TooMany.c) hz hf) (by rfl) B.z_isinstance (by decide +kernel) (pa_cons (pv 1) (pa_cons (pe_glob (v := .ref _) rfl B.g_Mismatch rfl) pa_nil))) (pa_cons (pe_callB (call_isX (B.x_TooMany.c) hz hf) (by rfl) B.z_isinstance (by decide +kernel) (pa_cons (pv 1) (pa_cons (pe_glob (v := .ref _) rfl B.g_Still rfl) pa_nil))) (pa_cons (pe_callB (call_isX (B.x_TooMany.c) hz hf) (by rfl) B.z_isinstance (by decide +kernel) (pa_cons (pv 1) (pa_cons (pe_glob (v := .ref _) rfl B.g_NoName rfl) pa_nil))) (pa_cons (pe_callB (call_isX (B.x_TooMany.c) hz hf) (by rfl) B.z_isinstance (by decide +kernel) (pa_cons (pv 1) (pa_cons (pe_glob (v := .ref _) rfl B.g_Taken rfl) pa_nil))) (pa_cons (pe_callB (call_isX (B.x_TooMany.c) hz hf) (by rfl) B.z_isinstance (by decide +kernel) (pa_cons (pv 1) (pa_cons (pe_glob (v := .ref _) rfl B.g_Locked rfl) pa_nil))) (pa_cons (pe_callB (call_isX (B.x_TooMany.c) hz hf) (by rfl) B.z_isinstance (by decide +kernel) (pa_cons (pv 1) (pa_cons (pe_glob (v := .ref _) rfl B.g_Looped rfl) pa_nil))) (pa_cons (pe_callB (call_isX (B.x_TooMany.c) hz hf) (by rfl) B.z_isinstance (by decide +kernel) (pa_cons (pv 1) (pa_cons (pe_glob (v := .ref _) rfl B.g_Broken rfl) pa_nil))) (pa_cons (pe_callB (call_isX (B.x_TooMany.c) hz hf) (by rfl) B.z_isinstance (by decide +kernel) (pa_cons (pv 1) (pa_cons (pe_glob (v := .ref _) rfl B.g_ReadError rfl) pa_nil))) pa_nil))))))))))
      (pss_cons (ps_set (i := 3) nd rfl (Or.inl rfl) (pe_lst pa_nil))
      (pss_cons (ps_if (pt_val (pe_callB (call_isX (B.x_TooMany.c) hz hf) (by rfl) B.z_isinstance (by decide +kernel) (pa_cons (pv 1) (pa_cons (pe_glob (v := .ref _) rfl B.g_BadValue rfl) pa_nil)))) (pss_one ps_never) pss_nil)
      (pss_cons (ps_if (pt_val (pe_callB (call_isX (B.x_TooMany.c) hz hf) (by rfl) B.z_isinstance (by decide +kernel) (pa_cons (pv 1) (pa_cons (pe_glob (v := .ref _) rfl B.g_TooMany rfl) pa_nil)))) (pss_one (ps_expr (pe_bm PySem.F.plainAttrs_list PySem.F.slot_list_append PySem.F.type_list_append mt_append (pv 3) (pa_cons (pe_tup (pa_cons pe_str (pa_cons (pe_xf B.f_TooMany.x B.f_TooMany.n hz hf (pv 1)) pa_nil))) pa_nil)))) pss_nil)
      (pss_cons (ps_if (pt_val (pe_callB (call_isX (B.x_TooMany.c) hz hf) (by rfl) B.z_isinstance (by decide +kernel) (pa_cons (pv 1) (pa_cons (pe_glob (v := .ref _) rfl B.g_Endless rfl) pa_nil)))) (pss_one ps_never) pss_nil)
      (pss_cons (ps_if (PW.pt (pw_or (pt_cmpR op_ne (pe_callB call_len_seq (by rfl) B.z_len (by decide +kernel) (pa_cons (pv 3) pa_nil)) pe_int (nomark _)) (pw_or (pt_cmpR op_in_seq pe_bl (pv 2) (by rfl)) (pw_or1 (pt_not (pt_val (pe_callB (call_isX (B.x_TooMany.c) hz hf) (by rfl) B.z_isinstance (by decide +kernel) (pa_cons (pv 1) (pa_cons (pe_bltn (v := .ty "ValueError") rfl B.z_ValueError (by decide +kernel) rfl) pa_nil))))))))) (pss_one ps_never) pss_nil)
      (pss_one (ps_ret (pe_ix ix_list (pv 3) pe_int (fun _ _ => rfl)))))))))), nx_at I ?_⟩
      refine sq_asgO (ds := [decide (("TooMany" : Str) = "Mismatch"), decide (("TooMany" : Str) = "Still"), decide (("TooMany" : Str) = "NoName"), decide (("TooMany" : Str) = "Taken"), decide (("TooMany" : Str) = "Locked"), decide (("TooMany" : Str) = "Looped"), decide (("TooMany" : Str) = "Broken"), decide (("TooMany" : Str) = "ReadError")].map Dt.bl) (eld_lst (ea_cons (isx (E := "Mismatch") (by simp [others]) rfl) (ea_cons (isx (E := "Still") (by simp [others]) rfl) (ea_cons (isx (E := "NoName") (by simp [others]) rfl) (ea_cons (isx (E := "Taken") (by simp [others]) rfl) (ea_cons (isx (E := "Locked") (by simp [others]) rfl) (ea_cons (isx (E := "Looped") (by simp [others]) rfl) (ea_cons (isx (E := "Broken") (by simp [others]) rfl) (ea_cons (isx (E := "ReadError") (by simp [others]) rfl) ea_nil))))))))) ?_
      refine nx_freeze (i := 2) rfl ?_
      refine sq_asgO (eld_lst ea_nil) ?_
      refine sq_no (etd_B (isx (E := "BadValue") (by simp [others]) rfl)) (by decide +kernel) ?_
      refine sq_yes (etd_B (isx (E := "TooMany") (by simp [others]) rfl)) (by decide +kernel) ?_
      refine nx_app rfl (ed_tup (ea_cons ed_str (ea_cons (vx rfl) ea_nil))) (by decide) ?_
      refine sq_no (etd_B (isx (E := "Endless") (by simp [others]) rfl)) (by decide +kernel) ?_
      refine sq_no (etd_or (a := false) (etd_test (EvN.is (ed_neI (ed_lenO rfl) ed_int) rfl)) fun _ => etd_or (a := false) (etd_test (EvN.is (ed_inB ed_bl (ed_var rfl)) (congrArg Dt.bl (by decide +kernel)))) fun _ => etd_not (etd_B (ive rfl))) rfl ?_
      exact nx_ret (rt_ans hq) (ed_ixO rfl ed_int rfl) rfl
    | endless =>
      obtain ⟨rfl, rfl⟩ := er
      have hd : ∀ b, (none : Option Addr) = some b → ∃ o, H b = some o := fun b e => nomatch e
      have isx : ∀ {E : Str} {Γ : List Slot}, E ∈ others → Γ[1]? = some (.raw (.ref a)) → EvD (ctx0 noF H) (tCB (fun xs H Q => (∀ b, none = some b → ∃ o, H b = some o) ∧ rIsE X.K (He.ga X.K "Endless") a xs H Q) (tCons (tVar 1) (tCons (tC (.ref (He.ga X.K E))) tNil))) Γ (.bl (decide (("Endless" : Str) = E))) := fun hE hs => ed_isX hs hd (fun u z => z) (B.x_Endless.ot _ hE)
      have ive : ∀ {Γ : List Slot}, Γ[1]? = some (.raw (.ref a)) → EvD (ctx0 noF H) (tCB (fun xs H Q => (∀ b, none = some b → ∃ o, H b = some o) ∧ rIsE X.K (He.ga X.K "Endless") a xs H Q) (tCons (tVar 1) (tCons (tC (.ty "ValueError")) tNil))) Γ (.bl true) := fun hs => ed_isX hs hd (fun u z => z) B.x_Endless.ve
      refine ⟨_, (pss_cons (ps_set (i := 2) nd rfl (Or.inl rfl) (pe_lst (pa_cons (pe_callB (call_isX (B.x_Endless.c) hz hf) (by rfl) B.z_isinstance (by decide +kernel) (pa_cons (pv 1) (pa_cons (pe_glob (v := .ref _) rfl B.g_Mismatch rfl) pa_nil))) (pa_cons (pe_callB (call_isX (B.x_Endless.c) hz hf) (by rfl) B.z_isinstance (by decide +kernel) (pa_cons (pv 1) (pa_cons (pe_glob (v := .ref _) rfl B.g_Still rfl) pa_nil))) (pa_cons (pe_callB (call_isX (B.x_Endless.c) hz hf) (by rfl) B.z_isinstance (by decide +kernel) (pa_cons (pv 1) (pa_cons (pe_glob (v := .ref _) rfl B.g_NoName rfl) pa_nil))) (pa_cons (pe_callB (call_isX (B.x_Endless.c) hz hf) (by rfl) B.z_isinstance (by decide +kernel) (pa_cons (pv 1) (pa_cons (pe_glob (v := .ref _) rfl B.g_Taken rfl) pa_nil))) (pa_cons (pe_callB (call_isX (B.x_Endless.c) hz hf) (by rfl) B.z_isinstance (by decide +kernel) (pa_cons (pv 1) (pa_cons (pe_glob (v := .ref _) rfl B.g_Locked rfl) pa_nil))) (pa_cons (pe_callB (call_isX (B.x_Endless.c) hz hf) (by rfl) B.z_isinstance (by decide +kernel) (pa_cons (pv 1) (pa_cons (pe_glob (v := .ref _) rfl B.g_Looped rfl) pa_nil))) (pa_cons (pe_callB (call_isX (B.x_Endless.c) hz hf) (by rfl) B.z_isinstance (by decide +kernel) (pa_cons (pv 1) (pa_cons (pe_glob (v := .ref _) rfl B.g_Broken rfl) pa_nil))) (pa_cons (pe_callB (call_isX (B.x_Endless.c) hz hf) (by rfl) B.z_isinstance (by decide +kernel) (pa_cons (pv 1) (pa_cons (pe_glob (v := .ref _) rfl B.g_ReadError rfl) pa_nil))) pa_nil))))))))))
      (pss_cons (ps_set (i := 3) nd rfl (Or.inl rfl) (pe_lst pa_nil))
      (pss_cons (ps_if (pt_val (pe_callB (call_isX (B.x_Endless.c) hz hf) (by rfl) B.z_isinstance (by decide +kernel) (pa_cons (pv 1) (pa_cons (pe_glob (v := .ref _) rfl B.g_BadValue rfl) pa_nil)))) (pss_one ps_never) pss_nil)
      (pss_cons (ps_if (pt_val (pe_callB (call_isX (B.x_Endless.c) hz hf) (by rfl) B.z_isinstance (by decide +kernel) (pa_cons (pv 1) (pa_cons (pe_glob (v := .ref _) rfl B.g_TooMany rfl) pa_nil)))) (pss_one ps_never) pss_nil)
      (pss_cons (ps_if (pt_val (pe_callB (call_isX (B.x_Endless.c) hz hf) (by rfl) B.z_isinstance (by decide +kernel) (pa_cons (pv 1) (pa_cons (pe_glob (v := .ref _) rfl B.g_Endless rfl) pa_nil)))) (pss_one (ps_expr (pe_bm PySem.F.plainAttrs_list PySem.F.slot_list_append PySem.F.type_list_append mt_append (pv 3) (pa_cons (pe_tup (pa_cons pe_str (pa_cons pe_non pa_nil))) pa_nil)))) pss_nil)
      (pss_cons (ps_if (PW.pt (pw_or (pt_cmpR op_ne (pe_callB call_len_seq (by rfl) B.z_len (by decide +kernel) (pa_cons (pv 3) pa_nil)) pe_int (nomark _)) (pw_or (pt_cmpR op_in_seq pe_bl (pv 2) (by rfl)) (pw_or1 (pt_not (pt_val (pe_callB (call_isX (B.x_Endless.c) hz hf) (by rfl) B.z_isinstance (by decide +kernel) (pa_cons (pv 1) (pa_cons (pe_bltn (v := .ty "ValueError") rfl B.z_ValueError (by decide +kernel) rfl) pa_nil))))))))) (pss_one ps_never) pss_nil)
      (pss_one (ps_ret (pe_ix ix_list (pv 3) pe_int (fun _ _ => rfl)))))))))), nx_at I ?_⟩
      refine sq_asgO (ds := [decide (("Endless" : Str) = "Mismatch"), decide (("Endless" : Str) = "Still"), decide (("Endless" : Str) = "NoName"), decide (("Endless" : Str) = "Taken"), decide (("Endless" : Str) = "Locked"), decide (("Endless" : Str) = "Looped"), decide (("Endless" : Str) = "Broken"), decide (("Endless" : Str) = "ReadError")].map Dt.bl) (eld_lst (ea_cons (isx (E := "Mismatch") (by simp [others]) rfl) (ea_cons (isx (E := "Still") (by simp [others]) rfl) (ea_cons (isx (E := "NoName") (by simp [others]) rfl) (ea_cons (isx (E := "Taken") (by simp [others]) rfl) (ea_cons (isx (E := "Locked") (by simp [others]) rfl) (ea_cons (isx (E := "Looped") (by simp [others]) rfl) (ea_cons (isx (E := "Broken") (by simp [others]) rfl) (ea_cons (isx (E := "ReadError") (by simp [others]) rfl) ea_nil))))))))) ?_
      refine nx_freeze (i := 2) rfl ?_
      refine sq_asgO (eld_lst ea_nil) ?_
      refine sq_no (etd_B (isx (E := "BadValue") (by simp [others]) rfl)) (by decide +kernel) ?_
      refine sq_no (etd_B (isx (E := "TooMany") (by simp [others]) rfl)) (by decide +kernel) ?_
      refine sq_yes (etd_B (isx (E := "Endless") (by simp [others]) rfl)) (by decide +kernel) ?_
      refine nx_app rfl (ed_tup (ea_cons ed_str (ea_cons ed_non ea_nil))) (by decide) ?_
      refine sq_no (etd_or (a := false) (etd_test (EvN.is (ed_neI (ed_lenO rfl) ed_int) rfl)) fun _ => etd_or (a := false) (etd_test (EvN.is (ed_inB ed_bl (ed_var rfl)) (congrArg Dt.bl (by decide +kernel)))) fun _ => etd_not (etd_B (ive rfl))) rfl ?_
      exact nx_ret (rt_ans hq) (ed_ixO rfl ed_int rfl) rfl
  · refine ⟨fun cls d H' => ∃ x, ERep (ecl X.K) H' cls d x ∧ ∀ r H2, Same H' H2 → H' r = none → H2 r = some (.tup (ansV x)) → Q (.ref r) H2, fun cls d σ' H' hx => ?_, rfl, hc, h⟩
    obtain ⟨x, er, hq⟩ := hx
    have key : PySem.W.exmOne X.K cls (.ref (He.ga X.K "SkyError")) = some true := by
      cases x with
      | bad z =>
        rw [er.1]
        exact B.x_BadValue.sky
      | many n =>
        rw [er.1]
        exact B.x_TooMany.sky
      | endless =>
        rw [er.1]
        exact B.x_Endless.sky
    exact ⟨true, key, fun _ a _ => ⟨x, er, ⟨σ', rfl⟩, hq⟩, fun z => nomatch z⟩
end Wk
-- Core16
/-! sorted(xs, key=lambda one: one[0] * (scale // one[1])). -/
namespace Wk
open PySem PySem.Spec
open PyProof.Rows L2 LamX
/-- a lambda with one parameter, no other name of its own -/
structure Lam1 (sc scope : Scope) (a : Str) : Prop where
  kind : scope.kind = .function
  co : (scope.isCoroutine = false)
  gen : (scope.isGenerator = false)
  nocell : ∀ y ∈ scope.names, y.2 ≠ .cell
  par : scope.names.lookup a = some .local
  free : (∀ y ∈ scope.names, y.2 = .free → sc.names.lookup y.1 = some .cell ∨ sc.names.lookup y.1 = some .free)
def lam1B (sc scope : Scope) (a : Str) : Bool :=
  decide (scope.kind = .function) && (!scope.isCoroutine && (!scope.isGenerator && ((scope.names.all fun y => !decide (y.2 = .cell)) && (decide (scope.names.lookup a = some .local) && scope.names.all fun y => !decide (y.2 = .free) || (decide (sc.names.lookup y.1 = some .cell) || decide (sc.names.lookup y.1 = some .free))))))
theorem lam1_by {sc scope : Scope} {a : Str} (h : lam1B sc scope a = true) : Lam1 sc scope a := by
  unfold lam1B at h
  (simp only [Bool.and_eq_true, Bool.or_eq_true, Bool.not_eq_true', decide_eq_true_eq, decide_eq_false_iff_not, List.all_eq_true] at h)
  obtain ⟨h1, h2, h3, h4, h5, h6⟩ := h
  refine ⟨h1, h2, h3, h4, h5, fun y hy e => ?_⟩
  rcases h6 y hy with z | z
  · exact absurd e z
  · exact z
abbrev keyE (one two : Str) (p1 p2 p3 p4 p5 p6 p7 p8 p9 : Pos) (k1 k2 : Nat) : Expr := .BinOp (.Subscript (.Name one p1) (.Constant (.int 0) k1 p2) p3) .Mult (.BinOp (.Name two p4) .FloorDiv (.Subscript (.Name one p5) (.Constant (.int 1) k2 p6) p7) p8) p9
section
variable {prog : Program}
variable {w : World} {A : Around} {E : Value → Shared → Prop} {s : Shared}
/-- the key of one item -/
theorem key_eval {env : Env} {m : Str → Option Value} {one two : Str} {t c : Addr} {n d sc : Int} {t1 t2 t3 : Tok} {p1 p2 p3 p4 p5 p6 p7 p8 p9 : Pos} {k1 k2 : Nat} {Q : Value → Shared → Prop}
    (hk : env.scope.kind = .function) (l1 : env.kindOf one = some .local) (l2 : env.kindOf two = some .free) (hn : s.heap.Ns env.locals m) (hm : m one = some (.ref t)) (hc : env.cells.lookup two = some c) (hcell : s.heap.IsCell c (some (.int sc t3)))
    (ht : IsTup s.heap t #[.int n t1, .int d t2]) (hd : CDivZ sc d) (hmul : CMulW n (sc.fdiv d)) (d1 : (one == ("__debug__" : Str)) = false) (d2 : (two == ("__debug__" : Str)) = false) (d3 : (two == ("__classdict__" : Str)) = false)
    (h : ∀ tk tok, Q (.int (n * sc.fdiv d) tok) { s with toks := tk }) : wpAny (model prog w) A (eval (keyE one two p1 p2 p3 p4 p5 p6 p7 p8 p9 k1 k2) env) Q E s := by
  have l63 := line63
  have sub : ∀ {q1 q2 q3 : Pos} {kk : Nat} {i : Nat} {x : Value} {R : Value → Shared → Prop} (s' : Shared), s'.heap = s.heap → (#[Value.int n t1, Value.int d t2] : Array Value)[i]? = some x → i < 2 → (∀ tk, R x { s' with toks := tk }) →
      wpAny (model prog w) A (eval (.Subscript (.Name one q1) (.Constant (.int (i : Int)) kk q2) q3) env) R E s' := fun {q1 q2 q3 kk i x R} s' hs hx hi hR => by
    refine Subscript_ (wpAny_Name (wpAny_loadName_local hk l1 (by rw [hs]; exact hn) hm ?_) d1)
    refine wpAny_Constant_int ?_
    have ht' : IsTup s'.heap t #[.int n t1, .int d t2] := by rw [hs]; exact ht
    refine subscriptTail_builtinR (x := x) ht'.typeIs slot_tuple_getitem.lookup ?_
    refine getItem_tuple (j := i) (Q := fun r s'' => r = x ∧ R r s'') ht' (by omega) (by omega) ?_ hx ⟨rfl, hR _⟩
    unfold seqIndex?
    have i01 : i = 0 ∨ i = 1 := by omega
    rcases i01 with rfl | rfl <;> rfl
  refine wpAny_BinOp (sub s rfl (i := 0) rfl (by decide) fun tk => ?_)
  refine wpAny_BinOp (wpAny_Name (wpAny_loadName_free hk l2 hc hcell ?_ d3) d2)
  refine sub _ rfl (i := 1) rfl (by decide) fun tk2 => ?_
  refine floordiv_int hd.1 ?_ (.inl (PyProof.noPylong_of_log2 hd.2))
  exact PyProof.Rows.mul_int (h _ _) hmul.ok
end
section
variable {X : Cx}
variable {pins : List (Addr × Obj)} {σ : L2.St} {H : Hp} {s : Shared}
theorem lam1_cell {scope : Scope} {one two : Str} {j : Nat} {sc : Int} (I : Inv X pins σ H s) (L : Lam1 X.env.scope scope one) (l2 : scope.names.lookup two = some .free) (hN : X.N[j]? = some two) (hs : σ[j]? = some (some (.int sc))) :
    ∃ c tok, (cloFrom X.env.cells scope.names []).lookup two = some c ∧ s.heap.IsCell c (some (.int sc tok)) := by
  have hy : (two, NameKind.free) ∈ scope.names := PySem.mem_of_lookup l2
  have hvis : Vis X.env.scope two := (L.free _ hy rfl).elim (fun k => .inr (.inl k)) fun k => .inr (.inr k)
  have hfree : ∀ y ∈ scope.names, y.2 = .free → ∃ c, X.env.cells.lookup y.1 = some c := fun y h e => (L.free y h e).elim (fun k => I.ok.has _ (.inl k)) fun k => I.ok.has _ (.inr k)
  obtain ⟨m, hn, hl⟩ := I.loc
  obtain ⟨u, r, q⟩ := hl j two _ hN hs hvis
  obtain ⟨tok, rfl⟩ := r
  obtain ⟨c2, h2⟩ := mem_lookup (cloFrom_has (cells := X.env.cells) (acc := []) hy)
  have c1 : X.env.cells.lookup two = some c2 := by
    rcases cloFrom_mem (PySem.mem_of_lookup h2) with hm | ⟨g1, g2⟩
    · cases hm
    · obtain ⟨c3, hc⟩ := hfree _ g1 rfl
      have hc' : X.env.cells.lookup two = some c3 := hc
      have e2 : c2 = c3 := by
        rw [g2, hc'] <;> rfl
      rw [e2]
      exact hc'
  refine ⟨c2, tok, h2, ?_⟩
  (rcases q with ⟨k', _⟩ | ⟨_, c3, e', z⟩)
  · have k' : X.env.scope.names.lookup two = some .local := k'
    rcases L.free _ hy rfl with k2 | k2 <;> rw [show X.env.scope.names.lookup two = _ from k2] at k' <;> cases k'
  · rw [c1] at e'
    cases e'
    exact z
theorem key_turn {params : Arguments} {scope : Scope} {one two : Str} {p1 p2 p3 p4 p5 p6 p7 p8 p9 : Pos} {k1 k2 : Nat} {f c' t : Addr} {pm ctv : Value} {j : Nat} {sc n d : Int} {A : Around} {h : Heap} {tk : Nat}
    (I : Inv X pins σ H s) (L : Lam1 X.env.scope scope one) (hf : s.heap.get? f = some (lamO X params (keyE one two p1 p2 p3 p4 p5 p6 p7 p8 p9 k1 k2) scope pm ctv c')) (hc : H c' = some (CodeO c' (X.env.qual ++ "<lambda>")))
    (hbind : ∀ (q : Str) (cl : List (Str × Addr)) (pm cv ctv u : Value), bindArgs (PySem.W.kla_fn "<lambda>" q params (keyE one two p1 p2 p3 p4 p5 p6 p7 p8 p9 k1 k2) scope cl pm cv ctv) ⟨[u], []⟩ = pure [(one, u)])
    (l2 : scope.names.lookup two = some .free) (hN : X.N[j]? = some two) (hs : σ[j]? = some (some (.int sc))) (ht : H t = some (.tup [.int n, .int d])) (hd : CDivZ sc d) (hmul : CMulW n (sc.fdiv d)) (hA : A.depth < recursionLimit)
    (kp : ∀ b o, s.heap.get? b = some o → h.get? b = some o) (d1 : (one == ("__debug__" : Str)) = false := by decide) (d2 : (two == ("__debug__" : Str)) = false := by decide) (d3 : (two == ("__classdict__" : Str)) = false := by decide) :
    wpAny (model X.prog X.w) A (call (.ref f) [.ref t]) (PySem.W.KeyPure (.int (n * sc.fdiv d)) { s with heap := h, toks := tk }) (fun _ _ => False) { s with heap := h, toks := tk } := by
  obtain ⟨cc, tok, hcl, hcell⟩ := lam1_cell I L l2 hN hs
  obtain ⟨its, rv, pl, _⟩ := I.tuple (xs := [.int n, .int d]) (.inl (.inl ht))
  obtain ⟨t1, t2, rfl⟩ : ∃ t1 t2, its = [.int n t1, .int d t2] := by
    cases rv with
    | cons r1 rv =>
      cases rv with
      | cons r2 rv =>
        cases rv
        obtain ⟨a, rfl⟩ := r1
        obtain ⟨b, rfl⟩ := r2
        exact ⟨a, b, rfl⟩
  obtain ⟨⟨oc, vs, tq, hoc, hdc, hvc⟩, _, _⟩ := I.hok c' _ hc
  have rc : codeAny (model X.prog X.w) A (.call (.ref f) ⟨[.ref t], []⟩) (fun r s' => ∃ u, r = .ok (.ret u) ∧ PySem.W.KeyPure (.int (n * sc.fdiv d)) { s with heap := h, toks := tk } u s') { s with heap := h, toks := tk } := by
    refine PySem.W.kla_callFunE hA (kp _ _ hf) rfl L.co L.gen rfl ⟨c', oc, vs, tq, rfl, kp _ _ hoc, hdc, hvc⟩ ?_
    rw [hbind]
    refine wpAny_pure (wpAny_newFunctionEnv L.nocell (fun y hy => by rw [List.mem_singleton.mp hy]; exact L.par) (fun h₁ hns hsb => ⟨(I.nolimit.keeps kp).fresh _ hsb, ?_⟩) L.kind)
    have kp2 : ∀ b o, h.get? b = some o → h₁.get? b = some o := fun b o e => hsb.extBut b o (Nat.ne_of_lt (Heap.lt_size e)) (Heap.get?_push_of_some _ e)
    have kp3 : ∀ b o, s.heap.get? b = some o → h₁.get? b = some o := fun b o e => kp2 b o (kp b o e)
    refine PySem.W.kla_codeExpr (key_eval (t := t) (c := cc) (n := n) (d := d) (sc := sc) (t1 := t1) (t2 := t2) (t3 := tok) L.kind L.par l2 hns ?_ hcl ?_ ?_ hd hmul d1 d2 d3 fun tk' tk2 => ⟨_, rfl, _, _, rfl, kp2, .int _ _⟩)
    · simp
    · obtain ⟨o, ho, z⟩ := hcell
      exact ⟨o, kp3 _ _ ho, z⟩
    · exact pl.keeps kp3
  exact wpAny_call (codeAny_mono rc fun r s' ⟨u, e, k⟩ => by subst e; exact k)
end
theorem vals_each : ∀ {xs : List V} {us : List Value}, Vals xs us → PySem.W.EachIs (fun (u : Value) (y : V) => RelV y u) us xs
  | _, _, .nil => .nil
  | _, _, .cons r t => .cons r (vals_each t)
theorem each_vals : ∀ {us : List Value} {xs : List V}, PySem.W.EachIs (fun (u : Value) (y : V) => RelV y u) us xs → Vals xs us
  | _, _, .nil => .nil
  | _, _, .cons r t => .cons r (each_vals t)
def tSortLam (K : PySem.W.Frag) (T : List (Addr × Str)) (j : Nat) (te : TA) : TE := fun σ H Q => te σ H fun vs H1 => Tabs T H1 ∧ ∀ H2, ExtT T H1 H2 → Tabs T H2 → ∃ (a : Addr) (xs : List V) (sc : Int) (kf : V → Int), vs = [.ref a] ∧ SqL K H2 a xs ∧ xs.length ≤ 1000 ∧ σ[j]? = some (some (.int sc)) ∧
  (∀ y ∈ xs, ∃ t n d, y = .ref t ∧ H2 t = some (.tup [.int n, .int d]) ∧ CDivZ sc d ∧ CMulW n (sc.fdiv d) ∧ kf y = n * sc.fdiv d) ∧ ∀ p, H2 p = none → Q (.ref p) (upd H2 p (.lst (xs.mergeSort fun y z => decide (kf y ≤ kf z))))
section
variable {X : Cx}
theorem pe_sortLam {T : List (Addr × Str)} {c P : Addr} {k j : Nat} {e : Expr} {te : TA} {params : Arguments} {scope : Scope} {one two : Str} {p lpos pos kpos p1 p2 p3 p4 p5 p6 p7 p8 p9 : Pos} {k1 k2 : Nat}
    (hg : Gl X "sorted") (hm : X.mg "sorted" = none) (ha : PA X [e] te) (TB : TabB X.base X.mg c P) (hcode : X.env.code = .ref c) (hmT : (P, X.env.qual ++ "<lambda>") ∈ T) (hu : ∀ p ∈ T, p.1 = P → p.2 = X.env.qual ++ "<lambda>") (hr : Room k X.A)
    (L : Lam1 X.env.scope scope one) (hdef : defaultsOf params X.env = ([], [])) (hbind : ∀ (q : Str) (cl : List (Str × Addr)) (pm cv ctv u : Value), bindArgs (PySem.W.kla_fn "<lambda>" q params (keyE one two p1 p2 p3 p4 p5 p6 p7 p8 p9 k1 k2) scope cl pm cv ctv) ⟨[u], []⟩ = pure [(one, u)])
    (l2 : scope.names.lookup two = some .free) (hN : X.N[j]? = some two) (d1 : (one == ("__debug__" : Str)) = false := by decide) (d2 : (two == ("__debug__" : Str)) = false := by decide) (d3 : (two == ("__classdict__" : Str)) = false := by decide)
    (he : backTo pos (starEach [e] X.env) = (false, eval e X.env) :: backTo pos (starEach [] X.env) := by rfl) (hpl : (backTo pos (starEach [e] X.env)).any (·.1) = false := by rfl) :
    PE X (.Call (.Name "sorted" p) [e] [⟨some "key", .Lambda params (keyE one two p1 p2 p3 p4 p5 p6 p7 p8 p9 k1 k2) scope lpos, kpos⟩] pos) (tSortLam X.K T j te) := by
  (refine ⟨fun pins s σ H Q I h => ?_⟩)
  refine wpAny_Call_Name_kw (ld_blt (u := .builtin "sorted") I hg hm (by decide +kernel) ?_ (by decide) (by decide))
  refine PyProof.Rows.callWith_kw (thn (ha.run pos pins s σ H _ I h) fun us s1 ⟨vs, H1, I1, r1, hT, q1⟩ => ?_) he hpl (by rfl) (by rfl)
  show wpAny _ _ (evalAll ((do let v ← eval (.Lambda params (keyE one two p1 p2 p3 p4 p5 p6 p7 p8 p9 k1 k2) scope lpos) X.env; standAt pos; pure v) :: [])) _ _ s1
  have hfree : ∀ y ∈ scope.names, y.2 = .free → ∃ c, X.env.cells.lookup y.1 = some c := fun y h e => (L.free y h e).elim (fun k => I.ok.has _ (.inl k)) fun k => I.ok.has _ (.inr k)
  refine wpAny_evalAll_cons (wpAny_bind (lam_made I1 TB hcode hmT hu hT hdef hfree fun f c' pm ctv H2 s2 J eT T2 hf hfn hfr hco => wpAny_bind (wpAny_standAt (wpAny_pure (wpAny_evalAll_nil ?_)))))
  obtain ⟨a, xs, sc, kf, rfl, hS, hlen, hsc, hits, hq⟩ := q1 H2 eT T2
  obtain rfl := Vals.ref1 r1
  obtain ⟨its, rv, hl, hz⟩ := J.list hS
  have hun := hr.un
  have hdp := hr.dp
  refine PySem.W.sorted_key_data (β := V) (bs := xs) (b := false) (fun y => .int (kf y)) hl.isList (vals_each rv) (PySem.W.AllAlike.of fun _ _ => by simp [PySem.W.alike]) (PySem.W.Sortable.others fun y => ⟨fun z => PyData.noConfusion z, fun _ z => PyData.noConfusion z⟩) hz
    (fun y _ => by simp only [PyData.depth]; omega) (PyProof.Rows.ksk_s1 _ _) (fun _ => PyProof.Rows.ksk_l1 _ _) (fun _ => PyProof.Rows.ksk_t1 _ _) (fun u y hR hy h tk kp => ?_) fun out cc h' tk kp fresh hD hol eo => ?_
  · obtain ⟨t, n, d, rfl, ht, hd, hmul, ek⟩ := hits y hy
    obtain rfl : u = Value.ref t := hR
    rw [ek]
    exact key_turn J L hf hco hbind l2 hN hsc ht hd hmul (by show X.A.depth < _; omega) kp d1 d2 d3
  · rw [PySem.W.dataLe_int] at eo
    have hv := each_vals eo
    exact ⟨.ref _, upd H2 (s2.heap.objs.size + 1) (.lst (xs.mergeSort fun y z => decide (kf y ≤ kf z))), J.laid (t' := tk) kp (Nat.le_succ _) ⟨by rw [List.length_mergeSort]; exact hz, out, _, hv, hD⟩, rfl, hq _ (J.hok.fresh (Nat.le_succ _))⟩
end
end Wk
-- Core17
/-! Defs that make lambdas: what they lean on; calls with keywords; the sorted pair. -/
namespace Wk
open PySem PySem.Spec
open PyProof.Rows L2 LamX
def tabD (K : PySem.W.Frag) : Bool := decide ((tf.map fun p => (He.cT K p).2).Nodup)
structure Bt (K : PySem.W.Frag) (mg : Str → Option Value) (base : Heap) : Prop where
  b : Bs K mg
  dt : tabD K = true
  tb : ∀ p ∈ tf, TabB base mg (He.cT K p).1 (He.cT K p).2
abbrev qT (p : He.Defn) : Str := (p.1 ++ ".<locals>.") ++ "<lambda>"
def T0 (K : PySem.W.Frag) : List (Addr × Str) := tf.map fun p => ((He.cT K p).2, qT p)
theorem nodup_inj {α β : Type} {f : α → β} : ∀ {l : List α}, (l.map f).Nodup → ∀ {x y : α}, x ∈ l → y ∈ l → f x = f y → x = y
  | [], _, _, _, hx, _, _ => absurd hx (by simp)
  | a :: l, h, x, y, hx, hy, e => by
    (rw [List.map_cons, List.nodup_cons] at h)
    obtain ⟨h1, h2⟩ := h
    rcases List.mem_cons.mp hx with ex | hx1
    · rcases List.mem_cons.mp hy with ey | hy1
      · rw [ex, ey]
      · rw [ex] at e
        exact absurd (List.mem_map.mpr ⟨y, hy1, e.symm⟩) h1
    · rcases List.mem_cons.mp hy with ey | hy1
      · rw [ey] at e
        exact absurd (List.mem_map.mpr ⟨x, hx1, e⟩) h1
      · exact nodup_inj h2 hx1 hy1 e
section
variable {K : PySem.W.Frag} {mg : Str → Option Value} {base : Heap}
theorem t0_mem {d : He.Defn} (hd : d ∈ tf) : ((He.cT K d).2, qT d) ∈ T0 K := List.mem_map.mpr ⟨d, hd, rfl⟩
theorem Bt.hu (B : Bt K mg base) {d : He.Defn} (hd : d ∈ tf) : ∀ p ∈ T0 K, p.1 = (He.cT K d).2 → p.2 = qT d := fun p hp e => by
  obtain ⟨d', h1, rfl⟩ := List.mem_map.mp hp
  have h2 : ((tf.map fun p => (He.cT K p).2)).Nodup := of_decide_eq_true B.dt
  have e3 := nodup_inj h2 h1 hd e
  rw [e3]
end
section
variable {P : Program} {w : World} {K : PySem.W.Frag} {mg : Str → Option Value} {base : Heap} {CX : CXT}
theorem cl_ofT {x : Str} {st : Stmt} {k : Nat} {sp : Sp} {N ps : List Str} (hf : ∃ fd, FunD K x x (defArgs st) (defBody st) (defScope st) [] [] (He.ga K x) fd) (hm : mg x = some (.ref (He.ga K x))) (hs : C8.scC N ps (defScope st) = true)
    (hb : ∀ (kV doc pm : Value) (an : Option Addr) (cdv ct : Value) (us : List Value), us.length = ps.length → bindArgs (PySem.W.fnOf x x (defArgs st) (defBody st) (defScope st) .none kV doc pm an cdv ct) ⟨us, []⟩ = pure (ps.zip us)) (len : ∀ vs H Q E, sp vs H Q E → vs.length = ps.length)
    (hbody : ∀ (f : Addr) (A : Around) (outer : List Env) (s : Shared) (H : Hp) (vs : List V) (Q : VK) (E : XK), Room k (A.deeper (envOfC x (defScope st) s.heap.objs.size f (.ref (He.cT K (x, none)).1))) → sp vs H Q E →
      ∃ t, PSs (cxOf CX P w K mg base N x (defScope st) f (.ref (He.cT K (x, none)).1) A outer s H E) (defBody st) t ∧ t { nx := fun _ H' => Q .non H', rt := Q } (L2.start N vs) H) : Cl P w K mg base CX (k + 1) x sp [] := by
  obtain ⟨fd, F⟩ := hf
  obtain ⟨oc, od, dV, kV, doc, pm, an, cdv, ct, osl, rfl, lk, hcd, hD, _⟩ := F.ex
  obtain ⟨c, rfl⟩ := He.codeIn_ref hcd
  have e : (He.cT K (x, none)).1 = c := He.codeOf_eq (p := (x, none)) lk rfl
  subst e
  exact ⟨He.ga K x, _, ps, [], fn_of lk hcd (C8.fnScope_by hs) len (fun A outer s H vs Q E hr h => hbody _ A outer s H vs Q E hr h), hm, F.kp, F.bindsN hb, .nil⟩
end
section
variable {X : Cx} {CX : CXT} {k j n : Nat} {x : Str} {sp : Sp} {ks : List Str} {p pos : Pos} {e : Expr} {es : List Expr} {kws : List Keyword} {t tk : TA} {E : XK}
/-- f(e, .., k = v, ..) -/
theorem pe_ck (c : Ck X.prog X.w X.K X.mg X.base CX k x sp n ks) (hr : Room j X.A) (hk : k ≤ j) (hx : Passes CX X E) (ha : PA X (e :: es) t) (hkw : PK X kws tk) (hg : Gl X x := by rfl) (hall : (backToKw pos (keywordEach kws X.env)).all (·.1.isSome) = true := by rfl) (hks : (backToKw pos (keywordEach kws X.env)).filterMap (·.1) = ks := by rfl) (hdb : (x == ("__debug__" : Str)) = false := by decide) (he : starEach (e :: es) X.env = (false, eval e X.env) :: starEach es X.env := by rfl) (hpl : ((backTo pos (starEach (e :: es) X.env)).any (·.1) || (backToKw pos (keywordEach kws X.env)).any (·.1.isNone)) = false := by rfl) :
    PE X (.Call (.Name x p) (e :: es) kws pos) (tCallN n ks.length sp (fun vs zs => vs ++ zs) E t tk) := by
  obtain ⟨f, fd, ps, F, hm, kp, b⟩ := c.ex
  exact pe_callN F (hr.mono hk) hg hm kp b hx ha hkw hall hks hdb he hpl
/-- _law_answer(lambda: ..) -/
theorem pe_ans {T : List (Addr × Str)} {c P : Addr} {params : Arguments} {body : Expr} {scope : Scope} {tl : XK → TE} {lpos : Pos} (B : Bs X.K X.mg) (TB : TabB X.base X.mg c P) (hcode : X.env.code = .ref c) (hmT : (P, X.env.qual ++ "<lambda>") ∈ T) (hu : ∀ p ∈ T, p.1 = P → p.2 = X.env.qual ++ "<lambda>") (hr : Room (k + 2) X.A)
    (L : LamS X.env.scope scope) (hdef : defaultsOf params X.env = ([], [])) (hbind : ∀ (q : Str) (cl : List (Str × Addr)) (pm cv ctv : Value), bindArgs (PySem.W.kla_fn "<lambda>" q params body scope cl pm cv ctv) ⟨[], []⟩ = pure [])
    (hbody : ∀ (A : Around) (outer : List Env) (s : Shared) (H : Hp) (E : XK) (f c' : Addr), Room k (A.deeper (lamEnv X scope s.heap.objs.size f c')) → PE (lamCx X A outer s H E scope f c') body (tl E)) (hg : Gl X "_law_answer" := by rfl) :
    PE X (.Call (.Name "_law_answer" p) [.Lambda params body scope lpos] [] pos) (tLamT T (TAns (ecl X.K)) tl) := by
  obtain ⟨fd, F⟩ := B.d_law_answer
  obtain ⟨oc, od, dV, kV, doc, pm, an, cdv, ct, osl, rfl, lk, hcd, hD, _⟩ := F.ex
  exact pe_lamT (Ng := NA) hg B.g_law_answer F.kp lk hcd (F.bindsN (fun _ _ _ _ _ _ us hl => match us, hl with | [_], _ => rfl)) (C8.fnScope_by (by decide +kernel)) rfl (Or.inl rfl) (answer_gives B) TB hcode hmT hu hr L hdef hbind hbody
end
section
variable {C : Ctx} {K : PySem.W.Frag} {Γ : List Slot} {ta tk : TA} {te : TE} {ds es : List Dt} {R : Dt → Prop} {E : XK} {c : Ecl} {n m : Nat}
theorem notOwn_grow {σ : L2.St} {F H F2 H2 : Hp} {p : Addr} (I : IV C σ F H Γ) (g : Grow F H F2 H2) (h : H p = none) : ¬ Owns σ Γ p := notOwn_new I h
theorem en_ckX {Rl : RelX} {PEo : Exc → Prop} (hE : Eh C E c PEo) (ha : EaD C ta Γ ds) (hk : EaD C tk Γ es) (hn : ds.length = n) (hm : es.length = m) (h : ∃ PE, Rl (ds ++ es) R PE ∧ ∀ x, PE x → PEo x) : EvN C (tCallN n m (spX c Rl) (fun vs zs => vs ++ zs) E ta tk) Γ R := fun σ F H I Q q =>
  ha σ F H I _ fun vs F1 H1 d1 I1 s1 r1 k1 => hk σ F1 H1 I1 _ fun zs F2 H2 d2 I2 s2 r2 k2 => by
    subst k1 k2
    obtain ⟨PE, h1, h2⟩ := h
    exact ⟨r1.length.trans hn, r2.length.trans hm, F2, d1 ++ d2, R, PE, I2.fh, (r1.mono s2).append r2, h1, fun v F3 H3 d g rv kd => q v F3 H3 d (I2.grow g) ((s1.trans s2).trans g.ff) rv kd, fun cls dd H3 x sm er px =>
      hE σ F2 H3 Γ cls dd x (I2.grow ⟨.refl _, I2.fh.trans sm, sm, fun _ _ z => z⟩) er (h2 x px)⟩
theorem el_ckL {Rl : RelL} {Rs : List Dt → Prop} {PEo : Exc → Prop} (hE : Eh C E c PEo) (ha : EaD C ta Γ ds) (hk : EaD C tk Γ es) (hn : ds.length = n) (hm : es.length = m) (h : ∃ PE, Rl (ds ++ es) Rs PE ∧ ∀ x, PE x → PEo x) : EvL C (tCallN n m (spL c Rl) (fun vs zs => vs ++ zs) E ta tk) Γ Rs := fun σ F H I Q q =>
  ha σ F H I _ fun vs F1 H1 d1 I1 s1 r1 k1 => hk σ F1 H1 I1 _ fun zs F2 H2 d2 I2 s2 r2 k2 => by
    subst k1 k2
    obtain ⟨PE, h1, h2⟩ := h
    exact ⟨r1.length.trans hn, r2.length.trans hm, F2, d1 ++ d2, Rs, PE, I2.fh, (r1.mono s2).append r2, h1, fun p xs F3 H3 es g h3 h4 h5 rv kd => q p xs F3 H3 es (I2.grow g) ((s1.trans s2).trans g.ff) h3 h4 (I2.fresh0 h5) (notOwn_grow I2 g h5) rv kd, fun cls dd H3 x sm er px =>
      hE σ F2 H3 Γ cls dd x (I2.grow ⟨.refl _, I2.fh.trans sm, sm, fun _ _ z => z⟩) er (h2 x px)⟩
end
end Wk
-- Core18
/-! The sorted pair of fractions; fractions compared. -/
namespace Wk
open PySem PySem.Spec
open PyProof.Rows L2 LamX
theorem frRep {F : Hp} {v : V} {q : Rat} (r : Rep F v (fr q)) : ∃ a, v = .ref a ∧ F a = some (.tup [.int q.num, .int (q.den : Int)]) := by
  obtain ⟨a, vs, rfl, hF, rs⟩ := r.tup_inv
  have e := Reps.ints (ns := [q.num, (q.den : Int)]) rs
  rw [e] at hF
  exact ⟨a, rfl, hF⟩
theorem rat_ext {q r : Rat} : q = r ↔ q.num = r.num ∧ (q.den : Int) = (r.den : Int) := ⟨fun h => by rw [h]; exact ⟨rfl, rfl⟩, fun ⟨h1, h2⟩ => Rat.ext h1 (by omega)⟩
/-- the key of a fraction, by the whole number that both dividers divide -/
def kfOf (F : Hp) (sc : Int) : V → Int
  | .ref t => match F t with
    | some (.tup [.int n, .int d]) => n * sc.fdiv d
    | _ => 0
  | _ => 0
theorem kf_at {F : Hp} {sc : Int} {t : Addr} {n d : Int} (h : F t = some (.tup [.int n, .int d])) : kfOf F sc (.ref t) = n * sc.fdiv d := by
  show (match F t with
    | some (.tup [.int n, .int d]) => n * sc.fdiv d
    | _ => 0) = _
  rw [h]
theorem key_rat {q : Rat} {k : Nat} (hk : q.den ∣ k) : ((q.num * ((k : Int).fdiv (q.den : Int)) : Int) : Rat) = q * (k : Rat) := by
  obtain ⟨c, rfl⟩ := hk
  have e : (((q.den * c : Nat) : Int)).fdiv (q.den : Int) = (c : Int) := by
    rw [Int.natCast_mul, Int.mul_fdiv_cancel_left _ (by have := q.den_nz; omega)]
  rw [e, Rat.intCast_mul, Rat.natCast_mul, Rat.intCast_natCast]
  have h : (q.num : Rat) = q * ((q.den : Nat) : Rat) := by
    have h1 := Rat.mkRat_self q
    rw [Rat.mkRat_eq_div] at h1
    have h2 : ((q.den : Nat) : Rat) ≠ 0 := fun z => q.den_nz (Rat.natCast_inj.mp z)
    have h3 := Rat.div_mul_cancel (a := (q.num : Rat)) h2
    rw [h1] at h3
    exact h3.symm
  rw [h]
  grind
theorem key_le {q r : Rat} {k : Nat} (k0 : k ≠ 0) (hq : q.den ∣ k) (hr : r.den ∣ k) : (q.num * ((k : Int).fdiv (q.den : Int)) ≤ r.num * ((k : Int).fdiv (r.den : Int))) ↔ q ≤ r := by
  rw [← Rat.intCast_le_intCast, key_rat hq, key_rat hr]
  have kp : (0 : Rat) < (k : Rat) := Rat.natCast_pos.mpr (by omega)
  constructor
  · intro h
    rw [Rat.mul_comm q, Rat.mul_comm r] at h
    exact Rat.le_of_mul_le_mul_left h kp
  · intro h
    exact Rat.mul_le_mul_of_nonneg_right h (Rat.le_of_lt kp)
theorem sort2 {le : V → V → Bool} {x y : V} : [x, y].mergeSort le = if le x y then [x, y] else [y, x] := by
  simp [List.mergeSort, List.MergeSort.Internal.splitInTwo, List.merge]
section
variable {C : Ctx} {K : PySem.W.Frag} {Γ : List Slot} {ta tb te : TE}
theorem ed_neP {q r : Rat} (ha : EvD C ta Γ (fr q)) (hb : EvD C tb Γ (fr r)) : EvD C (tOp (rNeD K) ta tb) Γ (.bl (!decide (q = r))) :=
  en_op ha hb fun d e k1 k2 σ F H I x y r1 r2 Q h => by
    subst k1 k2
    obtain ⟨a, rfl, hF⟩ := frRep r1
    obtain ⟨b, rfl, hG⟩ := frRep r2
    refine ⟨.tuple [.int q.num, .int (q.den : Int)], .tuple [.int r.num, .int (r.den : Int)], .tup (.inl (.inl (I.fh _ _ hF))) (.cons (.int _) (.cons (.int _) .nil)), .tup (.inl (.inl (I.fh _ _ hG))) (.cons (.int _) (.cons (.int _) .nil)), rfl, rfl, ?_⟩
    have e : PyData.eqv (.tuple [.int q.num, .int (q.den : Int)]) (.tuple [.int r.num, .int (r.den : Int)]) = decide (q = r) := by
      by_cases h : q = r
      · rw [decide_eq_true h, h]
        simp [PyData.eqv, PyData.eqvAll]
      · rw [decide_eq_false h]
        have n := fun z => h (rat_ext.mpr z)
        by_cases h1 : q.num = r.num
        · have h2 : ¬ (q.den : Int) = (r.den : Int) := fun z => n ⟨h1, z⟩
          simp [PyData.eqv, PyData.eqvAll, h1]
          omega
        · simp [PyData.eqv, PyData.eqvAll, h1]
    rw [e]
    exact h _ F H _ I (.refl _) (.bl _) rfl
/-- the two, the lesser first -/
def ord2 (q r : Rat) : List Dt := if q ≤ r then [fr q, fr r] else [fr r, fr q]
theorem ed_sort2 {T : List (Addr × Str)} {j : Nat} {q r : Rat} {n m k : Nat} (hT : C.T = T) (h : EvD C te Γ (.lst [fr q, fr r])) (hj : Γ[j]? = some (.val (.int (k : Int)))) (k0 : k ≠ 0) (hq : q.den ∣ k) (hr : r.den ∣ k) (kb : k < 2 ^ (n + m)) (bq : Bd n q) (br : Bd m r) (hs : n + m ≤ 4000) :
    EvD C (tSortLam K T j (tCons te tNil)) Γ (.lst (ord2 q r)) := fun σ F H I Q qq => by
  subst hT
  refine h σ F H I _ fun v F1 H1 d I1 s1 r1 k1 => ?_
  subst k1
  obtain ⟨a, vs, rfl, hF, rs⟩ := r1.lst_inv
  refine ⟨I1.tb, fun H2 eT T2 => ?_⟩
  have I2 := I1.lam eT T2
  obtain ⟨o, ho, v2, rfl, rv2⟩ := I2.sl j _ hj
  cases rv2.int_inv
  cases rs with
  | cons rx rs =>
    cases rs with
    | cons ry rs =>
      cases rs
      obtain ⟨x, rfl, hx⟩ := frRep rx
      obtain ⟨y, rfl, hy⟩ := frRep ry
      have n0 := bq.pos
      have m0 := br.pos
      have ok : ∀ {p : Rat} {i : Nat}, Bd i p → p.den ∣ k → i ≤ n + m → CDivZ (k : Int) (p.den : Int) ∧ CMulW p.num ((k : Int).fdiv (p.den : Int)) := fun {p i} bp dp hi => by
        refine ⟨dv_nat p.den_nz bp.2 (by omega), mw_ii (n := i) (m := n + m) bp.1 ?_ bp.pos (by omega) (by omega)⟩
        rw [fdiv_den]
        exact Nat.lt_of_le_of_lt (Int.natAbs_ediv_le_natAbs _ _) (by rw [Int.natAbs_natCast]; exact kb)
      refine ⟨a, [.ref x, .ref y], (k : Int), kfOf F1 (k : Int), rfl, .inl (.inl (I2.fh _ _ hF)), by show 2 ≤ 1000; decide, ho, fun z hz => ?_, fun p hp => ?_⟩
      · simp only [List.mem_cons, List.not_mem_nil, or_false] at hz
        rcases hz with rfl | rfl
        · exact ⟨x, _, _, rfl, I2.fh _ _ hx, (ok bq hq (by omega)).1, (ok bq hq (by omega)).2, kf_at hx⟩
        · exact ⟨y, _, _, rfl, I2.fh _ _ hy, (ok br hr (by omega)).1, (ok br hr (by omega)).2, kf_at hy⟩
      · rw [sort2, kf_at hx, kf_at hy]
        have hle := key_le k0 hq hr
        have fin : ∀ ws, Reps F1 ws (ord2 q r) → Q (.ref p) (upd H2 p (.lst ws)) := fun ws rws => by
          have g := grow_new (o := .lst ws) I2.fh hp
          exact qq _ _ _ _ (I2.grow g) (s1.trans g.ff) (.lst upd_same (rws.mono g.ff)) rfl
        by_cases hc : q ≤ r
        · rw [if_pos (decide_eq_true (hle.mpr hc))]
          refine fin _ ?_
          unfold ord2
          rw [if_pos hc]
          exact .cons rx (.cons ry .nil)
        · rw [if_neg (fun z => hc (hle.mp (of_decide_eq_true z)))]
          refine fin _ ?_
          unfold ord2
          rw [if_neg hc]
          exact .cons ry (.cons rx .nil)
/-- int() of a truth value, behind a call -/
theorem two_up {q r : Rat} : ∃ x y, x ≤ y ∧ ord2 q r = [fr x, fr y] ∧ ((x = q ∧ y = r) ∨ (x = r ∧ y = q)) := by
  by_cases h : q ≤ r
  · exact ⟨q, r, h, by unfold ord2; rw [if_pos h], .inl ⟨rfl, rfl⟩⟩
  · exact ⟨r, q, by grind, by unfold ord2; rw [if_neg h], .inr ⟨rfl, rfl⟩⟩
end
section
variable {X : Cx} {K : PySem.W.Frag}
theorem pe_ciK {CX : CXT} {k j : Nat} {x : Str} {sp : Sp} {p pos : Pos} {e : Expr} {es : List Expr} {t : TA} {E : XK} (c : Ci X.prog X.w X.K X.mg X.base CX k x sp) (hr : Room j X.A) (hk : k + 1 ≤ j) (hx : Passes CX X E) (ha : PA X (e :: es) t) (hK : X.K = K := by rfl) (hg : Gl X x := by rfl) (hdb : (x == ("__debug__" : Str)) = false := by decide) (he : starEach (e :: es) X.env = (false, eval e X.env) :: starEach es X.env := by rfl) (hpl : (backTo pos (starEach es X.env)).any (·.1) = false := by rfl) :
    PE X (.Call (.Name x p) (e :: es) [] pos) (tMake (He.ga K x) sp [] E t) := by
  subst hK
  exact pe_ci c hr hk hx ha hg hdb he hpl
theorem call_list_ofK (h : X.K = K := by rfl) : CallR X (.type "list") (fun xs H Q => ∃ p ys, xs = [.ref p] ∧ (SqL K H p ys ∨ SqT K H p ys) ∧ ∀ l, H l = none → Q (.ref l) (upd H l (.lst ys))) := by
  subst h
  exact call_list_of
theorem call_tuple_ofK (h : X.K = K := by rfl) : CallR X (.type "tuple") (fun xs H Q => ∃ p ys, xs = [.ref p] ∧ ((SqL K H p ys ∧ ∀ l, H l = none → Q (.ref l) (upd H l (.tup ys))) ∨ (SqT K H p ys ∧ Q (.ref p) H))) := by
  subst h
  exact call_tuple_of
end
end Wk
-- D36
namespace Wk
open PySem PySem.Spec
open PyProof.Rows L2
section
variable {P : Program}
variable {w : World} {K : PySem.W.Frag} {mg : Str → Option Value} {base : Heap}
/-! ### the sorted pair -/
def ordL (q r : Rat) : List Dt := if q = r then [fr q] else if q < r then [fr q, fr r] else [fr r, fr q]
theorem ordL_up {q r x y : Rat} (hxy : x ≤ y) (h : (x = q ∧ y = r) ∨ (x = r ∧ y = q)) : ordL q r = if x = y then [fr x] else [fr x, fr y] := by
  unfold ordL
  rcases h with ⟨rfl, rfl⟩ | ⟨rfl, rfl⟩
  · by_cases e : x = y
    · rw [if_pos e, if_pos e]
    · rw [if_neg e, if_neg e, if_pos (by grind)]
  · by_cases e : x = y
    · rw [if_pos e.symm, if_pos e, e]
    · rw [if_neg (fun z => e z.symm), if_neg e, if_neg (by grind)]
def Rl_ordered : Rel := fun zs0 Pz => ∃ (q r : Rat) (n m : Nat), zs0 = [.lst [fr q, fr r]] ∧ (Bd n q ∧ Bd m r ∧ n + m ≤ 4000) ∧ Pz = (fun e => e = .lst (ordL q r))
theorem len_ordered : ∀ ds Post, Rl_ordered ds Post → ds.length = 1 := fun _ _ ⟨_, _, _, _, e, _⟩ => by rw [e]; rfl
theorem ok_law_ordered (Bq : Bt K mg base) : Cl P w K mg base CX0 3 "_law_ordered" (spT (T0 K) Rl_ordered) [] := by
  have B := Bq.b
  refine cl_ofT (N := ["_law_fracs", "_law_scale_here", "_law_out", "_law_value"]) (ps := ["_law_fracs"]) B.d_law_ordered B.g_law_ordered (by decide +kernel) (fun _ _ _ _ _ _ us hl => match us, hl with | [_], _ => rfl)
    (len_T len_ordered) fun f A outer s H vs Q E hr h => ?_
  have nd : (["_law_fracs", "_law_scale_here", "_law_out", "_law_value"] : List Str).Nodup := by decide +kernel
  refine ⟨_, PSs.nox (pss_cons (ps_set (i := 1) nd rfl (by first | exact Or.inl rfl | exact Or.inr rfl) (pe_cl (ok_law_scale B) hr (by decide) pass0 (pa_cons (pv 0) pa_nil)))
  (pss_cons (ps_set (i := 2) nd rfl (by first | exact Or.inl rfl | exact Or.inr rfl) (pe_lst pa_nil))
  (pss_cons (ps_for PassesOwn.never rfl (pi_list (pe_sortLam (j := 1) rfl B.z_sorted (pa_cons (pv 0) pa_nil) (Bq.tb _ (by decide +kernel : (("_law_ordered", none) : He.Defn) ∈ tf)) rfl (t0_mem (d := ("_law_ordered", none)) (by decide +kernel)) (Bq.hu (d := ("_law_ordered", none)) (by decide +kernel)) hr (lam1_by (by show lam1B (defScope (top 101)) _ _ = true; decide +kernel)) rfl (fun _ _ _ _ _ _ => rfl) rfl rfl)) (pg_name (i := 3) nd rfl (by first | exact Or.inl rfl | exact Or.inr rfl)) (pss_one (ps_if (PW.pt (pw_or (pt_not (pt_truth (pv 2) (by intro _; rfl))) (pw_or1 (pt_cmpR (op_neD hr.units) (pe_ix ix_list (pv 2) (pe_un un_neg pe_int) (fun _ _ => rfl)) (pv 3) (nomark _))))) (pss_one (ps_expr (pe_bm PySem.F.plainAttrs_list PySem.F.slot_list_append PySem.F.type_list_append mt_append (pv 2) (pa_cons (pv 3) pa_nil)))) pss_nil)))
  (pss_one (ps_ret (pv 2)))))), enterT h fun C ds Post hT hR hrt => ?_⟩
  obtain ⟨q, r, n, m, rfl, ⟨hq, hr2, hs⟩, rfl⟩ := hR
  show NX C _ [.val (.lst [fr q, fr r]), .no, .no, .no]
  refine sq_asgN (en_callD (ea_cons (ed_var rfl) ea_nil) ⟨q, r, n, m, rfl, ⟨hq, hr2, hs⟩, rfl⟩) ?_
  rintro _ ⟨k, rfl, k0, kq, kr, kb⟩
  refine sq_asgO (eld_lst ea_nil) ?_
  have hit := ei_list (K := K) (ed_sort2 (C := C) (K := K) (T := T0 K) (Γ := [.val (.lst [fr q, fr r]), .val (.int (k : Int)), .own [], .no]) (te := tVar 0) (j := 1) hT (ed_var rfl) rfl k0 kq kr kb hq hr2 hs)
  obtain ⟨x, y, hxy, e2, hor⟩ := two_up (q := q) (r := r)
  rw [ordL_up hxy hor] at hrt
  rw [e2] at hit
  clear e2 hor
  have key : ∀ (ds : List Dt) (z : Rat) {C' : Ctx} {N : L2.St → Hp → Prop} {D : Ends} {b : Bool} {t : TT}, Le C C' → D.nx = N → EtD C' t [.val (.lst [fr q, fr r]), .val (.int (k : Int)), .own ds, .val (fr z)] b → ds.length < 1000 → (b = true → NX C' N [.val (.lst [fr q, fr r]), .val (.int (k : Int)), .own (ds ++ [fr z]), .no]) → (b = false → NX C' N [.val (.lst [fr q, fr r]), .val (.int (k : Int)), .own ds, .no]) →
      NX C' (tIfS t (tDrop (tBM K "list" rAppend (tVar 2) (tCons (tVar 3) tNil))) tNext D) [.val (.lst [fr q, fr r]), .val (.int (k : Int)), .own ds, .val (fr z)] := fun ds z {C' N D b t} le e ht hl h1 h2 => by
    subst e
    exact nx_if ht (fun hb => nx_app rfl (ed_var rfl) hl ((h1 hb).wk (.keep (.keep (.keep (.drop .nil)))))) fun hb => (h2 hb).wk (.keep (.keep (.keep (.drop .nil))))
  refine sq_for hit (fun i => [.val (.lst [fr q, fr r]), .val (.int (k : Int)), .own (if i = 0 then [] else if i = 1 then [fr x] else if x = y then [fr x] else [fr x, fr y]), .no]) (.refl _) (fun C' le i hi N hN => ⟨_, [3], asg_name, ?_⟩) ?_
  · have i01 : i = 0 ∨ i = 1 := by
      have : i < 2 := hi
      omega
    rcases i01 with rfl | rfl
    · exact key [] x le rfl (etd_or1 (etd_not (etd_truO rfl)) rfl) (by decide) (fun _ => hN) (fun z => nomatch z)
    · refine key [fr x] y le rfl (etd_or (a := false) (EvT.is (etd_not (etd_truO (ds := [fr x]) rfl)) rfl) fun _ => etd_test (ed_neP (ed_ixO (d := fr x) rfl (ed_neg ed_int) rfl) (ed_var rfl))) (by show 1 < 1000; decide) (fun hb => ?_) fun hb => ?_
      · have n : ¬ x = y := by simpa using hb
        have h := hN
        simp only [if_neg n] at h
        exact h
      · have n : x = y := by simpa using hb
        have h := hN
        simp only [if_pos n] at h
        exact h
  · refine nx_freeze (i := 2) rfl ?_
    exact nx_ret hrt (ed_var rfl) rfl
end
end Wk
-- D37
namespace Wk
open PySem PySem.Spec
open PyProof.Rows L2
section
variable {P : Program}
variable {w : World} {K : PySem.W.Frag} {mg : Str → Option Value} {base : Heap}
noncomputable def nearMany (p0 p : Rat × Rat) (a b : Rat) : Int := if p.1 - p0.1 = 0 then (if nearB [p0, p] a then 1 else 0) else wHi (p.1 - p0.1) (p.2 - p0.2) a b - wLo (p.1 - p0.1) (p.2 - p0.2) a b + 1
theorem nearMany_many {p0 p : Rat × Rat} {a b : Rat} : 200 < nearMany p0 p a b ↔ manyL (p.1 - p0.1) (p.2 - p0.2) a b := by
  unfold nearMany manyL
  by_cases h : p.1 - p0.1 = 0
  · rw [if_pos h]
    constructor
    · intro z
      split at z <;> omega
    · intro z
      exact absurd h z.1
  · rw [if_neg h]
    exact ⟨fun z => ⟨h, z⟩, fun z => z.2⟩
theorem ordL_ends {r t a b : Rat} (h0 : r ≠ 0) (hab : a ≤ b) : atI (ordL (t + r * a) (t + r * b)) (-1) = some (fr (r * hiB r a b + t)) ∧ atI (ordL (t + r * a) (t + r * b)) 0 = some (fr (r * loB r a b + t)) := by
  unfold ordL hiB loB
  by_cases hr : 0 < r
  · have hle : r * a ≤ r * b := Rat.mul_le_mul_of_nonneg_left hab (Rat.le_of_lt hr)
    rw [if_pos hr, if_pos hr, Rat.add_comm (r * b) t, Rat.add_comm (r * a) t]
    by_cases e : t + r * a = t + r * b
    · rw [if_pos e, ← e]
      exact ⟨rfl, rfl⟩
    · rw [if_neg e, if_pos (by grind)]
      exact ⟨rfl, rfl⟩
  · have hle : (-r) * a ≤ (-r) * b := Rat.mul_le_mul_of_nonneg_left hab (by grind)
    rw [if_neg hr, if_neg hr, Rat.add_comm (r * b) t, Rat.add_comm (r * a) t]
    by_cases e : t + r * a = t + r * b
    · rw [if_pos e, ← e]
      exact ⟨rfl, rfl⟩
    · rw [if_neg e, if_neg (by grind)]
      exact ⟨rfl, rfl⟩
def Rl_near_many : Rel := fun zs0 Pz => ∃ (p0 p : Rat × Rat) (a b : Rat), zs0 = [rowD p0, rowD p, fr 0, .tup [fr a, fr b]] ∧ (RowOk p0 ∧ RowOk p ∧ Bd 500 a ∧ Bd 500 b ∧ a ≤ b) ∧ Pz = (fun e => e = .int (nearMany p0 p a b))
theorem len_near_many : ∀ ds Post, Rl_near_many ds Post → ds.length = 4 := fun _ _ ⟨_, _, _, _, e, _⟩ => by rw [e]; rfl
theorem ok_law_near_many (Bq : Bt K mg base) : Cl P w K mg base CX0 6 "_law_near_many" (spT (T0 K) Rl_near_many) [] := by
  have B := Bq.b
  refine cl_ofT (N := ["_law_lead", "_law_row", "_law_width", "_law_ends", "_law_pair", "_law_gaps_of"]) (ps := ["_law_lead", "_law_row", "_law_width", "_law_ends"]) B.d_law_near_many B.g_law_near_many (by decide +kernel) (fun _ _ _ _ _ _ us hl => match us, hl with | [_, _, _, _], _ => rfl)
    (len_T len_near_many) fun f A outer s H vs Q E hr h => ?_
  have nd : (["_law_lead", "_law_row", "_law_width", "_law_ends", "_law_pair", "_law_gaps_of"] : List Str).Nodup := by decide +kernel
  refine ⟨_, PSs.nox (pss_cons (ps_set (i := 4) nd rfl (by first | exact Or.inl rfl | exact Or.inr rfl) (pe_tup (pa_cons (pe_cl (ok_law_minus B) hr (by decide) pass0 (pa_cons (pe_ix ix_tup (pv 1) pe_int (fun _ _ => rfl)) (pa_cons (pe_ix ix_tup (pv 0) pe_int (fun _ _ => rfl)) pa_nil))) (pa_cons (pe_cl (ok_law_minus B) hr (by decide) pass0 (pa_cons (pe_ix ix_tup (pv 1) pe_int (fun _ _ => rfl)) (pa_cons (pe_ix ix_tup (pv 0) pe_int (fun _ _ => rfl)) pa_nil))) pa_nil))))
  (pss_cons (ps_if (pt_cmpR op_eq (pe_ix ix_tup (pe_ix ix_tup (pv 4) pe_int (fun _ _ => rfl)) pe_int (fun _ _ => rfl)) pe_int (nomark _)) (pss_one (ps_ret (pe_callTy call_int1 (by rfl) B.z_int (by decide +kernel) (pa_cons (pe_cl (ok_law_near B) hr (by decide) pass0 (pa_cons (pe_lst (pa_cons (pv 0) (pa_cons (pv 1) pa_nil))) (pa_cons (pe_ix ix_tup (pv 3) pe_int (fun _ _ => rfl)) (pa_cons (pv 2) pa_nil)))) pa_nil)))) pss_nil)
  (pss_cons (ps_set (i := 5) nd rfl (by first | exact Or.inl rfl | exact Or.inr rfl) (pe_cl (ok_law_ordered Bq) hr (by decide) pass0 (pa_cons (pe_lst (pa_cons (pe_cl (ok_law_turns B) hr (by decide) pass0 (pa_cons (pv 4) (pa_cons (pe_ix ix_tup (pv 3) pe_int (fun _ _ => rfl)) pa_nil))) (pa_cons (pe_cl (ok_law_turns B) hr (by decide) pass0 (pa_cons (pv 4) (pa_cons (pe_ix ix_tup (pv 3) pe_int (fun _ _ => rfl)) pa_nil))) pa_nil))) pa_nil)))
  (pss_one (ps_ret (pe_op op_add (pe_op op_add (pe_cl (ok_law_floor B) hr (by decide) pass0 (pa_cons (pe_cl (ok_law_plus B) hr (by decide) pass0 (pa_cons (pe_ix ix_list (pv 5) (pe_un un_neg pe_int) (fun _ _ => rfl)) (pa_cons (pv 2) pa_nil))) pa_nil)) (pe_cl (ok_law_floor B) hr (by decide) pass0 (pa_cons (pe_cl (ok_law_minus B) hr (by decide) pass0 (pa_cons (pv 2) (pa_cons (pe_ix ix_list (pv 5) pe_int (fun _ _ => rfl)) pa_nil))) pa_nil))) pe_int)))))), enterT h fun C ds Post hT hR hrt => ?_⟩
  obtain ⟨p0, p, a, b, rfl, ⟨g0, gp, ha, hb, hab⟩, rfl⟩ := hR
  show NX C _ [.val (rowD p0), .val (rowD p), .val (fr 0), .val (.tup [fr a, fr b]), .no, .no]
  have i1 := g0.br
  have i2 := g0.bs
  have i3 := gp.br
  have i4 := gp.bs
  have ia : Bz a 500 := ⟨ha⟩
  have ib : Bz b 500 := ⟨hb⟩
  have ir : Bz (p.1 - p0.1) 18 := ⟨gp.subr g0⟩
  have it : Bz (p.2 - p0.2) 31 := ⟨gp.subs g0⟩
  refine sq_asg (ed_tup (ea_cons (ed_call (ea_cons (ed_ixT (ed_var rfl) ed_int rfl) (ea_cons (ed_ixT (ed_var rfl) ed_int rfl) ea_nil)) rl_minus) (ea_cons (ed_call (ea_cons (ed_ixT (ed_var rfl) ed_int rfl) (ea_cons (ed_ixT (ed_var rfl) ed_int rfl) ea_nil)) rl_minus) ea_nil))) ?_
  have e0 : nearMany p0 p a b = if p.1 - p0.1 = 0 then (if nearB [p0, p] a then 1 else 0) else wHi (p.1 - p0.1) (p.2 - p0.2) a b - wLo (p.1 - p0.1) (p.2 - p0.2) a b + 1 := rfl
  rw [e0] at hrt
  clear e0
  revert ir it hrt
  generalize p.1 - p0.1 = r
  generalize p.2 - p0.2 = t
  intro hrt ir it
  refine sq_when (etd_test (ed_eqI (ed_ixT (ed_ixT (ed_var rfl) ed_int rfl) ed_int rfl) ed_int)) (fun hb => ?_) fun hb => ?_
  · have hr : r = 0 := Rat.num_eq_zero.mp (of_decide_eq_true hb)
    rw [if_pos hr] at hrt
    exact nx_ret hrt (ed_intB (ed_call (ea_cons ((eld_lst (ea_cons (ed_var rfl) (ea_cons (ed_var rfl) ea_nil))).ed.is rfl) (ea_cons (ed_ixT (ed_var rfl) ed_int rfl) (ea_cons (ed_var rfl) ea_nil))) (rl_law_near (rows := [p0, p]) ⟨by show 1 ≤ 2; decide, by show 2 ≤ 6; decide, fun q hq => by
      simp only [List.mem_cons, List.not_mem_nil, or_false] at hq
      rcases hq with rfl | rfl
      · exact g0
      · exact gp⟩))) rfl
  · have hr : r ≠ 0 := fun z => (of_decide_eq_false hb) (Rat.num_eq_zero.mpr z)
    rw [if_neg hr] at hrt
    obtain ⟨e1, e2⟩ := ordL_ends (t := t) hr hab
    refine sq_asg (d := .lst (ordL (t + r * a) (t + r * b))) (en_callTD hT (ea_cons (eld_lst (ea_cons (ed_call (ea_cons (ed_var rfl) (ea_cons (ed_ixT (ed_var rfl) ed_int rfl) ea_nil)) rl_turns) (ea_cons (ed_call (ea_cons (ed_var rfl) (ea_cons (ed_ixT (ed_var rfl) ed_int rfl) ea_nil)) rl_turns) ea_nil))).ed ea_nil) ⟨_, _, _, _, rfl, ⟨bz, bz, by omega⟩, rfl⟩) ?_
    have ix : Bz (r * hiB r a b + t) 550 := ⟨by
      unfold hiB
      split
      · exact bz
      · exact bz⟩
    have iy : Bz (r * loB r a b + t) 550 := ⟨by
      unfold loB
      split
      · exact bz
      · exact bz⟩
    refine nx_ret hrt (ed_rI0 (ed_rI0 (ed_call (ea_cons (ed_call (ea_cons (ed_ixL (ed_var rfl) (ed_neg ed_int) e1) (ea_cons (ed_var rfl) ea_nil)) rl_plus) ea_nil) rl_floor) (ed_call (ea_cons (ed_call (ea_cons (ed_var rfl) (ea_cons (ed_ixL (ed_var rfl) ed_int e2) ea_nil)) rl_minus) ea_nil) rl_floor)) ed_int) ?_
    unfold wHi wLo cei
    have z1 : r * hiB r a b + t + 0 = r * hiB r a b + t := Rat.add_zero _
    have z2 : 0 - (r * loB r a b + t) = -(r * loB r a b + t) := by grind
    rw [z1, z2]
    congr 1
    omega
end
end Wk
-- D38
namespace Wk
open PySem PySem.Spec
open PyProof.Rows L2
section
variable {P : Program}
variable {w : World} {K : PySem.W.Frag} {mg : Str → Option Value} {base : Heap}
section
variable {C : Ctx} {Γ : List Slot} {D : Ends} {u : TS}
/-- a for whose turns keep the tables' list -/
theorem sq_forT {wi : TI} {tg : TG} {tb : TS} {n : Nat} {item : Nat → Dt} (hi : EvI C wi Γ n item) {ι : Type} (g : Nat → ι → List Slot) (P : Nat → ι → Prop) (x0 : ι) (p0 : P 0 x0) (h0 : Wks Γ (g 0 x0))
    (hs : ∀ C', Le C C' → C'.T = C.T → ∀ i, i < n → ∀ x, P i x → ∀ N, (∀ y, P (i + 1) y → NX C' N (g (i + 1) y)) → ∃ Γ2 vs, AsgG C' tg (item i) (g i x) Γ2 vs ∧ NX C' (tb { D with nx := N, ct := N, bk := u D }) Γ2) (hd : ∀ x, P n x → NX C (u D) (g n x)) : NX C (tSeq (tFor wi tg tb) u D) Γ := fun σ F H I =>
  hi σ F H I _ fun J F1 H1 G Y I1 s1 w hG hY => by
    obtain ⟨IB, le⟩ := I1.base
    refine for_it w (fun i σ H => ∃ F x, P i x ∧ IV { C with F0 := F1 } σ F H (g i x)) ⟨F1, x0, p0, IB.weak h0⟩ (fun i σ H _ ⟨F, _, _, J⟩ => hG H (J.f0.trans J.fh)) ?_ (fun σ H ⟨F, x, px, J⟩ => hd x px σ F H (le _ _ _ _ J))
    rintro i x σ2 H2 H3 hin ⟨F2, z, pz, I2⟩ y
    obtain ⟨F3, I3, _, _, _, rx⟩ := hY _ σ2 F2 H2 _ i x H3 I2 I2.f0 hin y
    obtain ⟨Γ2, vs, ha, hb⟩ := hs _ le rfl i hin z pz (fun σ H => ∃ F x, P (i + 1) x ∧ IV { C with F0 := F1 } σ F H (g (i + 1) x)) (fun y py σ F H J => ⟨F, y, py, J⟩)
    exact ha σ2 F3 H3 x I3 rx _ fun σ' I4 _ => hb σ' F3 H3 I4
end
theorem pts_eq (f s : Rat) (lo hi : Int) : ptsK f s lo hi = ptsL f s lo hi := by
  unfold ptsK ptsL wls
  rw [List.map_map, show hi - lo + 1 = hi + 1 - lo by omega] <;> rfl
theorem mdue_pts {p0 : Rat × Rat} {l : Rows} {r : Rule} {a b : Rat} (h : IsRule (p0 :: l) r) (nm : ¬ manyA p0 l a b) : (mdue r a b = .tup [.str "Endless", .non] ∧ ruleRows r a b = [(a, b)]) ∨ ∃ pts : List Rat, mdue r a b = .tup [.str "told", .lst (pts.map fr)] ∧ pts.length ≤ 1000 ∧ ruleRows r a b = pts.map fun m => (m, m) := by
  rcases r with _ | ⟨f, _ | s⟩
  · exact .inr ⟨[], rfl, Nat.zero_le _, rfl⟩
  · exact .inl ⟨rfl, rfl⟩
  · have n4 := due_rule h nm
    refine .inr ⟨ptsL f s (numLo f s a) (numHi f s b), ?_, ?_, ?_⟩
    · show (if 400 ≤ numHi f s b - numLo f s a then _ else _) = _
      rw [if_neg n4]
    · unfold ptsL
      (rw [List.length_map, List.length_range])
      omega
    · show (ptsK f s (cei ((a - f) / s)) (((b - f) / s).floor)).map dg = _
      rw [pts_eq] <;> rfl
def Rl_spans_due : Rel := fun zs0 Pz => ∃ (p0 : Rat × Rat) (l : Rows) (a b : Rat), zs0 = [.lst ((p0 :: l).map rowD), .tup [fr a, fr b]] ∧ (RowsOk (p0 :: l) ∧ EndOk a ∧ EndOk b ∧ a ≤ b) ∧ Pz = DueD p0 l a b
theorem len_spans_due : ∀ ds Post, Rl_spans_due ds Post → ds.length = 2 := fun _ _ ⟨_, _, _, _, e, _⟩ => by rw [e]; rfl
theorem ok_law_spans_due (Bq : Bt K mg base) : Cl P w K mg base CX0 7 "_law_spans_due" (spT (T0 K) Rl_spans_due) [] := by
  have B := Bq.b
  refine cl_ofT (N := ["_law_rows", "_law_ends", "_law_row", "_law_due", "_law_moment_here"]) (ps := ["_law_rows", "_law_ends"]) B.d_law_spans_due B.g_law_spans_due (by decide +kernel) (fun _ _ _ _ _ _ us hl => match us, hl with | [_, _], _ => rfl)
    (len_T len_spans_due) fun f A outer s H vs Q E hr h => ?_
  have nd : (["_law_rows", "_law_ends", "_law_row", "_law_due", "_law_moment_here"] : List Str).Nodup := by decide +kernel
  refine ⟨_, PSs.nox (pss_cons (ps_for PassesOwn.never rfl (pi_list (pe_slice sl_list (pv 0) (po_some pe_int) po_none)) (pg_name (i := 2) nd rfl (by first | exact Or.inl rfl | exact Or.inr rfl)) (pss_one (ps_if (pt_cmpR op_gt (pe_cl (ok_law_near_many Bq) hr (by decide) pass0 (pa_cons (pe_ix ix_list (pv 0) pe_int (fun _ _ => rfl)) (pa_cons (pv 2) (pa_cons (pe_tup (pa_cons pe_int (pa_cons pe_int pa_nil))) (pa_cons (pv 1) pa_nil))))) pe_int (nomark _)) (pss_one (ps_ret (pe_tup (pa_cons pe_str (pa_cons pe_int pa_nil))))) pss_nil)))
  (pss_cons (ps_set (i := 3) nd rfl (by first | exact Or.inl rfl | exact Or.inr rfl) (pe_cl (ok_law_meetings_due B) hr (by decide) pass0 (pa_cons (pe_cl (ok_law_rule B) hr (by decide) pass0 (pa_cons (pv 0) pa_nil)) (pa_cons (pv 1) pa_nil))))
  (pss_cons (ps_if (pt_cmpR op_eq (pe_ix ix_tup (pv 3) pe_int (fun _ _ => rfl)) pe_str (nomark _)) (pss_one (ps_ret (pe_tup (pa_cons pe_str (pa_cons (pe_lst (pa_cons (pv 1) pa_nil)) pa_nil))))) pss_nil)
  (pss_one (ps_ret (pe_tup (pa_cons pe_str (pa_cons (pe_lc (own := [("_law_moment_here", 4)]) rfl nd (pi_list (pe_ix ix_tup (pv 3) pe_int (fun _ _ => rfl))) (blkOk_by (by show blkC ["_law_rows", "_law_ends", "_law_row", "_law_due", "_law_moment_here"] (defScope (top 119)) _ _ = true; decide +kernel)) (fun _ _ _ _ _ => pg_name (i := 4) nd rfl (Or.inl rfl)) (fun _ _ _ _ _ => pts_nil) (fun _ _ _ _ _ => (pe_tup (pa_cons (pv 4) (pa_cons (pv 4) pa_nil))))) pa_nil)))))))), enterT h fun C ds Post hT hR hrt => ?_⟩
  obtain ⟨p0, l, a, b, rfl, ⟨hok, ha, hb, hab⟩, rfl⟩ := hR
  show NX C _ [.val (.lst (rowD p0 :: l.map rowD)), .val (.tup [fr a, fr b]), .no, .no, .no]
  have hl5 : l.length ≤ 5 := by
    have : l.length + 1 ≤ 6 := hok.2.1
    omega
  have l0 : l ≠ [] := fun z => by
    have := hok.1
    rw [z] at this
    exact absurd this (by simp)
  have g0 := hok.2.2 p0 List.mem_cons_self
  have hlen : (l.map rowD).length = l.length := List.length_map ..
  refine sq_forT (ei_tail (ed_var rfl)) (ι := Unit) (fun _ _ => [.val (.lst (rowD p0 :: l.map rowD)), .val (.tup [fr a, fr b]), .no, .no, .no]) (fun i _ => ¬ manyA p0 (l.take i) a b) () (fun ⟨p, hp, _⟩ => by simp at hp) (.refl _) (fun C' le eT i hi _ hst N hN => ⟨_, [2], asg_name, ?_⟩) ?_
  · have hil : i < l.length := by simpa using hi
    rw [getD_map hi]
    have gp : RowOk l[i] := hok.2.2 _ (List.mem_cons_of_mem _ (List.getElem_mem hil))
    have ta : l.take (i + 1) = l.take i ++ [l[i]] := (List.take_append_getElem hil).symm
    have up : manyL (l[i].1 - p0.1) (l[i].2 - p0.2) a b → manyA p0 l a b := fun z => ⟨_, List.getElem_mem hil, z⟩
    revert gp ta up
    generalize l[i] = p
    intro gp ta up
    show NX C' _ [.val (.lst (rowD p0 :: l.map rowD)), .val (.tup [fr a, fr b]), .val (rowD p), .no, .no]
    refine nx_if (etd_test (ed_cmp (en_callTD (eT.trans hT) (ea_cons (ed_ixL (ed_var rfl) ed_int atI0) (ea_cons (ed_var rfl) (ea_cons ((ed_tup (ea_cons ed_int (ea_cons ed_int ea_nil))).is (fr_lit (q := 0) (by decide +kernel))) (ea_cons (ed_var rfl) ea_nil)))) ⟨p0, p, a, b, rfl, ⟨g0, gp, ha.b, hb.b, hab⟩, rfl⟩) ed_int)) (fun hc => ?_) fun hc => ?_
    · have hm := nearMany_many.mp (of_decide_eq_true hc)
      exact nx_ret (hrt.up le) (ed_tup (ea_cons ed_str (ea_cons ed_int ea_nil))) (.inl ⟨up hm, rfl⟩)
    · have hn : ¬ manyL (p.1 - p0.1) (p.2 - p0.2) a b := fun z => (of_decide_eq_false hc) (nearMany_many.mpr z)
      refine (hN () fun ⟨q, hq, hm⟩ => ?_).wk (.keep (.keep (.drop (.refl _))))
      rw [ta] at hq
      rcases List.mem_append.mp hq with z | z
      · exact hst ⟨q, z, hm⟩
      · rw [List.mem_singleton.mp z] at hm
        exact hn hm
  · intro _ nm
    rw [hlen, List.take_length] at nm
    refine sq_asgN (R := fun e => ∃ r, IsRule (p0 :: l) r ∧ e = mdue r a b) (en_callI (EvA.imp (en_cons (en_callD (ea_cons (ed_var rfl) ea_nil) (rl_law_rule (rows := p0 :: l) hok)) (ea_cons (ed_var rfl) ea_nil)) ?_)) ?_
    · rintro _ ⟨_, _, rfl, ⟨r, rfl, hr⟩, rfl⟩
      exact ⟨_, rl_law_meetings_due (hr.ok hok.2.2) ha hb, fun e z => ⟨r, hr, z⟩⟩
    rintro _ ⟨r, hr, rfl⟩
    have esp := sp_rule hab l0 hr
    have dd : ∀ rows : Rows, ruleRows r a b = rows → DueD p0 l a b (.tup [.str "told", .lst (rows.map rowD)]) := fun rows h => .inr ⟨nm, by rw [esp, h]⟩
    rcases mdue_pts hr nm with ⟨e1, e2⟩ | ⟨pts, e1, hp, e2⟩
    · rw [e1]
      refine sq_yes (etd_test (ed_eqS (ed_ixT (ds := [.str "Endless", .non]) (ed_var rfl) ed_int rfl) ed_str)) (by decide) (nx_ret hrt (ed_tup (ea_cons ed_str (ea_cons (eld_lst (ea_cons (ed_var rfl) ea_nil)).ed ea_nil))) (dd _ e2))
    · rw [e1]
      refine sq_no (etd_test (ed_eqS (ed_ixT (ds := [.str "told", .lst (pts.map fr)]) (ed_var rfl) ed_int rfl) ed_str)) (by decide) ?_
      have h := dd _ e2
      rw [List.map_map] at h
      refine nx_ret hrt (ed_tup (ea_cons ed_str (ea_cons (eld_lcM (a := fr) (b := rowD ∘ fun m => (m, m)) (ed_ixT (ds := [.str "told", .lst (pts.map fr)]) (ed_var rfl) ed_int rfl) rfl hp (by simp) fun C' le m hm => ?_).ed ea_nil))) h
      exact ed_tup (ea_cons (ed_var rfl) (ea_cons (ed_var rfl) ea_nil))
end
end Wk
-- D39
namespace Wk
open PySem PySem.Spec
open PyProof.Rows L2
section
variable {P : Program}
variable {w : World} {K : PySem.W.Frag} {mg : Str → Option Value} {base : Heap}
noncomputable def daysD (rows : Rows) (a b : Rat) : Dt := if 400 < b.floor - cei a + 1 then .tup [.str "TooMany", .int 400] else .tup [.str "told", .lst (((wls (cei a) b.floor).filter fun k : Int => nearB rows (k : Rat)).map Dt.int)]
theorem pl_days {rows : Rows} {a b : Rat} : Pl 5 (daysD rows a b) := by
  unfold daysD
  by_cases h : 400 < b.floor - cei a + 1
  · rw [if_pos h]
    refine .tup (fun d hd => ?_) (by show 2 ≤ 1000; decide)
    simp only [List.mem_cons, List.not_mem_nil, or_false] at hd
    rcases hd with rfl | rfl
    · exact .str _ _
    · exact .int _ _
  · rw [if_neg h]
    refine .tup (fun d hd => ?_) (by show 2 ≤ 1000; decide)
    simp only [List.mem_cons, List.not_mem_nil, or_false] at hd
    rcases hd with rfl | rfl
    · exact .str _ _
    · refine pl_map (fun x _ => .int _ _) (Nat.le_trans (List.length_filter_le _ _) ?_)
      unfold wls
      (rw [List.length_map, List.length_range])
      omega
def Rl_days_right (K : PySem.W.Frag) : Rel := fun zs0 Pz => ∃ (rows : Rows) (a b : Rat), zs0 = [.lst (rows.map (cyc K)), .lst (rows.map rowD), .tup [fr a, fr b]] ∧ (RowsOk rows ∧ EndOk a ∧ EndOk b ∧ a ≤ b) ∧ Pz = (fun e => e = .bl true)
theorem len_days_right {K : PySem.W.Frag} : ∀ ds Post, Rl_days_right K ds Post → ds.length = 3 := fun _ _ ⟨_, _, _, e, _⟩ => by rw [e]; rfl
theorem fr0 {C : Ctx} {Γ : List Slot} : EvD C (tTup (tCons (tC (.int 0)) (tCons (tC (.int 1)) tNil))) Γ (fr 0) := EvN.is (ed_tup (ea_cons ed_int (ea_cons ed_int ea_nil))) (fr_lit (q := 0) (by decide +kernel))
theorem ok_law_days_right (Bq : Bt K mg base) : Cl P w K mg base CX0 9 "_law_days_right" (spT (T0 K) (Rl_days_right K)) [] := by
  have B := Bq.b
  refine cl_ofT (N := ["_law_cycles", "_law_rows", "_law_ends", "_law_low", "_law_high", "_law_due", "_law_day", "_law_told"]) (ps := ["_law_cycles", "_law_rows", "_law_ends"]) B.d_law_days_right B.g_law_days_right (by decide +kernel) (fun _ _ _ _ _ _ us hl => match us, hl with | [_, _, _], _ => rfl)
    (len_T len_days_right) fun f A outer s H vs Q E hr h => ?_
  have nd : (["_law_cycles", "_law_rows", "_law_ends", "_law_low", "_law_high", "_law_due", "_law_day", "_law_told"] : List Str).Nodup := by decide +kernel
  refine ⟨_, PSs.nox (pss_cons (ps_set (i := 3) nd rfl (by first | exact Or.inl rfl | exact Or.inr rfl) (pe_un un_neg (pe_cl (ok_law_floor B) hr (by decide) pass0 (pa_cons (pe_tup (pa_cons (pe_un un_neg (pe_ix ix_tup (pe_ix ix_tup (pv 2) pe_int (fun _ _ => rfl)) pe_int (fun _ _ => rfl))) (pa_cons (pe_ix ix_tup (pe_ix ix_tup (pv 2) pe_int (fun _ _ => rfl)) pe_int (fun _ _ => rfl)) pa_nil))) pa_nil))))
  (pss_cons (ps_set (i := 4) nd rfl (by first | exact Or.inl rfl | exact Or.inr rfl) (pe_cl (ok_law_floor B) hr (by decide) pass0 (pa_cons (pe_ix ix_tup (pv 2) pe_int (fun _ _ => rfl)) pa_nil)))
  (pss_cons (ps_set (i := 5) nd rfl (by first | exact Or.inl rfl | exact Or.inr rfl) (pe_tup (pa_cons pe_str (pa_cons pe_int pa_nil))))
  (pss_cons (ps_if (pt_cmpR op_lt (pe_op op_sub (pv 4) (pv 3)) pe_int (nomark _)) (pss_one (ps_set (i := 5) nd rfl (by first | exact Or.inl rfl | exact Or.inr rfl) (pe_tup (pa_cons pe_str (pa_cons (pe_lc (own := [("_law_day", 6)]) rfl nd (pi_range2 rfl B.z_range (pa_cons (pv 3) (pa_cons (pe_op op_add (pv 4) pe_int) pa_nil))) (blkOk_by (by show blkC ["_law_cycles", "_law_rows", "_law_ends", "_law_low", "_law_high", "_law_due", "_law_day", "_law_told"] (defScope (top 122)) _ _ = true; decide +kernel)) (fun _ _ _ _ _ => pg_name (i := 6) nd rfl (Or.inl rfl)) (fun _ _ _ _ _ => pts_one (pt_val (pe_cl (ok_law_near B) hr (by decide) pass0 (pa_cons (pv 1) (pa_cons (pe_tup (pa_cons (pv 6) (pa_cons pe_int pa_nil))) (pa_cons (pe_tup (pa_cons pe_int (pa_cons pe_int pa_nil))) pa_nil)))))) (fun _ _ _ _ _ => (pv 6))) pa_nil))))) pss_nil)
  (pss_cons (ps_set (i := 7) nd rfl (by first | exact Or.inl rfl | exact Or.inr rfl) (pe_ans (k := 6) B (Bq.tb _ (by decide +kernel : (("_law_days_right", none) : He.Defn) ∈ tf)) rfl (t0_mem (d := ("_law_days_right", none)) (by decide +kernel)) (Bq.hu (d := ("_law_days_right", none)) (by decide +kernel)) (hr.mono (by decide)) (LamX.lamS_by (by show LamX.lamSB (defScope (top 122)) _ = true; decide +kernel)) rfl (fun _ _ _ _ _ => rfl) fun A outer s H E f c' hr => (pe_ck (ok_near_days B) hr (by decide) (passes_call (takes_of rfl rfl rfl rfl) fun _ _ _ _ z => z) (pa_cons (pe_callTy (call_list_ofK (K := K)) (by rfl) B.z_list (by decide +kernel) (pa_cons (pv 0) pa_nil)) (pa_cons (pe_ciK (K := K) (ok_Span_init B) hr (by decide) pass0 (pa_cons (pe_ix (ix_tupK (K := K)) (pv 2) pe_int (fun _ _ => rfl)) (pa_cons (pe_ix (ix_tupK (K := K)) (pv 2) pe_int (fun _ _ => rfl)) pa_nil))) pa_nil)) (pk_cons (pe_tup (pa_cons pe_int (pa_cons pe_int pa_nil))) pk_nil))))
  (pss_one (ps_ret (pe_cl (ok_law_alike B) hr (by decide) pass0 (pa_cons (pv 7) (pa_cons (pv 5) pa_nil)))))))))), enterT h fun C ds Post hT hR hrt => ?_⟩
  obtain ⟨rows, a, b, rfl, ⟨hok, ha, hb, hab⟩, rfl⟩ := hR
  show NX C _ [.val (.lst (rows.map (cyc K))), .val (.lst (rows.map rowD)), .val (.tup [fr a, fr b]), .no, .no, .no, .no, .no]
  have ia : Bz a 500 := ⟨ha.b⟩
  have ib : Bz b 500 := ⟨hb.b⟩
  have fa := (end_flo ha).2
  have fb := (end_flo hb).1
  have hok1 := hok.one
  refine sq_asg (d := .int (cei a)) (ed_neg (ed_call (ea_cons ((ed_tup (ea_cons (ed_neg (ed_ixT (ds := [.int a.num, .int (a.den : Int)]) (ed_ixT (ed_var rfl) ed_int rfl) ed_int rfl)) (ea_cons (ed_ixT (ds := [.int a.num, .int (a.den : Int)]) (ed_ixT (ed_var rfl) ed_int rfl) ed_int rfl) ea_nil))).is (fr_neg _)) ea_nil) rl_floor)) ?_
  refine sq_asg (ed_call (ea_cons (ed_ixT (ed_var rfl) ed_int rfl) ea_nil) rl_floor) ?_
  refine sq_asg (d := .tup [.str "TooMany", .int 400]) (ed_tup (ea_cons ed_str (ea_cons ed_int ea_nil))) ?_
  refine sq_join [.val (.lst (rows.map (cyc K))), .val (.lst (rows.map rowD)), .val (.tup [fr a, fr b]), .val (.int (cei a)), .val (.int b.floor), .val (daysD rows a b), .no, .no] (fun hN => ?_) ?_
  · have ed : daysD rows a b = if 400 < b.floor - cei a + 1 then .tup [.str "TooMany", .int 400] else .tup [.str "told", .lst (((wls (cei a) b.floor).filter fun k : Int => nearB rows (k : Rat)).map Dt.int)] := rfl
    rw [ed] at hN
    refine nx_if (etd_test (ed_cmp (ed_rI0 (ed_var rfl) (ed_var rfl)) ed_int)) (fun hc => ?_) fun hc => ?_
    · have h4 : ¬ 400 < b.floor - cei a + 1 := by
        have := of_decide_eq_true hc
        omega
      rw [if_neg h4] at hN
      have lw : (wls (cei a) b.floor).length ≤ 400 := by
        unfold wls
        (rw [List.length_map, List.length_range])
        omega
      have ew : (wls (cei a) b.floor).length = (b.floor + 1 - cei a).toNat := by
        unfold wls
        (rw [List.length_map, List.length_range])
        omega
      have at_ : ∀ i (h : i < (wls (cei a) b.floor).length), (wls (cei a) b.floor)[i] = cei a + (i : Int) := fun i h => by
        simp [wls]
      revert lw ew at_ hN
      generalize wls (cei a) b.floor = W
      intro hN lw ew at_
      refine nx_asgN (R := fun e => e = .tup [.str "told", .lst ((W.filter fun k : Int => nearB rows (k : Rat)).map Dt.int)]) (en_tup (en_cons (Ra := fun e => e = .str "told") ed_str (en_cons (Ra := fun e => e = .lst ((W.filter fun k : Int => nearB rows (k : Rat)).map Dt.int)) (EvL.ev (el_lcN (fun i ds => ds = ((W.take i).filter fun k : Int => nearB rows (k : Rat)).map Dt.int) (ei_range2 (ea_cons (ed_var rfl) (ea_cons (ed_rI0 (ed_var rfl) ed_int) ea_nil)) ⟨by omega, by omega, by omega, by omega⟩) rfl (by omega) rfl fun C' le i hi => ⟨_, asg_name (by simp), fun b' => b' = nearB rows ((cei a + (i : Int) : Int) : Rat), ?_, fun hb' => ?_, fun hb' => ?_⟩) ?_) ea_nil)) ?_) ?_
      · have iw : Bz ((cei a + (i : Int) : Int) : Rat) 30 := ⟨bd_int (by show (cei a + (i : Int)).natAbs < 1073741824; omega) (by decide)⟩
        exact etd_B (ed_call (ea_cons (ed_var rfl) (ea_cons ((ed_tup (ea_cons (ed_var rfl) (ea_cons ed_int ea_nil))).is (fr_int _)) (ea_cons fr0 ea_nil))) (rl_law_near hok1))
      · have hiW : i < W.length := by omega
        refine (ed_var rfl).to ?_
        rintro ds rfl
        rw [← List.take_append_getElem hiW, List.filter_append, List.map_append, at_ i hiW]
        congr 1
        rw [List.filter_cons, if_pos hb'.symm] <;> rfl
      · have hiW : i < W.length := by omega
        rintro ds rfl
        rw [← List.take_append_getElem hiW, List.filter_append, List.map_append, at_ i hiW]
        rw [List.filter_cons, if_neg (by rw [← hb']; simp)]
        simp
      · rintro ds rfl
        rw [← ew, List.take_length]
      · rintro _ ⟨_, _, rfl, rfl, _, _, rfl, rfl, rfl⟩
        exact ⟨by show 2 ≤ 1000; decide, rfl⟩
      · rintro _ rfl
        exact hN
    · have h4 : 400 < b.floor - cei a + 1 := by
        have := of_decide_eq_false hc
        omega
      rw [if_pos h4] at hN
      exact hN
  have kd : ∀ e, (¬ 400 < b.floor - cei a + 1 ∧ e = .lst (((wls (cei a) b.floor).filter fun k : Int => nearB rows (k : Rat)).map Dt.int)) → Dt.tup [.str "told", e] = daysD rows a b := fun e ⟨h1, h2⟩ => by
    unfold daysD
    rw [if_neg h1, h2]
  have ke : ∀ x, (400 < b.floor - cei a + 1 ∧ x = .many 400) → ansD x = daysD rows a b := fun x ⟨h1, h2⟩ => by
    unfold daysD
    rw [if_pos h1, h2] <;> rfl
  have pl := pl_days (rows := rows) (a := a) (b := b)
  revert kd ke pl
  generalize daysD rows a b = dd
  intro kd ke pl
  refine sq_asg (d := dd) (en_ans (c := ecl K) hT rfl (fun C' E le hE => en_ckX hE (ea_cons (eld_list (ed_var rfl)).ed (ea_cons (ed_make (ea_cons (ed_ixT (ed_var rfl) ed_int rfl) (ea_cons (ed_ixT (ed_var rfl) ed_int rfl) ea_nil)) ⟨a, b, 500, rfl, rfl, hab, ha.b, hb.b, by decide⟩) ea_nil)) (ea_cons fr0 ea_nil) rfl rfl ⟨_, ⟨rows, a, b, rfl, ⟨hok, ha, hb⟩, rfl, rfl⟩, fun x hx => hx⟩) kd ke) ?_
  exact nx_ret hrt (ed_call (ea_cons (ed_var rfl) (ea_cons (ed_var rfl) ea_nil)) (rl_law_alike pl)) rfl
end
end Wk
-- D40
namespace Wk
open PySem PySem.Spec
open PyProof.Rows L2
section
variable {P : Program}
variable {w : World} {K : PySem.W.Frag} {mg : Str → Option Value} {base : Heap}
def FD (p0 : Rat × Rat) (l : Rows) (a b : Rat) (dd : Dt) : Prop := (manyA p0 l a b ∧ dd = .tup [.str "TooMany", .int 200]) ∨ ((¬ manyA p0 l a b) ∧ dd = .tup [.str "told", firstOf (spRows p0 l a b)])
theorem pl_first (L : Rows) : Pl 4 (firstOf L) := by
  cases L with
  | nil => exact .non _
  | cons p L => exact pl_fr _
theorem pl_two {n : Nat} {x : Str} {d : Dt} (h : Pl n d) : Pl (n + 1) (.tup [.str x, d]) := .tup (fun e he => by
  simp only [List.mem_cons, List.not_mem_nil, or_false] at he
  rcases he with rfl | rfl
  · exact .str _ _
  · exact h) (by show 2 ≤ 1000; decide)
theorem FD.pl {p0 : Rat × Rat} {l : Rows} {a b : Rat} {dd : Dt} (h : FD p0 l a b dd) : Pl 5 dd := by
  (rcases h with ⟨_, rfl⟩ | ⟨_, rfl⟩)
  · exact pl_two (.int _ _)
  · exact pl_two (pl_first _)
theorem pl_firstD (r : Rule) (m : Rat) : Pl 5 (firstD r m) := by
  rcases r with _ | ⟨f, _ | s⟩
  · exact .non _
  · exact pl_fr _
  · exact pl_fr _
def Rl_first_right (K : PySem.W.Frag) : Rel := fun zs0 Pz => ∃ (p0 : Rat × Rat) (l : Rows) (m v : Rat), zs0 = [.lst ((p0 :: l).map (cyc K)), .lst ((p0 :: l).map rowD), fr m, fr v] ∧ (RowsOk (p0 :: l) ∧ EndSm m ∧ Bd 4 v ∧ 0 ≤ v ∧ v ≤ 4) ∧ Pz = (fun e => e = .bl true)
theorem len_first_right {K : PySem.W.Frag} : ∀ ds Post, Rl_first_right K ds Post → ds.length = 4 := fun _ _ ⟨_, _, _, _, e, _⟩ => by rw [e]; rfl
theorem ok_law_first_right (Bq : Bt K mg base) : Cl P w K mg base CX0 10 "_law_first_right" (spT (T0 K) (Rl_first_right K)) [] := by
  have B := Bq.b
  refine cl_ofT (N := ["_law_cycles", "_law_rows", "_law_moment_here", "_law_within", "_law_due", "_law_told", "_law_rule_here", "_law_first", "_law_low"]) (ps := ["_law_cycles", "_law_rows", "_law_moment_here", "_law_within"]) B.d_law_first_right B.g_law_first_right (by decide +kernel) (fun _ _ _ _ _ _ us hl => match us, hl with | [_, _, _, _], _ => rfl)
    (len_T len_first_right) fun f A outer s H vs Q E hr h => ?_
  have nd : (["_law_cycles", "_law_rows", "_law_moment_here", "_law_within", "_law_due", "_law_told", "_law_rule_here", "_law_first", "_law_low"] : List Str).Nodup := by decide +kernel
  refine ⟨_, PSs.nox (pss_cons (ps_set (i := 4) nd rfl (by first | exact Or.inl rfl | exact Or.inr rfl) (pe_cl (ok_law_spans_due Bq) hr (by decide) pass0 (pa_cons (pv 1) (pa_cons (pe_tup (pa_cons (pv 2) (pa_cons (pe_cl (ok_law_plus B) hr (by decide) pass0 (pa_cons (pv 2) (pa_cons (pv 3) pa_nil))) pa_nil))) pa_nil))))
  (pss_cons (ps_if (pt_cmpR op_eq (pe_ix ix_tup (pv 4) pe_int (fun _ _ => rfl)) pe_str (nomark _)) (pss_one (ps_set (i := 4) nd rfl (by first | exact Or.inl rfl | exact Or.inr rfl) (pe_tup (pa_cons pe_str (pa_cons (pe_ifExp (pt_truth (pe_ix ix_tup (pv 4) pe_int (fun _ _ => rfl)) (by intro _; rfl)) (pe_ix ix_tup (pe_ix ix_list (pe_ix ix_tup (pv 4) pe_int (fun _ _ => rfl)) pe_int (fun _ _ => rfl)) pe_int (fun _ _ => rfl)) pe_non) pa_nil))))) pss_nil)
  (pss_cons (ps_set (i := 5) nd rfl (by first | exact Or.inl rfl | exact Or.inr rfl) (pe_ans (k := 7) B (Bq.tb _ (by decide +kernel : (("_law_first_right", none) : He.Defn) ∈ tf)) rfl (t0_mem (d := ("_law_first_right", none)) (by decide +kernel)) (Bq.hu (d := ("_law_first_right", none)) (by decide +kernel)) (hr.mono (by decide)) (LamX.lamS_by (by show LamX.lamSB (defScope (top 121)) _ = true; decide +kernel)) rfl (fun _ _ _ _ _ => rfl) fun A outer s H E f c' hr => (pe_ck (ok_next_near B) hr (by decide) (passes_call (takes_of rfl rfl rfl rfl) fun _ _ _ _ z => z) (pa_cons (pe_callTy (call_list_ofK (K := K)) (by rfl) B.z_list (by decide +kernel) (pa_cons (pv 0) pa_nil)) (pa_cons (pv 2) pa_nil)) (pk_cons (pe_tup (pa_cons pe_int (pa_cons pe_int pa_nil))) (pk_cons (pv 3) pk_nil)))))
  (pss_cons (ps_if (pt_not (pt_val (pe_cl (ok_law_alike B) hr (by decide) pass0 (pa_cons (pv 5) (pa_cons (pv 4) pa_nil))))) (pss_one (ps_ret pe_bl)) pss_nil)
  (pss_cons (ps_set (i := 6) nd rfl (by first | exact Or.inl rfl | exact Or.inr rfl) (pe_cl (ok_law_rule B) hr (by decide) pass0 (pa_cons (pv 1) pa_nil)))
  (pss_cons (ps_set (i := 7) nd rfl (by first | exact Or.inl rfl | exact Or.inr rfl) pe_non)
  (pss_cons (ps_if (pt_cmpR op_notN (pv 6) pe_non (nomark _)) (pss_cons (ps_set (i := 7) nd rfl (by first | exact Or.inl rfl | exact Or.inr rfl) (pv 2))
  (pss_one (ps_if (pt_cmpR op_notN (pe_ix ix_tup (pv 6) pe_int (fun _ _ => rfl)) pe_non (nomark _)) (pss_cons (ps_set (i := 8) nd rfl (by first | exact Or.inl rfl | exact Or.inr rfl) (pe_ix ix_tup (pe_cl (ok_law_numbers_in B) hr (by decide) pass0 (pa_cons (pv 6) (pa_cons (pe_tup (pa_cons (pv 2) (pa_cons (pv 2) pa_nil))) pa_nil))) pe_int (fun _ _ => rfl)))
  (pss_one (ps_set (i := 7) nd rfl (by first | exact Or.inl rfl | exact Or.inr rfl) (pe_cl (ok_law_plus B) hr (by decide) pass0 (pa_cons (pe_ix ix_tup (pv 6) pe_int (fun _ _ => rfl)) (pa_cons (pe_cl (ok_law_times B) hr (by decide) pass0 (pa_cons (pe_ix ix_tup (pv 6) pe_int (fun _ _ => rfl)) (pa_cons (pe_tup (pa_cons (pv 8) (pa_cons pe_int pa_nil))) pa_nil))) pa_nil)))))) pss_nil))) pss_nil)
  (pss_one (ps_ret (pe_cl (ok_law_alike B) hr (by decide) pass0 (pa_cons (pe_cl (ok_next_meeting B) hr (by decide) pass0 (pa_cons (pe_callTy call_list_of (by rfl) B.z_list (by decide +kernel) (pa_cons (pv 0) pa_nil)) (pa_cons (pv 2) pa_nil))) (pa_cons (pv 7) pa_nil)))))))))))), enterT h fun C ds Post hT hR hrt => ?_⟩
  obtain ⟨p0, l, m, v, rfl, ⟨hok, hm, hv, v0, v1⟩, rfl⟩ := hR
  show NX C _ [.val (.lst ((p0 :: l).map (cyc K))), .val (.lst ((p0 :: l).map rowD)), .val (fr m), .val (fr v), .no, .no, .no, .no, .no]
  have im : Bz m 400 := ⟨hm.b⟩
  have iv : Bz v 4 := ⟨hv⟩
  have hm2 := hm.ok
  have hmv : EndOk (m + v) := ⟨(bz (q := m + v)).mono (by decide), by have := hm.lo; grind, by have := hm.hi; grind⟩
  refine sq_asgN (en_callTD hT (ea_cons (ed_var rfl) (ea_cons (ed_tup (ea_cons (ed_var rfl) (ea_cons (ed_call (ea_cons (ed_var rfl) (ea_cons (ed_var rfl) ea_nil)) rl_plus) ea_nil))) ea_nil)) ⟨p0, l, m, m + v, rfl, ⟨hok, hm2, hmv, by grind⟩, rfl⟩) ?_
  intro e he
  refine sq_joinI (ι := {dd : Dt // FD p0 l m (m + v) dd}) (fun dd => [.val (.lst ((p0 :: l).map (cyc K))), .val (.lst ((p0 :: l).map rowD)), .val (fr m), .val (fr v), .val dd.1, .no, .no, .no, .no]) (fun hN => ?_) ?_
  · rcases he with ⟨hma, rfl⟩ | ⟨nm, rfl⟩
    · exact nx_no (etd_test (ed_eqS (ed_ixT (ds := [.str "TooMany", .int 200]) (ed_var rfl) ed_int rfl) ed_str)) (by decide) (hN ⟨_, .inl ⟨hma, rfl⟩⟩)
    · have fin : NX C _ [.val (.lst ((p0 :: l).map (cyc K))), .val (.lst ((p0 :: l).map rowD)), .val (fr m), .val (fr v), .val (.tup [.str "told", firstOf (spRows p0 l m (m + v))]), .no, .no, .no, .no] := hN ⟨_, .inr ⟨nm, rfl⟩⟩
      revert fin
      generalize spRows p0 l m (m + v) = L
      intro fin
      refine nx_yes (etd_test (ed_eqS (ed_ixT (ds := [.str "told", .lst (L.map rowD)]) (ed_var rfl) ed_int rfl) ed_str)) (by decide) ?_
      refine nx_asg (ed_tup (ea_cons ed_str (ea_cons ?_ ea_nil))) fin
      cases L with
      | nil => exact ed_if (b := false) (etd_truL (ds := []) (ed_ixT (ds := [.str "told", .lst []]) (ed_var rfl) ed_int rfl)) (fun z => nomatch z) fun _ => ed_non
      | cons p L => exact ed_if (b := true) (etd_truL (ds := rowD p :: L.map rowD) (ed_ixT (ds := [.str "told", .lst (rowD p :: L.map rowD)]) (ed_var rfl) ed_int rfl)) (fun _ => ed_ixT (ds := [fr p.1, fr p.2]) (ed_ixL (ds := rowD p :: L.map rowD) (ed_ixT (ds := [.str "told", .lst (rowD p :: L.map rowD)]) (ed_var rfl) ed_int rfl) ed_int atI0) ed_int rfl) (fun z => nomatch z)
  rintro ⟨dd, hd⟩
  show NX C _ [.val (.lst ((p0 :: l).map (cyc K))), .val (.lst ((p0 :: l).map rowD)), .val (fr m), .val (fr v), .val dd, .no, .no, .no, .no]
  have kd : ∀ e, (¬ manyA p0 l m (m + v) ∧ e = firstOf (spRows p0 l m (m + v))) → Dt.tup [.str "told", e] = dd := fun e ⟨h1, h2⟩ => by
    rcases hd with ⟨h3, _⟩ | ⟨_, h4⟩
    · exact absurd h3 h1
    · rw [h2, h4]
  have ke : ∀ x, (manyA p0 l m (m + v) ∧ x = .many 200) → ansD x = dd := fun x ⟨h1, h2⟩ => by
    rcases hd with ⟨_, h3⟩ | ⟨h4, _⟩
    · rw [h2, h3] <;> rfl
    · exact absurd h1 h4
  refine sq_asg (d := dd) (en_ans (c := ecl K) hT rfl (fun C' E le hE => en_ckX hE (ea_cons (eld_list (ed_var rfl)).ed (ea_cons (ed_var rfl) ea_nil)) (ea_cons fr0 (ea_cons (ed_var rfl) ea_nil)) rfl rfl ⟨_, ⟨p0, l, m, v, rfl, ⟨hok, hm.b.mono (by decide), hv.mono (by decide), v0⟩, rfl, rfl⟩, fun x hx => hx⟩) kd ke) ?_
  refine sq_no (etd_not (etd_B (ed_call (ea_cons (ed_var rfl) (ea_cons (ed_var rfl) ea_nil)) (rl_law_alike hd.pl)))) rfl ?_
  refine sq_asgN (en_callD (ea_cons (ed_var rfl) ea_nil) (rl_law_rule (rows := p0 :: l) hok)) ?_
  rintro _ ⟨r, rfl, hr⟩
  have hr2 := hr.ok hok.2.2
  refine sq_asg ed_non ?_
  refine sq_join [.val (.lst ((p0 :: l).map (cyc K))), .val (.lst ((p0 :: l).map rowD)), .val (fr m), .val (fr v), .val dd, .val dd, .val (ruleD r), .val (firstD r m), .no] (fun hN => ?_) ?_
  · rcases r with _ | ⟨f, _ | s⟩
    · exact nx_no (etd_test (ed_notN (ed_var rfl))) rfl hN
    · refine nx_yes (etd_test (ed_notN (ed_var rfl))) rfl ?_
      refine sq_asg (ed_var rfl) ?_
      exact nx_no (etd_test (ed_notN (ed_ixT (ds := [fr f, .non]) (ed_var rfl) ed_int rfl))) rfl hN
    · refine nx_yes (etd_test (ed_notN (ed_var rfl))) rfl ?_
      refine sq_asg (ed_var rfl) ?_
      refine nx_yes (etd_test (ed_notN (ed_ixT (ds := [fr f, fr s]) (ed_var rfl) ed_int rfl))) rfl ?_
      have nb := (num_bds hr2 hm2).1
      obtain ⟨s0, h8, bf, bs, f0, f1, s1⟩ := hr2
      have i1 : Bz f 70 := ⟨bf⟩
      have i2 : Bz s 70 := ⟨bs⟩
      have sne : s ≠ 0 := fun z => by rw [z] at s0; exact Rat.lt_irrefl s0
      have ik : Bz ((numLo f s m : Int) : Rat) 62 := ⟨bd_small (by omega)⟩
      refine sq_asg (ed_ixT (ds := [.int (numLo f s m), .int (numHi f s m)]) (ed_call (ea_cons (ed_var rfl) (ea_cons (ed_tup (ea_cons (ed_var rfl) (ea_cons (ed_var rfl) ea_nil))) ea_nil)) (rl_law_numbers_in sne)) ed_int rfl) ?_
      refine nx_asg (ed_call (ea_cons (ed_ixT (ds := [fr f, fr s]) (ed_var rfl) ed_int rfl) (ea_cons (ed_call (ea_cons (ed_ixT (ds := [fr f, fr s]) (ed_var rfl) ed_int rfl) (ea_cons ((ed_tup (ea_cons (ed_var rfl) (ea_cons ed_int ea_nil))).is (fr_int _)) ea_nil)) rl_times) ea_nil)) rl_plus) ?_
      exact hN.wk (.keep (.keep (.keep (.keep (.keep (.keep (.keep (.keep (.drop .nil)))))))))
  refine nx_ret hrt (ed_call (ea_cons (en_callDI (ea_cons (eld_list (ed_var rfl)).ed (ea_cons (ed_var rfl) ea_nil)) ⟨p0 :: l, m, rfl, ⟨hok, hm.b.mono (by decide)⟩, rfl⟩ ?_) (ea_cons (ed_var rfl) ea_nil)) (rl_law_alike (pl_firstD r m))) rfl
  rintro _ ⟨r', hr', rfl⟩
  rw [rule_unique hr' hr]
end
end Wk
-- Core19
/-! Slots that stay while a sub-walk goes on; promises that only tell True. -/
namespace Wk
open PySem PySem.Spec
open PyProof.Rows L2 LamX
section
variable {C : Ctx} {σ : L2.St} {F H H1 F2 H2 : Hp} {Γ Γ' : List Slot}
/-- all slots stay, whatever the sub-walk told -/
theorem IV.back (I : IV C σ F H1 Γ) (J : IV { C with F0 := F, H0 := H1 } σ F2 H2 Γ') : IV C σ F2 H2 Γ where
  cS := I.cS
  cT := I.cT
  f0 := I.f0.trans J.f0
  fh := J.fh
  hh := fun a o h hs ht => J.hh a o (I.hh a o h hs ht) hs ht
  fn := fun a h h0 => J.fn a (I.taken h) (I.fn a h h0)
  st := J.st
  tb := J.tb
  ft := J.ft
  len := I.len
  sl := fun i s hs => by
    obtain ⟨o, ho, k⟩ := I.sl i s hs
    refine ⟨o, ho, ?_⟩
    cases s with
    | no => trivial
    | val d =>
      obtain ⟨v, h1, h2⟩ := k
      exact ⟨v, h1, h2.mono J.f0⟩
    | own ds =>
      obtain ⟨p, vs, h1, h2, h3, h4, h5⟩ := k
      exact ⟨p, vs, h1, J.hh p _ h2 (fun s => I.cS p s h4) (fun q hq e => I.cT q hq (by rw [e]; exact h4)), J.fn p (show H1 p ≠ none by rw [h2]; simp) h3, h4, h5.mono J.f0⟩
    | sto => exact k
    | raw v => exact k
  dj := I.dj
/-- the data rule of _law_answer, own lists beside -/
theorem en_ansW {c : Ecl} {T : List (Addr × Str)} {t : XK → TE} {R Rv : Dt → Prop} {PE : Exc → Prop} (hT : C.T = T) (w : Wks Γ Γ') (no : noOwn Γ' = true) (h : ∀ C' E, Le C C' → Eh C' E c PE → EvN C' (t E) Γ' Rv)
    (kR : ∀ d, Rv d → R (.tup [.str "told", d])) (kE : ∀ x, PE x → R (ansD x)) : EvN C (tLamT T (TAns c) t) Γ R := fun σ F H I Q q => by
  subst hT
  refine ⟨I.tb, fun H1 e tb => ?_⟩
  have I1 := I.lam e tb
  obtain ⟨J, le⟩ := (I1.weak w).base2 no
  have hE : Eh { C with F0 := F, H0 := H1 } (fun cls d H' => ∃ x, ERep c H' cls d x ∧ ∀ r H2, Same H' H2 → H' r = none → H2 r = some (.tup (ansV x)) → Q (.ref r) H2) c PE := by
    intro σ' F' H' Γ2 cls dd x I' er px
    refine ⟨x, er, fun r H2 sm hr e2 => ?_⟩
    have eF : Same F F' := I'.f0
    have K1 := I1.back (J.again I' no eF)
    have fr : F' r = none := free_F I'.fh hr
    have g : Grow F' H' (upd F' r (.tup (ansV x))) H2 := ⟨same_upd fr, fun a o z => by
      by_cases n : a = r
      · subst n
        rw [upd_same] at z
        rw [e2]
        exact z
      · rw [upd_ne n] at z
        exact sm _ _ (I'.fh _ _ z), sm, fun a n z => by
      rw [upd_ne (fun w => n (by rw [w]; exact hr))]
      exact z⟩
    exact q (.ref r) _ H2 (ansD x) (K1.grow g) (eF.trans g.ff) (.tup upd_same (ans_reps x)) (kE x px)
  refine h _ _ le hE σ F H1 J _ fun v F2 H2 d I2 s2 r2 k2 => ⟨by show 2 ≤ sizeLine; decide, fun p hp => ?_⟩
  have I3 := I1.back I2
  have g := grow_new (o := .tup [.str "told", v]) I3.fh hp
  exact q (.ref p) _ _ _ (I3.grow g) (s2.trans g.ff) (.tup upd_same (.cons (.str _) (.cons (r2.mono g.ff) .nil))) (kR d k2)
/-- .. the told list new -/
theorem ans_fresh {c : Ecl} {T : List (Addr × Str)} {t : XK → TE} {Rs : List Dt → Prop} {PE : Exc → Prop} {Q : VK} (hT : C.T = T) (no : noOwn Γ = true) (h : ∀ C' E, Le C C' → Eh C' E c PE → EvL C' (t E) Γ Rs) (I : IV C σ F H Γ)
    (k1 : ∀ a p vs F' H' es, IV C σ F' H' Γ → Same F F' → F' a = some (.tup [.str "told", .ref p]) → H p = none → F' p = some (.lst vs) → Reps F' vs es → Rs es → Q (.ref a) H')
    (k2 : ∀ a F' H' x, IV C σ F' H' Γ → Same F F' → F' a = some (.tup (ansV x)) → PE x → Q (.ref a) H') : tLamT T (TAns c) t σ H Q := by
  subst hT
  refine ⟨I.tb, fun H1 e tb => ?_⟩
  have I1 := I.lam e tb
  obtain ⟨J, le⟩ := I1.base2 no
  have hE : Eh { C with F0 := F, H0 := H1 } (fun cls d H' => ∃ x, ERep c H' cls d x ∧ ∀ r H2, Same H' H2 → H' r = none → H2 r = some (.tup (ansV x)) → Q (.ref r) H2) c PE := by
    intro σ' F' H' Γ2 cls dd x I' er px
    refine ⟨x, er, fun r H2 sm hr e2 => ?_⟩
    have eF : Same F F' := I'.f0
    have K1 := le _ _ _ _ (J.again I' no eF)
    have fr : F' r = none := free_F I'.fh hr
    have g : Grow F' H' (upd F' r (.tup (ansV x))) H2 := ⟨same_upd fr, fun a o z => by
      by_cases n : a = r
      · subst n
        rw [upd_same] at z
        rw [e2]
        exact z
      · rw [upd_ne n] at z
        exact sm _ _ (I'.fh _ _ z), sm, fun a n z => by
      rw [upd_ne (fun w => n (by rw [w]; exact hr))]
      exact z⟩
    exact k2 r _ H2 x (K1.grow g) (eF.trans g.ff) upd_same px
  refine h _ _ le hE σ F H1 J _ fun p vs F2 H2 es I2 s2 hp hf h0 nw r2 z2 => ⟨by show 2 ≤ sizeLine; decide, fun a ha => ?_⟩
  have h0' : H1 p = none := h0
  have hp0 : H p = none := by
    cases ep : H p with
    | none => rfl
    | some o =>
      by_cases ht : ∀ q ∈ C.T, q.1 ≠ p
      · have := e p o ep ht
        rw [h0'] at this
        cases this
      · have ⟨q, hq, hqa⟩ : ∃ q ∈ C.T, q.1 = p := by
          apply Classical.byContradiction
          intro z
          exact ht fun q hq e => z ⟨q, hq, e⟩
        obtain ⟨ps, e3⟩ := I1.tabH hq
        rw [hqa, h0'] at e3
        cases e3
  have I3 := (le _ _ _ _ (I2.freeze hp hf h0 nw))
  have sF : Same F2 (upd F2 p (.lst vs)) := same_upd hf
  have g := grow_new (o := .tup [.str "told", .ref p]) I3.fh ha
  refine k1 a p vs _ _ es (I3.grow g) ((s2.trans sF).trans g.ff) upd_same hp0 (g.ff _ _ upd_same) ((r2.mono sF).mono g.ff) z2
theorem IV.alone (I : IV C σ F H Γ) (no : noOwn Γ = true) (ns : noSto Γ = true) : IV ⟨fun _ => False, C.T, F, H⟩ σ F H Γ :=
  ⟨fun _ z => z.elim, fun q h => I.taken (I.cT q h), .refl _, I.fh, fun _ _ h _ _ => h, fun _ _ h => h, fun _ z => z.elim, I.tb, I.ft, I.len, fun i s hs => by
    obtain ⟨o, ho, k⟩ := I.sl i s hs
    refine ⟨o, ho, ?_⟩
    cases s with
    | no => trivial
    | val d => exact k
    | own ds =>
      have := List.all_eq_true.mp no _ (List.mem_of_getElem? hs)
      cases this
    | sto =>
      have := List.all_eq_true.mp ns _ (List.mem_of_getElem? hs)
      cases this
    | raw v => exact k, I.dj⟩
/-- behind such a walk all of the old stays -/
theorem IV.after {F0 F' H' : Hp} {σ' : L2.St} {Γ2 : List Slot} (I : IV C σ F H Γ) (J : IV ⟨fun _ => False, C.T, F0, H⟩ σ' F' H' Γ2) : IV C σ F H' Γ :=
  I.lam (fun a o h ht => J.hh a o h (fun z => z) ht) J.tb
/-- a slot is set to a value that nothing is told of -/
theorem IV.setNo (I : IV C σ F H Γ) {i : Nat} {v : Option V} : IV C (σ.set i v) F H (Γ.set i .no) where
  cS := I.cS
  cT := I.cT
  f0 := I.f0
  fh := I.fh
  hh := I.hh
  fn := I.fn
  st := I.st
  tb := I.tb
  ft := I.ft
  len := by rw [List.length_set, List.length_set]; exact I.len
  sl := fun j s hs => by
    by_cases e : i = j
    · subst e
      have hj : i < Γ.length := by
        have := (List.getElem?_eq_some_iff.mp hs).1
        rwa [List.length_set] at this
      rw [List.getElem?_set_self hj] at hs
      cases hs
      exact ⟨v, List.getElem?_set_self (by rw [I.len]; exact hj), trivial⟩
    · rw [List.getElem?_set_ne e] at hs ⊢
      exact I.sl j s hs
  dj := fun a b ds es p h1 h2 h3 h4 => by
    have key : ∀ c ds'', (Γ.set i .no)[c]? = some (.own ds'') → i ≠ c := fun c ds'' h e => by
      subst e
      have hj : i < Γ.length := by
        have := (List.getElem?_eq_some_iff.mp h).1
        rwa [List.length_set] at this
      rw [List.getElem?_set_self hj] at h
      cases h
    have ha := key a _ h1
    have hb := key b _ h2
    rw [List.getElem?_set_ne ha] at h1 h3
    rw [List.getElem?_set_ne hb] at h2 h4
    exact I.dj a b ds es p h1 h2 h3 h4
end
/-! ### promises that tell True alone -/
def spST (T : List (Addr × Str)) (Rl : List Dt → Prop) : Sp := fun vs H Q _ => ∃ p vs' F ds, vs = .ref p :: vs' ∧ Same F H ∧ TabF T F H ∧ StoreAt F H p ∧ Reps F vs' ds ∧ Rl ds ∧ ∀ H', Q (.bl true) H'
def ctxST (p : Addr) (T : List (Addr × Str)) (F H : Hp) : Ctx := ⟨fun a => a = p, T, F, H⟩
theorem len_ST {T : List (Addr × Str)} {Rl : List Dt → Prop} {n : Nat} (h : ∀ ds, Rl ds → ds.length = n) : ∀ vs H Q E, spST T Rl vs H Q E → vs.length = n + 1 := fun vs H Q E z => by
  obtain ⟨p, vs', F, ds, rfl, _, _, _, r, hR, _⟩ := z
  rw [List.length_cons, r.length, h ds hR]
theorem enterST {T : List (Addr × Str)} {N : List Str} {t : TS} {vs : List V} {H : Hp} {Q : VK} {E : XK} {Rl : List Dt → Prop} (h : spST T Rl vs H Q E) (k : ∀ C ds, C.T = T → Rl ds → Rt C Q (fun e => e = .bl true) → NX C (t { nx := fun _ H' => Q .non H', rt := Q }) (slots N (.sto :: ds.map .val))) : t { nx := fun _ H' => Q .non H', rt := Q } (L2.start N vs) H := by
  obtain ⟨p, vs', F, ds, rfl, hF, ht, hst, hr, hR, hq⟩ := h
  have hp : H p ≠ none := by
    obtain ⟨_, us, es, e, _⟩ := hst
    rw [e]
    simp
  obtain ⟨h1, h2⟩ := slot_start (N := N) (vs := .ref p :: vs') (l := .sto :: ds.map Slot.val) (C := ctxST p T F H) (F := F) (H := H) (by rw [List.length_cons, List.length_cons, List.length_map, hr.length]) fun i s hs => by
    cases i with
    | zero =>
      cases Option.some.inj hs
      exact ⟨_, rfl, p, rfl, rfl⟩
    | succ i =>
      have hs' : (ds.map Slot.val)[i]? = some s := hs
      rw [List.getElem?_map] at hs'
      cases e : ds[i]? with
      | none =>
        rw [e] at hs'
        cases hs'
      | some d =>
        rw [e] at hs'
        cases Option.some.inj hs'
        obtain ⟨v, hv, r⟩ := hr.get e
        exact ⟨v, hv, v, rfl, r⟩
  have no : noOwn (slots N (.sto :: ds.map Slot.val)) = true := by
    unfold noOwn slots
    rw [List.all_append]
    simp [List.all_eq_true]
  refine k (ctxST p T F H) ds rfl hR (fun σ F' H' Γ v d I r pd => by
    subst pd
    rw [r.bl_inv]
    exact hq H') _ F H
    ⟨fun q z => by rw [show q = p from z]; exact hp, tab_there ht.tb, .refl _, hF, fun _ _ h _ _ => h, fun _ _ h => h, fun q z => by rw [show q = p from z]; exact hst, ht.tb, ht.ft, h1, h2, fun i j d1 d2 p e1 => ?_⟩
  have := List.all_eq_true.mp no _ (List.mem_of_getElem? e1)
  cases this
section
variable {C : Ctx} {Γ : List Slot} {ta tb : TE} {ds : List Dt}
theorem eld_rep2 (ha : EvD C ta Γ (.lst ds)) (hb : EvD C tb Γ (.int 2)) (hl : ds.length ≤ 500) : ElD C (tOp rRep ta tb) Γ (ds ++ ds) := el_new fun σ F H I Q q =>
  ha σ F H I _ fun x F1 H1 d I1 s1 r1 k1 => hb σ F1 H1 I1 _ fun y F2 H2 e I2 s2 r2 k2 => by
    subst k1 k2
    obtain ⟨a, vs, rfl, hF, rs⟩ := (r1.mono s2).lst_inv
    have hz : vs.length * 2 ≤ sizeLine := by
      rw [rs.length]
      exact Nat.le_of_lt (small1000 (by omega))
    refine ⟨a, 2, vs, rfl, r2.int_inv, I2.fh _ _ hF, by decide, by decide, hz, fun p hp => ?_⟩
    have e2 : (List.replicate (2 : Int).toNat vs).flatten = vs ++ vs := by
      show (List.replicate 2 vs).flatten = vs ++ vs
      simp [List.replicate]
    rw [e2]
    exact q p _ F2 H2 _ I2 (s1.trans s2) (rs.append rs) rfl hp
end
end Wk
-- D41
namespace Wk
open PySem PySem.Spec
open PyProof.Rows L2
section
variable {P : Program}
variable {w : World} {K : PySem.W.Frag} {mg : Str → Option Value} {base : Heap}
theorem divInt_mul {n d : Int} (h : 0 < d) : Rat.divInt n d * (d : Rat) = (n : Rat) := by
  rw [Rat.divInt_eq_div]
  exact Rat.div_mul_cancel (fun z => by
    have hp : (0 : Rat) < (d : Rat) := Rat.intCast_pos.mpr h
    rw [z] at hp
    exact Rat.lt_irrefl hp)
theorem wide_of {n d : Int} (h : 0 < d) (h2 : d ≤ 2 * n) : ((Rat.divInt n d).den : Int) ≤ 2 * (Rat.divInt n d).num := by
  have e := divInt_mul (n := n) h
  generalize Rat.divInt n d = q at e ⊢
  have dp : (0 : Rat) < (d : Rat) := Rat.intCast_pos.mpr h
  have h3 : ((d : Int) : Rat) ≤ ((2 * n : Int) : Rat) := Rat.intCast_le_intCast.mpr h2
  rw [Rat.intCast_mul, ← e] at h3
  have e2 : ((2 : Int) : Rat) = 2 := rfl
  rw [e2] at h3
  have h4 : (1 : Rat) ≤ 2 * q := by
    have : (d : Rat) * 1 ≤ (d : Rat) * (2 * q) := by grind
    exact Rat.le_of_mul_le_mul_left this dp
  have h5 := num_eq q
  have qp : (0 : Rat) ≤ (q.den : Rat) := Rat.natCast_nonneg
  have h6 : (q.den : Rat) * 1 ≤ (q.den : Rat) * (2 * q) := Rat.mul_le_mul_of_nonneg_left h4 qp
  refine Rat.intCast_le_intCast.mp ?_
  rw [Rat.intCast_mul, h5, e2, Rat.intCast_natCast]
  grind
theorem neg_of {n d : Int} (h : 0 < d) (h2 : n < 0) : (Rat.divInt n d).num < 0 := by
  have e := divInt_mul (n := n) h
  generalize Rat.divInt n d = q at e ⊢
  have dp : (0 : Rat) ≤ (d : Rat) := Rat.le_of_lt (Rat.intCast_pos.mpr h)
  apply Classical.byContradiction
  intro z
  have q0 : 0 ≤ q := Rat.num_nonneg.mp (by omega)
  have := Rat.mul_nonneg q0 dp
  rw [e] at this
  have := Rat.intCast_nonneg.mp this
  omega
theorem cut_head (d : Dt) (ds : List Dt) : cutD (d :: ds) none (some 1) = [d] := by
  unfold cutD
  have e : HT.sIx (d :: ds).length (d :: ds).length (some 1) = 1 := by
    show HT.sIx (d :: ds).length _ (some ((1 : Nat) : Int)) = 1
    rw [HT.sIx_nat]
    simp
  rw [e]
  rfl
def wrongs (x y : Rat) : List Dt := [.tup [.int 1, .int 2], .tup [.int (-1), .int (10 ^ 39)], .tup [.int 0, .int 2], .int 0, .non, .tup [.bl false, .int 1], fr x, fr x, fr x, fr y, fr y]
theorem wrong_ok {x y : Rat} (hx : (x.den : Int) ≤ 2 * x.num) (hy : y.num < 0) {e : Dt} (h : e ∈ wrongs x y) : WdOk e false := by
  unfold wrongs at h
  simp only [List.mem_cons, List.not_mem_nil, or_false] at h
  rcases h with rfl | rfl | rfl | rfl | rfl | rfl | rfl | rfl | rfl | rfl | rfl
  · have e : Dt.tup [.int 1, .int 2] = fr (1 / 2) := fr_lit (by decide +kernel)
    rw [e]
    exact .wide _ (by decide +kernel)
  · have e : Dt.tup [.int (-1), .int (10 ^ 39)] = fr (mkRat (-1) (10 ^ 39)) := fr_lit (by decide +kernel)
    rw [e]
    exact .neg _ (by decide +kernel)
  · exact .notfr (.pair 0 2)
  · exact .notfr (.int 0)
  · exact .notfr .non
  · exact .notfr (.blp false 1)
  · exact .wide _ hx
  · exact .wide _ hx
  · exact .wide _ hx
  · exact .neg _ hy
  · exact .neg _ hy
def badW : Dt := .tup [.str "BadValue", .str "width"]
def badC : Dt := .tup [.str "BadValue", .str "cycles"]
def Rl_refused_right (K : PySem.W.Frag) (zs0 : List Dt) : Prop := ∃ (p0 : Rat × Rat) (l : Rows) (a b : Rat), zs0 = [.lst ((p0 :: l).map (cyc K)), .tup [fr a, fr b]] ∧ RowsOk (p0 :: l) ∧ EndSm a ∧ EndSm b ∧ a ≤ b
theorem len_refused_right {K : PySem.W.Frag} : ∀ ds, Rl_refused_right K ds → ds.length = 2 := fun _ ⟨_, _, _, _, e, _⟩ => by rw [e]; rfl
theorem ok_law_refused_right (Bq : Bt K mg base) : Cl P w K mg base CX0 10 "_law_refused_right" (spST (T0 K) (Rl_refused_right K)) [] := by
  have B := Bq.b
  refine cl_ofT (N := ["_law_store_here", "_law_cycles", "_law_ends", "_law_more", "_law_less", "_law_wrong", "_law_span", "_law_told"]) (ps := ["_law_store_here", "_law_cycles", "_law_ends"]) B.d_law_refused_right B.g_law_refused_right (by decide +kernel) (fun _ _ _ _ _ _ us hl => match us, hl with | [_, _, _], _ => rfl)
    (len_ST len_refused_right) fun f A outer s H vs Q E hr h => ?_
  have nd : (["_law_store_here", "_law_cycles", "_law_ends", "_law_more", "_law_less", "_law_wrong", "_law_span", "_law_told"] : List Str).Nodup := by decide +kernel
  refine ⟨_, PSs.nox (pss_cons (ps_set (i := 3) nd rfl (by first | exact Or.inl rfl | exact Or.inr rfl) (pe_cl (ok_law_lowest B) hr (by decide) pass0 (pa_cons (pe_op op_add pe_int (pe_cl (ok_law_take B) hr (by decide) pass0 (pa_cons (pv 0) (pa_cons pe_int pa_nil)))) (pa_cons pe_int pa_nil))))
  (pss_cons (ps_set (i := 4) nd rfl (by first | exact Or.inl rfl | exact Or.inr rfl) (pe_cl (ok_law_lowest B) hr (by decide) pass0 (pa_cons (pe_op op_sub (pe_un un_neg pe_int) (pe_cl (ok_law_take B) hr (by decide) pass0 (pa_cons (pv 0) (pa_cons pe_int pa_nil)))) (pa_cons (pe_op op_add pe_int (pe_cl (ok_law_take B) hr (by decide) pass0 (pa_cons (pv 0) (pa_cons pe_int pa_nil)))) pa_nil))))
  (pss_cons (ps_set (i := 5) nd rfl (by first | exact Or.inl rfl | exact Or.inr rfl) (pe_cl (ok_law_pick B) hr (by decide) pass0 (pa_cons (pv 0) (pa_cons (pe_lst (pa_cons (pe_tup (pa_cons pe_int (pa_cons pe_int pa_nil))) (pa_cons (pe_tup (pa_cons (pe_un un_neg pe_int) (pa_cons (pe_op op_pow pe_int pe_int) pa_nil))) (pa_cons (pe_tup (pa_cons pe_int (pa_cons pe_int pa_nil))) (pa_cons pe_int (pa_cons pe_non (pa_cons (pe_tup (pa_cons pe_bl (pa_cons pe_int pa_nil))) (pa_cons (pv 3) (pa_cons (pv 3) (pa_cons (pv 3) (pa_cons (pv 4) (pa_cons (pv 4) pa_nil)))))))))))) pa_nil))))
  (pss_cons (ps_set (i := 6) nd rfl (by first | exact Or.inl rfl | exact Or.inr rfl) (pe_ci (ok_Span_init B) hr (by decide) pass0 (pa_cons (pe_ix ix_tup (pv 2) pe_int (fun _ _ => rfl)) (pa_cons (pe_ix ix_tup (pv 2) pe_int (fun _ _ => rfl)) pa_nil))))
  (pss_cons (ps_set (i := 7) nd rfl (by first | exact Or.inl rfl | exact Or.inr rfl) (pe_lst (pa_cons (pe_ans (k := 7) B (Bq.tb _ (by decide +kernel : (("_law_refused_right", none) : He.Defn) ∈ tf)) rfl (t0_mem (d := ("_law_refused_right", none)) (by decide +kernel)) (Bq.hu (d := ("_law_refused_right", none)) (by decide +kernel)) (hr.mono (by decide)) (LamX.lamS_by (by show LamX.lamSB (defScope (top 123)) _ = true; decide +kernel)) rfl (fun _ _ _ _ _ => rfl) fun A outer s H E f c' hr => (pe_ck (ok_near_spans B) hr (by decide) (passes_call (takes_of rfl rfl rfl rfl) fun _ _ _ _ z => z) (pa_cons (pe_callTy (call_list_ofK (K := K)) (by rfl) B.z_list (by decide +kernel) (pa_cons (pv 1) pa_nil)) (pa_cons (pv 6) pa_nil)) (pk_cons (pv 5) pk_nil))) pa_nil)))
  (pss_cons (ps_expr (pe_bm PySem.F.plainAttrs_list PySem.F.slot_list_append PySem.F.type_list_append mt_append (pv 7) (pa_cons (pe_ans (k := 7) B (Bq.tb _ (by decide +kernel : (("_law_refused_right", none) : He.Defn) ∈ tf)) rfl (t0_mem (d := ("_law_refused_right", none)) (by decide +kernel)) (Bq.hu (d := ("_law_refused_right", none)) (by decide +kernel)) (hr.mono (by decide)) (LamX.lamS_by (by show LamX.lamSB (defScope (top 123)) _ = true; decide +kernel)) rfl (fun _ _ _ _ _ => rfl) fun A outer s H E f c' hr => (pe_ck (ok_near_spans B) hr (by decide) (passes_call (takes_of rfl rfl rfl rfl) fun _ _ _ _ z => z) (pa_cons (pe_slice (sl_listK (K := K)) (pv 1) po_none (po_some pe_int)) (pa_cons (pv 6) pa_nil)) (pk_cons (pv 5) pk_nil))) pa_nil)))
  (pss_cons (ps_expr (pe_bm PySem.F.plainAttrs_list PySem.F.slot_list_append PySem.F.type_list_append mt_append (pv 7) (pa_cons (pe_ans (k := 6) B (Bq.tb _ (by decide +kernel : (("_law_refused_right", none) : He.Defn) ∈ tf)) rfl (t0_mem (d := ("_law_refused_right", none)) (by decide +kernel)) (Bq.hu (d := ("_law_refused_right", none)) (by decide +kernel)) (hr.mono (by decide)) (LamX.lamS_by (by show LamX.lamSB (defScope (top 123)) _ = true; decide +kernel)) rfl (fun _ _ _ _ _ => rfl) fun A outer s H E f c' hr => (pe_ck (ok_is_near B) hr (by decide) (passes_call (takes_of rfl rfl rfl rfl) fun _ _ _ _ z => z) (pa_cons (pe_callTy (call_list_ofK (K := K)) (by rfl) B.z_list (by decide +kernel) (pa_cons (pv 1) pa_nil)) (pa_cons (pe_ix (ix_tupK (K := K)) (pv 2) pe_int (fun _ _ => rfl)) pa_nil)) (pk_cons (pv 5) pk_nil))) pa_nil)))
  (pss_cons (ps_expr (pe_bm PySem.F.plainAttrs_list PySem.F.slot_list_append PySem.F.type_list_append mt_append (pv 7) (pa_cons (pe_ans (k := 7) B (Bq.tb _ (by decide +kernel : (("_law_refused_right", none) : He.Defn) ∈ tf)) rfl (t0_mem (d := ("_law_refused_right", none)) (by decide +kernel)) (Bq.hu (d := ("_law_refused_right", none)) (by decide +kernel)) (hr.mono (by decide)) (LamX.lamS_by (by show LamX.lamSB (defScope (top 123)) _ = true; decide +kernel)) rfl (fun _ _ _ _ _ => rfl) fun A outer s H E f c' hr => (pe_ck (ok_near_spans B) hr (by decide) (passes_call (takes_of rfl rfl rfl rfl) fun _ _ _ _ z => z) (pa_cons (pe_callTy (call_tuple_ofK (K := K)) (by rfl) B.z_tuple (by decide +kernel) (pa_cons (pv 1) pa_nil)) (pa_cons (pv 6) pa_nil)) (pk_cons (pe_tup (pa_cons pe_int (pa_cons pe_int pa_nil))) pk_nil))) pa_nil)))
  (pss_one (ps_ret (pe_cl (ok_law_alike B) hr (by decide) pass0 (pa_cons (pv 7) (pa_cons (pe_op op_rep (pe_lst (pa_cons (pe_tup (pa_cons pe_str (pa_cons pe_str pa_nil))) (pa_cons (pe_tup (pa_cons pe_str (pa_cons pe_str pa_nil))) pa_nil))) pe_int) pa_nil))))))))))))), enterST h fun C ds hT hR hrt => ?_⟩
  obtain ⟨p0, l, a, b, rfl, hok, ha, hb, hab⟩ := hR
  show NX C _ [.sto, .val (.lst ((p0 :: l).map (cyc K))), .val (.tup [fr a, fr b]), .no, .no, .no, .no, .no]
  refine sq_asgN (R := FrP fun q => (q.den : Int) ≤ 2 * q.num) (en_callI (EvA.imp (en_cons (en_rI0 (R := fun d => ∃ k : Int, d = .int (12 + k) ∧ 0 ≤ k ∧ k < 13) ed_int (en_take rfl ed_int ⟨by decide, by decide⟩) ?_) (ea_cons ed_int ea_nil)) ?_)) ?_
  · rintro _ _ rfl ⟨k, rfl, k0, k1⟩
    exact ⟨12, k, rfl, rfl, k, rfl, k0, k1⟩
  · rintro _ ⟨_, _, rfl, ⟨k, rfl, k0, k1⟩, rfl⟩
    exact ⟨_, rl_lowest (by decide) (lt9000 (n := 6) (by decide) (by decide)), fun e z => ⟨_, z, wide_of (by decide) (by omega)⟩⟩
  rintro _ ⟨x, rfl, hx⟩
  refine sq_asgN (R := FrP fun q => q.num < 0) (en_callI (EvA.imp (en_cons (en_rI0 (R := fun d => ∃ k : Int, d = .int k ∧ k < 0) (ed_neg ed_int) (en_take rfl ed_int ⟨by decide, by decide⟩) ?_) (en_cons (en_rI0 (R := fun d => ∃ k : Int, d = .int k ∧ 0 < k ∧ k < 64) ed_int (en_take rfl ed_int ⟨by decide, by decide⟩) ?_) ea_nil)) ?_)) ?_
  · rintro _ _ rfl ⟨k, rfl, k0, k1⟩
    exact ⟨-1, k, rfl, rfl, _, rfl, by omega⟩
  · rintro _ _ rfl ⟨k, rfl, k0, k1⟩
    exact ⟨1, k, rfl, rfl, _, rfl, by omega, by omega⟩
  · rintro _ ⟨_, _, rfl, ⟨k, rfl, k0⟩, _, _, rfl, ⟨j, rfl, j0, j1⟩, rfl⟩
    exact ⟨_, rl_lowest (by omega) (lt9000 (n := 6) (by show j.natAbs < 64; omega) (by decide)), fun e z => ⟨_, z, neg_of j0 k0⟩⟩
  rintro _ ⟨y, rfl, hy⟩
  refine sq_asgN (en_pick rfl ((eld_lst (ds := wrongs x y) (ea_cons (ed_tup (ea_cons ed_int (ea_cons ed_int ea_nil))) (ea_cons (ed_tup (ea_cons (ed_neg ed_int) (ea_cons ((ed_rI ed_int ed_int ⟨by decide, by decide, by decide⟩).is rfl) ea_nil))) (ea_cons (ed_tup (ea_cons ed_int (ea_cons ed_int ea_nil))) (ea_cons ed_int (ea_cons ed_non (ea_cons (ed_tup (ea_cons ed_bl (ea_cons ed_int ea_nil))) (ea_cons (ed_var rfl) (ea_cons (ed_var rfl) (ea_cons (ed_var rfl) (ea_cons (ed_var rfl) (ea_cons (ed_var rfl) ea_nil)))))))))))).ed) ⟨by show 1 ≤ 11; decide, by show 11 ≤ 1000; decide⟩) ?_
  intro w hw0
  have hw := wrong_ok hx hy hw0
  clear hw0
  refine sq_asg (d := spn K a b) (ed_make (ea_cons (ed_ixT (ed_var rfl) ed_int rfl) (ea_cons (ed_ixT (ed_var rfl) ed_int rfl) ea_nil)) ⟨a, b, 400, rfl, rfl, hab, ha.b, hb.b, by decide⟩) ?_
  have kW : ∀ x, x = Exc.bad "width" → ansD x = badW := fun x h => by rw [h] <;> rfl
  have kC : ∀ x, x = Exc.bad "cycles" → ansD x = badC := fun x h => by rw [h] <;> rfl
  have noR : ∀ {e : Dt}, ∀ d, False → Dt.tup [.str "told", d] = e := fun d z => z.elim
  refine sq_asgO (ds := [badW]) (eld_lst (ea_cons (en_ansW (c := ecl K) hT (.refl _) rfl (fun C' E le hE => EvL.ev (Rs := fun _ => False) (el_ckL hE (ea_cons (eld_list (ed_var rfl)).ed (ea_cons (ed_var rfl) ea_nil)) (ea_cons (ed_var rfl) ea_nil) rfl rfl ⟨_, ⟨_, _, a, b, rfl, .wid (p0 :: l) w ⟨hok.1, hok.2.1⟩ hw⟩, fun x hx => hx⟩) fun ds z => z) noR kW) ea_nil)) ?_
  have W : ∀ {ds : List Dt}, Wks [.sto, .val (.lst ((p0 :: l).map (cyc K))), .val (.tup [fr a, fr b]), .val (fr x), .val (fr y), .val w, .val (spn K a b), .own ds] [.sto, .val (.lst ((p0 :: l).map (cyc K))), .val (.tup [fr a, fr b]), .val (fr x), .val (fr y), .val w, .val (spn K a b), .no] := .keep (.keep (.keep (.keep (.keep (.keep (.keep (.drop .nil)))))))
  refine sq_app (d := badC) rfl (en_ansW (c := ecl K) hT W rfl (fun C' E le hE => EvL.ev (Rs := fun _ => False) (el_ckL hE (ea_cons ((eld_sl (ed_var rfl) eo_none (eo_some ed_int)).ed.is (congrArg Dt.lst (cut_head _ _))) (ea_cons (ed_var rfl) ea_nil)) (ea_cons (ed_var rfl) ea_nil) rfl rfl ⟨_, ⟨_, _, a, b, rfl, .cyc _ w (.one p0)⟩, fun x hx => hx⟩) fun ds z => z) noR kC) (by show 1 < 1000; decide) ?_
  refine sq_app (d := badW) rfl (en_ansW (c := ecl K) (Rv := fun e => false = true ∧ e = .bl (nearB (p0 :: l) a)) hT W rfl (fun C' E le hE => en_ckX hE (ea_cons (eld_list (ed_var rfl)).ed (ea_cons (ed_ixT (ed_var rfl) ed_int rfl) ea_nil)) (ea_cons (ed_var rfl) ea_nil) rfl rfl ⟨_, ⟨p0 :: l, a, w, false, rfl, ⟨hok, ha.b.mono (by decide), hw⟩, rfl, rfl⟩, fun x hx => hx.2⟩) (fun d z => nomatch z.1) kW) (by show 2 < 1000; decide) ?_
  refine sq_app (d := badC) rfl (en_ansW (c := ecl K) hT W rfl (fun C' E le hE => EvL.ev (Rs := fun _ => False) (el_ckL hE (ea_cons (ed_tuple (ed_var rfl)) (ea_cons (ed_var rfl) ea_nil)) (ea_cons fr0 ea_nil) rfl rfl ⟨_, ⟨_, _, a, b, rfl, .cyc _ _ (.tup _)⟩, fun x hx => hx⟩) fun ds z => z) noR kC) (by show 3 < 1000; decide) ?_
  refine nx_freeze (i := 7) rfl ?_
  refine nx_ret hrt (ed_call (ea_cons (ed_var rfl) (ea_cons ((eld_rep2 (eld_lst (ds := [badW, badC]) (ea_cons (ed_tup (ea_cons ed_str (ea_cons ed_str ea_nil))) (ea_cons (ed_tup (ea_cons ed_str (ea_cons ed_str ea_nil))) ea_nil))).ed ed_int (by show 2 ≤ 500; decide)).ed.is rfl) ea_nil)) (rl_law_alike (.lst (fun d hd => ?_) (by show 4 ≤ 1000; decide)))) rfl
  have p2 : ∀ x y : Str, Pl 4 (.tup [.str x, .str y]) := fun x y => pl_two (n := 3) (.str _ _)
  simp only [List.mem_cons, List.not_mem_nil, or_false, List.nil_append, List.cons_append] at hd
  rcases hd with rfl | rfl | rfl | rfl
  · exact p2 _ _
  · exact p2 _ _
  · exact p2 _ _
  · exact p2 _ _
end
end Wk
-- D42
namespace Wk
open PySem PySem.Spec
open PyProof.Rows L2
section
variable {P : Program}
variable {w : World} {K : PySem.W.Frag} {mg : Str → Option Value} {base : Heap}
theorem set_self {σ : L2.St} {i : Nat} {o : Option V} (h : σ[i]? = some o) : σ.set i o = σ := by
  have hlt : i < σ.length := (List.getElem?_eq_some_iff.mp h).1
  apply List.ext_getElem?
  intro j
  by_cases e : i = j
  · subst e
    rw [List.getElem?_set_self hlt, h]
  · rw [List.getElem?_set_ne e]
theorem ans_not (x : Exc) : ∃ s d, ansD x = .tup [.str s, d] ∧ decide (s = "told") = false := by
  cases x with
  | bad z => exact ⟨_, _, rfl, by decide⟩
  | many n => exact ⟨_, _, rfl, by decide⟩
  | endless => exact ⟨_, _, rfl, by decide⟩
/-- a told list, changed; a given list, cleared -/
theorem nx_box {C : Ctx} {Γ Γw Γp : List Slot} {D : Ends} {u sr : TS} {T : List (Addr × Str)} {c : Ecl} {t : XK → TE} {tt : TT} {PE : Exc → Prop} {Rs : List Dt → Prop} {K1 K2 K3 K4 : PySem.W.Frag} {gs : List Dt} {dsp : Dt} (hT : C.T = T) (hg : Γ[7]? = some (.own gs)) (w : Wks Γ Γw) (hp : Γw.set 7 (.val (.lst gs)) = Γp)
    (no : noOwn Γw = true) (no2 : noOwn Γp = true) (ns : noSto Γp = true) (h8 : Γp[8]? = some (.val dsp)) (hl : 10 < Γp.length)
    (hE : ∀ C' E, Eh C' E c PE → EvL C' (t E) Γp Rs) (hR : ∀ es, Rs es → es.length ≤ 1000)
    (hif : ∀ (C' : Ctx) e, ((∃ es, Rs es ∧ e = .tup [.str "told", .lst es]) ∨ ∃ x, PE x ∧ e = ansD x) → EtD C' tt (Γp.set 10 (.val e)) false)
    (k : NX C (u D) ((Γ.set 7 (.own [])).set 10 .no)) :
    NX C (tSeq (tAsg (tLamT T (TAns c) t) (gName 10)) (tSeq (tIfS tt sr tNext) (tSeq (tIfS (tTest (tOp rEq (tOp (rIxT K1) (tVar 10) (tC (.int 0))) (tC (.str "told")))) (tDrop (tBM K2 "list" rAppend (tOp (rIxT K3) (tVar 10) (tC (.int 1))) (tCons (tVar 8) tNil))) tNext) (tSeq (tDrop (tBM0 K4 "list" rClear (tVar 7))) u))) D) Γ := fun σ F H I => by
  obtain ⟨o, ho, pg, vg, e1, hpg, hfg, h0g, rg⟩ := I.sl 7 _ hg
  subst e1
  have Iw := I.weak w
  have I3 := (Iw.freeze hpg hfg h0g (noOwn_no no)).setVal (i := 7) (v := .ref pg) (d := .lst gs) (.lst upd_same (rg.mono (same_upd hfg)))
  rw [set_self ho, hp] at I3
  have I4 := I3.alone no2 ns
  have hlσ : 10 < σ.length := by rw [I3.len]; exact hl
  have at10 : ∀ {a : Addr}, (σ.set 10 (some (.ref a)))[10]? = some (some (.ref a)) := List.getElem?_set_self hlσ
  have at7 : ∀ {a : Addr}, (σ.set 10 (some (.ref a)))[7]? = some (some (.ref pg)) := by
    intro a
    rw [List.getElem?_set_ne (by decide)]
    exact ho
  have g10 : ∀ e, (Γp.set 10 (.val e))[10]? = some (.val e) := fun e => List.getElem?_set_self hl
  have g8 : ∀ e, (Γp.set 10 (.val e))[8]? = some (.val dsp) := fun e => by
    rw [List.getElem?_set_ne (by decide)]
    exact h8
  -- what stands at the end
  have fin : ∀ {F3 H3 : Hp} {a : Addr} {Γ2 : List Slot}, IV ⟨fun _ => False, C.T, upd F pg (.lst vg), H⟩ (σ.set 10 (some (.ref a))) F3 H3 Γ2 → (tSeq (tDrop (tBM0 K4 "list" rClear (tVar 7))) u D) (σ.set 10 (some (.ref a))) H3 := fun {F3 H3 a Γ2} J => by
    have K1 : IV C σ F H3 Γ := I.after J
    obtain ⟨o2, ho2, pg2, vg2, e2, hpg2, _⟩ := K1.sl 7 _ hg
    rw [ho] at ho2
    cases ho2
    cases e2
    refine ⟨.ref pg, at7, .inl ⟨rfl, vg2, .inl (.inl hpg2)⟩, pg, vg2, rfl, rfl, hpg2, ?_⟩
    exact k _ F _ ((K1.put hg ho .nil).setNo)
  have finA : ∀ {F3 H3 : Hp} {a p : Addr} {vs : List V} {Γ2 : List Slot}, IV ⟨fun _ => False, C.T, upd F pg (.lst vg), H⟩ (σ.set 10 (some (.ref a))) F3 H3 Γ2 → Γ2[8]? = some (.val dsp) → H p = none → H3 a = some (.tup [.str "told", .ref p]) → H3 p = some (.lst vs) → vs.length < sizeLine →
      (tDrop (tBM K2 "list" rAppend (tOp (rIxT K3) (tVar 10) (tC (.int 1))) (tCons (tVar 8) tNil)) { D with nx := tSeq (tDrop (tBM0 K4 "list" rClear (tVar 7))) u D }) (σ.set 10 (some (.ref a))) H3 := fun {F3 H3 a p vs Γ2} J hj8 hp0 ha hp3 hlen => by
    obtain ⟨o8, ho8, v8, e8, r8⟩ := J.sl 8 _ hj8
    subst e8
    refine ⟨.ref a, at10, a, [.str "told", .ref p], 1, .ref p, rfl, rfl, .inl (.inl ha), rfl, .inl ⟨rfl, vs, .inl (.inl hp3)⟩, v8, ho8, p, vs, v8, rfl, rfl, hp3, hlen, ?_⟩
    have K1 : IV C σ F H3 Γ := I.after J
    have fp : F p = none := free_F I.fh hp0
    have K2 := K1.upd0 (ws := vs ++ [v8]) hp3 fp (I.fresh0 hp0) (notOwn_new I hp0)
    obtain ⟨o2, ho2, pg2, vg2, e2, hpg2, _⟩ := K2.sl 7 _ hg
    rw [ho] at ho2
    cases ho2
    cases e2
    refine ⟨.ref pg, at7, .inl ⟨rfl, vg2, .inl (.inl hpg2)⟩, pg, vg2, rfl, rfl, hpg2, ?_⟩
    exact k _ F _ ((K2.put hg ho .nil).setNo)
  refine ans_fresh (C := ⟨fun _ => False, C.T, upd F pg (.lst vg), H⟩) hT no2 (fun C' E _ he => hE C' E he) I4 (fun a p vs F1 H1 es J _ ha hp0 hpF rvs hRs => ?_) (fun a F1 H1 x J _ ha hx => ?_)
  · have J1 := J.setVal (i := 10) (v := .ref a) (d := .tup [.str "told", .lst es]) (.tup ha (.cons (.str _) (.cons (.lst hpF rvs) .nil)))
    refine hif _ _ (.inl ⟨es, hRs, rfl⟩) _ F1 H1 J1 _ fun b F2 H2 J2 s2 z => ?_
    subst z
    have ht : EtD ⟨fun _ => False, C.T, upd F pg (.lst vg), H⟩ (tTest (tOp rEq (tOp (rIxT K1) (tVar 10) (tC (.int 0))) (tC (.str "told")))) (Γp.set 10 (.val (.tup [.str "told", .lst es]))) true := EvT.is (etd_test (ed_eqS (ed_ixT (ds := [.str "told", .lst es]) (ed_var (g10 _)) ed_int rfl) ed_str)) (by decide)
    refine ht _ F2 H2 J2 _ fun b F3 H3 J3 s3 z => ?_
    subst z
    have s23 := s2.trans s3
    exact finA J3 (g8 _) hp0 (J3.fh _ _ (s23 _ _ ha)) (J3.fh _ _ (s23 _ _ hpF)) (by rw [rvs.length]; exact small1000 (hR es hRs))
  · have J1 := J.setVal (i := 10) (v := .ref a) (d := ansD x) (.tup ha (ans_reps x))
    refine hif _ _ (.inr ⟨x, hx, rfl⟩) _ F1 H1 J1 _ fun b F2 H2 J2 s2 z => ?_
    subst z
    obtain ⟨s, d, ex, es⟩ := ans_not x
    rw [ex] at J2
    have ht : EtD ⟨fun _ => False, C.T, upd F pg (.lst vg), H⟩ (tTest (tOp rEq (tOp (rIxT K1) (tVar 10) (tC (.int 0))) (tC (.str "told")))) (Γp.set 10 (.val (.tup [.str s, d]))) false := EvT.is (etd_test (ed_eqS (ed_ixT (ds := [.str s, d]) (ed_var (g10 _)) ed_int rfl) ed_str)) es
    refine ht _ F2 H2 J2 _ fun b F3 H3 J3 s3 z => ?_
    subst z
    exact fin J3
end
end Wk
-- D43
namespace Wk
open PySem PySem.Spec
open PyProof.Rows L2
section
variable {P : Program}
variable {w : World} {K : PySem.W.Frag} {mg : Str → Option Value} {base : Heap}
section
variable {C : Ctx} {Γ : List Slot} {te ta : TE} {tr : TA} {D : Ends} {Ra : Dt → Prop} {R : Bool → Prop}
theorem et_B (h : EvN C te Γ Ra) (k : ∀ d, Ra d → ∃ b, d = .bl b ∧ R b) : EvT C (tB te) Γ R := fun σ F H I Q q => h σ F H I _ fun v F1 H1 d I1 s1 r1 k1 => by
  obtain ⟨b, rfl, z⟩ := k d k1
  exact ⟨b, r1.bl_inv, q b F1 H1 I1 s1 z⟩
theorem nx_retLast {T : List (Addr × Str)} {Rl : List Dt → Prop} {E : XK} {i : Nat} {ds : List Dt} (hT : C.T = T) (ha : EvD C ta Γ (.bl true)) (hi : Γ[i]? = some .sto) (hr : EaD C tr Γ ds) (hRl : Rl ds) (hq : ∀ H', D.rt (.bl true) H') : NX C (tRet (tAndV ta (tCall (spST T Rl) [] E (tCons (tVar i) tr))) D) Γ := fun σ F H I =>
  ha σ F H I _ fun v F1 H1 d I1 s1 r1 k1 => by
    subst k1
    refine ⟨true, r1.bl_inv, ?_⟩
    rw [if_pos rfl]
    obtain ⟨o, ho, p, e1, hp⟩ := I1.sl i _ hi
    subst e1
    refine ⟨.ref p, ho, hr σ F1 H1 I1 _ fun vs F2 H2 ds' I2 s2 r2 k2 => ?_⟩
    subst k2
    show spST T Rl ((.ref p :: vs) ++ []) H2 D.rt E
    rw [List.append_nil]
    subst hT
    exact ⟨p, vs, F2, ds', rfl, I2.fh, I2.tabF, I2.st p hp, r2, hRl, hq⟩
end
theorem cut_map {α : Type} {f : α → Dt} (L : List α) (lo hi : Option Int) : ∃ L' : List α, cutD (L.map f) lo hi = L'.map f ∧ (∀ x ∈ L', x ∈ L) ∧ L'.length ≤ L.length := by
  unfold cutD
  rw [← List.map_drop, ← List.map_take]
  refine ⟨_, rfl, fun x hx => List.mem_of_mem_drop (List.mem_of_mem_take hx), ?_⟩
  (rw [List.length_take, List.length_drop])
  omega
theorem sp_small {p0 : Rat × Rat} {l : Rows} {r : Rule} {a b : Rat} (hok : RowsOk (p0 :: l)) (hr : IsRule (p0 :: l) r) (hab : a ≤ b) (ha : EndSm a) (hb : EndSm b) (nm : ¬ manyA p0 l a b) : (spRows p0 l a b).length ≤ 900 ∧ ∀ p ∈ spRows p0 l a b, EndSm p.1 := by
  have l0 : l ≠ [] := fun z => by
    have := hok.1
    rw [z] at this
    exact absurd this (by simp)
  rw [sp_rule hab l0 hr]
  have hr2 := hr.ok hok.2.2
  rcases r with _ | ⟨f, _ | s⟩
  · exact ⟨Nat.zero_le _, fun p hp => absurd hp List.not_mem_nil⟩
  · refine ⟨by show 1 ≤ 900; decide, fun p hp => ?_⟩
    rw [List.mem_singleton.mp hp]
    exact ha
  · have n4 := due_rule hr nm
    have n1 := (num_bds hr2 ha.ok).1
    have n2 := (num_bds hr2 hb.ok).2
    have hpts := rule_pts (a := a) (b := b) hr
    obtain ⟨_, _, bf, bs, _⟩ := hr2
    have i1 : Bz f 70 := ⟨bf⟩
    have i2 : Bz s 70 := ⟨bs⟩
    show ((ptsK f s (cei ((a - f) / s)) (((b - f) / s).floor)).map dg).length ≤ 900 ∧ ∀ p ∈ (ptsK f s (cei ((a - f) / s)) (((b - f) / s).floor)).map dg, EndSm p.1
    have e1 : cei ((a - f) / s) = numLo f s a := rfl
    have e2 : ((b - f) / s).floor = numHi f s b := rfl
    rw [e1, e2] at hpts ⊢
    refine ⟨?_, fun p hp => ?_⟩
    · unfold ptsK wls
      rw [List.length_map, List.length_map, List.length_map, List.length_range]
      omega
    · obtain ⟨q, hq, rfl⟩ := List.mem_map.mp hp
      obtain ⟨m1, m2, _⟩ := (hpts.mem q).mp hq
      have hq' := hq
      unfold ptsK at hq'
      obtain ⟨k, hk, ek⟩ := List.mem_map.mp hq'
      have hk2 := mem_wls.mp hk
      have ik : Bz ((k : Int) : Rat) 62 := ⟨bd_small (by omega)⟩
      have hb1 := ha.lo
      have hb2 := hb.hi
      show EndSm q
      rw [← ek] at m1 m2 ⊢
      exact ⟨(bz (q := f + s * (k : Rat))).mono (by decide), by grind, by grind⟩
theorem half_ok {k : Int} (h0 : 0 ≤ k) (h1 : k < 9) : Bd 4 (Rat.divInt k 2) ∧ 0 ≤ Rat.divInt k 2 ∧ Rat.divInt k 2 ≤ 4 := by
  have e := divInt_mul (n := k) (d := 2) (by decide)
  have e2 : ((2 : Int) : Rat) = 2 := rfl
  rw [e2] at e
  have a := Rat.intCast_nonneg.mpr h0
  have b : (k : Rat) ≤ ((8 : Int) : Rat) := Rat.intCast_le_intCast.mpr (by omega)
  have c : ((8 : Int) : Rat) = 8 := rfl
  rw [c] at b
  refine ⟨?_, by grind, by grind⟩
  exact bd_mk (d := 2) (by decide) (by show k.natAbs < 16; omega) (by decide)
theorem MomOk.sm {m : Rat} (h : MomOk m) : EndSm m := by
  obtain ⟨h1, h2, h3⟩ := h
  exact ⟨h1.mono (by decide), by grind, by grind⟩
theorem pl_mdue {r : Rule} {a b : Rat} : Pl 5 (mdue r a b) := by
  rcases r with _ | ⟨f, _ | s⟩
  · exact pl_two (.lst (fun d hd => absurd hd List.not_mem_nil) (Nat.zero_le _))
  · exact pl_two (.non _)
  · show Pl 5 (if 400 ≤ numHi f s b - numLo f s a then _ else _)
    by_cases h : 400 ≤ numHi f s b - numLo f s a
    · rw [if_pos h]
      exact pl_two (.int _ _)
    · rw [if_neg h]
      refine pl_two (pl_map (fun x _ => pl_fr _) ?_)
      unfold ptsL
      (rw [List.length_map, List.length_range])
      omega
theorem mt_told {r : Rule} {a b : Rat} {d : Dt} (h : mtPost r a b d) : Dt.tup [.str "told", d] = mdue r a b := by
  rcases r with _ | ⟨f, _ | s⟩
  · have h' : d = .lst [] := h
    rw [h'] <;> rfl
  · exact (show False from h).elim
  · obtain ⟨h1, h2⟩ := h
    show _ = if 400 ≤ numHi f s b - numLo f s a then _ else _
    rw [if_neg h1, h2]
theorem mt_err {r : Rule} {a b : Rat} {x : Exc} (h : mtPE r a b x) : ansD x = mdue r a b := by
  rcases r with _ | ⟨f, _ | s⟩
  · exact (show False from h).elim
  · have h' : x = .endless := h
    rw [h'] <;> rfl
  · obtain ⟨h1, h2⟩ := h
    show _ = if 400 ≤ numHi f s b - numLo f s a then _ else _
    rw [if_pos h1, h2] <;> rfl
theorem DueD.pl {p0 : Rat × Rat} {l : Rows} {a b : Rat} {dd : Dt} (h : DueD p0 l a b dd) (hl : (¬ manyA p0 l a b) → (spRows p0 l a b).length ≤ 1000) : Pl 5 dd := by
  rcases h with ⟨_, rfl⟩ | ⟨nm, rfl⟩
  · exact pl_two (.int _ _)
  · exact pl_two (pl_map (fun p _ => pl_row _) (hl nm))
theorem ivL {K : PySem.W.Frag} {T : List (Addr × Str)} {H H' : Hp} {a p q : Addr} {ns : List Int} {z : Int} {n : Nat} (hT : LamX.Tabs T H) (hp : H p = none) (hq : H q = none) (npq : p ≠ q) (e : Same H H') (eq : H' q = some (.lst (ns.map V.int))) (ep : H' p = some (.lst [.ref q, .int 0, .int 0, .int 0, .int z, .int 0, .int 0])) :
    IV (ctxST p T (upd noF q (.lst (ns.map V.int))) H') (some (.ref a) :: some (.ref p) :: List.replicate n none) (upd noF q (.lst (ns.map V.int))) H' (.no :: .sto :: List.replicate n .no) := by
  have hT' : LamX.Tabs T H' := hT.ext e
  have fq : ∀ b, b ≠ q → upd noF q (.lst (ns.map V.int)) b = none := fun b h => by rw [upd_ne h]
  refine ⟨fun b hb => by rw [show b = p from hb]; show H' p ≠ none; rw [ep]; simp, tab_there hT', .refl _, fun b o h => ?_, fun _ _ h _ _ => h, fun _ _ h => h, fun b hb => ?_, hT', fun t ht => ?_, by simp, fun i s hs => ?_, fun i j d1 d2 b h1 => ?_⟩
  · by_cases n : b = q
    · subst n
      rw [upd_same] at h
      rw [eq]
      exact h
    · rw [fq b n] at h
      cases h
  · rw [show b = p from hb]
    exact ⟨fq p npq, _, [.lst (ns.map Dt.int), .int 0, .int 0, .int 0, .int z, .int 0, .int 0], ep, .cons (.lst upd_same (Reps.ofInts ns)) (.cons (.int _) (.cons (.int _) (.cons (.int _) (.cons (.int _) (.cons (.int _) (.cons (.int _) .nil)))))), ns, 0, 0, 0, z, 0, 0, rfl, by decide⟩
  · refine fq _ fun w => ?_
    have := tab_there hT t ht
    rw [w] at this
    exact this hq
  · cases i with
    | zero =>
      cases Option.some.inj hs
      exact ⟨_, rfl, trivial⟩
    | succ i =>
      cases i with
      | zero =>
        cases Option.some.inj hs
        exact ⟨_, rfl, p, rfl, rfl⟩
      | succ i =>
        have hs' : (List.replicate n Slot.no)[i]? = some s := hs
        rw [List.getElem?_replicate] at hs'
        split at hs'
        · rename_i hi
          cases Option.some.inj hs'
          refine ⟨none, ?_, trivial⟩
          show (List.replicate n (none : Option V))[i]? = some none
          rw [List.getElem?_replicate, if_pos hi]
        · cases hs'
  · cases i with
    | zero => cases Option.some.inj h1
    | succ i =>
      cases i with
      | zero => cases Option.some.inj h1
      | succ i =>
        have hs' : (List.replicate n Slot.no)[i]? = some (.own d1) := h1
        rw [List.getElem?_replicate] at hs'
        split at hs'
        · cases Option.some.inj hs'
        · cases hs'
end
end Wk
-- D44
namespace Wk
open PySem PySem.Spec
open PyProof.Rows L2
section
variable {P : Program}
variable {w : World} {K : PySem.W.Frag} {mg : Str → Option Value} {base : Heap}
def spLaw (K : PySem.W.Frag) : Sp := fun vs H Q _ => ∃ (a : Addr) (ns : List Int), vs = [.ref a] ∧ SqL K H a (ns.map V.int) ∧ ns.length ≤ 63 ∧ LamX.Tabs (T0 K) H ∧ ∀ H', Q (.bl true) H'
theorem len_law {K : PySem.W.Frag} : ∀ vs H Q E, spLaw K vs H Q E → vs.length = 1 := fun _ _ _ _ ⟨_, _, e, _⟩ => by rw [e]; rfl
instance bz_mil : Bz (1 / 1000000 : Rat) 20 := ⟨by decide +kernel, by decide +kernel⟩
theorem ok_law (Bq : Bt K mg base) {f : Addr} {A : Around} {outer : List Env} {s : Shared} {H : Hp} {vs : List V} {Q : VK} {E : XK} (hr : Room 10 (A.deeper (envOfC "law" (defScope (top 124)) s.heap.objs.size f (.ref (He.cT K ("law", none)).1)))) (h : spLaw K vs H Q E) :
    ∃ t, PSs (cxOf CX0 P w K mg base ["_law_script", "_law_store_here", "_law_rows", "_law_moment_here", "_law_ends", "_law_cycles", "_law_row", "_law_given", "_law_span", "_law_due", "_law_answer_here", "_law_spots", "_law_spot"] "law" (defScope (top 124)) f (.ref (He.cT K ("law", none)).1) A outer s H E) (defBody (top 124)) t ∧ t { nx := fun _ H' => Q .non H', rt := Q } (L2.start ["_law_script", "_law_store_here", "_law_rows", "_law_moment_here", "_law_ends", "_law_cycles", "_law_row", "_law_given", "_law_span", "_law_due", "_law_answer_here", "_law_spots", "_law_spot"] vs) H := by
  have B := Bq.b
  have nd : (["_law_script", "_law_store_here", "_law_rows", "_law_moment_here", "_law_ends", "_law_cycles", "_law_row", "_law_given", "_law_span", "_law_due", "_law_answer_here", "_law_spots", "_law_spot"] : List Str).Nodup := by decide +kernel
  refine ⟨_, PSs.nox (pss_cons (ps_set (i := 1) nd rfl (by first | exact Or.inl rfl | exact Or.inr rfl) (pe_cl (ok_law_store B) hr (by decide) pass0 (pa_cons (pv 0) pa_nil)))
  (pss_cons (ps_asg (pe_cl (ok_law_sky_for B) hr (by decide) pass0 (pa_cons (pv 1) pa_nil)) (pg_tup rfl (pgs_cons (pg_name (i := 2) nd rfl (by first | exact Or.inl rfl | exact Or.inr rfl)) (pgs_cons (pg_name (i := 3) nd rfl (by first | exact Or.inl rfl | exact Or.inr rfl)) pgs_nil))))
  (pss_cons (ps_set (i := 4) nd rfl (by first | exact Or.inl rfl | exact Or.inr rfl) (pe_cl (ok_law_ends_for B) hr (by decide) pass0 (pa_cons (pv 1) (pa_cons (pv 2) (pa_cons (pv 3) pa_nil)))))
  (pss_cons (ps_set (i := 5) nd rfl (by first | exact Or.inl rfl | exact Or.inr rfl) (pe_lc (own := [("_law_row", 6)]) rfl nd (pi_list (pv 2)) (blkOk_by (by show blkC ["_law_script", "_law_store_here", "_law_rows", "_law_moment_here", "_law_ends", "_law_cycles", "_law_row", "_law_given", "_law_span", "_law_due", "_law_answer_here", "_law_spots", "_law_spot"] (defScope (top 124)) _ _ = true; decide +kernel)) (fun _ _ _ _ _ => pg_name (i := 6) nd rfl (Or.inl rfl)) (fun _ _ _ _ _ => pts_nil) (fun _ _ _ _ _ => (pe_ciK (K := K) (ok_Cycle_init B) hr (by decide) pass0 (pa_cons (pe_ix (ix_tupK (K := K)) (pv 6) pe_int (fun _ _ => rfl)) (pa_cons (pe_ix (ix_tupK (K := K)) (pv 6) pe_int (fun _ _ => rfl)) pa_nil))))))
  (pss_cons (ps_set (i := 7) nd rfl (by first | exact Or.inl rfl | exact Or.inr rfl) (pe_callTy call_list_of (by rfl) B.z_list (by decide +kernel) (pa_cons (pv 5) pa_nil)))
  (pss_cons (ps_set (i := 8) nd rfl (by first | exact Or.inl rfl | exact Or.inr rfl) (pe_ci (ok_Span_init B) hr (by decide) pass0 (pa_cons (pe_ix ix_tup (pv 4) pe_int (fun _ _ => rfl)) (pa_cons (pe_ix ix_tup (pv 4) pe_int (fun _ _ => rfl)) pa_nil))))
  (pss_cons (ps_set (i := 9) nd rfl (by first | exact Or.inl rfl | exact Or.inr rfl) (pe_cl (ok_law_spans_due Bq) hr (by decide) pass0 (pa_cons (pv 2) (pa_cons (pv 4) pa_nil))))
  (pss_cons (ps_set (i := 10) nd rfl (by first | exact Or.inl rfl | exact Or.inr rfl) (pe_ans (k := 7) B (Bq.tb _ (by decide +kernel : (("law", none) : He.Defn) ∈ tf)) rfl (t0_mem (d := ("law", none)) (by decide +kernel)) (Bq.hu (d := ("law", none)) (by decide +kernel)) (hr.mono (by decide)) (LamX.lamS_by (by show LamX.lamSB (defScope (top 124)) _ = true; decide +kernel)) rfl (fun _ _ _ _ _ => rfl) fun A outer s H E f c' hr => (pe_ck (ok_near_spans B) hr (by decide) (passes_call (takes_of rfl rfl rfl rfl) fun _ _ _ _ z => z) (pa_cons (pv 7) (pa_cons (pv 8) pa_nil)) (pk_cons (pe_tup (pa_cons pe_int (pa_cons pe_int pa_nil))) pk_nil))))
  (pss_cons (ps_if (PW.pt (pw_or (pt_not (pt_val (pe_cl (ok_law_alike B) hr (by decide) pass0 (pa_cons (pe_cl (ok_law_spans_told B) hr (by decide) pass0 (pa_cons (pv 10) pa_nil)) (pa_cons (pv 9) pa_nil))))) (pw_or1 (pt_cmpR op_ne (pe_callB call_len_seq (by rfl) B.z_len (by decide +kernel) (pa_cons (pv 7) pa_nil)) (pe_callB call_len_seq (by rfl) B.z_len (by decide +kernel) (pa_cons (pv 5) pa_nil)) (nomark _))))) (pss_one (ps_ret pe_bl)) pss_nil)
  (pss_cons (ps_if (pt_cmpR op_eq (pe_ix ix_tup (pv 10) pe_int (fun _ _ => rfl)) pe_str (nomark _)) (pss_one (ps_expr (pe_bm PySem.F.plainAttrs_list PySem.F.slot_list_append PySem.F.type_list_append mt_append (pe_ix ix_tup (pv 10) pe_int (fun _ _ => rfl)) (pa_cons (pv 8) pa_nil)))) pss_nil)
  (pss_cons (ps_expr (pe_bm0 PySem.F.plainAttrs_list PySem.F.slot_list_clear PySem.F.type_list_clear mt_clear (pv 7)))
  (pss_cons (ps_set (i := 10) nd rfl (by first | exact Or.inl rfl | exact Or.inr rfl) (pe_ans (k := 7) B (Bq.tb _ (by decide +kernel : (("law", none) : He.Defn) ∈ tf)) rfl (t0_mem (d := ("law", none)) (by decide +kernel)) (Bq.hu (d := ("law", none)) (by decide +kernel)) (hr.mono (by decide)) (LamX.lamS_by (by show LamX.lamSB (defScope (top 124)) _ = true; decide +kernel)) rfl (fun _ _ _ _ _ => rfl) fun A outer s H E f c' hr => (pe_ck (ok_near_spans B) hr (by decide) (passes_call (takes_of rfl rfl rfl rfl) fun _ _ _ _ z => z) (pa_cons (pe_callTy (call_list_ofK (K := K)) (by rfl) B.z_list (by decide +kernel) (pa_cons (pv 5) pa_nil)) (pa_cons (pv 8) pa_nil)) (pk_cons (pe_tup (pa_cons pe_int (pa_cons pe_int pa_nil))) pk_nil))))
  (pss_cons (ps_if (pt_not (pt_val (pe_cl (ok_law_alike B) hr (by decide) pass0 (pa_cons (pe_cl (ok_law_spans_told B) hr (by decide) pass0 (pa_cons (pv 10) pa_nil)) (pa_cons (pv 9) pa_nil))))) (pss_one (ps_ret pe_bl)) pss_nil)
  (pss_cons (ps_if (pt_not (pt_val (pe_cl (ok_law_alike B) hr (by decide) pass0 (pa_cons (pe_ans (k := 8) B (Bq.tb _ (by decide +kernel : (("law", none) : He.Defn) ∈ tf)) rfl (t0_mem (d := ("law", none)) (by decide +kernel)) (Bq.hu (d := ("law", none)) (by decide +kernel)) (hr.mono (by decide)) (LamX.lamS_by (by show LamX.lamSB (defScope (top 124)) _ = true; decide +kernel)) rfl (fun _ _ _ _ _ => rfl) fun A outer s H E f c' hr => (pe_cl (ok_meetings B) hr (by decide) (passes_call (takes_of rfl rfl rfl rfl) fun _ _ _ _ z => z) (pa_cons (pe_callTy (call_list_ofK (K := K)) (by rfl) B.z_list (by decide +kernel) (pa_cons (pv 5) pa_nil)) (pa_cons (pv 8) pa_nil)))) (pa_cons (pe_cl (ok_law_meetings_due B) hr (by decide) pass0 (pa_cons (pe_cl (ok_law_rule B) hr (by decide) pass0 (pa_cons (pv 2) pa_nil)) (pa_cons (pv 4) pa_nil))) pa_nil))))) (pss_one (ps_ret pe_bl)) pss_nil)
  (pss_cons (ps_set (i := 11) nd rfl (by first | exact Or.inl rfl | exact Or.inr rfl) (pe_lst (pa_cons (pe_ix ix_tup (pv 4) pe_int (fun _ _ => rfl)) (pa_cons (pe_ix ix_tup (pv 4) pe_int (fun _ _ => rfl)) (pa_cons (pv 3) (pa_cons (pe_cl (ok_law_moment B) hr (by decide) pass0 (pa_cons (pv 1) (pa_cons pe_int pa_nil))) (pa_cons (pe_cl (ok_law_plus B) hr (by decide) pass0 (pa_cons (pv 3) (pa_cons (pe_tup (pa_cons pe_int (pa_cons (pe_op op_pow pe_int pe_int) pa_nil))) pa_nil))) pa_nil)))))))
  (pss_cons (ps_if (pt_cmpR op_eq (pe_ix ix_tup (pv 9) pe_int (fun _ _ => rfl)) pe_str (nomark _)) (pss_one (ps_set (i := 11) nd rfl (by first | exact Or.inl rfl | exact Or.inr rfl) (pe_op op_cat (pv 11) (pe_lc (own := [("_law_row", 6)]) rfl nd (pi_list (pe_slice sl_list (pe_ix ix_tup (pv 9) pe_int (fun _ _ => rfl)) (po_some (pe_un un_neg pe_int)) po_none)) (blkOk_by (by show blkC ["_law_script", "_law_store_here", "_law_rows", "_law_moment_here", "_law_ends", "_law_cycles", "_law_row", "_law_given", "_law_span", "_law_due", "_law_answer_here", "_law_spots", "_law_spot"] (defScope (top 124)) _ _ = true; decide +kernel)) (fun _ _ _ _ _ => pg_name (i := 6) nd rfl (Or.inl rfl)) (fun _ _ _ _ _ => pts_nil) (fun _ _ _ _ _ => (pe_ix (ix_tupK (K := K)) (pv 6) pe_int (fun _ _ => rfl))))))) pss_nil)
  (pss_cons (ps_for PassesOwn.never rfl (pi_list (pv 11)) (pg_name (i := 12) nd rfl (by first | exact Or.inl rfl | exact Or.inr rfl)) (pss_one (ps_if (pt_not (pt_val (pe_cl (ok_law_alike B) hr (by decide) pass0 (pa_cons (pe_ck (ok_is_near B) hr (by decide) (passes_call (E := E0) L2.takes0 fun _ _ _ _ z => z) (pa_cons (pe_callTy call_list_of (by rfl) B.z_list (by decide +kernel) (pa_cons (pv 5) pa_nil)) (pa_cons (pv 12) pa_nil)) (pk_cons (pe_tup (pa_cons pe_int (pa_cons pe_int pa_nil))) pk_nil)) (pa_cons (pe_cl (ok_law_near B) hr (by decide) pass0 (pa_cons (pv 2) (pa_cons (pv 12) (pa_cons (pe_tup (pa_cons pe_int (pa_cons pe_int pa_nil))) pa_nil)))) pa_nil))))) (pss_one (ps_ret pe_bl)) pss_nil)))
  (pss_cons (ps_if (pt_not (pt_val (pe_cl (ok_law_first_right Bq) hr (by decide) pass0 (pa_cons (pv 5) (pa_cons (pv 2) (pa_cons (pe_cl (ok_law_pick B) hr (by decide) pass0 (pa_cons (pv 1) (pa_cons (pv 11) pa_nil))) (pa_cons (pe_cl (ok_law_lowest B) hr (by decide) pass0 (pa_cons (pe_cl (ok_law_take B) hr (by decide) pass0 (pa_cons (pv 1) (pa_cons pe_int pa_nil))) (pa_cons pe_int pa_nil))) pa_nil))))))) (pss_one (ps_ret pe_bl)) pss_nil)
  (pss_one (ps_ret (pe_and (pe_cl (ok_law_days_right Bq) hr (by decide) pass0 (pa_cons (pv 5) (pa_cons (pv 2) (pa_cons (pv 4) pa_nil)))) (pe_one (pe_cl (ok_law_refused_right Bq) hr (by decide) pass0 (pa_cons (pv 1) (pa_cons (pv 5) (pa_cons (pv 4) pa_nil)))))))))))))))))))))))))), ?_⟩
  obtain ⟨sa, ns, rfl, hS, hn, hTb, hq⟩ := h
  refine ⟨.ref sa, rfl, sa, ns, rfl, hS, hn, fun p q H' z hp hq0 npq eH eq ep => ?_⟩
  refine nx_at (ivL (K := K) (n := 11) (a := sa) hTb hp hq0 npq eH eq ep) ?_
  have hT : (ctxST p (T0 K) (upd noF q (.lst (ns.map V.int))) H').T = T0 K := rfl
  revert hT
  generalize ctxST p (T0 K) (upd noF q (.lst (ns.map V.int))) H' = C
  intro hT
  show NX C _ [.no, .sto, .no, .no, .no, .no, .no, .no, .no, .no, .no, .no, .no]
  refine sq_asg2N (R := fun e => ∃ rows m, e = .tup [.lst (rows.map rowD), fr m] ∧ RowsOk rows ∧ Grid 27720 (12 * 27720) m) (en_callS rfl (ea_nil.imp fun _ z => by rw [z]; exact ⟨rfl, trivial, rfl⟩)) ?_
  rintro _ ⟨rows, m, rfl, hok, hm⟩
  refine ⟨_, _, rfl, ?_⟩
  refine sq_asgN (R := EndsP) (en_callS rfl ((ea_cons (ed_var rfl) (ea_cons (ed_var rfl) ea_nil)).imp fun _ z => by rw [z]; exact ⟨rows, m, rfl, ⟨hok, hm⟩, rfl⟩)) ?_
  rintro _ ⟨a, b, rfl, hab, ha, hb⟩
  cases rows with
  | nil => exact absurd hok.1 (by decide)
  | cons p0 l =>
  have hl6 : (p0 :: l).length ≤ 6 := hok.2.1
  have l0 : l ≠ [] := fun z => by
    have := hok.1
    rw [z] at this
    exact absurd this (by simp)
  have im : Bz m 19 := mom_bz hm
  have hmo := mom_ok hm
  have ia : Bz a 400 := ⟨ha.b⟩
  have ib : Bz b 400 := ⟨hb.b⟩
  refine sq_asgO (ds := (p0 :: l).map (cyc K)) (eld_lcM (a := rowD) (ed_var rfl) rfl (by omega) (by simp) fun C' le p hp => ed_make (ea_cons (ed_ixT (ds := [fr p.1, fr p.2]) (ed_var rfl) ed_int rfl) (ea_cons (ed_ixT (ds := [fr p.1, fr p.2]) (ed_var rfl) ed_int rfl) ea_nil)) ⟨p.1, p.2, rfl, rfl, (hok.2.2 p hp).s0, (hok.2.2 p hp).s1⟩) ?_
  refine nx_freeze (i := 5) rfl ?_
  refine sq_asgO (eld_list (ed_var rfl)) ?_
  refine sq_asg (d := spn K a b) (ed_make (ea_cons (ed_ixT (ds := [fr a, fr b]) (ed_var rfl) ed_int rfl) (ea_cons (ed_ixT (ds := [fr a, fr b]) (ed_var rfl) ed_int rfl) ea_nil)) ⟨a, b, 400, rfl, rfl, hab, ha.b, hb.b, by decide⟩) ?_
  refine sq_asgN (en_callTD hT (ea_cons (ed_var rfl) (ea_cons (ed_var rfl) ea_nil)) ⟨p0, l, a, b, rfl, ⟨hok, ha.ok, hb.ok, hab⟩, rfl⟩) ?_
  intro dd hdd
  show NX C _ [.no, .sto, .val (.lst ((p0 :: l).map rowD)), .val (fr m), .val (.tup [fr a, fr b]), .val (.lst ((p0 :: l).map (cyc K))), .no, .own ((p0 :: l).map (cyc K)), .val (spn K a b), .val dd, .no, .no, .no]
  have spb := fun nm => sp_bd (n := 400) hok ha.b hb.b nm
  have pld : Pl 5 dd := hdd.pl fun nm => (spb nm).2
  have tk : ∀ e, (¬ manyA p0 l a b ∧ e = .lst ((spRows p0 l a b).map fun p => spn K p.1 p.2)) → TolD K (.tup [.str "told", e]) dd := fun e ⟨nm, he⟩ => by
    rcases hdd with ⟨h1, _⟩ | ⟨_, h2⟩
    · exact absurd h1 nm
    · rw [he, h2]
      exact .told _ (spb nm).2 ⟨fun z hz => ⟨((spb nm).1 z hz).1.mono (by decide), ((spb nm).1 z hz).2.mono (by decide)⟩⟩
  have te : ∀ x, (manyA p0 l a b ∧ x = .many 200) → TolD K (ansD x) dd := fun x ⟨hm, hx⟩ => by
    rcases hdd with ⟨_, h1⟩ | ⟨h2, _⟩
    · rw [hx, h1]
      exact .many 200
    · exact absurd hm h2
  have hNs : ∃ PE, Rl_near_spans K ([.lst ((p0 :: l).map (cyc K)), spn K a b] ++ [fr 0]) (fun es => (¬ manyA p0 l a b) ∧ es = (spRows p0 l a b).map fun p => spn K p.1 p.2) PE ∧ ∀ x, PE x → (manyA p0 l a b ∧ x = .many 200) := ⟨_, ⟨_, _, a, b, rfl, .good p0 l 400 hok ha.b hb.b (by decide) hab⟩, fun x hx => hx⟩
  refine nx_box (c := ecl K) (PE := fun x => manyA p0 l a b ∧ x = .many 200) (dsp := spn K a b) hT rfl (.keep (.drop (.keep (.keep (.keep (.keep (.keep (.drop (.refl _)))))))))  rfl rfl rfl rfl rfl (by show 10 < 13; decide) (fun C' E he => el_ckL he (ea_cons (ed_var rfl) (ea_cons (ed_var rfl) ea_nil)) (ea_cons fr0 ea_nil) rfl rfl hNs) (fun es hes => by rw [hes.2, List.length_map]; exact (spb hes.1).2) (fun C' e he => ?_) ?_
  · have ht : TolD K e dd := by
      rcases he with ⟨es, ⟨nm, h1⟩, h2⟩ | ⟨x, hx, h2⟩
      · rw [h2]
        exact tk _ ⟨nm, by rw [h1]⟩
      · rw [h2]
        exact te x hx
    exact EvT.is (etd_or (a := false) (etd_not (etd_B (ed_call (ea_cons (ed_call (ea_cons (ed_var rfl) ea_nil) ⟨e, dd, rfl, ht, rfl⟩) (ea_cons (ed_var rfl) ea_nil)) (rl_law_alike pld)))) fun _ => etd_test (ed_neI (ed_lenL (ed_var rfl)) (ed_lenL (ed_var rfl)))) (by simp)
  show NX C _ [.no, .sto, .val (.lst ((p0 :: l).map rowD)), .val (fr m), .val (.tup [fr a, fr b]), .val (.lst ((p0 :: l).map (cyc K))), .no, .own [], .val (spn K a b), .val dd, .no, .no, .no]
  refine NX.wk (Γ' := [.no, .sto, .val (.lst ((p0 :: l).map rowD)), .val (fr m), .val (.tup [fr a, fr b]), .val (.lst ((p0 :: l).map (cyc K))), .no, .no, .val (spn K a b), .val dd, .no, .no, .no]) ?_ (.keep (.keep (.keep (.keep (.keep (.keep (.keep (.drop (.refl _)))))))))
  refine sq_asgN (R := fun e => TolD K e dd) (en_ansW (c := ecl K) (Rv := fun e => ¬ manyA p0 l a b ∧ e = .lst ((spRows p0 l a b).map fun p => spn K p.1 p.2)) hT (.refl _) rfl (fun C' E le he => EvL.ev (R := fun e => ¬ manyA p0 l a b ∧ e = .lst ((spRows p0 l a b).map fun p => spn K p.1 p.2)) (Rs := fun es => (¬ manyA p0 l a b) ∧ es = (spRows p0 l a b).map fun p => spn K p.1 p.2) (el_ckL he (ea_cons (eld_list (ed_var rfl)).ed (ea_cons (ed_var rfl) ea_nil)) (ea_cons fr0 ea_nil) rfl rfl hNs) fun es ⟨nm, z⟩ => ⟨nm, by rw [z]⟩) tk te) ?_
  intro e2 ht2
  refine sq_no (etd_not (etd_B (ed_call (ea_cons (ed_call (ea_cons (ed_var rfl) ea_nil) ⟨e2, dd, rfl, ht2, rfl⟩) (ea_cons (ed_var rfl) ea_nil)) (rl_law_alike pld)))) rfl ?_
  have kT : ∀ d, (∃ r, IsRule (p0 :: l) r ∧ mtPost r a b d) → ∃ r, IsRule (p0 :: l) r ∧ Dt.tup [.str "told", d] = mdue r a b := fun d ⟨r, h1, h2⟩ => ⟨r, h1, mt_told h2⟩
  have kX : ∀ x, (∃ r, IsRule (p0 :: l) r ∧ mtPE r a b x) → ∃ r, IsRule (p0 :: l) r ∧ ansD x = mdue r a b := fun x ⟨r, h1, h2⟩ => ⟨r, h1, mt_err h2⟩
  refine sq_ifN (Rb := fun b => b = false ∧ ∃ r, IsRule (p0 :: l) r) (et_not (R := fun b => b = true ∧ ∃ r, IsRule (p0 :: l) r) (et_B (Ra := fun e => e = .bl true ∧ ∃ r, IsRule (p0 :: l) r) (en_callI (EvA.imp (en_cons (Ra := fun e => ∃ r, IsRule (p0 :: l) r ∧ e = mdue r a b) (en_ansW (c := ecl K) (Rv := fun e => ∃ r, IsRule (p0 :: l) r ∧ mtPost r a b e) hT (.refl _) rfl (fun C' E le he => en_callX he (EvA.imp (ea_cons (eld_list (ed_var rfl)).ed (ea_cons (ed_var rfl) ea_nil)) ?_)) kT kX) (en_cons (Ra := fun e => ∃ r, IsRule (p0 :: l) r ∧ e = mdue r a b) (en_callI (EvA.imp (en_cons (en_callD (ea_cons (ed_var rfl) ea_nil) (rl_law_rule (rows := p0 :: l) hok)) (ea_cons (ed_var rfl) ea_nil)) ?_)) ea_nil)) ?_)) ?_) ?_) ?_ ?_
  · rintro _ rfl
    exact ⟨_, ⟨p0 :: l, a, b, rfl, ⟨hok, ha.ok, hb.ok⟩, rfl, rfl⟩, fun x hx => hx⟩
  · rintro _ ⟨_, _, rfl, ⟨r, rfl, hr⟩, rfl⟩
    exact ⟨_, rl_law_meetings_due (hr.ok hok.2.2) ha.ok hb.ok, fun e z => ⟨r, hr, z⟩⟩
  · rintro _ ⟨_, _, rfl, ⟨r, hr, rfl⟩, _, _, rfl, ⟨r', hr', rfl⟩, rfl⟩
    rw [rule_unique hr' hr]
    exact ⟨_, rl_law_alike pl_mdue, fun e z => ⟨z, r, hr⟩⟩
  · rintro _ ⟨rfl, h⟩
    exact ⟨true, rfl, rfl, h⟩
  · rintro _ ⟨rfl, h⟩
    exact ⟨rfl, h⟩
  · rintro ⟨h, _⟩
    cases h
  rintro ⟨_, r, hr⟩
  refine sq_asgON (Rs := fun ds => ∃ sp : List Rat, ds = sp.map fr ∧ sp.length = 5 ∧ ∀ q ∈ sp, EndSm q) (el_lst (EvA.imp (en_cons (ed_ixT (ds := [fr a, fr b]) (ed_var rfl) ed_int rfl) (en_cons (ed_ixT (ds := [fr a, fr b]) (ed_var rfl) ed_int rfl) (en_cons (ed_var rfl) (en_cons (en_moment rfl ed_int) (en_cons (ed_call (ea_cons (ed_var rfl) (ea_cons ((ed_tup (ea_cons ed_int (ea_cons ((ed_rI ed_int ed_int ⟨by decide, by decide, by decide⟩).is rfl) ea_nil))).is (fr_lit (q := 1 / 1000000) (by decide +kernel))) ea_nil)) rl_plus) ea_nil))))) ?_) ?_) ?_
  · rintro _ ⟨_, _, rfl, rfl, _, _, rfl, rfl, _, _, rfl, rfl, _, _, rfl, ⟨q, rfl, hq2⟩, _, _, rfl, rfl, rfl⟩
    refine ⟨[a, b, m, q, m + 1 / 1000000], rfl, rfl, fun x hx => ?_⟩
    (simp only [List.mem_cons, List.not_mem_nil, or_false] at hx)
    rcases hx with rfl | rfl | rfl | rfl | rfl
    · exact ha
    · exact hb
    · exact hmo.sm
    · exact (mom_ok hq2).sm
    · have e1 : (0 : Rat) ≤ 1 / 1000000 := by decide +kernel
      have e2 : (1 / 1000000 : Rat) ≤ 1 := by decide +kernel
      have h1 := hmo.lo
      have h2 := hmo.hi
      refine ⟨(bz (q := m + 1 / 1000000)).mono (by decide), ?_, ?_⟩
      · revert e1 e2
        generalize (1 / 1000000 : Rat) = ε
        intro e1 e2
        grind
      · revert e1 e2
        generalize (1 / 1000000 : Rat) = ε
        intro e1 e2
        grind
  · rintro _ ⟨sp, rfl, h5, _⟩
    rw [List.length_map, h5]
    decide
  rintro _ ⟨sp, rfl, h5, hsp⟩
  refine nx_freeze (i := 11) rfl ?_
  refine sq_joinI (ι := {sp : List Rat // 1 ≤ sp.length ∧ sp.length ≤ 1000 ∧ ∀ q ∈ sp, EndSm q}) (fun sp => [.no, .sto, .val (.lst ((p0 :: l).map rowD)), .val (fr m), .val (.tup [fr a, fr b]), .val (.lst ((p0 :: l).map (cyc K))), .no, .no, .val (spn K a b), .val dd, .val e2, .val (.lst (sp.1.map fr)), .no]) (fun hN => ?_) ?_
  · have hdd2 := hdd
    rcases hdd2 with ⟨_, e⟩ | ⟨nm, e⟩
    · have h0 := hN ⟨sp, by omega, by omega, hsp⟩
      revert h0
      rw [e]
      intro h0
      exact nx_no (etd_test (ed_eqS (ed_ixT (ds := [.str "TooMany", .int 200]) (ed_var rfl) ed_int rfl) ed_str)) (by decide) h0
    · obtain ⟨hl9, hsm⟩ := sp_small hok hr hab ha hb nm
      obtain ⟨L', hc, hc1, hc2⟩ := cut_map (f := rowD) (spRows p0 l a b) (some (-9)) none
      have h0 := hN ⟨sp ++ L'.map Prod.fst, by rw [List.length_append]; omega, by rw [List.length_append, List.length_map]; omega, fun q hq => by
        rcases List.mem_append.mp hq with z | z
        · exact hsp q z
        · obtain ⟨p, hp, rfl⟩ := List.mem_map.mp z
          exact hsm p (hc1 p hp)⟩
      revert h0
      rw [e]
      intro h0
      refine nx_yes (etd_test (ed_eqS (ed_ixT (ds := [.str "told", .lst ((spRows p0 l a b).map rowD)]) (ed_var rfl) ed_int rfl) ed_str)) (by decide) ?_
      refine nx_asg (d := .lst ((sp ++ L'.map Prod.fst).map fr)) ((eld_cat (ed_var rfl) (eld_lcM (a := rowD) (b := fun p => fr p.1) (l := L') (((eld_sl (ed_ixT (ds := [.str "told", .lst ((spRows p0 l a b).map rowD)]) (ed_var rfl) ed_int rfl) (eo_some (ed_neg ed_int)) eo_none).ed).is (congrArg Dt.lst hc)) rfl (by omega) (by simp) fun C' le p hp => ed_ixT (ds := [fr p.1, fr p.2]) (ed_var rfl) ed_int rfl).ed (by rw [List.length_map, List.length_map]; omega)).ed.is ?_) h0
      rw [List.map_append, List.map_map] <;> rfl
  rintro ⟨sp2, h1, h2, hsp2⟩
  show NX C _ [.no, .sto, .val (.lst ((p0 :: l).map rowD)), .val (fr m), .val (.tup [fr a, fr b]), .val (.lst ((p0 :: l).map (cyc K))), .no, .no, .val (spn K a b), .val dd, .val e2, .val (.lst (sp2.map fr)), .no]
  refine sq_for (ei_list (ed_var rfl)) (fun _ => [.no, .sto, .val (.lst ((p0 :: l).map rowD)), .val (fr m), .val (.tup [fr a, fr b]), .val (.lst ((p0 :: l).map (cyc K))), .no, .no, .val (spn K a b), .val dd, .val e2, .val (.lst (sp2.map fr)), .no]) (.refl _) (fun C' le i hi N hN => ⟨_, [12], asg_name, ?_⟩) ?_
  · have his : i < sp2.length := by simpa using hi
    rw [getD_map hi]
    have hq3 := hsp2 _ (List.getElem_mem his)
    revert hq3
    generalize sp2[i] = q3
    intro hq3
    have iq : Bz q3 400 := ⟨hq3.b⟩
    refine nx_no (etd_not (etd_B (ed_call (ea_cons (d := .bl (nearB (p0 :: l) q3)) (EvN.imp (Ra := fun e => true = true ∧ e = .bl (nearB (p0 :: l) q3)) (en_ckX (c := ecl K) (PEo := fun _ => False) (fun _ _ _ _ _ _ _ _ _ z => z.elim) (ea_cons (eld_list (ed_var rfl)).ed (ea_cons (ed_var rfl) ea_nil)) (ea_cons fr0 ea_nil) rfl rfl ⟨_, ⟨p0 :: l, q3, _, true, rfl, ⟨hok, hq3.b.mono (by decide), .zero⟩, rfl, rfl⟩, fun x hx => nomatch hx.1⟩) fun d z => z.2) (ea_cons (ed_call (ea_cons (ed_var rfl) (ea_cons (ed_var rfl) (ea_cons fr0 ea_nil))) (rl_law_near (rows := p0 :: l) hok.one)) ea_nil)) (rl_law_alike (.bl _ _))))) rfl ?_
    exact hN.wk (.keep (.keep (.keep (.keep (.keep (.keep (.keep (.keep (.keep (.keep (.keep (.keep (.drop .nil)))))))))))))
  refine sq_no (etd_not (etd_B (b := true) (en_callT hT (EvA.imp (en_cons (ed_var rfl) (en_cons (ed_var rfl) (en_cons (en_pick rfl (ed_var rfl) ⟨by rw [List.length_map]; exact h1, by rw [List.length_map]; exact h2⟩) (en_cons (en_callI (R := FrP fun v => Bd 4 v ∧ 0 ≤ v ∧ v ≤ 4) (EvA.imp (en_cons (en_take rfl ed_int ⟨by decide, by decide⟩) (ea_cons ed_int ea_nil)) ?_)) ea_nil)))) ?_)))) rfl ?_
  · rintro _ ⟨_, _, rfl, ⟨k, rfl, k0, k1⟩, rfl⟩
    exact ⟨_, rl_lowest (by decide) (lt9000 (n := 6) (by decide) (by decide)), fun e z => ⟨_, z, half_ok k0 k1⟩⟩
  · rintro _ ⟨_, _, rfl, rfl, _, _, rfl, rfl, _, _, rfl, hmem, _, _, rfl, ⟨v, rfl, v1, v2, v3⟩, rfl⟩
    obtain ⟨q4, hq4, rfl⟩ := List.mem_map.mp hmem
    exact ⟨p0, l, q4, v, rfl, ⟨hok, hsp2 q4 hq4, v1, v2, v3⟩, rfl⟩
  exact nx_retLast hT (en_callTD hT (ea_cons (ed_var rfl) (ea_cons (ed_var rfl) (ea_cons (ed_var rfl) ea_nil))) ⟨p0 :: l, a, b, rfl, ⟨hok, ha.ok, hb.ok, hab⟩, rfl⟩) rfl (ea_cons (ed_var rfl) (ea_cons (ed_var rfl) ea_nil)) ⟨p0, l, a, b, rfl, hok, ha, hb, hab⟩ hq
theorem law_fn (B : Bs K mg) : ∃ fd, (∀ (s : Shared) (u : Value), BindsTo s fd ⟨[u], []⟩ [("_law_script", u)]) ∧ ∀ base, Bt K mg base → FnOk P w K mg base CX0 11 (He.ga K "law") fd ["_law_script"] (spLaw K) := by
  obtain ⟨fd, F⟩ := B.d_law
  obtain ⟨oc, od, dV, kV, doc, pm, an, cdv, ct, osl, rfl, lk, hcd, hD, _⟩ := F.ex
  obtain ⟨c, rfl⟩ := He.codeIn_ref hcd
  have e : (He.cT K ("law", none)).1 = c := He.codeOf_eq (p := ("law", none)) lk rfl
  subst e
  have b := FunD.bindsA (ps := ["_law_script"]) F fun _ _ _ _ _ _ us hl => match us, hl with | [_], _ => rfl
  exact ⟨_, fun s v => b s [v] rfl, fun base Bq => fn_of lk hcd (C8.fnScope_by (N := ["_law_script", "_law_store_here", "_law_rows", "_law_moment_here", "_law_ends", "_law_cycles", "_law_row", "_law_given", "_law_span", "_law_due", "_law_answer_here", "_law_spots", "_law_spot"]) (by decide +kernel)) len_law fun A outer s H vs Q E hr h => ok_law Bq hr h⟩
end
end Wk
-- H0
/-! What the top leaves. -/
namespace Wk
open PySem PySem.Spec
open PyProof.Rows L2
abbrev R : PySem.W.OpenRow := PySem.W.OpenLaw.row PySem.Challenge.rw_wheelsky_k91_near_spans_of_width_zero_wh
abbrev qv : Program := PySem.W.view R.prog [124]
def lo0 : List Str := ["_wall", "whole_number", "common_divisor", "lowest", "precedes", "weighted_divisor", "joint_measure", "fraction", "is_fraction", "check_pair", "check_value", "plus", "minus", "times", "over", "compare", "floor_of", "part_of", "check_values", "measure_paper", "later_of", "earlier_of", "need_fraction", "need_place", "need_span", "next_step", "steps_within", "check_cycles", "check_moment", "check_span"]
def lo1 : List Str := ["check_width", "lines_of", "turns_on", "is_within", "whole_near", "line_is_near", "lines_are_near", "is_earlier", "turned_bounds", "wholes_met", "line_spans", "common_rows", "all_line_spans", "shared_rows", "is_near", "near_spans", "next_near", "near_days", "need_cycles", "weighed", "never_weights", "meeting_rule", "meeting_paper", "meetings", "next_meeting", "_law_mixed", "_law_store", "_law_take", "_law_pick", "_law_size"]
def lo2 : List Str := ["_law_gcd", "_law_bezout", "_law_lowest", "_law_plus", "_law_minus", "_law_times", "_law_over", "_law_sign", "_law_floor", "_law_part", "_law_offset", "_law_distance", "_law_scale", "_law_ordered", "_law_whole", "_law_frac", "_law_place", "_law_moment", "_law_span_over", "_law_turns", "_law_met", "_law_rule", "_law_near", "_law_near_many", "_law_alike", "_law_answer", "_law_numbers_in", "_law_meetings_due", "_law_sky_for", "_law_short_span"]
def lo3 : List Str := ["_law_ends_for", "_law_spans_due", "_law_spans_told", "_law_first_right", "_law_days_right", "_law_refused_right", "SkyError", "BadValue", "Mismatch", "Still", "Endless", "TooMany", "NoName", "Taken", "Locked", "Looped", "Broken", "ReadError", "Span", "Cycle", "MOST_VALUES", "MOST_DAYS", "MOST_MOMENTS", "MOST_NEAR", "LEAST_CYCLES", "MOST_CYCLES"]
def loose : List Str := lo0 ++ lo1 ++ lo2 ++ lo3
open He PySem.W in
def lv0 (g : Addr → Option Obj) : List Addr := match g mainGlobals with
  | some o => refsO o
  | none => []
open He PySem.W in
def lv1 (g : Addr → Option Obj) (as : List Addr) : List Addr := as.flatMap fun a => match g a with
  | some ⟨_, _, .func fd, _⟩ => refV fd.code ++ refV fd.defaults
  | some ⟨_, _, .cls cd, _⟩ => [cd.ns]
  | _ => []
open He PySem.W in
def lv2 (g : Addr → Option Obj) (as : List Addr) : List Addr := as.flatMap fun a => match g a with
  | some ⟨_, _, .cls cd, _⟩ => (match g cd.ns with
    | some o => refsO o
    | none => [])
  | _ => []
def asM (g : Addr → Option Obj) : List Addr := mainGlobals :: lv0 g ++ lv1 g (lv0 g) ++ lv2 g (lv0 g) ++ lv1 g (lv2 g (lv0 g))
abbrev Kof (g : Addr → Option Obj) : PySem.W.Frag := He.frT g (asM g)
/-- the facts, apart -/
def o1 (g : Addr → Option Obj) : Bool := fa.all fun f => f.ok (Kof g)
def o2 (g : Addr → Option Obj) : Bool := fn.all fun d => d.ok (Kof g)
def o3 (g : Addr → Option Obj) : List He.FnW := fn.map fun d => He.fnW (Kof g) d.at_
def o4 (g : Addr → Option Obj) : Bool := exB (Kof g) && tabD (Kof g)
def o5 (g : Addr → Option Obj) : Bool := He.tabsB g tf (Kof g)
/-- the top, run -/
noncomputable abbrev ran (w : World) (os : OsState) := HandSHeadRun.endF (HandSHeadRun.stepQ (HandSHeadRun.denQ HandSHeadRun.tabQ) R.prog w) 8000 R.prog w os
end Wk
-- H1
namespace Wk
open PySem PySem.W HandSHeadRun
theorem run1 (w : World) (os : OsState) : (ran w os).map (fun s => (o1 (getT s), o2 (getT s), o3 (getT s), o4 (getT s), o5 (getT s))) = some (true, true, fn.map He.DefD.val, true, true) := by
  kernel_rfl
end Wk
-- H6
namespace Wk
open PySem PySem.W HandSHeadRun
theorem run6 (w : World) (os : OsState) : (ran w os).map (fun s => (looksF R.prog (boot_heap w.params) s.abs, seenQ qv loose (importedModules R.prog.main.body) (fun s => xlAt qv [] s && recOk R.toRowW.records s) s.abs)) = some (true, openGood qv loose) := by
  kernel_rfl
end Wk
-- Hend
namespace Wk
open PySem PySem.Spec
open PyProof.Rows L2
/-- what the head tells of the written part -/
structure SaysY (h : Heap) (K : PySem.W.Frag) : Prop where
  d : He.SaysD fa fn K
  ex : exB K = true
  dt : tabD K = true
  hd : ∀ p ∈ tf, PySem.W.codeHdIn K (He.cT K p).1 (He.cT K p).2 = true
  out : ∀ p ∈ tf, K.lookup (He.cT K p).2 = none
  empty : ∀ p ∈ tf, h.get? (He.cT K p).2 = some { cls := .none, data := .fields #[] }
abbrev AlY : Type := Bool × Bool × List He.FnW × Bool × Bool
def obY (g : Addr → Option Obj) : AlY := (o1 g, o2 g, o3 g, o4 g, o5 g)
def valY : AlY := (true, true, fn.map He.DefD.val, true, true)
theorem saysY_of {h : Heap} (e : obY h.get? = valY) : SaysY h (Kof h.get?) := by
  have e1 : o1 h.get? = true := congrArg (fun z : AlY => z.1) e
  have e2 : o2 h.get? = true := congrArg (fun z : AlY => z.2.1) e
  have e3 : o3 h.get? = fn.map He.DefD.val := congrArg (fun z : AlY => z.2.2.1) e
  have e4 : o4 h.get? = true := congrArg (fun z : AlY => z.2.2.2.1) e
  have e5 : o5 h.get? = true := congrArg (fun z : AlY => z.2.2.2.2) e
  obtain ⟨e6, e7⟩ := He.ba e4
  have key : ∀ p ∈ tf, PySem.W.codeHdIn (Kof h.get?) (He.cT (Kof h.get?) p).1 (He.cT (Kof h.get?) p).2 = true ∧ ∃ o, h.get? (He.cT (Kof h.get?) p).2 = some o ∧ He.emptyTab o = true := fun p hp => by
    obtain ⟨h3, h4⟩ := He.ba (List.all_eq_true.mp e5 p hp)
    refine ⟨h3, ?_⟩
    cases q : h.get? (He.cT (Kof h.get?) p).2 with
    | none =>
      rw [q] at h4
      cases h4
    | some o =>
      rw [q] at h4
      exact ⟨o, rfl, h4⟩
  refine ⟨?_, e6, e7, fun p hp => (key p hp).1, fun p hp => ?_, fun p hp => ?_⟩
  · show (((fa.all fun f => f.ok (Kof h.get?)) && fn.all fun d => d.ok (Kof h.get?)), fn.map fun d => He.fnW (Kof h.get?) d.at_) = (true, fn.map He.DefD.val)
    have a1 : (fa.all fun f => f.ok (Kof h.get?)) = true := e1
    have a2 : (fn.all fun d => d.ok (Kof h.get?)) = true := e2
    have a3 : (fn.map fun d => He.fnW (Kof h.get?) d.at_) = fn.map He.DefD.val := e3
    rw [a1, a2, a3] <;> rfl
  · obtain ⟨_, o, q, z⟩ := key p hp
    exact He.frT_none q z
  · obtain ⟨_, o, q, z⟩ := key p hp
    rw [q, He.emptyTab_eq z]
def hkY : PySem.W.Hook where
  α := AlY
  obs := fun s => obY s.heap.get?
  val := fun _ => valY
  says := fun _ h => ∃ K : PySem.W.Frag, K.In h ∧ SaysY h K
  of := fun _ _ e => ⟨_, He.frT_in, saysY_of e⟩
  keeps := fun _ _ _ ⟨K, hK, c⟩ k => ⟨K, PySem.W.Frag.In.keeps hK k, ⟨c.d, c.ex, c.dt, c.hd, c.out, fun p hp => k _ _ (c.empty p hp)⟩⟩
def obT (s : PySem.W.SharedT) : AlY := obY (HandSHeadRun.getT s)
theorem ob_eq (s : PySem.W.SharedT) : obT s = hkY.obs s.abs := by
  have e : HandSHeadRun.getT s = s.abs.heap.get? := funext (HandSHeadRun.getT_eq s)
  show obY (HandSHeadRun.getT s) = obY s.abs.heap.get?
  rw [e]
theorem map_two {σ α β : Type} {x : Option σ} {f : σ → α} {g : σ → β} {a : α} {b : β} (h1 : x.map f = some a) (h2 : x.map g = some b) : x.map (fun s => (f s, g s)) = some (a, b) := by
  cases x with
  | none => cases h1
  | some s =>
    cases h1
    cases h2
    rfl
theorem run_all (w : World) : HandSHeadRun.RunEq R qv hkY obT 8000 loose w := by
  intro os
  have h := map_two (run6 w os) (run1 w os)
  obtain ⟨s, hs, he⟩ := Option.map_eq_some_iff.mp h
  show (ran w os).map _ = _
  rw [hs]
  have e6 := congrArg (fun z => z.1) he
  have eo := congrArg (fun z => z.2) he
  refine congrArg some ?_
  have e7 := congrArg Prod.fst e6
  have e8 := congrArg Prod.snd e6
  exact Prod.ext e7 (Prod.ext e8 eo)
theorem bs_of {K : PySem.W.Frag} {h : Heap} {mg : Str → Option Value} (X : K.In h) (G : h.Ns mainGlobals mg) (c : SaysY h K) : Bs K mg where
  df := fun i d e => c.d.def_ i (d := d) e
  gl := fun i x e => He.glo_ok X G (c.d.fact i (f := .glo x) e)
  fr := fun i x e => He.free_ok X G (c.d.fact i (f := .free x) e)
  nt := fun i x n e => (He.int_ok X G (c.d.fact i (f := .int x n) e)).elim fun t h => ⟨_, h, t, rfl⟩
  ok := fun i f e => c.d.fact i (f := f) e
  ex := c.ex
  hd := c.hd
  out := c.out
theorem law_at {w : World} {mg : Str → Option Value} {fa' : Addr} {h : Heap} (Y : hkY.says w h) (G : h.Ns mainGlobals mg) (hmg : mg ("law" : Str) = some (.ref fa')) : ∃ K : PySem.W.Frag, K.In h ∧ LamX.LawAtS PySem.Challenge.rw_wheelsky_k91_near_spans_of_width_zero_wh w K CX0 11 63 "_law_script" mg fa' h := by
  obtain ⟨K, KX, c⟩ := Y
  have B := bs_of KX G c
  obtain ⟨fd, hb, hF⟩ := law_fn (P := (PySem.Challenge.rw_wheelsky_k91_near_spans_of_width_zero_wh).prog) (w := w) B
  have e := hmg.symm.trans B.g_law
  cases e
  have mem : ∀ {p : He.Defn}, p ∈ tf → He.cT K p ∈ tf.map (He.cT K) := fun hp => List.mem_map.mpr ⟨_, hp, rfl⟩
  refine ⟨K, KX, fd, tf.map (He.cT K), spLaw K, fun p hp => ?_, fun p hp => ?_, fun p hp => ?_, hb, fun H a ns hl _ hH hS => ⟨a, ns, rfl, hS, hl, fun q hq => ?_, fun _ => rfl⟩, fun base KB NB TB => hF base ⟨B, c.dt, fun p hp => TB _ (mem hp)⟩⟩
  · obtain ⟨d, hd, rfl⟩ := List.mem_map.mp hp
    exact c.empty d hd
  · obtain ⟨d, hd, rfl⟩ := List.mem_map.mp hp
    exact c.out d hd
  · obtain ⟨d, hd, rfl⟩ := List.mem_map.mp hp
    exact PySem.W.codeHd_of_K KX (c.hd d hd)
  · obtain ⟨d, hd, rfl⟩ := List.mem_map.mp hq
    exact LamX.TabS.nil (hH _ (mem hd))
end Wk
open PySem PySem.W
open PySem.Calls PyProof.Rows
theorem PySem.Challenge.cw_wheelsky_k91_near_spans_of_width_zero_wh_holds : PySem.Challenge.rw_wheelsky_k91_near_spans_of_width_zero_wh.Holds := by
  w_on; o_law
  refine HandSHeadRun.head_any (r := OpenLaw.row PySem.Challenge.rw_wheelsky_k91_near_spans_of_width_zero_wh) (q := Wk.qv) (H := Wk.hkY) (ob := Wk.obT) (M := 8000) (loose := Wk.loose) (d := HandSHeadRun.topDef (OpenLaw.row PySem.Challenge.rw_wheelsky_k91_near_spans_of_width_zero_wh).prog 124) (kwd := []) Wk.ob_eq
    (by kernel_rfl) (fun s => by kernel_rfl) Wk.run_all (by kernel_rfl) (by kernel_rfl) (by kernel_rfl) (by rfl) (by first | assumption | decide +kernel) (by decide +kernel) ⟨rfl, rfl, rfl, rfl, rfl, by decide +kernel⟩ ?hw ?hc
  case hw => w_witness2
  case hc =>
    refine LamX.walk_ofTsE (l := PySem.Challenge.rw_wheelsky_k91_near_spans_of_width_zero_wh) (n := 63) (k := 11) (x := "_law_script") (CX := fun _ => L2.CX0) rfl (by decide) (by kernel_rfl) ⟨rfl, by decide, by decide⟩ ?F (fun _ _ _ _ _ z => z)
    intro w mg fa h Y G hmg0
    have hmg : (mg ("law" : PySem.Str) = some (.ref fa)) := by
      have e : (HandSHeadRun.topDef (OpenLaw.row PySem.Challenge.rw_wheelsky_k91_near_spans_of_width_zero_wh).prog 124).name = ("law" : PySem.Str) := by kernel_rfl
      rw [← e]
      exact hmg0
    exact Wk.law_at Y G hmg
