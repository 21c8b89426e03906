import PyProof.Rows.All
import Wide.All
import OpenK.AllK
import Wide.FinOn
import HandS.ForMost
import HandS.ForExc
import HandS.TupAny
import HandS.Style
import HandS.IsInst
import HandS.SortInts
import HandS.CallSlots
import HandS.Dict
import HandS.More
import HandS.SetFor
import HandS.Strs
import HandS.SetBool
import PySem.Challenge.RW_delvewarden_k76_two_times
set_option Elab.async false
set_option linter.all false
set_option maxRecDepth 100000
set_option maxHeartbeats 4000000
namespace FL
open PySem PySem.Spec L2
open PySem.PyData (strOk)
set_option autoImplicit false

/-! ## 1. Data -/
/-- a value of the program as plain data; dst: the law's own drawing list -/
inductive D where
  | non | bl (b : Bool) | int (i : Int) | str (x : Str)
  | tup (ds : List D) | lst (ds : List D) | dic (kvs : List (Key × D)) | dst
/-- the drawing list's contents -/
structure DS where
  cells : List Int
  pos : Nat
  big : Int
  seed : Int
/-- an exception: its class and fields -/
structure Ex where
  cls : Addr
  fs : List (Str × D)
inductive R where
  | ok (d : D) | ex (x : Ex)
/-- a name's slot: empty, a value that nobody changes, a list or dict that this frame alone holds -/
inductive Sl where
  | no | v (d : D) | o (d : D)
abbrev Env := List Sl
inductive Fl where
  | nx | rt (d : D) | bk | ct | ex (x : Ex)
abbrev E := Env → DS → Option (R × DS)
abbrev C := Env → DS → Option (Fl × Env × DS)
/-- several values, or an exception -/
inductive Rs where
  | ok (ds : List D) | ex (x : Ex)
abbrev Es := Env → DS → Option (Rs × DS)

/-! ## 2. What stands in the heap -/
def WrT (K : PySem.W.Frag) (a : Addr) (xs : List V) : Prop :=
  ∃ (o : Obj) (its : Array Value) (n : Nat), K.lookup a = some o ∧ o.cls = .type "tuple" ∧ o.data = .seq its n ∧ its.size ≤ sizeLine ∧ Vals xs its.toList
def TupAt (K : PySem.W.Frag) (S : Addr → Prop) (H : Hp) (a : Addr) (xs : List V) : Prop := (Rd H a (.tup xs) ∧ ¬ S a) ∨ WrT K a xs
def LstAt (S : Addr → Prop) (H : Hp) (a : Addr) (xs : List V) : Prop := H a = some (.lst xs) ∧ ¬ S a
mutual
def Rp (K : PySem.W.Frag) (ad : Addr) (S : Addr → Prop) (H : Hp) : D → V → Prop
  | .non, v => v = .non
  | .bl b, v => v = .bl b
  | .int i, v => v = .int i
  | .str x, v => v = .str x ∧ strOk x = true
  | .tup ds, v => ∃ a xs, v = .ref a ∧ TupAt K S H a xs ∧ RpAll K ad S H ds xs
  | .lst ds, v => ∃ a xs, v = .ref a ∧ LstAt S H a xs ∧ RpAll K ad S H ds xs
  | .dic kvs, v => ∃ a ys, v = .ref a ∧ H a = some (.dK ys) ∧ ¬ S a ∧ RpKV K ad S H kvs ys
  | .dst, v => v = .ref ad
def RpAll (K : PySem.W.Frag) (ad : Addr) (S : Addr → Prop) (H : Hp) : List D → List V → Prop
  | [], vs => vs = []
  | d :: ds, vs => ∃ v r, vs = v :: r ∧ Rp K ad S H d v ∧ RpAll K ad S H ds r
def RpKV (K : PySem.W.Frag) (ad : Addr) (S : Addr → Prop) (H : Hp) : List (Key × D) → List (Key × V) → Prop
  | [], ys => ys = []
  | (k, d) :: ds, ys => ∃ v r, ys = (k, v) :: r ∧ Rp K ad S H d v ∧ RpKV K ad S H ds r
end
/-- what is tracked and not in S stays, and is not in S' -/
def Mv (S : Addr → Prop) (H : Hp) (S' : Addr → Prop) (H' : Hp) : Prop := ∀ a u, H a = some u → ¬ S a → H' a = some u ∧ ¬ S' a
theorem Rd.mv {S S' : Addr → Prop} {H H' : Hp} {a : Addr} {u : HO} (m : Mv S H S' H') (h : Rd H a u) (n : ¬ S a) : Rd H' a u ∧ ¬ S' a := by
  rcases h with h | ⟨o, h⟩
  · exact ⟨.inl (m _ _ h n).1, (m _ _ h n).2⟩
  · exact ⟨.inr ⟨o, (m _ _ h n).1⟩, (m _ _ h n).2⟩
theorem TupAt.mv {K : PySem.W.Frag} {S S' : Addr → Prop} {H H' : Hp} {a : Addr} {xs : List V} (m : Mv S H S' H') (h : TupAt K S H a xs) : TupAt K S' H' a xs := by
  rcases h with ⟨h, n⟩ | h
  · exact .inl (Rd.mv m h n)
  · exact .inr h
theorem LstAt.mv {S S' : Addr → Prop} {H H' : Hp} {a : Addr} {xs : List V} (m : Mv S H S' H') (h : LstAt S H a xs) : LstAt S' H' a xs := m _ _ h.1 h.2
theorem TupAt.sq {K : PySem.W.Frag} {S : Addr → Prop} {H : Hp} {a : Addr} {xs : List V} (h : TupAt K S H a xs) : SqT K H a xs := by
  rcases h with ⟨h, _⟩ | h
  · exact .inl h
  · exact .inr h
theorem LstAt.sq {K : PySem.W.Frag} {S : Addr → Prop} {H : Hp} {a : Addr} {xs : List V} (h : LstAt S H a xs) : SqL K H a xs := SqL.of h.1
section
variable {K : PySem.W.Frag} {ad : Addr} {S S' : Addr → Prop} {H H' : Hp}
mutual
theorem Rp.mv (m : Mv S H S' H') : ∀ (d : D) (v : V), Rp K ad S H d v → Rp K ad S' H' d v
  | .non, v, h => by unfold Rp at h ⊢; exact h
  | .bl b, v, h => by unfold Rp at h ⊢; exact h
  | .int i, v, h => by unfold Rp at h ⊢; exact h
  | .str x, v, h => by unfold Rp at h ⊢; exact h
  | .tup ds, v, h => by
    unfold Rp at h ⊢
    obtain ⟨a, xs, e, t, r⟩ := h
    exact ⟨a, xs, e, t.mv m, RpAll.mv m ds xs r⟩
  | .lst ds, v, h => by
    unfold Rp at h ⊢
    obtain ⟨a, xs, e, t, r⟩ := h
    exact ⟨a, xs, e, t.mv m, RpAll.mv m ds xs r⟩
  | .dic ds, v, h => by
    unfold Rp at h ⊢
    obtain ⟨a, xs, e, t, n, r⟩ := h
    exact ⟨a, xs, e, (m _ _ t n).1, (m _ _ t n).2, RpKV.mv m ds xs r⟩
  | .dst, v, h => by unfold Rp at h ⊢; exact h
theorem RpAll.mv (m : Mv S H S' H') : ∀ (ds : List D) (vs : List V), RpAll K ad S H ds vs → RpAll K ad S' H' ds vs
  | [], vs, h => by unfold RpAll at h ⊢; exact h
  | d :: ds, vs, h => by
    unfold RpAll at h ⊢
    obtain ⟨v, r, e, h1, h2⟩ := h
    exact ⟨v, r, e, Rp.mv m d v h1, RpAll.mv m ds r h2⟩
theorem RpKV.mv (m : Mv S H S' H') : ∀ (ds : List (Key × D)) (vs : List (Key × V)), RpKV K ad S H ds vs → RpKV K ad S' H' ds vs
  | [], vs, h => by unfold RpKV at h ⊢; exact h
  | (k, d) :: ds, vs, h => by
    unfold RpKV at h ⊢
    obtain ⟨v, r, e, h1, h2⟩ := h
    exact ⟨v, r, e, Rp.mv m d v h1, RpKV.mv m ds r h2⟩
end
theorem Mv.refl : Mv S H S H := fun _ _ h n => ⟨h, n⟩
theorem Mv.less (h : ∀ a, S' a → S a) : Mv S H S' H := fun _ _ e n => ⟨e, fun z => n (h _ z)⟩
theorem Mv.trans {S2 : Addr → Prop} {H2 : Hp} (a : Mv S H S' H') (b : Mv S' H' S2 H2) : Mv S H S2 H2 := fun x u e n => b x u (a x u e n).1 (a x u e n).2
/-! inversions -/
theorem rp_non {v : V} : Rp K ad S H .non v ↔ v = .non := by unfold Rp; exact Iff.rfl
theorem rp_bl {b : Bool} {v : V} : Rp K ad S H (.bl b) v ↔ v = .bl b := by unfold Rp; exact Iff.rfl
theorem rp_int {i : Int} {v : V} : Rp K ad S H (.int i) v ↔ v = .int i := by unfold Rp; exact Iff.rfl
theorem rp_str {x : Str} {v : V} : Rp K ad S H (.str x) v ↔ v = .str x ∧ strOk x = true := by unfold Rp; exact Iff.rfl
theorem rp_tup {ds : List D} {v : V} : Rp K ad S H (.tup ds) v ↔ ∃ a xs, v = .ref a ∧ TupAt K S H a xs ∧ RpAll K ad S H ds xs := by
  constructor
  · intro h; unfold Rp at h; exact h
  · intro h; unfold Rp; exact h
theorem rp_lst {ds : List D} {v : V} : Rp K ad S H (.lst ds) v ↔ ∃ a xs, v = .ref a ∧ LstAt S H a xs ∧ RpAll K ad S H ds xs := by
  constructor
  · intro h; unfold Rp at h; exact h
  · intro h; unfold Rp; exact h
theorem rp_dic {ds : List (Key × D)} {v : V} : Rp K ad S H (.dic ds) v ↔ ∃ a ys, v = .ref a ∧ H a = some (.dK ys) ∧ ¬ S a ∧ RpKV K ad S H ds ys := by
  constructor
  · intro h; unfold Rp at h; exact h
  · intro h; unfold Rp; exact h
theorem rpAll_nil : RpAll K ad S H [] [] := by unfold RpAll; rfl
theorem rpAll_cons {d : D} {ds : List D} {v : V} {vs : List V} (h : Rp K ad S H d v) (r : RpAll K ad S H ds vs) : RpAll K ad S H (d :: ds) (v :: vs) := by
  unfold RpAll; exact ⟨v, vs, rfl, h, r⟩
theorem rpAll_inv {d : D} {ds : List D} {vs : List V} (h : RpAll K ad S H (d :: ds) vs) : ∃ v r, vs = v :: r ∧ Rp K ad S H d v ∧ RpAll K ad S H ds r := by
  unfold RpAll at h; exact h
theorem rpAll_nil_inv {vs : List V} (h : RpAll K ad S H [] vs) : vs = [] := by unfold RpAll at h; exact h
theorem rpAll_length : ∀ {ds : List D} {vs : List V}, RpAll K ad S H ds vs → vs.length = ds.length
  | [], vs, h => by rw [rpAll_nil_inv h]; rfl
  | d :: ds, vs, h => by
    obtain ⟨v, r, rfl, _, q⟩ := rpAll_inv h
    simp [rpAll_length q]
theorem rpAll_get : ∀ {ds : List D} {vs : List V} {i : Nat} {d : D}, RpAll K ad S H ds vs → ds[i]? = some d → ∃ v, vs[i]? = some v ∧ Rp K ad S H d v
  | [], _, i, d, h, e => by simp at e
  | d :: ds, vs, i, x, h, e => by
    obtain ⟨v, r, rfl, h1, q⟩ := rpAll_inv h
    cases i with
    | zero => simp at e; subst e; exact ⟨v, by simp, h1⟩
    | succ j =>
      simp at e
      obtain ⟨w, e1, e2⟩ := rpAll_get q e
      exact ⟨w, by simpa using e1, e2⟩
theorem rpAll_get' : ∀ {ds : List D} {vs : List V} {i : Nat} {v : V}, RpAll K ad S H ds vs → vs[i]? = some v → ∃ d, ds[i]? = some d ∧ Rp K ad S H d v
  | [], _, i, d, h, e => by rw [rpAll_nil_inv h] at e; simp at e
  | d :: ds, vs, i, x, h, e => by
    obtain ⟨v, r, rfl, h1, q⟩ := rpAll_inv h
    cases i with
    | zero => simp at e; subst e; exact ⟨d, by simp, h1⟩
    | succ j =>
      simp at e
      obtain ⟨w, e1, e2⟩ := rpAll_get' q e
      exact ⟨w, by simpa using e1, e2⟩
theorem rpAll_append : ∀ {ds es : List D} {vs ws : List V}, RpAll K ad S H ds vs → RpAll K ad S H es ws → RpAll K ad S H (ds ++ es) (vs ++ ws)
  | [], es, vs, ws, h, q => by rw [rpAll_nil_inv h]; exact q
  | d :: ds, es, vs, ws, h, q => by
    obtain ⟨v, r, rfl, h1, h2⟩ := rpAll_inv h
    exact rpAll_cons h1 (rpAll_append h2 q)
theorem rpAll_drop : ∀ (n : Nat) {ds : List D} {vs : List V}, RpAll K ad S H ds vs → RpAll K ad S H (ds.drop n) (vs.drop n)
  | 0, ds, vs, h => by simpa using h
  | n + 1, [], vs, h => by rw [rpAll_nil_inv h]; exact rpAll_nil
  | n + 1, d :: ds, vs, h => by
    obtain ⟨v, r, rfl, h1, h2⟩ := rpAll_inv h
    simpa using rpAll_drop n h2
theorem rpAll_take : ∀ (n : Nat) {ds : List D} {vs : List V}, RpAll K ad S H ds vs → RpAll K ad S H (ds.take n) (vs.take n)
  | 0, ds, vs, h => by simp only [List.take_zero]; exact rpAll_nil
  | n + 1, [], vs, h => by rw [rpAll_nil_inv h]; exact rpAll_nil
  | n + 1, d :: ds, vs, h => by
    obtain ⟨v, r, rfl, h1, h2⟩ := rpAll_inv h
    exact rpAll_cons h1 (rpAll_take n h2)
theorem rpAll_ints : ∀ {ns : List Int} {vs : List V}, RpAll K ad S H (ns.map D.int) vs → vs = ns.map V.int
  | [], vs, h => rpAll_nil_inv h
  | n :: ns, vs, h => by
    obtain ⟨v, r, rfl, h1, h2⟩ := rpAll_inv h
    rw [rp_int] at h1
    rw [h1, rpAll_ints h2]; rfl
theorem rpAll_ints' (ns : List Int) : RpAll K ad S H (ns.map D.int) (ns.map V.int) := by
  induction ns with
  | nil => exact rpAll_nil
  | cons n ns ih => exact rpAll_cons (rp_int.mpr rfl) ih
end

/-! ## 3. The environment -/
/-- the drawing list's address, its cells', what no value may lean on -/
structure Cq where
  ad : Addr
  ac : Addr
  S : Addr → Prop
abbrev Ow := Nat → Option Addr
def Own (o : Ow) (a : Addr) : Prop := ∃ i, o i = some a
/-- what values avoid; B: slots whose owned objects a value may lean on -/
def Sb (q : Cq) (B : Nat → Bool) (o : Ow) (a : Addr) : Prop := q.S a ∨ ∃ i, B i = false ∧ o i = some a
def B0 : Nat → Bool := fun _ => false
def B1 : Nat → Bool := fun _ => true
abbrev Sx (q : Cq) (o : Ow) : Addr → Prop := Sb q B0 o
/-- S and a -/
def Sa (S : Addr → Prop) (a b : Addr) : Prop := S b ∨ b = a
def DrawAt (q : Cq) (H : Hp) (st : DS) : Prop := H q.ad = some (.lst [.ref q.ac, .int st.pos, .int st.big, .int st.seed]) ∧ H q.ac = some (.lst (st.cells.map V.int)) ∧ q.ac ≠ q.ad
def OwnAt (K : PySem.W.Frag) (ad : Addr) (S : Addr → Prop) (H : Hp) (a : Addr) : D → Prop
  | .lst ds => ∃ vs, H a = some (.lst vs) ∧ RpAll K ad S H ds vs
  | .dic ds => ∃ ys, H a = some (.dK ys) ∧ RpKV K ad S H ds ys
  | _ => False
def SlotR (K : PySem.W.Frag) (q : Cq) (o : Ow) (σ : St) (H : Hp) (i : Nat) : Sl → Prop
  | .no => True
  | .v d => ∃ v, σ[i]? = some (some v) ∧ Rp K q.ad (Sx q o) H d v
  | .o d => ∃ a, o i = some a ∧ σ[i]? = some (some (.ref a)) ∧ OwnAt K q.ad (Sx q o) H a d
/-- what a frame may hold alone -/
def Mt : HO → Bool
  | .lst _ | .dK _ | .dT _ | .set _ _ => true
  | _ => false
structure EnvR (K : PySem.W.Frag) (q : Cq) (o : Ow) (σ : St) (H : Hp) (ρ : Env) (st : DS) : Prop where
  sad : q.S q.ad
  tr : ∀ a, q.S a → ∃ u, H a = some u
  ow : ∀ i a, o i = some a → ¬ q.S a ∧ a ≠ q.ac ∧ ∃ u, H a = some u ∧ Mt u = true
  inj : ∀ i j a, o i = some a → o j = some a → i = j
  dr : DrawAt q H st
  len : ρ.length = σ.length
  sl : ∀ i s, ρ[i]? = some s → SlotR K q o σ H i s
/-- all but the drawing list stays -/
def Fr (ad : Addr) (H H' : Hp) : Prop := ∀ a u, H a = some u → a ≠ ad → H' a = some u
theorem Fr.refl {ad : Addr} {H : Hp} : Fr ad H H := fun _ _ h _ => h
theorem Fr.trans {ad : Addr} {H H1 H2 : Hp} (a : Fr ad H H1) (b : Fr ad H1 H2) : Fr ad H H2 := fun x u h n => b x u (a x u h n) n
theorem Fr.of_same {ad : Addr} {H H' : Hp} (h : Same H H') : Fr ad H H' := fun a u e _ => h a u e
/-- a statement's step -/
structure Step (q : Cq) (o : Ow) (H : Hp) (o' : Ow) (H' : Hp) : Prop where
  keep : ∀ a u, H a = some u → a ≠ q.ad → ¬ Own o a → H' a = some u
  own : ∀ a, Own o' a → Own o a ∨ H a = none
  live : ∀ a u, H a = some u → ∃ u', H' a = some u'
theorem Step.refl {q : Cq} {o : Ow} {H : Hp} : Step q o H o H := ⟨fun _ _ h _ _ => h, fun _ h => .inl h, fun _ u h => ⟨u, h⟩⟩
theorem Step.trans {q : Cq} {o o1 o2 : Ow} {H H1 H2 : Hp} (a : Step q o H o1 H1) (b : Step q o1 H1 o2 H2) : Step q o H o2 H2 where
  keep := fun x u h n no => by
    have h1 := a.keep x u h n no
    refine b.keep x u h1 n fun z => ?_
    rcases a.own x z with z | z
    · exact no z
    · rw [h] at z; cases z
  own := fun x h => by
    rcases b.own x h with z | z
    · exact a.own x z
    · cases e : H x with
      | none => exact .inr rfl
      | some u =>
        obtain ⟨u', h'⟩ := a.live x u e
        rw [z] at h'; cases h'
  live := fun x u h => by
    obtain ⟨u1, h1⟩ := a.live x u h
    exact b.live x u1 h1
section
variable {K : PySem.W.Frag} {q : Cq} {o o' : Ow} {σ : St} {H H' : Hp} {ρ : Env} {st st' : DS} {B : Nat → Bool}
theorem sx_of_sb {a : Addr} (h : Sb q B o a) : Sx q o a := by
  rcases h with h | ⟨i, _, e⟩
  · exact .inl h
  · exact .inr ⟨i, rfl, e⟩
theorem own_sx {a : Addr} (h : Own o a) : Sx q o a := let ⟨i, e⟩ := h; .inr ⟨i, rfl, e⟩
theorem sx_own {a : Addr} (h : Sx q o a) : q.S a ∨ Own o a := by
  rcases h with h | ⟨i, _, e⟩
  · exact .inl h
  · exact .inr ⟨i, e⟩
theorem EnvR.trB (I : EnvR K q o σ H ρ st) {a : Addr} (h : Sb q B o a) : ∃ u, H a = some u := by
  rcases h with h | ⟨i, _, e⟩
  · exact I.tr a h
  · obtain ⟨u, hu, _⟩ := (I.ow i a e).2.2
    exact ⟨u, hu⟩
theorem EnvR.fresh (I : EnvR K q o σ H ρ st) {a : Addr} (h : H a = none) : ¬ Sb q B o a := fun z => by
  obtain ⟨u, e⟩ := I.trB z
  rw [h] at e; cases e
theorem mvB (f : Fr q.ad H H') (s : q.S q.ad) : Mv (Sb q B o) H (Sb q B o) H' := fun a u h n => ⟨f a u h (fun z => n (.inl (z ▸ s))), n⟩
/-- a step carries what stands over -/
theorem EnvR.mv (I : EnvR K q o σ H ρ st) (h : Step q o H o' H') : Mv (Sx q o) H (Sx q o') H' := fun a u e n => by
  refine ⟨h.keep a u e (fun z => n (.inl (z ▸ I.sad))) (fun z => n (own_sx z)), fun z => ?_⟩
  rcases sx_own z with z | z
  · exact n (.inl z)
  · rcases h.own a z with z | z
    · exact n (own_sx z)
    · rw [e] at z; cases z
theorem OwnAt.mv {ad : Addr} {S S' : Addr → Prop} {a : Addr} {d : D} (m : Mv S H S' H') (k : ∀ u, H a = some u → H' a = some u) (h : OwnAt K ad S H a d) : OwnAt K ad S' H' a d := by
  cases d with
  | lst ds => obtain ⟨vs, e, r⟩ := h; exact ⟨vs, k _ e, RpAll.mv m _ _ r⟩
  | dic ds => obtain ⟨vs, e, r⟩ := h; exact ⟨vs, k _ e, RpKV.mv m _ _ r⟩
  | _ => exact h.elim
theorem OwnAt.there {ad : Addr} {S : Addr → Prop} {a : Addr} {d : D} (h : OwnAt K ad S H a d) : ∃ u, H a = some u := by
  cases d with
  | lst ds => obtain ⟨vs, e, r⟩ := h; exact ⟨_, e⟩
  | dic ds => obtain ⟨vs, e, r⟩ := h; exact ⟨_, e⟩
  | _ => exact h.elim
theorem OwnAt.rp {ad : Addr} {S : Addr → Prop} {a : Addr} {d : D} (h : OwnAt K ad S H a d) (n : ¬ S a) : Rp K ad S H d (.ref a) := by
  cases d with
  | lst ds => obtain ⟨vs, e, r⟩ := h; exact rp_lst.mpr ⟨a, vs, rfl, ⟨e, n⟩, r⟩
  | dic ds => obtain ⟨vs, e, r⟩ := h; exact rp_dic.mpr ⟨a, vs, rfl, e, n, r⟩
  | _ => exact h.elim
theorem SlotR.mv {i : Nat} {s : Sl} (m : Mv (Sx q o) H (Sx q o) H') (k : ∀ a u, o i = some a → H a = some u → H' a = some u) (h : SlotR K q o σ H i s) : SlotR K q o σ H' i s := by
  cases s with
  | no => trivial
  | v d => obtain ⟨v, e, r⟩ := h; exact ⟨v, e, Rp.mv m _ _ r⟩
  | o d => obtain ⟨a, e1, e2, r⟩ := h; exact ⟨a, e1, e2, r.mv m fun u e => k a u e1 e⟩
/-- behind an expression -/
theorem EnvR.fr (I : EnvR K q o σ H ρ st) (f : Fr q.ad H H') (dr : DrawAt q H' st') : EnvR K q o σ H' ρ st' where
  sad := I.sad
  tr := fun a h => by
    by_cases e : a = q.ad
    · subst e; exact ⟨_, dr.1⟩
    · obtain ⟨u, hu⟩ := I.tr a h
      exact ⟨u, f a u hu e⟩
  ow := fun i a h => by
    obtain ⟨n1, n2, u, hu, hm⟩ := I.ow i a h
    exact ⟨n1, n2, u, f a u hu (fun z => n1 (z ▸ I.sad)), hm⟩
  inj := I.inj
  dr := dr
  len := I.len
  sl := fun i s h => (I.sl i s h).mv (mvB f I.sad) fun a u e hu => f a u hu fun z => (I.ow i a e).1 (z ▸ I.sad)
theorem EnvR.same (I : EnvR K q o σ H ρ st) (f : Same H H') : EnvR K q o σ H' ρ st := I.fr (Fr.of_same f) ⟨f _ _ I.dr.1, f _ _ I.dr.2.1, I.dr.2.2⟩
theorem EnvR.step (I : EnvR K q o σ H ρ st) (f : Fr q.ad H H') (J : EnvR K q o σ H' ρ st') : Step q o H o H' where
  keep := fun a u h n _ => f a u h n
  own := fun a h => .inl h
  live := fun a u h => by
    by_cases e : a = q.ad
    · subst e; exact ⟨_, J.dr.1⟩
    · exact ⟨u, f a u h e⟩
end

/-! ## 4. Liftings -/
def RpF (K : PySem.W.Frag) (ad : Addr) (S : Addr → Prop) (H : Hp) : List (Str × D) → List (Str × V) → Prop
  | [], ys => ys = []
  | (k, d) :: ds, ys => ∃ v r, ys = (k, v) :: r ∧ Rp K ad S H d v ∧ RpF K ad S H ds r
def ExR (K : PySem.W.Frag) (ad : Addr) (S : Addr → Prop) (H : Hp) (x : Ex) (dx : Addr) : Prop := ∃ fs, H dx = some (.xd fs) ∧ ¬ S dx ∧ RpF K ad S H x.fs fs
def WF : WX := fun _ _ _ _ => False
/-- what an expression's result must give -/
def PostE (K : PySem.W.Frag) (B : Nat → Bool) (W : WX) (q : Cq) (o : Ow) (σ : St) (H : Hp) (ρ : Env) (st' : DS) (Q : VK) : R → Prop
  | .ok d => ∀ v H', Fr q.ad H H' → EnvR K q o σ H' ρ st' → Rp K q.ad (Sb q B o) H' d v → Q v H'
  | .ex x => ∀ dx H', Fr q.ad H H' → EnvR K q o σ H' ρ st' → ExR K q.ad q.S H' x dx → W (.ref x.cls) (some dx) σ H'
def liftE (K : PySem.W.Frag) (B : Nat → Bool) (W : WX) (F : E) : TE := fun σ H Q => ∃ q o ρ st r st', EnvR K q o σ H ρ st ∧ F ρ st = some (r, st') ∧ PostE K B W q o σ H ρ st' Q r
def PostT (K : PySem.W.Frag) (W : WX) (q : Cq) (o : Ow) (σ : St) (H : Hp) (ρ : Env) (st' : DS) (Q : Bool → Hp → Prop) : R → Prop
  | .ok (.bl b) => ∀ H', Fr q.ad H H' → EnvR K q o σ H' ρ st' → Q b H'
  | .ok _ => False
  | .ex x => ∀ dx H', Fr q.ad H H' → EnvR K q o σ H' ρ st' → ExR K q.ad q.S H' x dx → W (.ref x.cls) (some dx) σ H'
def liftT (K : PySem.W.Frag) (W : WX) (F : E) : TT := fun σ H Q => ∃ q o ρ st r st', EnvR K q o σ H ρ st ∧ F ρ st = some (r, st') ∧ PostT K W q o σ H ρ st' Q r
/-- a new list or dict -/
def PostN (K : PySem.W.Frag) (B : Nat → Bool) (W : WX) (q : Cq) (o : Ow) (σ : St) (H : Hp) (ρ : Env) (st' : DS) (Q : VK) : R → Prop
  | .ok d => ∀ a H', Fr q.ad H H' → EnvR K q o σ H' ρ st' → H a = none → OwnAt K q.ad (Sa (Sb q B o) a) H' a d → Q (.ref a) H'
  | .ex x => ∀ dx H', Fr q.ad H H' → EnvR K q o σ H' ρ st' → ExR K q.ad q.S H' x dx → W (.ref x.cls) (some dx) σ H'
def liftN (K : PySem.W.Frag) (B : Nat → Bool) (W : WX) (F : E) : TE := fun σ H Q => ∃ q o ρ st r st', EnvR K q o σ H ρ st ∧ F ρ st = some (r, st') ∧ PostN K B W q o σ H ρ st' Q r
def PostA (K : PySem.W.Frag) (B : Nat → Bool) (W : WX) (q : Cq) (o : Ow) (σ : St) (H : Hp) (ρ : Env) (st' : DS) (Q : List V → Hp → Prop) : Rs → Prop
  | .ok ds => ∀ vs H', Fr q.ad H H' → EnvR K q o σ H' ρ st' → RpAll K q.ad (Sb q B o) H' ds vs → Q vs H'
  | .ex x => ∀ dx H', Fr q.ad H H' → EnvR K q o σ H' ρ st' → ExR K q.ad q.S H' x dx → W (.ref x.cls) (some dx) σ H'
def liftA (K : PySem.W.Frag) (B : Nat → Bool) (W : WX) (F : Es) : TA := fun σ H Q => ∃ q o ρ st r st', EnvR K q o σ H ρ st ∧ F ρ st = some (r, st') ∧ PostA K B W q o σ H ρ st' Q r
def PostS (K : PySem.W.Frag) (W : WX) (q : Cq) (o : Ow) (H : Hp) (ρ' : Env) (st' : DS) (D : Ends) : Fl → Prop
  | .nx => ∀ σ' H' o', EnvR K q o' σ' H' ρ' st' → Step q o H o' H' → D.nx σ' H'
  | .bk => ∀ σ' H' o', EnvR K q o' σ' H' ρ' st' → Step q o H o' H' → D.bk σ' H'
  | .ct => ∀ σ' H' o', EnvR K q o' σ' H' ρ' st' → Step q o H o' H' → D.ct σ' H'
  | .rt d => ∀ v H', (∀ a u, H a = some u → a ≠ q.ad → ¬ Own o a → H' a = some u) → DrawAt q H' st' → Rp K q.ad q.S H' d v → D.rt v H'
  | .ex x => ∀ dx σ' H' o', EnvR K q o' σ' H' ρ' st' → Step q o H o' H' → ExR K q.ad q.S H' x dx → W (.ref x.cls) (some dx) σ' H'
def liftS (K : PySem.W.Frag) (W : WX) (G : C) : TS := fun D σ H => ∃ q o ρ st fl ρ' st', EnvR K q o σ H ρ st ∧ G ρ st = some (fl, ρ', st') ∧ PostS K W q o H ρ' st' D fl
/-- the items that are walked; by: what the walk may not change -/
def Feeds (K : PySem.W.Frag) (by_ : Bool) (q : Cq) (o : Ow) (H : Hp) (J : It) (ds : List D) : Prop := ∀ (S' : Addr → Prop) (H1 : Hp), Mv (Sx q o) H S' H1 → (by_ = true → Fr q.ad H H1) → (∀ a, S' a → ∃ u, H1 a = some u) → ∀ i : Nat,
  (ds.length ≤ i → J.stop i H1) ∧ ∀ d, ds[i]? = some d → J.go i H1 ∧ ∀ x H2, J.yld i H1 x H2 → Same H1 H2 ∧ Rp K q.ad S' H2 d x
def PostI (K : PySem.W.Frag) (by_ : Bool) (W : WX) (q : Cq) (o : Ow) (σ : St) (H : Hp) (ρ : Env) (st' : DS) (Q : It → Hp → Prop) : Rs → Prop
  | .ok ds => ∀ J H', Fr q.ad H H' → EnvR K q o σ H' ρ st' → Feeds K by_ q o H' J ds → Q J H'
  | .ex x => ∀ dx H', Fr q.ad H H' → EnvR K q o σ H' ρ st' → ExR K q.ad q.S H' x dx → W (.ref x.cls) (some dx) σ H'
/-- by_: the walk sees expressions alone -/
def liftI (K : PySem.W.Frag) (by_ : Bool) (W : WX) (F : Es) : TI := fun σ H Q => ∃ q o ρ st r st', EnvR K q o σ H ρ st ∧ F ρ st = some (r, st') ∧ PostI K by_ W q o σ H ρ st' Q r

/-! readings may be strengthened -/
theorem pe_imp {X : Cx} {e : Expr} {t t' : TE} (h : PE X e t) (k : ∀ σ H Q, t' σ H Q → t σ H Q) : PE X e t' := ⟨fun pins s σ H Q I q => h.run pins s σ H Q I (k σ H Q q)⟩
theorem pt_imp {X : Cx} {e : Expr} {t t' : TT} (h : PT X e t) (k : ∀ σ H Q, t' σ H Q → t σ H Q) : PT X e t' := ⟨fun pins s σ H Q I q => h.run pins s σ H Q I (k σ H Q q)⟩
theorem pw_imp {X : Cx} {e : Expr} {t t' : TT} (h : PW X e t) (k : ∀ σ H Q, t' σ H Q → t σ H Q) : PW X e t' := ⟨fun wh pins s σ H Q I q => h.run wh pins s σ H Q I (k σ H Q q)⟩
theorem pa_imp {X : Cx} {e : List Expr} {t t' : TA} (h : PA X e t) (k : ∀ σ H Q, t' σ H Q → t σ H Q) : PA X e t' := ⟨fun pos pins s σ H Q I q => h.run pos pins s σ H Q I (k σ H Q q)⟩
theorem ps_imp {X : Cx} {e : Stmt} {t t' : TS} (h : PS X e t) (k : ∀ D σ H, t' D σ H → t D σ H) : PS X e t' := ⟨fun pins s σ H D I q => h.run pins s σ H D I (k D σ H q)⟩
theorem pss_imp {X : Cx} {e : List Stmt} {t t' : TS} (h : PSs X e t) (k : ∀ D σ H, t' D σ H → t D σ H) : PSs X e t' := ⟨fun pins s σ H D I q => h.run pins s σ H D I (k D σ H q)⟩
theorem pi_imp {X : Cx} {tg e : Expr} {t t' : TI} (h : PI X tg e t) (k : ∀ σ H Q, t' σ H Q → t σ H Q) : PI X tg e t' := ⟨fun pins s σ H Q I q => h.run pins s σ H Q I (k σ H Q q)⟩

/-! ## 5. Names and constants -/
def eV (i : Nat) : E := fun ρ st => match ρ[i]? with
  | some (.v d) => some (.ok d, st)
  | _ => none
/-- a slot read where its own object may be leaned on -/
def eB (i : Nat) : E := fun ρ st => match ρ[i]? with
  | some (.v d) => some (.ok d, st)
  | some (.o d) => some (.ok d, st)
  | _ => none
def eC (d : D) : E := fun _ st => some (.ok d, st)
section
variable {X : Cx} {B : Nat → Bool} {W : WX} {pos : Pos}
theorem e_var (i : Nat) {x : Str} (hN : X.N[i]? = some x := by rfl) (hv : Vis X.env.scope x := by first | exact Or.inl rfl | exact Or.inr (Or.inl rfl) | exact Or.inr (Or.inr rfl)) (hd : (x == ("__debug__" : Str)) = false := by decide)
    (hcd : (x == ("__classdict__" : Str)) = false := by decide) : PE X (.Name x pos) (liftE X.K B W (eV i)) := by
  refine pe_imp (pe_var hN hv hd hcd) fun σ H Q h => ?_
  obtain ⟨q, o, ρ, st, r, st', I, e, k⟩ := h
  unfold eV at e
  split at e
  · rename_i d hd
    cases e
    obtain ⟨v, e1, rp⟩ := I.sl i _ hd
    exact ⟨v, e1, k v H Fr.refl I (Rp.mv (Mv.less fun a => sx_of_sb) _ _ rp)⟩
  · cases e
theorem e_bor (i : Nat) {x : Str} (hB : B i = true := by rfl) (hN : X.N[i]? = some x := by rfl) (hv : Vis X.env.scope x := by first | exact Or.inl rfl | exact Or.inr (Or.inl rfl) | exact Or.inr (Or.inr rfl)) (hd : (x == ("__debug__" : Str)) = false := by decide)
    (hcd : (x == ("__classdict__" : Str)) = false := by decide) : PE X (.Name x pos) (liftE X.K B W (eB i)) := by
  refine pe_imp (pe_var hN hv hd hcd) fun σ H Q h => ?_
  obtain ⟨q, o, ρ, st, r, st', I, e, k⟩ := h
  unfold eB at e
  split at e
  · rename_i d hd
    cases e
    obtain ⟨v, e1, rp⟩ := I.sl i _ hd
    exact ⟨v, e1, k v H Fr.refl I (Rp.mv (Mv.less fun a => sx_of_sb) _ _ rp)⟩
  · rename_i d hd
    cases e
    obtain ⟨a, e1, e2, rp⟩ := I.sl i _ hd
    refine ⟨_, e2, k _ H Fr.refl I (Rp.mv (S := fun b => q.S b ∨ ∃ j, j ≠ i ∧ o j = some b) (Mv.less fun b z => ?_) _ _ (OwnAt.rp (rp.mv (Mv.less fun b z => ?_) fun u e => e) ?_))⟩
    · rcases z with z | ⟨j, zb, ze⟩
      · exact .inl z
      · refine .inr ⟨j, fun z => ?_, ze⟩
        subst z; rw [hB] at zb; cases zb
    · rcases z with z | ⟨j, _, ze⟩
      · exact .inl z
      · exact .inr ⟨j, rfl, ze⟩
    · rintro (z | ⟨j, zj, ze⟩)
      · exact (I.ow i a e1).1 z
      · exact zj (I.inj _ _ _ ze e1)
  · cases e
theorem e_int {n : Int} {j} : PE X (.Constant (.int n) j pos) (liftE X.K B W (eC (.int n))) := by
  refine pe_imp pe_int fun σ H Q h => ?_
  obtain ⟨q, o, ρ, st, r, st', I, e, k⟩ := h
  cases e
  exact k _ H Fr.refl I (rp_int.mpr rfl)
theorem e_bl {n : Bool} {j} : PE X (.Constant (.bool n) j pos) (liftE X.K B W (eC (.bl n))) := by
  refine pe_imp pe_bl fun σ H Q h => ?_
  obtain ⟨q, o, ρ, st, r, st', I, e, k⟩ := h
  cases e
  exact k _ H Fr.refl I (rp_bl.mpr rfl)
theorem e_non {j} : PE X (.Constant .none j pos) (liftE X.K B W (eC .non)) := by
  refine pe_imp pe_non fun σ H Q h => ?_
  obtain ⟨q, o, ρ, st, r, st', I, e, k⟩ := h
  cases e
  exact k _ H Fr.refl I (rp_non.mpr rfl)
theorem e_str {n : Str} {j} (h : strOk n = true := by decide +kernel) : PE X (.Constant (.str n) j pos) (liftE X.K B W (eC (.str n))) := by
  have hs := h
  refine pe_imp pe_str fun σ H Q h => ?_
  obtain ⟨q, o, ρ, st, r, st', I, e, k⟩ := h
  cases e
  exact k _ H Fr.refl I (rp_str.mpr ⟨rfl, hs⟩)
end
end FL


set_option Elab.async false
set_option linter.all false
set_option maxRecDepth 100000
set_option maxHeartbeats 4000000
namespace FL
open PySem PySem.Spec L2
open PySem.PyData (strOk)
set_option autoImplicit false
/-! ## 6. Operators -/
def eBin (f : D → D → Option D) (a b : E) : E := fun ρ st => match a ρ st with
  | some (.ok x, st1) => (match b ρ st1 with
    | some (.ok y, st2) => (match f x y with
      | some z => some (.ok z, st2)
      | none => none)
    | some (.ex e, st2) => some (.ex e, st2)
    | none => none)
  | some (.ex e, st1) => some (.ex e, st1)
  | none => none
def eUn (f : D → Option D) (a : E) : E := fun ρ st => match a ρ st with
  | some (.ok x, st1) => (match f x with
    | some z => some (.ok z, st1)
    | none => none)
  | some (.ex e, st1) => some (.ex e, st1)
  | none => none
/-- a rule by values computes f on data -/
def OpD (K : PySem.W.Frag) (r : R2) (f : D → D → Option D) : Prop := ∀ (ad : Addr) (S : Addr → Prop) (H : Hp) (d e z : D) (x y : V) (Q : VK), (∀ a, S a → ∃ u, H a = some u) → Rp K ad S H d x → Rp K ad S H e y → f d e = some z →
  (∀ v H', Same H H' → Rp K ad S H' z v → Q v H') → r x y H Q
def UnD (K : PySem.W.Frag) (r : V → Hp → VK → Prop) (f : D → Option D) : Prop := ∀ (ad : Addr) (S : Addr → Prop) (H : Hp) (d z : D) (x : V) (Q : VK), (∀ a, S a → ∃ u, H a = some u) → Rp K ad S H d x → f d = some z →
  (∀ v H', Same H H' → Rp K ad S H' z v → Q v H') → r x H Q
section
variable {X : Cx} {B : Nat → Bool} {W : WX} {pos : Pos} {a b : Expr} {F G : E}
theorem lift2 {r : R2} {f : D → D → Option D} (hd : OpD X.K r f) {σ : L2.St} {H : Hp} {Q : VK} (h : liftE X.K B W (eBin f F G) σ H Q) : tOp r (liftE X.K B W F) (liftE X.K B W G) σ H Q := by
  obtain ⟨q, o, ρ, st, rr, st', I, e, k⟩ := h
  unfold eBin at e
  cases eF : F ρ st with
  | none => rw [eF] at e; cases e
  | some p =>
    obtain ⟨r1, st1⟩ := p
    rw [eF] at e
    refine ⟨q, o, ρ, st, r1, st1, I, eF, ?_⟩
    cases r1 with
    | ex x => cases e; exact k
    | ok x =>
      intro v H1 f1 I1 rp1
      simp only at e
      cases eG : G ρ st1 with
      | none => rw [eG] at e; cases e
      | some p =>
        obtain ⟨r2, st2⟩ := p
        rw [eG] at e
        refine ⟨q, o, ρ, st1, r2, st2, I1, eG, ?_⟩
        cases r2 with
        | ex x => cases e; exact fun dx H' fr I' er => k dx H' (f1.trans fr) I' er
        | ok y =>
          intro w H2 f2 I2 rp2
          simp only at e
          cases ef : f x y with
          | none => rw [ef] at e; cases e
          | some z =>
            rw [ef] at e; cases e
            refine hd q.ad (Sb q B o) H2 x y z v w Q (fun a h => I2.trB h) (Rp.mv (mvB f2 I.sad) _ _ rp1) rp2 ef fun u H3 s3 r3 => ?_
            exact k u H3 ((f1.trans f2).trans (Fr.of_same s3)) (I2.same s3) r3
theorem e_bin {op : Operator} {r : R2} {f : D → D → Option D} (hd : OpD X.K r f) (ho : OpR X (binaryOp op) r) (ha : PE X a (liftE X.K B W F)) (hb : PE X b (liftE X.K B W G)) : PE X (.BinOp a op b pos) (liftE X.K B W (eBin f F G)) :=
  pe_imp (pe_op ho ha hb) fun _ _ _ h => lift2 hd h
theorem e_cmp {op : CmpOp} {r : R2} {f : D → D → Option D} (hd : OpD X.K r f) (ho : OpR X (compareOp op) r) (ha : PE X a (liftE X.K B W F)) (hb : PE X b (liftE X.K B W G)) (hm : behindInMarks op b = false := by first | exact nomark _ | rfl) : PE X (.Compare a [op] [b] pos) (liftE X.K B W (eBin f F G)) :=
  pe_imp (pe_cmpR ho ha hb hm) fun _ _ _ h => lift2 hd h
theorem e_ix {r : R2} {f : D → D → Option D} (hd : OpD X.K r f) (ho : IxR X r) (ha : PE X a (liftE X.K B W F)) (hb : PE X b (liftE X.K B W G)) (hs : PlainIx b := by exact fun _ _ => rfl) : PE X (.Subscript a b pos) (liftE X.K B W (eBin f F G)) :=
  pe_imp (pe_ix ho ha hb hs) fun _ _ _ h => lift2 hd h
theorem lift1 {r : V → Hp → VK → Prop} {f : D → Option D} (hd : UnD X.K r f) {σ : L2.St} {H : Hp} {Q : VK} (h : liftE X.K B W (eUn f F) σ H Q) : tUn r (liftE X.K B W F) σ H Q := by
  obtain ⟨q, o, ρ, st, rr, st', I, e, k⟩ := h
  unfold eUn at e
  cases eF : F ρ st with
  | none => rw [eF] at e; cases e
  | some p =>
    obtain ⟨r1, st1⟩ := p
    rw [eF] at e
    refine ⟨q, o, ρ, st, r1, st1, I, eF, ?_⟩
    cases r1 with
    | ex x => cases e; exact k
    | ok x =>
      intro v H1 f1 I1 rp1
      simp only at e
      cases ef : f x with
      | none => rw [ef] at e; cases e
      | some z =>
        rw [ef] at e; cases e
        refine hd q.ad (Sb q B o) H1 x z v Q (fun a h => I1.trB h) rp1 ef fun u H3 s3 r3 => ?_
        exact k u H3 (f1.trans (Fr.of_same s3)) (I1.same s3) r3
theorem e_un {op : UnaryOp} {r : V → Hp → VK → Prop} {f : D → Option D} (hd : UnD X.K r f) (ho : UnR X (unaryOp op) r) (ha : PE X a (liftE X.K B W F)) : PE X (.UnaryOp op a pos) (liftE X.K B W (eUn f F)) :=
  pe_imp (pe_un ho ha) fun _ _ _ h => lift1 hd h

/-! tests -/
theorem liftT_of {σ : L2.St} {H : Hp} {Q : Bool → Hp → Prop} (h : liftT X.K W F σ H Q) : liftE X.K B1 W F σ H fun x H' => ∃ k, x = .bl k ∧ Q k H' := by
  obtain ⟨q, o, ρ, st, rr, st', I, e, k⟩ := h
  refine ⟨q, o, ρ, st, rr, st', I, e, ?_⟩
  cases rr with
  | ex x => exact k
  | ok d =>
    cases d with
    | bl b =>
      intro v H' f I' rp
      rw [rp_bl] at rp
      exact ⟨b, rp, k H' f I'⟩
    | _ => exact k.elim
theorem liftT_of' {σ : L2.St} {H : Hp} {Q : Bool → Hp → Prop} (h : liftT X.K W F σ H Q) : liftE X.K B W F σ H fun x H' => ∃ k, x = .bl k ∧ Q k H' := by
  obtain ⟨q, o, ρ, st, rr, st', I, e, k⟩ := h
  refine ⟨q, o, ρ, st, rr, st', I, e, ?_⟩
  cases rr with
  | ex x => exact k
  | ok d =>
    cases d with
    | bl b =>
      intro v H' f I' rp
      rw [rp_bl] at rp
      exact ⟨b, rp, k H' f I'⟩
    | _ => exact k.elim
/-- an expression that gives a bool, as a test -/
theorem t_val {e : Expr} (h : PE X e (liftE X.K B W F)) (he : ∀ whole, isTrue e X.env whole = (do let v ← whole; standAt e.pos; holding [v] (truthy v)) := by intro _; rfl) : PT X e (liftT X.K W F) :=
  pt_imp (pt_val h he) fun _ _ _ q => liftT_of' q
theorem t_cmp {op : CmpOp} {r : R2} {f : D → D → Option D} (hd : OpD X.K r f) (ho : OpR X (compareOp op) r) (ha : PE X a (liftE X.K B W F)) (hb : PE X b (liftE X.K B W G)) (hm : behindInMarks op b = false := by first | exact nomark _ | rfl) : PT X (.Compare a [op] [b] pos) (liftT X.K W (eBin f F G)) :=
  pt_imp (pt_cmpR ho ha hb hm) fun _ _ _ h => lift2 hd (liftT_of' h)
def eAnd (a b : E) : E := fun ρ st => match a ρ st with
  | some (.ok (.bl true), st1) => b ρ st1
  | some (.ok (.bl false), st1) => some (.ok (.bl false), st1)
  | some (.ex e, st1) => some (.ex e, st1)
  | _ => none
def eOr (a b : E) : E := fun ρ st => match a ρ st with
  | some (.ok (.bl false), st1) => b ρ st1
  | some (.ok (.bl true), st1) => some (.ok (.bl true), st1)
  | some (.ex e, st1) => some (.ex e, st1)
  | _ => none
def eNot (a : E) : E := fun ρ st => match a ρ st with
  | some (.ok (.bl c), st1) => some (.ok (.bl (!c)), st1)
  | some (.ex e, st1) => some (.ex e, st1)
  | _ => none
def eIf (c a b : E) : E := fun ρ st => match c ρ st with
  | some (.ok (.bl true), st1) => a ρ st1
  | some (.ok (.bl false), st1) => b ρ st1
  | some (.ex e, st1) => some (.ex e, st1)
  | _ => none
theorem PostT.fr {q : Cq} {o : Ow} {σ : L2.St} {H H1 : Hp} {ρ : Env} {st' : DS} {Q : Bool → Hp → Prop} {r : R} (f : Fr q.ad H H1) (h : PostT X.K W q o σ H ρ st' Q r) : PostT X.K W q o σ H1 ρ st' Q r := by
  cases r with
  | ex x => exact fun dx H' fr I' er => h dx H' (f.trans fr) I' er
  | ok d =>
    cases d with
    | bl b => exact fun H' fr I' => h H' (f.trans fr) I'
    | _ => exact h
theorem PostE.fr {q : Cq} {o : Ow} {σ : L2.St} {H H1 : Hp} {ρ : Env} {st' : DS} {Q : VK} {r : R} (f : Fr q.ad H H1) (h : PostE X.K B W q o σ H ρ st' Q r) : PostE X.K B W q o σ H1 ρ st' Q r := by
  cases r with
  | ex x => exact fun dx H' fr I' er => h dx H' (f.trans fr) I' er
  | ok d => exact fun v H' fr I' => h v H' (f.trans fr) I'
theorem PostN.fr {q : Cq} {o : Ow} {σ : L2.St} {H H1 : Hp} {ρ : Env} {st' : DS} {Q : VK} {r : R} (I1 : EnvR X.K q o σ H1 ρ st') (f : Fr q.ad H H1) (h : PostN X.K B W q o σ H ρ st' Q r) (s : q.S q.ad) (tr : ∃ u, H q.ad = some u) : PostN X.K B W q o σ H1 ρ st' Q r := by
  cases r with
  | ex x => exact fun dx H' fr I' er => h dx H' (f.trans fr) I' er
  | ok d =>
    refine fun a H' fr I' n ow => h a H' (f.trans fr) I' ?_ ow
    cases e : H a with
    | none => rfl
    | some u =>
      by_cases z : a = q.ad
      · subst z
        rw [I1.dr.1] at n; cases n
      · rw [f a u e z] at n; cases n
theorem w_and1 (ha : PT X a (liftT X.K W F)) : PW X (.BoolOp .And [a] pos) (liftT X.K W F) := pw_and1 ha
theorem w_or1 (ha : PT X a (liftT X.K W F)) : PW X (.BoolOp .Or [a] pos) (liftT X.K W F) := pw_or1 ha
theorem liftAnd {σ : L2.St} {H : Hp} {Q : Bool → Hp → Prop} (h : liftT X.K W (eAnd F G) σ H Q) : tAnd (liftT X.K W F) (liftT X.K W G) σ H Q := by
  obtain ⟨q, o, ρ, st, rr, st', I, e, k⟩ := h
  unfold eAnd at e
  split at e
  · rename_i st1 eF
    refine ⟨q, o, ρ, st, _, st1, I, eF, fun H1 f1 I1 => ?_⟩
    refine iteT ?_
    exact ⟨q, o, ρ, st1, rr, st', I1, e, k.fr f1⟩
  · rename_i st1 eF
    cases e
    refine ⟨q, o, ρ, st, _, _, I, eF, fun H1 f1 I1 => ?_⟩
    refine iteF ?_
    exact k H1 f1 I1
  · rename_i x st1 eF
    cases e
    exact ⟨q, o, ρ, st, _, _, I, eF, k⟩
  · cases e
theorem liftOr {σ : L2.St} {H : Hp} {Q : Bool → Hp → Prop} (h : liftT X.K W (eOr F G) σ H Q) : tOr (liftT X.K W F) (liftT X.K W G) σ H Q := by
  obtain ⟨q, o, ρ, st, rr, st', I, e, k⟩ := h
  unfold eOr at e
  split at e
  · rename_i st1 eF
    refine ⟨q, o, ρ, st, _, st1, I, eF, fun H1 f1 I1 => ?_⟩
    refine iteF ?_
    exact ⟨q, o, ρ, st1, rr, st', I1, e, k.fr f1⟩
  · rename_i st1 eF
    cases e
    refine ⟨q, o, ρ, st, _, _, I, eF, fun H1 f1 I1 => ?_⟩
    refine iteT ?_
    exact k H1 f1 I1
  · rename_i x st1 eF
    cases e
    exact ⟨q, o, ρ, st, _, _, I, eF, k⟩
  · cases e
variable {rest : List Expr}
theorem w_and (ha : PT X a (liftT X.K W F)) (hb : PW X (.BoolOp .And (b :: rest) pos) (liftT X.K W G)) : PW X (.BoolOp .And (a :: b :: rest) pos) (liftT X.K W (eAnd F G)) := pw_imp (pw_and ha hb) fun _ _ _ h => liftAnd h
theorem w_or (ha : PT X a (liftT X.K W F)) (hb : PW X (.BoolOp .Or (b :: rest) pos) (liftT X.K W G)) : PW X (.BoolOp .Or (a :: b :: rest) pos) (liftT X.K W (eOr F G)) := pw_imp (pw_or ha hb) fun _ _ _ h => liftOr h
theorem t_not (ha : PT X a (liftT X.K W F)) : PT X (.UnaryOp .Not a pos) (liftT X.K W (eNot F)) := by
  refine pt_imp (pt_not ha) fun σ H Q h => ?_
  obtain ⟨q, o, ρ, st, rr, st', I, e, k⟩ := h
  unfold eNot at e
  split at e
  · rename_i c st1 eF
    cases e
    exact ⟨q, o, ρ, st, _, _, I, eF, fun H1 f1 I1 => k H1 f1 I1⟩
  · rename_i x st1 eF
    cases e
    exact ⟨q, o, ρ, st, _, _, I, eF, k⟩
  · cases e
/-! .. as values -/
theorem e_one {op} (ha : PE X a (liftE X.K B W F)) : PE X (.BoolOp op [a] pos) (liftE X.K B W F) := pe_one ha
theorem e_and (ha : PE X a (liftE X.K B W F)) (hb : PE X (.BoolOp .And (b :: rest) pos) (liftE X.K B W G)) : PE X (.BoolOp .And (a :: b :: rest) pos) (liftE X.K B W (eAnd F G)) := by
  refine pe_imp (pe_and ha hb) fun σ H Q h => ?_
  obtain ⟨q, o, ρ, st, rr, st', I, e, k⟩ := h
  unfold eAnd at e
  split at e
  · rename_i st1 eF
    refine ⟨q, o, ρ, st, _, st1, I, eF, fun v H1 f1 I1 rp => ⟨true, rp_bl.mp rp, ?_⟩⟩
    refine iteT ?_
    exact ⟨q, o, ρ, st1, rr, st', I1, e, k.fr f1⟩
  · rename_i st1 eF
    cases e
    refine ⟨q, o, ρ, st, _, _, I, eF, fun v H1 f1 I1 rp => ⟨false, rp_bl.mp rp, ?_⟩⟩
    refine iteF ?_
    exact k _ H1 f1 I1 (rp_bl.mpr rfl)
  · rename_i x st1 eF
    cases e
    exact ⟨q, o, ρ, st, _, _, I, eF, k⟩
  · cases e
theorem e_or (ha : PE X a (liftE X.K B W F)) (hb : PE X (.BoolOp .Or (b :: rest) pos) (liftE X.K B W G)) : PE X (.BoolOp .Or (a :: b :: rest) pos) (liftE X.K B W (eOr F G)) := by
  refine pe_imp (pe_or ha hb) fun σ H Q h => ?_
  obtain ⟨q, o, ρ, st, rr, st', I, e, k⟩ := h
  unfold eOr at e
  split at e
  · rename_i st1 eF
    refine ⟨q, o, ρ, st, _, st1, I, eF, fun v H1 f1 I1 rp => ⟨false, rp_bl.mp rp, ?_⟩⟩
    refine iteF ?_
    exact ⟨q, o, ρ, st1, rr, st', I1, e, k.fr f1⟩
  · rename_i st1 eF
    cases e
    refine ⟨q, o, ρ, st, _, _, I, eF, fun v H1 f1 I1 rp => ⟨true, rp_bl.mp rp, ?_⟩⟩
    refine iteT ?_
    exact k _ H1 f1 I1 (rp_bl.mpr rfl)
  · rename_i x st1 eF
    cases e
    exact ⟨q, o, ρ, st, _, _, I, eF, k⟩
  · cases e
theorem e_not (ha : PE X a (liftE X.K B W F)) : PE X (.UnaryOp .Not a pos) (liftE X.K B W (eNot F)) := by
  refine pe_imp (pe_not ha) fun σ H Q h => ?_
  obtain ⟨q, o, ρ, st, rr, st', I, e, k⟩ := h
  unfold eNot at e
  split at e
  · rename_i c st1 eF
    cases e
    exact ⟨q, o, ρ, st, _, _, I, eF, fun v H1 f1 I1 rp => ⟨c, rp_bl.mp rp, k _ H1 f1 I1 (rp_bl.mpr rfl)⟩⟩
  · rename_i x st1 eF
    cases e
    exact ⟨q, o, ρ, st, _, _, I, eF, k⟩
  · cases e
theorem e_if {c : Expr} {Fc : E} (hc : PT X c (liftT X.K W Fc)) (ha : PE X a (liftE X.K B W F)) (hb : PE X b (liftE X.K B W G)) : PE X (.IfExp c a b pos) (liftE X.K B W (eIf Fc F G)) := by
  refine pe_imp (pe_ifExp hc ha hb) fun σ H Q h => ?_
  obtain ⟨q, o, ρ, st, rr, st', I, e, k⟩ := h
  unfold eIf at e
  split at e
  · rename_i st1 eF
    refine ⟨q, o, ρ, st, _, st1, I, eF, fun H1 f1 I1 => ?_⟩
    refine iteT ?_
    exact ⟨q, o, ρ, st1, rr, st', I1, e, k.fr f1⟩
  · rename_i st1 eF
    refine ⟨q, o, ρ, st, _, st1, I, eF, fun H1 f1 I1 => ?_⟩
    refine iteF ?_
    exact ⟨q, o, ρ, st1, rr, st', I1, e, k.fr f1⟩
  · rename_i x st1 eF
    cases e
    exact ⟨q, o, ρ, st, _, _, I, eF, k⟩
  · cases e
theorem n_if {c : Expr} {Fc : E} (hc : PT X c (liftT X.K W Fc)) (ha : PE X a (liftN X.K B W F)) (hb : PE X b (liftN X.K B W G)) : PE X (.IfExp c a b pos) (liftN X.K B W (eIf Fc F G)) := by
  refine pe_imp (pe_ifExp hc ha hb) fun σ H Q h => ?_
  obtain ⟨q, o, ρ, st, rr, st', I, e, k⟩ := h
  unfold eIf at e
  split at e
  · rename_i st1 eF
    refine ⟨q, o, ρ, st, _, st1, I, eF, fun H1 f1 I1 => ?_⟩
    refine iteT ?_
    refine ⟨q, o, ρ, st1, rr, st', I1, e, ?_⟩
    cases rr with
    | ex x => exact fun dx H' fr I' er => k dx H' (f1.trans fr) I' er
    | ok d =>
      refine fun a H' fr I' n ow => k a H' (f1.trans fr) I' ?_ ow
      cases e : H a with
      | none => rfl
      | some u =>
        by_cases z : a = q.ad
        · subst z; rw [I1.dr.1] at n; cases n
        · rw [f1 a u e z] at n; cases n
  · rename_i st1 eF
    refine ⟨q, o, ρ, st, _, st1, I, eF, fun H1 f1 I1 => ?_⟩
    refine iteF ?_
    refine ⟨q, o, ρ, st1, rr, st', I1, e, ?_⟩
    cases rr with
    | ex x => exact fun dx H' fr I' er => k dx H' (f1.trans fr) I' er
    | ok d =>
      refine fun a H' fr I' n ow => k a H' (f1.trans fr) I' ?_ ow
      cases e : H a with
      | none => rfl
      | some u =>
        by_cases z : a = q.ad
        · subst z; rw [I1.dr.1] at n; cases n
        · rw [f1 a u e z] at n; cases n
  · rename_i x st1 eF
    cases e
    exact ⟨q, o, ρ, st, _, _, I, eF, k⟩
  · cases e
end

/-! ## 7. From a new object to a value; from a borrowed value to a strict one -/
mutual
def D.free : D → Bool
  | .non | .bl _ | .int _ | .str _ => true
  | .tup ds => D.freeAll ds
  | .lst _ | .dic _ | .dst => false
def D.freeAll : List D → Bool
  | [] => true
  | d :: ds => d.free && D.freeAll ds
end
def eFree (a : E) : E := fun ρ st => match a ρ st with
  | some (.ok d, st1) => if d.free = true then some (.ok d, st1) else none
  | some (.ex e, st1) => some (.ex e, st1)
  | none => none
section
variable {K : PySem.W.Frag} {ad : Addr} {S S' : Addr → Prop} {H : Hp}
mutual
theorem Rp.strict (h : ∀ a xs, Rd H a (.tup xs) → ¬ S a → ¬ S' a) : ∀ (d : D) (v : V), d.free = true → Rp K ad S H d v → Rp K ad S' H d v
  | .non, v, _, r => by unfold Rp at r ⊢; exact r
  | .bl b, v, _, r => by unfold Rp at r ⊢; exact r
  | .int i, v, _, r => by unfold Rp at r ⊢; exact r
  | .str x, v, _, r => by unfold Rp at r ⊢; exact r
  | .tup ds, v, f, r => by
    unfold D.free at f
    rw [rp_tup] at r ⊢
    obtain ⟨a, xs, e, t, q⟩ := r
    refine ⟨a, xs, e, ?_, RpAll.strict h ds xs f q⟩
    rcases t with ⟨t, n⟩ | t
    · exact .inl ⟨t, h a xs t n⟩
    · exact .inr t
  | .lst _, v, f, r => by unfold D.free at f; cases f
  | .dic _, v, f, r => by unfold D.free at f; cases f
  | .dst, v, f, r => by unfold D.free at f; cases f
theorem RpAll.strict (h : ∀ a xs, Rd H a (.tup xs) → ¬ S a → ¬ S' a) : ∀ (ds : List D) (vs : List V), D.freeAll ds = true → RpAll K ad S H ds vs → RpAll K ad S' H ds vs
  | [], vs, _, r => by unfold RpAll at r ⊢; exact r
  | d :: ds, vs, f, r => by
    unfold D.freeAll at f
    rw [Bool.and_eq_true] at f
    obtain ⟨v, w, rfl, r1, r2⟩ := rpAll_inv r
    exact rpAll_cons (Rp.strict h d v f.1 r1) (RpAll.strict h ds w f.2 r2)
end
end
section
variable {X : Cx} {B : Nat → Bool} {W : WX} {pos : Pos} {a b : Expr} {F G : E}
theorem mt_tup {H : Hp} {a : Addr} {xs : List V} {u : HO} (h : Rd H a (.tup xs)) (e : H a = some u) (m : Mt u = true) : False := by
  rcases h with h | ⟨o, h⟩
  · rw [e] at h; cases h; cases m
  · rw [e] at h; cases h; cases m
/-- a borrowed value that holds no list is strict -/
theorem e_free {e : Expr} (h : PE X e (liftE X.K B1 W F)) : PE X e (liftE X.K B W (eFree F)) := by
  refine pe_imp h fun σ H Q hq => ?_
  obtain ⟨q, o, ρ, st, rr, st', I, e, k⟩ := hq
  unfold eFree at e
  split at e
  · rename_i d st1 eF
    split at e
    · rename_i hf
      cases e
      refine ⟨q, o, ρ, st, _, _, I, eF, fun v H1 f1 I1 rp => k v H1 f1 I1 (Rp.strict (fun a xs t n z => ?_) d v hf rp)⟩
      rcases z with z | ⟨i, _, z⟩
      · exact n (.inl z)
      · obtain ⟨u, hu, hm⟩ := (I1.ow i a z).2.2
        exact mt_tup t hu hm
    · cases e
  · rename_i x st1 eF
    cases e
    exact ⟨q, o, ρ, st, _, _, I, eF, k⟩
  · cases e
/-- a new object is a value -/
theorem e_new {e : Expr} (h : PE X e (liftN X.K B W F)) : PE X e (liftE X.K B W F) := by
  refine pe_imp h fun σ H Q hq => ?_
  obtain ⟨q, o, ρ, st, rr, st', I, e, k⟩ := hq
  refine ⟨q, o, ρ, st, rr, st', I, e, ?_⟩
  cases rr with
  | ex x => exact k
  | ok d => exact fun a H' f I' n ow => k _ H' f I' (OwnAt.rp (ow.mv (Mv.less fun b z => .inl z) fun u e => e) (I.fresh n))
end
end FL


set_option Elab.async false
set_option linter.all false
set_option maxRecDepth 100000
set_option maxHeartbeats 4000000
namespace FL
open PySem PySem.Spec L2
open PySem.PyData (strOk)
set_option autoImplicit false
/-! ## 8. Operators on data -/
section
variable {K : PySem.W.Frag}
theorem rp_new_tup {ad : Addr} {S : Addr → Prop} {H : Hp} {ds : List D} {vs : List V} {p : Addr} (tr : ∀ a, S a → ∃ u, H a = some u) (hp : H p = none) (r : RpAll K ad S H ds vs) : Same H (upd H p (.tup vs)) ∧ Rp K ad S (upd H p (.tup vs)) (.tup ds) (.ref p) := by
  have s : Same H (upd H p (.tup vs)) := fun b o e => by rw [upd_ne (ne_of_none e hp)]; exact e
  have n : ¬ S p := fun z => by obtain ⟨u, hu⟩ := tr p z; rw [hp] at hu; cases hu
  exact ⟨s, rp_tup.mpr ⟨p, vs, rfl, .inl ⟨.inl upd_same, n⟩, RpAll.mv (fun a u e na => ⟨s a u e, na⟩) _ _ r⟩⟩
theorem rp_new_lst {ad : Addr} {S : Addr → Prop} {H : Hp} {ds : List D} {vs : List V} {p : Addr} (tr : ∀ a, S a → ∃ u, H a = some u) (hp : H p = none) (r : RpAll K ad S H ds vs) : Same H (upd H p (.lst vs)) ∧ Rp K ad S (upd H p (.lst vs)) (.lst ds) (.ref p) := by
  have s : Same H (upd H p (.lst vs)) := fun b o e => by rw [upd_ne (ne_of_none e hp)]; exact e
  have n : ¬ S p := fun z => by obtain ⟨u, hu⟩ := tr p z; rw [hp] at hu; cases hu
  exact ⟨s, rp_lst.mpr ⟨p, vs, rfl, ⟨upd_same, n⟩, RpAll.mv (fun a u e na => ⟨s a u e, na⟩) _ _ r⟩⟩
/-- two ints -/
def dI (c : Int → Int → Bool) (g : Int → Int → D) : D → D → Option D
  | .int i, .int j => if c i j = true then some (g i j) else none
  | _, _ => none
theorem opD_I {Cn : Int → Int → Prop} {c : Int → Int → Bool} {g : Int → Int → Int} (hc : ∀ i j, c i j = true → Cn i j) : OpD K (rI Cn fun i j => .int (g i j)) (dI c fun i j => .int (g i j)) := by
  intro ad S H d e z x y Q tr rx ry h k
  unfold dI at h
  split at h
  · rename_i i j
    split at h
    · rename_i hh
      cases h
      exact ⟨i, j, rp_int.mp rx, rp_int.mp ry, hc i j hh, k _ H (Same.refl H) (rp_int.mpr rfl)⟩
    · cases h
  · cases h
theorem opD_I0 {g : Int → Int → Int} : OpD K (rI0 fun i j => .int (g i j)) (dI (fun _ _ => true) fun i j => .int (g i j)) := by
  intro ad S H d e z x y Q tr rx ry h k
  unfold dI at h
  split at h
  · rename_i i j
    cases h
    exact ⟨i, j, rp_int.mp rx, rp_int.mp ry, k _ H (Same.refl H) (rp_int.mpr rfl)⟩
  · cases h
theorem opD_B0 {g : Int → Int → Bool} : OpD K (rI0 fun i j => .bl (g i j)) (dI (fun _ _ => true) fun i j => .bl (g i j)) := by
  intro ad S H d e z x y Q tr rx ry h k
  unfold dI at h
  split at h
  · rename_i i j
    cases h
    exact ⟨i, j, rp_int.mp rx, rp_int.mp ry, k _ H (Same.refl H) (rp_bl.mpr rfl)⟩
  · cases h
theorem OpD.orL {r r' : R2} {f : D → D → Option D} (h : OpD K r f) : OpD K (fun x y H Q => r x y H Q ∨ r' x y H Q) f := fun ad S H d e z x y Q tr rx ry hh k => .inl (h ad S H d e z x y Q tr rx ry hh k)
theorem OpD.orR {r r' : R2} {f : D → D → Option D} (h : OpD K r' f) : OpD K (fun x y H Q => r x y H Q ∨ r' x y H Q) f := fun ad S H d e z x y Q tr rx ry hh k => .inr (h ad S H d e z x y Q tr rx ry hh k)
/-- first f, then g where f has nothing -/
def dOr (f g : D → D → Option D) : D → D → Option D := fun x y => match f x y with
  | some z => some z
  | none => g x y
theorem OpD.or {r r' : R2} {f g : D → D → Option D} (h : OpD K r f) (h' : OpD K r' g) : OpD K (fun x y H Q => r x y H Q ∨ r' x y H Q) (dOr f g) := by
  intro ad S H d e z x y Q tr rx ry hh k
  unfold dOr at hh
  cases ef : f d e with
  | some w => rw [ef] at hh; cases hh; exact .inl (h ad S H d e z x y Q tr rx ry ef k)
  | none => rw [ef] at hh; exact .inr (h' ad S H d e z x y Q tr rx ry hh k)
/-! + -/
def dAddS : D → D → Option D
  | .str x, .str y => if x.length + y.length ≤ sizeLine then some (.str (x ++ y)) else none
  | _, _ => none
theorem strOk_app {x y : Str} (h1 : strOk x = true) (h2 : strOk y = true) : strOk (x ++ y) = true := by
  show (x.cps ++ y.cps).all _ = true
  rw [Array.all_append]
  exact Bool.and_eq_true_iff.mpr ⟨h1, h2⟩
theorem opD_addS : OpD K (fun x y H Q => ∃ i j, x = .str i ∧ y = .str j ∧ i.length + j.length ≤ sizeLine ∧ Q (.str (i ++ j)) H) dAddS := by
  intro ad S H d e z x y Q tr rx ry h k
  unfold dAddS at h
  split at h
  · rename_i i j
    split at h
    · rename_i hh
      cases h
      rw [rp_str] at rx ry
      exact ⟨i, j, rx.1, ry.1, hh, k _ H (Same.refl H) (rp_str.mpr ⟨rfl, strOk_app rx.2 ry.2⟩)⟩
    · cases h
  · cases h
def dAddT : D → D → Option D
  | .tup x, .tup y => if x.length + y.length ≤ sizeLine then some (.tup (x ++ y)) else none
  | _, _ => none
theorem opD_addT : OpD K (rCatA K) dAddT := by
  intro ad S H d e z x y Q tr rx ry h k
  unfold dAddT at h
  split at h
  · rename_i i j
    split at h
    · rename_i hh
      cases h
      have rx' := rx
      have ry' := ry
      rw [rp_tup] at rx ry
      obtain ⟨a, xs, rfl, ta, ra⟩ := rx
      obtain ⟨b, ys, rfl, tb, rb⟩ := ry
      refine ⟨a, b, xs, ys, rfl, rfl, ta.sq, tb.sq, by rw [rpAll_length ra, rpAll_length rb]; exact hh, fun e => ?_, fun _ e => ?_, fun _ _ p hp => ?_⟩
      · have e2 : i = [] := by
          have := rpAll_length ra
          rw [e] at this
          exact List.length_eq_zero_iff.mp this.symm
        rw [e2, List.nil_append] at k
        exact k _ H (Same.refl H) ry'
      · have e2 : j = [] := by
          have := rpAll_length rb
          rw [e] at this
          exact List.length_eq_zero_iff.mp this.symm
        rw [e2, List.append_nil] at k
        exact k _ H (Same.refl H) rx'
      · obtain ⟨s, rp⟩ := rp_new_tup tr hp (rpAll_append ra rb)
        exact k _ _ s rp
    · cases h
  · cases h
def dAddL : D → D → Option D
  | .lst x, .lst y => if x.length + y.length ≤ sizeLine then some (.lst (x ++ y)) else none
  | _, _ => none
theorem opD_addL : OpD K rCat dAddL := by
  intro ad S H d e z x y Q tr rx ry h k
  unfold dAddL at h
  split at h
  · rename_i i j
    split at h
    · rename_i hh
      cases h
      rw [rp_lst] at rx ry
      obtain ⟨a, xs, rfl, ta, ra⟩ := rx
      obtain ⟨b, ys, rfl, tb, rb⟩ := ry
      refine ⟨a, b, xs, ys, rfl, rfl, ta.1, tb.1, by rw [rpAll_length ra, rpAll_length rb]; exact hh, fun p hp => ?_⟩
      obtain ⟨s, rp⟩ := rp_new_lst tr hp (rpAll_append ra rb)
      exact k _ _ s rp
    · cases h
  · cases h
def dAddI : D → D → Option D := dI (fun _ _ => true) fun i j => .int (i + j)
def dAddIB : D → D → Option D
  | .int i, .bl b => some (.int (i + PyProof.Rows.b2i b))
  | _, _ => none
theorem opD_addIB : OpD K (fun x y H Q => ∃ i k, x = .int i ∧ y = .bl k ∧ Q (.int (i + PyProof.Rows.b2i k)) H) dAddIB := by
  intro ad S H d e z x y Q tr rx ry h k
  unfold dAddIB at h
  split at h
  · rename_i i j
    cases h
    exact ⟨i, j, rp_int.mp rx, rp_bl.mp ry, k _ H (Same.refl H) (rp_int.mpr rfl)⟩
  · cases h
def dAdd : D → D → Option D := dOr dAddI (dOr dAddS (dOr dAddT (dOr dAddL dAddIB)))
theorem opD_add : OpD K (fun x y H Q => (rI0 fun i j => .int (i + j)) x y H Q ∨ ((∃ i j, x = .str i ∧ y = .str j ∧ i.length + j.length ≤ sizeLine ∧ Q (.str (i ++ j)) H) ∨ (rCatA K x y H Q ∨ (rCat x y H Q ∨ ∃ i k, x = .int i ∧ y = .bl k ∧ Q (.int (i + PyProof.Rows.b2i k)) H)))) dAdd :=
  OpD.or opD_I0 (OpD.or opD_addS (OpD.or opD_addT (OpD.or opD_addL opD_addIB)))
theorem opR_add {X : Cx} : OpR X (binaryOp .Add) (fun x y H Q => (rI0 fun i j => .int (i + j)) x y H Q ∨ ((∃ i j, x = .str i ∧ y = .str j ∧ i.length + j.length ≤ sizeLine ∧ Q (.str (i ++ j)) H) ∨ (rCatA X.K x y H Q ∨ (rCat x y H Q ∨ ∃ i k, x = .int i ∧ y = .bl k ∧ Q (.int (i + PyProof.Rows.b2i k)) H)))) :=
  op_add.or (op_add_str.or (op_catA.or (op_cat.or op_add_ib)))
def dSub : D → D → Option D := dI (fun _ _ => true) fun i j => .int (i - j)
def cMul (i j : Int) : Bool := (decide (-(2 ^ 64) < i) && decide (i < 2 ^ 64)) || (decide (-(2 ^ 64) < j) && decide (j < 2 ^ 64))
def dMul : D → D → Option D := dI cMul fun i j => .int (i * j)
theorem cMul_ok (i j : Int) (h : cMul i j = true) : CMul i j := by
  unfold cMul at h
  simp only [Bool.or_eq_true, Bool.and_eq_true, decide_eq_true_eq] at h
  exact h
def cDiv (i j : Int) : Bool := decide (j ≠ 0) && decide (j.natAbs < 1073741824)
theorem cDiv_ok (i j : Int) (h : cDiv i j = true) : CDivN i j := by
  unfold cDiv at h
  simp only [Bool.and_eq_true, decide_eq_true_eq] at h
  exact h
def dDiv : D → D → Option D := dI cDiv fun i j => .int (i.fdiv j)
def dMod : D → D → Option D := dI (fun _ j => decide (j ≠ 0)) fun i j => .int (i.fmod j)
def cPow (i j : Int) : Bool := decide (0 ≤ j) && (decide (j ≤ 1000000) && decide (i.natAbs < 2 ^ 64))
theorem cPow_ok (i j : Int) (h : cPow i j = true) : CPow i j := by
  unfold cPow at h
  simp only [Bool.and_eq_true, decide_eq_true_eq] at h
  exact h
def dPow : D → D → Option D := dI cPow fun i j => .int (i ^ j.toNat)
def dShl : D → D → Option D := dI cPow fun i j => .int (i * 2 ^ j.toNat)
def dLt : D → D → Option D := dI (fun _ _ => true) fun i j => .bl (decide (i < j))
def dLe : D → D → Option D := dI (fun _ _ => true) fun i j => .bl (decide (i ≤ j))
def dGt : D → D → Option D := dI (fun _ _ => true) fun i j => .bl (decide (j < i))
def dGe : D → D → Option D := dI (fun _ _ => true) fun i j => .bl (decide (j ≤ i))
/-! ==, is None -/
mutual
def D.py : D → PyData
  | .non => .none
  | .bl b => .bool b
  | .int i => .int i
  | .str x => .str x
  | .tup ds => .tuple (D.pyAll ds)
  | .lst ds => .list (D.pyAll ds)
  | .dic _ | .dst => .dict []
def D.pyAll : List D → List PyData
  | [] => []
  | d :: ds => d.py :: D.pyAll ds
end
mutual
def D.dat : D → Bool
  | .non | .bl _ | .int _ | .str _ => true
  | .tup ds => D.datAll ds
  | .lst ds => D.datAll ds
  | .dic _ | .dst => false
def D.datAll : List D → Bool
  | [] => true
  | d :: ds => d.dat && D.datAll ds
end
section
variable {ad : Addr} {S : Addr → Prop} {H : Hp}
mutual
theorem Rp.dp : ∀ (d : D) (v : V), d.dat = true → Rp K ad S H d v → Dp K H v d.py ∧ d.py.canLay0 = true
  | .non, v, _, r => by unfold D.py; rw [rp_non.mp r]; exact ⟨.non, rfl⟩
  | .bl b, v, _, r => by unfold D.py; rw [rp_bl.mp r]; exact ⟨.bl b, rfl⟩
  | .int i, v, _, r => by unfold D.py; rw [rp_int.mp r]; exact ⟨.int i, rfl⟩
  | .str x, v, _, r => by
    rw [rp_str] at r
    unfold D.py
    rw [r.1]
    exact ⟨.str x, by unfold PyData.canLay0; exact r.2⟩
  | .tup ds, v, f, r => by
    unfold D.dat at f
    rw [rp_tup] at r
    obtain ⟨a, xs, rfl, t, q⟩ := r
    obtain ⟨h1, h2⟩ := RpAll.dp ds xs f q
    unfold D.py
    exact ⟨.tup t.sq h1, by unfold PyData.canLay0; exact h2⟩
  | .lst ds, v, f, r => by
    unfold D.dat at f
    rw [rp_lst] at r
    obtain ⟨a, xs, rfl, t, q⟩ := r
    obtain ⟨h1, h2⟩ := RpAll.dp ds xs f q
    unfold D.py
    exact ⟨.lst t.sq h1, by unfold PyData.canLay0; exact h2⟩
  | .dic _, v, f, r => by unfold D.dat at f; cases f
  | .dst, v, f, r => by unfold D.dat at f; cases f
theorem RpAll.dp : ∀ (ds : List D) (vs : List V), D.datAll ds = true → RpAll K ad S H ds vs → DpAll K H vs (D.pyAll ds) ∧ PyData.canLayAll0 (D.pyAll ds) = true
  | [], vs, _, r => by rw [rpAll_nil_inv r]; unfold D.pyAll; exact ⟨.nil, rfl⟩
  | d :: ds, vs, f, r => by
    unfold D.datAll at f
    rw [Bool.and_eq_true] at f
    obtain ⟨v, w, rfl, r1, r2⟩ := rpAll_inv r
    obtain ⟨a1, a2⟩ := Rp.dp d v f.1 r1
    obtain ⟨b1, b2⟩ := RpAll.dp ds w f.2 r2
    unfold D.pyAll
    exact ⟨.cons a1 b1, by unfold PyData.canLayAll0; rw [a2, b2]; rfl⟩
end
end
def D.eqOk (d : D) : Bool := d.dat && decide (d.py.depth ≤ 64)
def D.eqv (x y : D) : Bool := PyData.eqv x.py y.py
def dEq : D → D → Option D := fun x y => if (x.eqOk && y.eqOk) = true then some (.bl (D.eqv x y)) else none
def dNe : D → D → Option D := fun x y => if (x.eqOk && y.eqOk) = true then some (.bl (!D.eqv x y)) else none
theorem eqOk_shaped {ad : Addr} {S : Addr → Prop} {H : Hp} {d : D} {v : V} (h : d.eqOk = true) (r : Rp K ad S H d v) : Dp K H v d.py ∧ SeqAt.shaped d.py = true := by
  unfold D.eqOk at h
  rw [Bool.and_eq_true] at h
  obtain ⟨a, b⟩ := Rp.dp d v h.1 r
  exact ⟨a, by unfold SeqAt.shaped; rw [b]; exact h.2⟩
theorem opD_eq : OpD K (rEqD K) dEq := by
  intro ad S H d e z x y Q tr rx ry h k
  unfold dEq at h
  split at h
  · rename_i hh
    rw [Bool.and_eq_true] at hh
    cases h
    obtain ⟨a1, a2⟩ := eqOk_shaped hh.1 rx
    obtain ⟨b1, b2⟩ := eqOk_shaped hh.2 ry
    exact ⟨d.py, e.py, a1, b1, a2, b2, k _ H (Same.refl H) (rp_bl.mpr rfl)⟩
  · cases h
theorem opD_ne : OpD K (rNeD K) dNe := by
  intro ad S H d e z x y Q tr rx ry h k
  unfold dNe at h
  split at h
  · rename_i hh
    rw [Bool.and_eq_true] at hh
    cases h
    obtain ⟨a1, a2⟩ := eqOk_shaped hh.1 rx
    obtain ⟨b1, b2⟩ := eqOk_shaped hh.2 ry
    exact ⟨d.py, e.py, a1, b1, a2, b2, k _ H (Same.refl H) (rp_bl.mpr rfl)⟩
  · cases h
def D.isNon : D → Bool
  | .non => true
  | _ => false
theorem rp_isNon {ad : Addr} {S : Addr → Prop} {H : Hp} {d : D} {v : V} (r : Rp K ad S H d v) : decide (v = .non) = d.isNon := by
  cases d with
  | non => rw [rp_non.mp r]; rfl
  | bl b => rw [rp_bl.mp r]; rfl
  | int i => rw [rp_int.mp r]; rfl
  | str x => rw [(rp_str.mp r).1]; rfl
  | tup ds => obtain ⟨a, _, e, _⟩ := rp_tup.mp r; rw [e]; rfl
  | lst ds => obtain ⟨a, _, e, _⟩ := rp_lst.mp r; rw [e]; rfl
  | dic ds => obtain ⟨a, _, e, _⟩ := rp_dic.mp r; rw [e]; rfl
  | dst => unfold Rp at r; rw [r]; rfl
def dIsN : D → D → Option D
  | x, .non => some (.bl x.isNon)
  | _, _ => none
def dNotN : D → D → Option D
  | x, .non => some (.bl (!x.isNon))
  | _, _ => none
theorem opD_isN : OpD K (fun x y H Q => y = .non ∧ Q (.bl (decide (x = .non))) H) dIsN := by
  intro ad S H d e z x y Q tr rx ry h k
  unfold dIsN at h
  split at h
  · cases h
    rw [rp_isNon rx]
    exact ⟨rp_non.mp ry, k _ H (Same.refl H) (rp_bl.mpr rfl)⟩
  · cases h
theorem opD_notN : OpD K (fun x y H Q => y = .non ∧ Q (.bl (!decide (x = .non))) H) dNotN := by
  intro ad S H d e z x y Q tr rx ry h k
  unfold dNotN at h
  split at h
  · cases h
    rw [rp_isNon rx]
    exact ⟨rp_non.mp ry, k _ H (Same.refl H) (rp_bl.mpr rfl)⟩
  · cases h
/-! a[i] -/
def dIxL : D → D → Option D
  | .lst ds, .int i => atI ds i
  | _, _ => none
def dIxT : D → D → Option D
  | .tup ds, .int i => atI ds i
  | _, _ => none
def dIxS : D → D → Option D
  | .str x, .int i => if x.length ≤ sizeLine then (match atI x.cps.toList i with
    | some c => some (.str ⟨#[c]⟩)
    | none => none) else none
  | _, _ => none
theorem atI_rp {ad : Addr} {S : Addr → Prop} {H : Hp} {ds : List D} {vs : List V} {i : Int} {z : D} (r : RpAll K ad S H ds vs) (h : atI ds i = some z) : ∃ v, atI vs i = some v ∧ Rp K ad S H z v := by
  unfold atI at h ⊢
  rw [rpAll_length r]
  cases e : ixN ds.length i with
  | none => rw [e] at h; cases h
  | some j =>
    rw [e] at h
    exact rpAll_get r h
theorem opD_ixL : OpD K (rIxL K) dIxL := by
  intro ad S H d e z x y Q tr rx ry h k
  unfold dIxL at h
  split at h
  · rename_i ds i
    obtain ⟨a, xs, rfl, t, r⟩ := rp_lst.mp rx
    obtain ⟨v, hv, rv⟩ := atI_rp r h
    exact ⟨a, xs, i, v, rfl, rp_int.mp ry, t.sq, hv, k v H (Same.refl H) rv⟩
  · cases h
theorem opD_ixT : OpD K (rIxT K) dIxT := by
  intro ad S H d e z x y Q tr rx ry h k
  unfold dIxT at h
  split at h
  · rename_i ds i
    obtain ⟨a, xs, rfl, t, r⟩ := rp_tup.mp rx
    obtain ⟨v, hv, rv⟩ := atI_rp r h
    exact ⟨a, xs, i, v, rfl, rp_int.mp ry, t.sq, hv, k v H (Same.refl H) rv⟩
  · cases h
theorem strOk_at {x : Str} {i : Int} {c : Nat} (h : strOk x = true) (e : atI x.cps.toList i = some c) : strOk ⟨#[c]⟩ = true := by
  unfold strOk at h ⊢
  have hm : c ∈ x.cps.toList := by
    unfold atI at e
    cases q : ixN x.cps.toList.length i with
    | none => rw [q] at e; cases e
    | some j => rw [q] at e; exact List.mem_of_getElem? e
  rw [Array.all_eq_true'] at h
  have := h c (by simpa using hm)
  simpa using this
theorem opD_ixS : OpD K rIxS dIxS := by
  intro ad S H d e z x y Q tr rx ry h k
  unfold dIxS at h
  split at h
  · rename_i s i
    split at h
    · rename_i hl
      split at h
      · rename_i c hc
        cases h
        rw [rp_str] at rx
        exact ⟨s, i, c, rx.1, rp_int.mp ry, hl, hc, k _ H (Same.refl H) (rp_str.mpr ⟨rfl, strOk_at rx.2 hc⟩)⟩
      · cases h
    · cases h
  · cases h
def dIx : D → D → Option D := dOr dIxL (dOr dIxT dIxS)
theorem opD_ix : OpD K (rIx K) dIx := OpD.or opD_ixL (OpD.or opD_ixT opD_ixS)
end

/-! ## 9. Arguments, calls of built-ins -/
def eNil : Es := fun _ st => some (.ok [], st)
def eCons (a : E) (r : Es) : Es := fun ρ st => match a ρ st with
  | some (.ok d, st1) => (match r ρ st1 with
    | some (.ok ds, st2) => some (.ok (d :: ds), st2)
    | some (.ex e, st2) => some (.ex e, st2)
    | none => none)
  | some (.ex e, st1) => some (.ex e, st1)
  | none => none
def eFn (f : List D → Option D) (a : Es) : E := fun ρ st => match a ρ st with
  | some (.ok ds, st1) => (match f ds with
    | some z => some (.ok z, st1)
    | none => none)
  | some (.ex e, st1) => some (.ex e, st1)
  | none => none
def CallD (K : PySem.W.Frag) (r : List V → Hp → VK → Prop) (f : List D → Option D) : Prop := ∀ (ad : Addr) (S : Addr → Prop) (H : Hp) (ds : List D) (z : D) (xs : List V) (Q : VK), (∀ a, S a → ∃ u, H a = some u) → RpAll K ad S H ds xs → f ds = some z →
  (∀ v H', Same H H' → Rp K ad S H' z v → Q v H') → r xs H Q
section
variable {X : Cx} {B : Nat → Bool} {W : WX} {pos : Pos} {e : Expr} {es : List Expr} {F : E} {Fs : Es} {x : Str} {p : Pos} {id T : String} {r : List V → Hp → VK → Prop} {f : List D → Option D}
theorem a_nil : PA X [] (liftA X.K B W eNil) := by
  refine pa_imp pa_nil fun σ H Q h => ?_
  obtain ⟨q, o, ρ, st, rr, st', I, e, k⟩ := h
  cases e
  exact k [] H Fr.refl I rpAll_nil
theorem a_cons (ha : PE X e (liftE X.K B W F)) (hr : PA X es (liftA X.K B W Fs)) (hs : starEach (e :: es) X.env = (false, eval e X.env) :: starEach es X.env := by rfl) : PA X (e :: es) (liftA X.K B W (eCons F Fs)) := by
  refine pa_imp (pa_cons ha hr hs) fun σ H Q h => ?_
  obtain ⟨q, o, ρ, st, rr, st', I, e, k⟩ := h
  unfold eCons at e
  split at e
  · rename_i d st1 eF
    refine ⟨q, o, ρ, st, _, st1, I, eF, fun v H1 f1 I1 rp1 => ?_⟩
    split at e
    · rename_i ds st2 eG
      cases e
      refine ⟨q, o, ρ, _, _, _, I1, eG, fun vs H2 f2 I2 rp2 => ?_⟩
      exact k _ H2 (f1.trans f2) I2 (rpAll_cons (Rp.mv (mvB f2 I.sad) _ _ rp1) rp2)
    · rename_i x st2 eG
      cases e
      exact ⟨q, o, ρ, _, _, _, I1, eG, fun dx H' fr I' er => k dx H' (f1.trans fr) I' er⟩
    · cases e
  · rename_i x st1 eF
    cases e
    exact ⟨q, o, ρ, st, _, _, I, eF, k⟩
  · cases e
theorem liftFn (hd : CallD X.K r f) {σ : L2.St} {H : Hp} {Q : VK} (h : liftE X.K B W (eFn f Fs) σ H Q) : tCB r (liftA X.K B W Fs) σ H Q := by
  obtain ⟨q, o, ρ, st, rr, st', I, e, k⟩ := h
  unfold eFn at e
  split at e
  · rename_i ds st1 eF
    refine ⟨q, o, ρ, st, _, st1, I, eF, fun vs H1 f1 I1 rp1 => ?_⟩
    split at e
    · rename_i z ez
      cases e
      refine hd q.ad (Sb q B o) H1 ds z vs Q (fun a h => I1.trB h) rp1 ez fun u H3 s3 r3 => ?_
      exact k u H3 (f1.trans (Fr.of_same s3)) (I1.same s3) r3
    · cases e
  · rename_i x st1 eF
    cases e
    exact ⟨q, o, ρ, st, _, _, I, eF, k⟩
  · cases e
theorem e_callB (hd : CallD X.K r f) (hc : CallR X (.builtin id) r) (hg : Gl X x) (hm : X.mg x = none) (hv : bootBuiltins x = some (.builtin id)) (ha : PA X (e :: es) (liftA X.K B W Fs)) (hn : x ≠ "__name__" := by decide) (hdb : (x == ("__debug__" : Str)) = false := by decide)
    (he : starEach (e :: es) X.env = (false, eval e X.env) :: starEach es X.env := by rfl) (hpl : (backTo pos (starEach es X.env)).any (·.1) = false := by rfl) : PE X (.Call (.Name x p) (e :: es) [] pos) (liftE X.K B W (eFn f Fs)) :=
  pe_imp (pe_callB hc hg hm hv ha hn hdb he hpl) fun _ _ _ h => liftFn hd h
theorem e_callTy (hd : CallD X.K r f) (hc : CallR X (.type T) r) (hg : Gl X x) (hm : X.mg x = none) (hv : bootBuiltins x = some (.type T)) (ha : PA X (e :: es) (liftA X.K B W Fs)) (hn : x ≠ "__name__" := by decide) (hdb : (x == ("__debug__" : Str)) = false := by decide)
    (he : starEach (e :: es) X.env = (false, eval e X.env) :: starEach es X.env := by rfl) (hpl : (backTo pos (starEach es X.env)).any (·.1) = false := by rfl) : PE X (.Call (.Name x p) (e :: es) [] pos) (liftE X.K B W (eFn f Fs)) :=
  pe_imp (pe_callTy hc hg hm hv ha hn hdb he hpl) fun _ _ _ h => liftFn hd h
end
end FL


set_option Elab.async false
set_option linter.all false
set_option maxRecDepth 100000
set_option maxHeartbeats 4000000
namespace FL
open PySem PySem.Spec L2
open PySem.PyData (strOk)
set_option autoImplicit false
/-! ## 10. New objects -/
theorem fresh_back {K : PySem.W.Frag} {q : Cq} {o : Ow} {σ : L2.St} {H H1 : Hp} {ρ : Env} {st : DS} {a : Addr} (I1 : EnvR K q o σ H1 ρ st) (f : Fr q.ad H H1) (n : H1 a = none) : H a = none := by
  cases e : H a with
  | none => rfl
  | some u =>
    by_cases z : a = q.ad
    · subst z; rw [I1.dr.1] at n; cases n
    · rw [f a u e z] at n; cases n
theorem same_new {H : Hp} {p : Addr} {u : HO} (hp : H p = none) : Same H (upd H p u) := fun b o e => by rw [upd_ne (ne_of_none e hp)]; exact e
theorem mv_new {S : Addr → Prop} {H : Hp} {p : Addr} {u : HO} (hp : H p = none) : Mv S H (Sa S p) (upd H p u) := fun b o e n => ⟨same_new hp b o e, fun z => z.elim n fun z => by subst z; rw [hp] at e; cases e⟩
theorem mv_same {S : Addr → Prop} {H H' : Hp} (s : Same H H') : Mv S H S H' := fun a u e na => ⟨s a u e, na⟩
def CallN (K : PySem.W.Frag) (r : List V → Hp → VK → Prop) (f : List D → Option D) : Prop := ∀ (ad : Addr) (S : Addr → Prop) (H : Hp) (ds : List D) (z : D) (xs : List V) (Q : VK), (∀ a, S a → ∃ u, H a = some u) → RpAll K ad S H ds xs → f ds = some z →
  (∀ a H', H a = none → Same H H' → OwnAt K ad (Sa S a) H' a z → Q (.ref a) H') → r xs H Q
section
variable {X : Cx} {B : Nat → Bool} {W : WX} {pos : Pos} {e : Expr} {es : List Expr} {F : E} {Fs : Es} {x : Str} {p : Pos} {id T : String} {r : List V → Hp → VK → Prop} {f : List D → Option D}
theorem liftFnN (hd : CallN X.K r f) {σ : L2.St} {H : Hp} {Q : VK} (h : liftN X.K B W (eFn f Fs) σ H Q) : tCB r (liftA X.K B W Fs) σ H Q := by
  obtain ⟨q, o, ρ, st, rr, st', I, e, k⟩ := h
  unfold eFn at e
  split at e
  · rename_i ds st1 eF
    refine ⟨q, o, ρ, st, _, st1, I, eF, fun vs H1 f1 I1 rp1 => ?_⟩
    split at e
    · rename_i z ez
      cases e
      refine hd q.ad (Sb q B o) H1 ds z vs Q (fun a h => I1.trB h) rp1 ez fun a H3 n s3 r3 => ?_
      exact k a H3 (f1.trans (Fr.of_same s3)) (I1.same s3) (fresh_back I1 f1 n) r3
    · cases e
  · rename_i x st1 eF
    cases e
    exact ⟨q, o, ρ, st, _, _, I, eF, k⟩
  · cases e
theorem n_callB (hd : CallN X.K r f) (hc : CallR X (.builtin id) r) (hg : Gl X x) (hm : X.mg x = none) (hv : bootBuiltins x = some (.builtin id)) (ha : PA X (e :: es) (liftA X.K B W Fs)) (hn : x ≠ "__name__" := by decide) (hdb : (x == ("__debug__" : Str)) = false := by decide)
    (he : starEach (e :: es) X.env = (false, eval e X.env) :: starEach es X.env := by rfl) (hpl : (backTo pos (starEach es X.env)).any (·.1) = false := by rfl) : PE X (.Call (.Name x p) (e :: es) [] pos) (liftN X.K B W (eFn f Fs)) :=
  pe_imp (pe_callB hc hg hm hv ha hn hdb he hpl) fun _ _ _ h => liftFnN hd h
theorem n_callTy (hd : CallN X.K r f) (hc : CallR X (.type T) r) (hg : Gl X x) (hm : X.mg x = none) (hv : bootBuiltins x = some (.type T)) (ha : PA X (e :: es) (liftA X.K B W Fs)) (hn : x ≠ "__name__" := by decide) (hdb : (x == ("__debug__" : Str)) = false := by decide)
    (he : starEach (e :: es) X.env = (false, eval e X.env) :: starEach es X.env := by rfl) (hpl : (backTo pos (starEach es X.env)).any (·.1) = false := by rfl) : PE X (.Call (.Name x p) (e :: es) [] pos) (liftN X.K B W (eFn f Fs)) :=
  pe_imp (pe_callTy hc hg hm hv ha hn hdb he hpl) fun _ _ _ h => liftFnN hd h
/-! displays -/
def dTup (ds : List D) : Option D := if ds.length ≤ sizeLine then some (.tup ds) else none
def dLst (ds : List D) : Option D := if ds.length ≤ sizeLine then some (.lst ds) else none
theorem e_tup {k : Nat} (ha : PA X es (liftA X.K B W Fs)) : PE X (.Tuple es k pos) (liftE X.K B W (eFn dTup Fs)) := by
  refine pe_imp (pe_tup ha) fun σ H Q h => ?_
  refine liftFn (r := fun xs H1 Q => xs.length ≤ sizeLine ∧ ∀ p, H1 p = none → Q (.ref p) (upd H1 p (.tup xs))) (fun ad S H ds z xs Q tr rp ez kk => ?_) h
  unfold dTup at ez
  split at ez
  · rename_i hl
    cases ez
    refine ⟨by rw [rpAll_length rp]; exact hl, fun p hp => ?_⟩
    obtain ⟨s, rp⟩ := rp_new_tup tr hp rp
    exact kk _ _ s rp
  · cases ez
theorem n_lst (ha : PA X es (liftA X.K B W Fs)) : PE X (.List es pos) (liftN X.K B W (eFn dLst Fs)) := by
  refine pe_imp (pe_lst ha) fun σ H Q h => ?_
  refine liftFnN (r := fun xs H1 Q => xs.length ≤ sizeLine ∧ ∀ p, H1 p = none → Q (.ref p) (upd H1 p (.lst xs))) (fun ad S H ds z xs Q tr rp ez kk => ?_) h
  unfold dLst at ez
  split at ez
  · rename_i hl
    cases ez
    exact ⟨by rw [rpAll_length rp]; exact hl, fun p hp => kk p _ hp (same_new hp) ⟨xs, upd_same, RpAll.mv (mv_new hp) _ _ rp⟩⟩
  · cases ez
theorem n_dic0 : PE X (.Dict [] [] pos) (liftN X.K B W (eC (.dic []))) := by
  refine pe_imp pe_dnewK fun σ H Q h => ?_
  obtain ⟨q, o, ρ, st, rr, st', I, e, k⟩ := h
  cases e
  intro p hp
  exact k p _ (Fr.of_same (same_new hp)) (I.same (same_new hp)) hp ⟨[], upd_same, by unfold RpKV; rfl⟩
/-! ## 11. Built-ins -/
def dInt : List D → Option D
  | [.int i] => some (.int i)
  | [.bl k] => some (.int (if k then 1 else 0))
  | _ => none
theorem cd_int {K : PySem.W.Frag} : CallD K (fun xs H Q => (∃ i, xs = [.int i] ∧ Q (.int i) H) ∨ ∃ k, xs = [.bl k] ∧ Q (.int (if k then 1 else 0)) H) dInt := by
  intro ad S H ds z xs Q tr rp ez k
  unfold dInt at ez
  split at ez
  · cases ez
    obtain ⟨v, w, rfl, r1, r2⟩ := rpAll_inv rp
    rw [rpAll_nil_inv r2, rp_int.mp r1]
    exact .inl ⟨_, rfl, k _ H (Same.refl H) (rp_int.mpr rfl)⟩
  · cases ez
    obtain ⟨v, w, rfl, r1, r2⟩ := rpAll_inv rp
    rw [rpAll_nil_inv r2, rp_bl.mp r1]
    exact .inr ⟨_, rfl, k _ H (Same.refl H) (rp_int.mpr rfl)⟩
  · cases ez
def dAbs : List D → Option D
  | [.int i] => some (.int (if i < 0 then -i else i))
  | _ => none
theorem cd_abs {K : PySem.W.Frag} : CallD K (fun xs H Q => ∃ i, xs = [.int i] ∧ Q (.int (if i < 0 then -i else i)) H) dAbs := by
  intro ad S H ds z xs Q tr rp ez k
  unfold dAbs at ez
  split at ez
  · cases ez
    obtain ⟨v, w, rfl, r1, r2⟩ := rpAll_inv rp
    rw [rpAll_nil_inv r2, rp_int.mp r1]
    exact ⟨_, rfl, k _ H (Same.refl H) (rp_int.mpr rfl)⟩
  · cases ez
def dMax2 : List D → Option D
  | [.int i, .int j] => some (.int (if j > i then j else i))
  | _ => none
def dMin2 : List D → Option D
  | [.int i, .int j] => some (.int (if j < i then j else i))
  | _ => none
theorem cd_max2 {K : PySem.W.Frag} : CallD K (fun xs H Q => ∃ i j, xs = [.int i, .int j] ∧ Q (.int (if j > i then j else i)) H) dMax2 := by
  intro ad S H ds z xs Q tr rp ez k
  unfold dMax2 at ez
  split at ez
  · cases ez
    obtain ⟨v, w, rfl, r1, r2⟩ := rpAll_inv rp
    obtain ⟨v', w', rfl, r3, r4⟩ := rpAll_inv r2
    rw [rpAll_nil_inv r4, rp_int.mp r1, rp_int.mp r3]
    exact ⟨_, _, rfl, k _ H (Same.refl H) (rp_int.mpr rfl)⟩
  · cases ez
theorem cd_min2 {K : PySem.W.Frag} : CallD K (fun xs H Q => ∃ i j, xs = [.int i, .int j] ∧ Q (.int (if j < i then j else i)) H) dMin2 := by
  intro ad S H ds z xs Q tr rp ez k
  unfold dMin2 at ez
  split at ez
  · cases ez
    obtain ⟨v, w, rfl, r1, r2⟩ := rpAll_inv rp
    obtain ⟨v', w', rfl, r3, r4⟩ := rpAll_inv r2
    rw [rpAll_nil_inv r4, rp_int.mp r1, rp_int.mp r3]
    exact ⟨_, _, rfl, k _ H (Same.refl H) (rp_int.mpr rfl)⟩
  · cases ez
/-- len -/
def dLen : List D → Option D
  | [.lst ds] => some (.int ds.length)
  | [.tup ds] => some (.int ds.length)
  | [.str x] => if x.length ≤ sizeLine then some (.int x.length) else none
  | [.dic ds] => some (.int ds.length)
  | _ => none
theorem rpKV_length {K : PySem.W.Frag} {ad : Addr} {S : Addr → Prop} {H : Hp} : ∀ {ds : List (Key × D)} {vs : List (Key × V)}, RpKV K ad S H ds vs → vs.length = ds.length
  | [], vs, h => by unfold RpKV at h; rw [h]; rfl
  | (k, d) :: ds, vs, h => by
    unfold RpKV at h
    obtain ⟨v, r, rfl, _, q⟩ := h
    simp [rpKV_length q]
def rLen (K : PySem.W.Frag) : List V → Hp → VK → Prop := fun xs H Q => (∃ p ys, xs = [.ref p] ∧ (SqL K H p ys ∨ SqT K H p ys) ∧ Q (.int ys.length) H) ∨ (∃ z, xs = [.str z] ∧ z.length ≤ sizeLine ∧ Q (.int z.length) H) ∨
  ∃ d kvs, xs = [.ref d] ∧ H d = some (.dK kvs) ∧ Q (.int kvs.length) H
theorem cr_len : CallR X (.builtin "len") (rLen X.K) := by
  intro pins s σ H xs us Q I r h
  rcases h with h | h | h
  · exact call_len_seq pins s σ H xs us Q I r h
  · exact call_len_str pins s σ H xs us Q I r h
  · obtain ⟨d, kvs, rfl, hd, q⟩ := h
    exact call_lenD pins s σ H _ us Q I r ⟨d, kvs, rfl, hd, q⟩
theorem cd_len {K : PySem.W.Frag} : CallD K (rLen K) dLen := by
  intro ad S H ds z xs Q tr rp ez k
  unfold dLen at ez
  split at ez
  · cases ez
    obtain ⟨v, w, rfl, r1, r2⟩ := rpAll_inv rp
    obtain ⟨a, ys, rfl, t, ra⟩ := rp_lst.mp r1
    rw [rpAll_nil_inv r2]
    refine .inl ⟨a, ys, rfl, .inl t.sq, ?_⟩
    rw [rpAll_length ra]
    exact k _ H (Same.refl H) (rp_int.mpr rfl)
  · cases ez
    obtain ⟨v, w, rfl, r1, r2⟩ := rpAll_inv rp
    obtain ⟨a, ys, rfl, t, ra⟩ := rp_tup.mp r1
    rw [rpAll_nil_inv r2]
    refine .inl ⟨a, ys, rfl, .inr t.sq, ?_⟩
    rw [rpAll_length ra]
    exact k _ H (Same.refl H) (rp_int.mpr rfl)
  · split at ez
    · rename_i hl
      cases ez
      obtain ⟨v, w, rfl, r1, r2⟩ := rpAll_inv rp
      rw [rpAll_nil_inv r2, (rp_str.mp r1).1]
      exact .inr (.inl ⟨_, rfl, hl, k _ H (Same.refl H) (rp_int.mpr rfl)⟩)
    · cases ez
  · cases ez
    obtain ⟨v, w, rfl, r1, r2⟩ := rpAll_inv rp
    obtain ⟨a, ys, rfl, t, n, ra⟩ := rp_dic.mp r1
    rw [rpAll_nil_inv r2]
    refine .inr (.inr ⟨a, ys, rfl, t, ?_⟩)
    rw [rpKV_length ra]
    exact k _ H (Same.refl H) (rp_int.mpr rfl)
  · cases ez
/-- tuple(x), list(x) of a list or a tuple -/
def dTuple : List D → Option D
  | [.lst ds] => some (.tup ds)
  | [.tup ds] => some (.tup ds)
  | _ => none
theorem cd_tuple {K : PySem.W.Frag} : CallD K (fun xs H Q => ∃ p ys, xs = [.ref p] ∧ ((SqL K H p ys ∧ ∀ l, H l = none → Q (.ref l) (upd H l (.tup ys))) ∨ (SqT K H p ys ∧ Q (.ref p) H))) dTuple := by
  intro ad S H ds z xs Q tr rp ez k
  unfold dTuple at ez
  split at ez
  · cases ez
    obtain ⟨v, w, rfl, r1, r2⟩ := rpAll_inv rp
    obtain ⟨a, ys, rfl, t, ra⟩ := rp_lst.mp r1
    rw [rpAll_nil_inv r2]
    refine ⟨a, ys, rfl, .inl ⟨t.sq, fun l hl => ?_⟩⟩
    obtain ⟨s, rq⟩ := rp_new_tup tr hl ra
    exact k _ _ s rq
  · cases ez
    obtain ⟨v, w, rfl, r1, r2⟩ := rpAll_inv rp
    have r1' := r1
    obtain ⟨a, ys, rfl, t, ra⟩ := rp_tup.mp r1
    rw [rpAll_nil_inv r2]
    exact ⟨a, ys, rfl, .inr ⟨t.sq, k _ H (Same.refl H) r1'⟩⟩
  · cases ez
def dList : List D → Option D
  | [.lst ds] => some (.lst ds)
  | [.tup ds] => some (.lst ds)
  | _ => none
theorem cn_list {K : PySem.W.Frag} : CallN K (fun xs H Q => ∃ p ys, xs = [.ref p] ∧ (SqL K H p ys ∨ SqT K H p ys) ∧ ∀ l, H l = none → Q (.ref l) (upd H l (.lst ys))) dList := by
  intro ad S H ds z xs Q tr rp ez k
  unfold dList at ez
  split at ez
  · cases ez
    obtain ⟨v, w, rfl, r1, r2⟩ := rpAll_inv rp
    obtain ⟨a, ys, rfl, t, ra⟩ := rp_lst.mp r1
    rw [rpAll_nil_inv r2]
    exact ⟨a, ys, rfl, .inl t.sq, fun l hl => k l _ hl (same_new hl) ⟨ys, upd_same, RpAll.mv (mv_new hl) _ _ ra⟩⟩
  · cases ez
    obtain ⟨v, w, rfl, r1, r2⟩ := rpAll_inv rp
    obtain ⟨a, ys, rfl, t, ra⟩ := rp_tup.mp r1
    rw [rpAll_nil_inv r2]
    exact ⟨a, ys, rfl, .inr t.sq, fun l hl => k l _ hl (same_new hl) ⟨ys, upd_same, RpAll.mv (mv_new hl) _ _ ra⟩⟩
  · cases ez
/-- lists of ints, of bools, of texts, read off data -/
def ints? : List D → Option (List Int)
  | [] => some []
  | .int i :: r => (ints? r).map (i :: ·)
  | _ :: _ => none
def bls? : List D → Option (List Bool)
  | [] => some []
  | .bl i :: r => (bls? r).map (i :: ·)
  | _ :: _ => none
def strs? : List D → Option (List Str)
  | [] => some []
  | .str i :: r => (strs? r).map (i :: ·)
  | _ :: _ => none
theorem ints_eq : ∀ {ds : List D} {ns : List Int}, ints? ds = some ns → ds = ns.map D.int
  | [], ns, h => by unfold ints? at h; cases h; rfl
  | d :: r, ns, h => by
    unfold ints? at h
    split at h
    · rename_i heq; cases heq
    · rename_i i r' heq
      cases heq
      cases e : ints? r with
      | none => rw [e] at h; cases h
      | some ms => rw [e] at h; cases h; rw [ints_eq e]; rfl
    · cases h
theorem ints_map (ns : List Int) : ints? (ns.map D.int) = some ns := by
  induction ns with
  | nil => rfl
  | cons n ns ih => show (ints? (ns.map D.int)).map (n :: ·) = _; rw [ih]; rfl
theorem bls_eq : ∀ {ds : List D} {ns : List Bool}, bls? ds = some ns → ds = ns.map D.bl
  | [], ns, h => by unfold bls? at h; cases h; rfl
  | d :: r, ns, h => by
    unfold bls? at h
    split at h
    · rename_i heq; cases heq
    · rename_i i r' heq
      cases heq
      cases e : bls? r with
      | none => rw [e] at h; cases h
      | some ms => rw [e] at h; cases h; rw [bls_eq e]; rfl
    · cases h
theorem bls_map (ns : List Bool) : bls? (ns.map D.bl) = some ns := by
  induction ns with
  | nil => rfl
  | cons n ns ih => show (bls? (ns.map D.bl)).map (n :: ·) = _; rw [ih]; rfl
theorem strs_eq : ∀ {ds : List D} {ns : List Str}, strs? ds = some ns → ds = ns.map D.str
  | [], ns, h => by unfold strs? at h; cases h; rfl
  | d :: r, ns, h => by
    unfold strs? at h
    split at h
    · rename_i heq; cases heq
    · rename_i i r' heq
      cases heq
      cases e : strs? r with
      | none => rw [e] at h; cases h
      | some ms => rw [e] at h; cases h; rw [strs_eq e]; rfl
    · cases h
theorem strs_map (ns : List Str) : strs? (ns.map D.str) = some ns := by
  induction ns with
  | nil => rfl
  | cons n ns ih => show (strs? (ns.map D.str)).map (n :: ·) = _; rw [ih]; rfl
theorem rpAll_bls {K : PySem.W.Frag} {ad : Addr} {S : Addr → Prop} {H : Hp} : ∀ {ns : List Bool} {vs : List V}, RpAll K ad S H (ns.map D.bl) vs → vs = ns.map V.bl
  | [], vs, h => rpAll_nil_inv h
  | n :: ns, vs, h => by
    obtain ⟨v, r, rfl, h1, h2⟩ := rpAll_inv h
    rw [rp_bl] at h1
    rw [h1, rpAll_bls h2]; rfl
theorem rpAll_strs {K : PySem.W.Frag} {ad : Addr} {S : Addr → Prop} {H : Hp} : ∀ {ns : List Str} {vs : List V}, RpAll K ad S H (ns.map D.str) vs → vs = ns.map V.str ∧ ∀ x ∈ ns, strOk x = true
  | [], vs, h => ⟨rpAll_nil_inv h, by simp⟩
  | n :: ns, vs, h => by
    obtain ⟨v, r, rfl, h1, h2⟩ := rpAll_inv h
    rw [rp_str] at h1
    obtain ⟨e, k⟩ := rpAll_strs h2
    rw [h1.1, e]
    refine ⟨rfl, fun x hx => ?_⟩
    rcases List.mem_cons.mp hx with rfl | hx
    · exact h1.2
    · exact k x hx
theorem rpAll_strs' {K : PySem.W.Frag} {ad : Addr} {S : Addr → Prop} {H : Hp} : ∀ (ns : List Str), (∀ x ∈ ns, strOk x = true) → RpAll K ad S H (ns.map D.str) (ns.map V.str)
  | [], _ => rpAll_nil
  | n :: ns, h => rpAll_cons (rp_str.mpr ⟨rfl, h n (by simp)⟩) (rpAll_strs' ns fun x hx => h x (by simp [hx]))
def dAll : List D → Option D
  | [.lst ds] => (bls? ds).map fun bs => .bl (bs.all _root_.id)
  | _ => none
def dAny : List D → Option D
  | [.lst ds] => (bls? ds).map fun bs => .bl (bs.any _root_.id)
  | _ => none
def dSum : List D → Option D
  | [.lst ds] => (ints? ds).map fun ns => .int ns.sum
  | _ => none
theorem cd_all {K : PySem.W.Frag} : CallD K (rAll K) dAll := by
  intro ad S H ds z xs Q tr rp ez k
  unfold dAll at ez
  split at ez
  · rename_i ds
    cases e : bls? ds with
    | none => rw [e] at ez; cases ez
    | some bs =>
      rw [e] at ez; cases ez
      obtain ⟨v, w, rfl, r1, r2⟩ := rpAll_inv rp
      obtain ⟨a, ys, rfl, t, ra⟩ := rp_lst.mp r1
      rw [rpAll_nil_inv r2]
      rw [bls_eq e] at ra
      have e2 := rpAll_bls ra
      subst e2
      exact ⟨a, bs, rfl, t.sq, k _ H (Same.refl H) (rp_bl.mpr rfl)⟩
  · cases ez
theorem cd_any {K : PySem.W.Frag} : CallD K (rAny K) dAny := by
  intro ad S H ds z xs Q tr rp ez k
  unfold dAny at ez
  split at ez
  · rename_i ds
    cases e : bls? ds with
    | none => rw [e] at ez; cases ez
    | some bs =>
      rw [e] at ez; cases ez
      obtain ⟨v, w, rfl, r1, r2⟩ := rpAll_inv rp
      obtain ⟨a, ys, rfl, t, ra⟩ := rp_lst.mp r1
      rw [rpAll_nil_inv r2]
      rw [bls_eq e] at ra
      have e2 := rpAll_bls ra
      subst e2
      exact ⟨a, bs, rfl, t.sq, k _ H (Same.refl H) (rp_bl.mpr rfl)⟩
  · cases ez
theorem cd_sum {K : PySem.W.Frag} : CallD K (rSum K) dSum := by
  intro ad S H ds z xs Q tr rp ez k
  unfold dSum at ez
  split at ez
  · rename_i ds
    cases e : ints? ds with
    | none => rw [e] at ez; cases ez
    | some bs =>
      rw [e] at ez; cases ez
      obtain ⟨v, w, rfl, r1, r2⟩ := rpAll_inv rp
      obtain ⟨a, ys, rfl, t, ra⟩ := rp_lst.mp r1
      rw [rpAll_nil_inv r2]
      rw [ints_eq e] at ra
      have e2 := rpAll_ints ra
      subst e2
      exact ⟨a, bs, rfl, t.sq, k _ H (Same.refl H) (rp_int.mpr rfl)⟩
  · cases ez
/-! sorted(list of ints) -/
def insI (x : Int) : List Int → List Int
  | [] => [x]
  | y :: r => if x ≤ y then x :: y :: r else y :: insI x r
def sortI : List Int → List Int
  | [] => []
  | x :: r => insI x (sortI r)
theorem insI_perm (x : Int) : ∀ l, (insI x l).Perm (x :: l)
  | [] => List.Perm.refl _
  | y :: r => by
    unfold insI
    split
    · exact List.Perm.refl _
    · exact ((insI_perm x r).cons y).trans (List.Perm.swap x y r)
theorem sortI_perm : ∀ l, (sortI l).Perm l
  | [] => List.Perm.refl _
  | x :: r => (insI_perm x _).trans ((sortI_perm r).cons x)
theorem insI_le (x : Int) : ∀ l : List Int, l.Pairwise (· ≤ ·) → (insI x l).Pairwise (· ≤ ·)
  | [], _ => by unfold insI; simp
  | y :: r, h => by
    unfold insI
    rw [List.pairwise_cons] at h
    split
    · rename_i hx
      rw [List.pairwise_cons]
      refine ⟨fun z hz => ?_, List.pairwise_cons.mpr h⟩
      rcases List.mem_cons.mp hz with rfl | hz
      · exact hx
      · exact Int.le_trans hx (h.1 z hz)
    · rename_i hx
      rw [List.pairwise_cons]
      refine ⟨fun z hz => ?_, insI_le x r h.2⟩
      rcases List.mem_cons.mp ((insI_perm x r).mem_iff.mp hz) with rfl | hz
      · omega
      · exact h.1 z hz
theorem sortI_le : ∀ l, (sortI l).Pairwise (· ≤ ·)
  | [] => List.Pairwise.nil
  | x :: r => insI_le x _ (sortI_le r)
theorem sorted_uniq : ∀ {l m : List Int}, l.Perm m → l.Pairwise (· ≤ ·) → m.Pairwise (· ≤ ·) → l = m := fun p h1 h2 =>
  List.Perm.eq_of_pairwise (fun a b _ _ h h' => Int.le_antisymm h h') h1 h2 p
def dSortI : List D → Option D
  | [.lst ds] => (ints? ds).map fun ns => .lst ((sortI ns).map D.int)
  | _ => none
theorem cn_sortI {K : PySem.W.Frag} : CallN K (rSortedI K) dSortI := by
  intro ad S H ds z xs Q tr rp ez k
  unfold dSortI at ez
  split at ez
  · rename_i ds
    cases e : ints? ds with
    | none => rw [e] at ez; cases ez
    | some bs =>
      rw [e] at ez; cases ez
      obtain ⟨v, w, rfl, r1, r2⟩ := rpAll_inv rp
      obtain ⟨a, ys, rfl, t, ra⟩ := rp_lst.mp r1
      rw [rpAll_nil_inv r2]
      rw [ints_eq e] at ra
      have e2 := rpAll_ints ra
      subst e2
      refine ⟨a, bs, rfl, t.sq, fun ns' p hp hs hn => ?_⟩
      have e3 : ns' = sortI bs := sorted_uniq (hp.trans (sortI_perm bs).symm) hs (sortI_le bs)
      subst e3
      exact k p _ hn (same_new hn) ⟨_, upd_same, rpAll_ints' _⟩
  · cases ez
/-! isinstance(x, T), T a built-in type -/
def D.ty : D → Option String
  | .non => some "NoneType"
  | .bl _ => some "bool"
  | .int _ => some "int"
  | .str _ => some "str"
  | .tup _ => some "tuple"
  | .lst _ => some "list"
  | .dic _ => some "dict"
  | .dst => none
theorem rp_ty {K : PySem.W.Frag} {ad : Addr} {S : Addr → Prop} {H : Hp} {d : D} {v : V} {t : String} (r : Rp K ad S H d v) (h : d.ty = some t) : TyX K H v (.type t) := by
  cases d with
  | non => cases h; rw [rp_non.mp r]; exact .base .non
  | bl b => cases h; rw [rp_bl.mp r]; exact .base (.bl b)
  | int i => cases h; rw [rp_int.mp r]; exact .base (.int i)
  | str x => cases h; rw [(rp_str.mp r).1]; exact .base (.str x)
  | tup ds =>
    cases h
    obtain ⟨a, xs, rfl, t, _⟩ := rp_tup.mp r
    rcases t with ⟨t | ⟨o, t⟩, _⟩ | ⟨o, its, n, e, c, _⟩
    · exact .base (.tup t)
    · exact .fTuple t
    · exact .kTuple e c
  | lst ds => cases h; obtain ⟨a, xs, rfl, t, _⟩ := rp_lst.mp r; exact .base (.lst t.1)
  | dic ds => cases h; obtain ⟨a, xs, rfl, t, _⟩ := rp_dic.mp r; exact .base (.dK t)
  | dst => cases h
def dIsi (T : String) : D → Option D := fun d => match d.ty with
  | some t => (kitB t T).map D.bl
  | none => none
/-- isinstance(e, T) -/
theorem e_isi {y : Str} {py pp : Pos} (hg : Gl X "isinstance") (hm : X.mg "isinstance" = none) (hgT : Gl X y) (hmT : X.mg y = none) (hvT : bootBuiltins y = some (.type T)) (ha : PE X e (liftE X.K B W F)) (hnT : y ≠ "__name__" := by decide) (hdT : (y == ("__debug__" : Str)) = false := by decide)
    (hv : bootBuiltins ("isinstance" : Str) = some (.builtin "isinstance") := by decide +kernel)
    (he : starEach (e :: [.Name y py]) X.env = (false, eval e X.env) :: starEach [.Name y py] X.env := by rfl) (hpl : (backTo pos (starEach [.Name y py] X.env)).any (·.1) = false := by rfl) (hs : starEach [.Name y py] X.env = (false, eval (.Name y py) X.env) :: starEach [] X.env := by rfl) :
    PE X (.Call (.Name "isinstance" pp) [e, .Name y py] [] pos) (liftE X.K B W (eUn (dIsi T) F)) := by
  have hT : PE X (.Name y py) (tC (.ty T)) := pe_bltn hgT hmT hvT rfl hnT hdT
  refine pe_imp (pe_callB call_isi hg hm hv (pa_cons ha (pa_cons hT pa_nil hs) he) (by decide) (by decide) he hpl) fun σ H Q h => ?_
  refine lift1 (r := fun x H Q => rIsi X.K [x, .ty T] H Q) (fun ad S H d z x Q tr rx hz k => ?_) h
  unfold dIsi at hz
  split at hz
  · rename_i t et
    cases eb : kitB t T with
    | none => rw [eb] at hz; cases hz
    | some b =>
      rw [eb] at hz; cases hz
      exact ⟨x, .ty T, .type t, .type T, b, rfl, .ty T, rp_ty rx et, kit_ty eb, k _ H (Same.refl H) (rp_bl.mpr rfl)⟩
  · cases hz
end
/-! slices: a part that may be left out -/
inductive Rq where
  | ok (o : Option Int) | ex (x : Ex)
abbrev Ep := Env → DS → Option (Rq × DS)
def pNo : Ep := fun _ st => some (.ok none, st)
def pE (a : E) : Ep := fun ρ st => match a ρ st with
  | some (.ok (.int i), st1) => some (.ok (some i), st1)
  | some (.ex e, st1) => some (.ex e, st1)
  | _ => none
def PostP (K : PySem.W.Frag) (W : WX) (q : Cq) (o : Ow) (σ : L2.St) (H : Hp) (ρ : Env) (st' : DS) (Q : Option Int → Hp → Prop) : Rq → Prop
  | .ok d => ∀ H', Fr q.ad H H' → EnvR K q o σ H' ρ st' → Q d H'
  | .ex x => ∀ dx H', Fr q.ad H H' → EnvR K q o σ H' ρ st' → ExR K q.ad q.S H' x dx → W (.ref x.cls) (some dx) σ H'
def liftP (K : PySem.W.Frag) (W : WX) (F : Ep) : TO := fun σ H Q => ∃ q o ρ st r st', EnvR K q o σ H ρ st ∧ F ρ st = some (r, st') ∧ PostP K W q o σ H ρ st' Q r
theorem po_imp {X : Cx} {e : Option Expr} {t t' : TO} (h : PO X e t) (k : ∀ σ H Q, t' σ H Q → t σ H Q) : PO X e t' := ⟨fun pins s σ H Q I q => h.run pins s σ H Q I (k σ H Q q)⟩
def eSl (f : D → Option Int → Option Int → Option D) (a : E) (l u : Ep) : E := fun ρ st => match a ρ st with
  | some (.ok x, st1) => (match l ρ st1 with
    | some (.ok i, st2) => (match u ρ st2 with
      | some (.ok j, st3) => (match f x i j with
        | some z => some (.ok z, st3)
        | none => none)
      | some (.ex e, st3) => some (.ex e, st3)
      | none => none)
    | some (.ex e, st2) => some (.ex e, st2)
    | none => none)
  | some (.ex e, st1) => some (.ex e, st1)
  | none => none
def SlD (K : PySem.W.Frag) (r : V → Option Int → Option Int → Hp → VK → Prop) (f : D → Option Int → Option Int → Option D) : Prop := ∀ (ad : Addr) (S : Addr → Prop) (H : Hp) (d z : D) (i j : Option Int) (x : V) (Q : VK), (∀ a, S a → ∃ u, H a = some u) → Rp K ad S H d x → f d i j = some z →
  (∀ v H', Same H H' → Rp K ad S H' z v → Q v H') → r x i j H Q
def SlN (K : PySem.W.Frag) (r : V → Option Int → Option Int → Hp → VK → Prop) (f : D → Option Int → Option Int → Option D) : Prop := ∀ (ad : Addr) (S : Addr → Prop) (H : Hp) (d z : D) (i j : Option Int) (x : V) (Q : VK), (∀ a, S a → ∃ u, H a = some u) → Rp K ad S H d x → f d i j = some z →
  (∀ a H', H a = none → Same H H' → OwnAt K ad (Sa S a) H' a z → Q (.ref a) H') → r x i j H Q
section
variable {X : Cx} {B : Nat → Bool} {W : WX} {pos p2 : Pos} {e : Expr} {lo hi : Option Expr} {F : E} {L U : Ep} {r : V → Option Int → Option Int → Hp → VK → Prop} {f : D → Option Int → Option Int → Option D}
theorem p_no : PO X none (liftP X.K W pNo) := by
  refine po_imp po_none fun σ H Q h => ?_
  obtain ⟨q, o, ρ, st, rr, st', I, e, k⟩ := h
  cases e
  exact k H Fr.refl I
theorem p_e {e : Expr} (h : PE X e (liftE X.K B W F)) : PO X (some e) (liftP X.K W (pE F)) := by
  refine po_imp (po_some h) fun σ H Q h => ?_
  obtain ⟨q, o, ρ, st, rr, st', I, e, k⟩ := h
  unfold pE at e
  split at e
  · rename_i i st1 eF
    cases e
    exact ⟨q, o, ρ, st, _, _, I, eF, fun v H1 f1 I1 rp => ⟨i, rp_int.mp rp, k H1 f1 I1⟩⟩
  · rename_i x st1 eF
    cases e
    exact ⟨q, o, ρ, st, _, _, I, eF, k⟩
  · cases e
theorem e_sl (hd : SlD X.K r f) (hr : SlR X r) (he : PE X e (liftE X.K B W F)) (hl : PO X lo (liftP X.K W L)) (hu : PO X hi (liftP X.K W U)) : PE X (.Subscript e (.Slice lo hi none p2) pos) (liftE X.K B W (eSl f F L U)) := by
  refine pe_imp (pe_slice hr he hl hu) fun σ H Q h => ?_
  obtain ⟨q, o, ρ, st, rr, st', I, e, k⟩ := h
  unfold eSl at e
  split at e
  · rename_i x st1 eF
    refine ⟨q, o, ρ, st, _, st1, I, eF, fun v H1 f1 I1 rp1 => ?_⟩
    split at e
    · rename_i i st2 eL
      refine ⟨q, o, ρ, st1, _, st2, I1, eL, fun H2 f2 I2 => ?_⟩
      split at e
      · rename_i j st3 eU
        refine ⟨q, o, ρ, st2, _, st3, I2, eU, fun H3 f3 I3 => ?_⟩
        split at e
        · rename_i z ez
          cases e
          refine hd q.ad (Sb q B o) H3 x z i j v Q (fun a h => I3.trB h) (Rp.mv (mvB (f2.trans f3) I.sad) _ _ rp1) ez fun u H4 s4 r4 => ?_
          exact k u H4 (((f1.trans f2).trans f3).trans (Fr.of_same s4)) (I3.same s4) r4
        · cases e
      · rename_i y st3 eU
        cases e
        exact ⟨q, o, ρ, st2, _, _, I2, eU, fun dx H' fr I' er => k dx H' ((f1.trans f2).trans fr) I' er⟩
      · cases e
    · rename_i y st2 eL
      cases e
      exact ⟨q, o, ρ, st1, _, _, I1, eL, fun dx H' fr I' er => k dx H' (f1.trans fr) I' er⟩
    · cases e
  · rename_i x st1 eF
    cases e
    exact ⟨q, o, ρ, st, _, _, I, eF, k⟩
  · cases e
theorem n_sl (hd : SlN X.K r f) (hr : SlR X r) (he : PE X e (liftE X.K B W F)) (hl : PO X lo (liftP X.K W L)) (hu : PO X hi (liftP X.K W U)) : PE X (.Subscript e (.Slice lo hi none p2) pos) (liftN X.K B W (eSl f F L U)) := by
  refine pe_imp (pe_slice hr he hl hu) fun σ H Q h => ?_
  obtain ⟨q, o, ρ, st, rr, st', I, e, k⟩ := h
  unfold eSl at e
  split at e
  · rename_i x st1 eF
    refine ⟨q, o, ρ, st, _, st1, I, eF, fun v H1 f1 I1 rp1 => ?_⟩
    split at e
    · rename_i i st2 eL
      refine ⟨q, o, ρ, st1, _, st2, I1, eL, fun H2 f2 I2 => ?_⟩
      split at e
      · rename_i j st3 eU
        refine ⟨q, o, ρ, st2, _, st3, I2, eU, fun H3 f3 I3 => ?_⟩
        split at e
        · rename_i z ez
          cases e
          refine hd q.ad (Sb q B o) H3 x z i j v Q (fun a h => I3.trB h) (Rp.mv (mvB (f2.trans f3) I.sad) _ _ rp1) ez fun a H4 n s4 r4 => ?_
          exact k a H4 (((f1.trans f2).trans f3).trans (Fr.of_same s4)) (I3.same s4) (fresh_back I3 ((f1.trans f2).trans f3) n) r4
        · cases e
      · rename_i y st3 eU
        cases e
        exact ⟨q, o, ρ, st2, _, _, I2, eU, fun dx H' fr I' er => k dx H' ((f1.trans f2).trans fr) I' er⟩
      · cases e
    · rename_i y st2 eL
      cases e
      exact ⟨q, o, ρ, st1, _, _, I1, eL, fun dx H' fr I' er => k dx H' (f1.trans fr) I' er⟩
    · cases e
  · rename_i x st1 eF
    cases e
    exact ⟨q, o, ρ, st, _, _, I, eF, k⟩
  · cases e
end
/-- the items of xs[lo:hi] -/
def cutD {α : Type} (xs : List α) (lo hi : Option Int) : List α := (xs.drop (HT.sIx xs.length 0 lo)).take (HT.sIx xs.length xs.length hi - HT.sIx xs.length 0 lo)
theorem cut_rp {K : PySem.W.Frag} {ad : Addr} {S : Addr → Prop} {H : Hp} {ds : List D} {vs : List V} (r : RpAll K ad S H ds vs) (lo hi : Option Int) : RpAll K ad S H (cutD ds lo hi) (cutV vs lo hi) := by
  unfold cutD cutV
  rw [rpAll_length r]
  exact rpAll_take _ (rpAll_drop _ r)
def dSlL : D → Option Int → Option Int → Option D
  | .lst ds, i, j => some (.lst (cutD ds i j))
  | _, _, _ => none
def dSlT : D → Option Int → Option Int → Option D
  | .tup ds, i, j => some (.tup (cutD ds i j))
  | _, _, _ => none
def dSlS : D → Option Int → Option Int → Option D
  | .str x, i, j => if x.length ≤ sizeLine then some (.str (cutS x i j)) else none
  | _, _, _ => none
theorem sn_lst {K : PySem.W.Frag} : SlN K (rSlL K) dSlL := by
  intro ad S H d z i j x Q tr rx h k
  unfold dSlL at h
  split at h
  · cases h
    obtain ⟨a, xs, rfl, t, r⟩ := rp_lst.mp rx
    exact ⟨a, xs, rfl, t.sq, fun p hp => k p _ hp (same_new hp) ⟨_, upd_same, RpAll.mv (mv_new hp) _ _ (cut_rp r i j)⟩⟩
  · cases h
theorem sd_tup {K : PySem.W.Frag} : SlD K (rSlA K) dSlT := by
  intro ad S H d z i j x Q tr rx h k
  unfold dSlT at h
  split at h
  · cases h
    have rx' := rx
    obtain ⟨a, xs, rfl, t, r⟩ := rp_tup.mp rx
    refine ⟨a, xs, rfl, t.sq, fun e => ?_, fun _ p hp => ?_⟩
    · have e2 : ∀ ds : List D, RpAll K ad S H ds xs → cutD ds i j = ds := fun ds r => by
        unfold cutD
        rw [← rpAll_length r, e.1, e.2]
        simp [rpAll_length r]
      rw [e2 _ r] at k
      exact k _ H (Same.refl H) rx'
    · obtain ⟨s, rp⟩ := rp_new_tup tr hp (cut_rp r i j)
      exact k _ _ s rp
  · cases h
theorem strOk_cut {x : Str} (h : strOk x = true) (i j : Option Int) : strOk (cutS x i j) = true := by
  unfold strOk at h ⊢
  rw [Array.all_eq_true'] at h ⊢
  intro c hc
  refine h c ?_
  have : c ∈ ((x.cps.toList.drop (HT.sIx x.length 0 i)).take (HT.sIx x.length x.length j - HT.sIx x.length 0 i)) := by simpa [cutS] using hc
  simpa using List.mem_of_mem_drop (List.mem_of_mem_take this)
theorem sd_str {K : PySem.W.Frag} : SlD K rSlS dSlS := by
  intro ad S H d z i j x Q tr rx h k
  unfold dSlS at h
  split at h
  · split at h
    · rename_i hl
      cases h
      rw [rp_str] at rx
      exact ⟨_, rx.1, hl, k _ H (Same.refl H) (rp_str.mpr ⟨rfl, strOk_cut rx.2 i j⟩)⟩
    · cases h
  · cases h
def slOr (f g : D → Option Int → Option Int → Option D) : D → Option Int → Option Int → Option D := fun x i j => match f x i j with
  | some z => some z
  | none => g x i j
theorem SlN.d {K : PySem.W.Frag} {r : V → Option Int → Option Int → Hp → VK → Prop} {f : D → Option Int → Option Int → Option D} (h : SlN K r f) : SlD K r f := fun ad S H d z i j x Q tr rx hz k =>
  h ad S H d z i j x Q tr rx hz fun a H' n s ow => k _ H' s (OwnAt.rp (ow.mv (Mv.less fun b z => .inl z) fun u e => e) fun z => by obtain ⟨u, hu⟩ := tr a z; rw [n] at hu; cases hu)
theorem SlD.or {K : PySem.W.Frag} {r r' : V → Option Int → Option Int → Hp → VK → Prop} {f g : D → Option Int → Option Int → Option D} (h : SlD K r f) (h' : SlD K r' g) : SlD K (fun x i j H Q => r x i j H Q ∨ r' x i j H Q) (slOr f g) := by
  intro ad S H d z i j x Q tr rx hh k
  unfold slOr at hh
  cases ef : f d i j with
  | some w => rw [ef] at hh; cases hh; exact .inl (h ad S H d z i j x Q tr rx ef k)
  | none => rw [ef] at hh; exact .inr (h' ad S H d z i j x Q tr rx hh k)
/-- xs[lo:hi] of a list, a tuple, a text -/
def dSl := slOr dSlL (slOr dSlT dSlS)
theorem sd_any {K : PySem.W.Frag} : SlD K (fun x i j H Q => rSlL K x i j H Q ∨ (rSlA K x i j H Q ∨ rSlS x i j H Q)) dSl := SlD.or sn_lst.d (SlD.or sd_tup sd_str)
theorem sl_any {X : Cx} : SlR X (fun x i j H Q => rSlL X.K x i j H Q ∨ (rSlA X.K x i j H Q ∨ rSlS x i j H Q)) := sl_list.or (sl_tupA.or sl_str)
/-- xs[::-1] of a list -/
def dRev : D → Option D
  | .lst ds => some (.lst ds.reverse)
  | _ => none
theorem rpAll_reverse {K : PySem.W.Frag} {ad : Addr} {S : Addr → Prop} {H : Hp} : ∀ {ds : List D} {vs : List V}, RpAll K ad S H ds vs → RpAll K ad S H ds.reverse vs.reverse
  | [], vs, h => by rw [rpAll_nil_inv h]; exact rpAll_nil
  | d :: ds, vs, h => by
    obtain ⟨v, r, rfl, h1, h2⟩ := rpAll_inv h
    rw [List.reverse_cons, List.reverse_cons]
    exact rpAll_append (rpAll_reverse h2) (rpAll_cons h1 rpAll_nil)
theorem n_rev {X : Cx} {B : Nat → Bool} {W : WX} {e : Expr} {F : E} {k : Nat} {p1 p2 p3 pos : Pos} (he : PE X e (liftE X.K B W F)) : PE X (.Subscript e (.Slice none none (some (.UnaryOp .USub (.Constant (.int 1) k p1) p2)) p3) pos) (liftN X.K B W (eUn dRev F)) := by
  refine pe_imp (pe_revL he) fun σ H Q h => ?_
  obtain ⟨q, o, ρ, st, rr, st', I, e, k⟩ := h
  unfold eUn at e
  split at e
  · rename_i x st1 eF
    refine ⟨q, o, ρ, st, _, st1, I, eF, fun v H1 f1 I1 rp1 => ?_⟩
    unfold dRev at e
    split at e
    · rename_i z ez
      cases e
      split at ez
      · cases ez
        obtain ⟨a, xs, rfl, t, r⟩ := rp_lst.mp rp1
        exact ⟨a, xs, rfl, t.sq, fun p hp => k p _ (f1.trans (Fr.of_same (same_new hp))) (I1.same (same_new hp)) (fresh_back I1 f1 hp) ⟨_, upd_same, RpAll.mv (mv_new hp) _ _ (rpAll_reverse r)⟩⟩
      · cases ez
    · cases e
  · rename_i x st1 eF
    cases e
    exact ⟨q, o, ρ, st, _, _, I, eF, k⟩
  · cases e
end FL


set_option Elab.async false
set_option linter.all false
set_option maxRecDepth 100000
set_option maxHeartbeats 4000000
namespace FL
open PySem PySem.Spec L2
open PySem.PyData (strOk)
set_option autoImplicit false
/-! ## 12. Statements -/
def dropO (o : Ow) (i : Nat) : Ow := fun j => if j = i then none else o j
def putO (o : Ow) (i : Nat) (a : Addr) : Ow := fun j => if j = i then some a else o j
section
variable {K : PySem.W.Frag} {q : Cq} {o : Ow} {σ : L2.St} {H H1 : Hp} {ρ : Env} {st st1 : DS} {i : Nat}
theorem drop_own {a : Addr} (h : Own (dropO o i) a) : Own o a := by
  obtain ⟨j, e⟩ := h
  unfold dropO at e
  split at e
  · cases e
  · exact ⟨j, e⟩
theorem drop_sx {a : Addr} (h : Sx q (dropO o i) a) : Sx q o a := by
  rcases sx_own h with h | h
  · exact .inl h
  · exact own_sx (drop_own h)
theorem dropO_ne {j : Nat} (h : j ≠ i) : dropO o i j = o j := by unfold dropO; rw [if_neg h]
theorem putO_ne {j : Nat} {a : Addr} (h : j ≠ i) : putO o i a j = o j := by unfold putO; rw [if_neg h]
theorem putO_eq {a : Addr} : putO o i a i = some a := by unfold putO; rw [if_pos rfl]
/-- a value is stored in a slot -/
theorem EnvR.setV (I : EnvR K q o σ H ρ st) {d : D} {v : V} (rp : Rp K q.ad (Sx q o) H d v) : EnvR K q (dropO o i) (σ.set i (some v)) H (ρ.set i (.v d)) st where
  sad := I.sad
  tr := I.tr
  ow := fun j a h => by
    unfold dropO at h
    split at h
    · cases h
    · exact I.ow j a h
  inj := fun j k a h1 h2 => by
    unfold dropO at h1 h2
    split at h1
    · cases h1
    · split at h2
      · cases h2
      · exact I.inj j k a h1 h2
  dr := I.dr
  len := by rw [List.length_set, List.length_set]; exact I.len
  sl := fun j s h => by
    have less : Mv (Sx q o) H (Sx q (dropO o i)) H := Mv.less fun b => drop_sx
    by_cases e : j = i
    · subst e
      have hl : j < ρ.length := by
        have := (List.getElem?_eq_some_iff.mp h).1
        simpa using this
      rw [List.getElem?_set_self hl] at h
      cases h
      exact ⟨v, List.getElem?_set_self (by rw [← I.len]; exact hl), Rp.mv less _ _ rp⟩
    · rw [List.getElem?_set_ne (Ne.symm e)] at h
      have z := I.sl j s h
      cases s with
      | no => trivial
      | v d' => obtain ⟨w, e1, r⟩ := z; exact ⟨w, by rw [List.getElem?_set_ne (Ne.symm e)]; exact e1, Rp.mv less _ _ r⟩
      | o d' => obtain ⟨a, e1, e2, r⟩ := z; exact ⟨a, by rw [dropO_ne e]; exact e1, by rw [List.getElem?_set_ne (Ne.symm e)]; exact e2, r.mv less fun u e => e⟩
theorem EnvR.stepV (I : EnvR K q o σ H ρ st) (f : Fr q.ad H H1) (I1 : EnvR K q o σ H1 ρ st1) : Step q o H (dropO o i) H1 :=
  ⟨fun a u h n _ => f a u h n, fun a h => .inl (drop_own h), (I.step f I1).live⟩
/-- a new list or dict is stored in a slot -/
theorem EnvR.setO (I : EnvR K q o σ H ρ st) (f : Fr q.ad H H1) (I1 : EnvR K q o σ H1 ρ st1) {a : Addr} {d : D} (n : H a = none) (ow : OwnAt K q.ad (Sa (Sx q o) a) H1 a d) : EnvR K q (putO o i a) (σ.set i (some (.ref a))) H1 (ρ.set i (.o d)) st1 := by
  have up : ∀ b, Sx q (putO o i a) b → Sa (Sx q o) a b := fun b h => by
    rcases sx_own h with h | ⟨j, h⟩
    · exact .inl (.inl h)
    · unfold putO at h
      split at h
      · cases h; exact .inr rfl
      · exact .inl (own_sx ⟨j, h⟩)
  have mv : Mv (Sx q o) H (Sx q (putO o i a)) H1 := fun b u e nb => by
    refine ⟨f b u e (fun z => nb (.inl (z ▸ I.sad))), fun z => ?_⟩
    rcases up b z with z | z
    · exact nb z
    · subst z; rw [n] at e; cases e
  have less : Mv (Sa (Sx q o) a) H1 (Sx q (putO o i a)) H1 := Mv.less up
  refine ⟨I.sad, I1.tr, fun j b h => ?_, fun j k b h1 h2 => ?_, I1.dr, by rw [List.length_set, List.length_set]; exact I.len, fun j s h => ?_⟩
  · unfold putO at h
    split at h
    · cases h
      refine ⟨fun z => I.fresh (B := B0) n (.inl z), fun z => ?_, ?_⟩
      · rw [z, I.dr.2.1] at n; cases n
      · cases d with
        | lst ds => obtain ⟨vs, e, _⟩ := ow; exact ⟨_, e, rfl⟩
        | dic ds => obtain ⟨vs, e, _⟩ := ow; exact ⟨_, e, rfl⟩
        | _ => exact ow.elim
    · exact I1.ow j b h
  · have fr : ∀ k, o k = some a → False := fun k e => by
      obtain ⟨u, hu, _⟩ := (I.ow k a e).2.2
      rw [n] at hu; cases hu
    unfold putO at h1 h2
    split at h1
    · rename_i e1
      cases h1
      split at h2
      · rename_i e2; rw [e1, e2]
      · exact (fr _ h2).elim
    · split at h2
      · cases h2; exact (fr _ h1).elim
      · exact I.inj j k b h1 h2
  · by_cases e : j = i
    · subst e
      have hl : j < ρ.length := by
        have := (List.getElem?_eq_some_iff.mp h).1
        simpa using this
      rw [List.getElem?_set_self hl] at h
      cases h
      exact ⟨a, putO_eq, List.getElem?_set_self (by rw [← I.len]; exact hl), ow.mv less fun u e => e⟩
    · rw [List.getElem?_set_ne (Ne.symm e)] at h
      have z := I.sl j s h
      cases s with
      | no => trivial
      | v d' => obtain ⟨w, e1, r⟩ := z; exact ⟨w, by rw [List.getElem?_set_ne (Ne.symm e)]; exact e1, Rp.mv mv _ _ r⟩
      | o d' =>
        obtain ⟨b, e1, e2, r⟩ := z
        exact ⟨b, by rw [putO_ne e]; exact e1, by rw [List.getElem?_set_ne (Ne.symm e)]; exact e2, r.mv mv fun u e => f b u e fun z => (I.ow j b e1).1 (z ▸ I.sad)⟩
theorem EnvR.stepO (I : EnvR K q o σ H ρ st) (f : Fr q.ad H H1) (I1 : EnvR K q o σ H1 ρ st1) {a : Addr} (n : H a = none) : Step q o H (putO o i a) H1 where
  keep := fun b u h nn _ => f b u h nn
  own := fun b h => by
    obtain ⟨j, h⟩ := h
    unfold putO at h
    split at h
    · cases h; exact .inr n
    · exact .inl ⟨j, h⟩
  live := (I.step f I1).live
/-- the object of slot i is changed: its new items avoid what values avoid -/
theorem EnvR.write (I : EnvR K q o σ H ρ st) {a : Addr} {u : HO} {d d' : D} (hi : ρ[i]? = some (.o d)) (ha : o i = some a) (hm : Mt u = true) (ow : OwnAt K q.ad (Sx q o) (upd H a u) a d') : EnvR K q o σ (upd H a u) (ρ.set i (.o d')) st := by
  have na : a ≠ q.ad := fun z => (I.ow i a ha).1 (z ▸ I.sad)
  have mv : Mv (Sx q o) H (Sx q o) (upd H a u) := fun b w e nb => ⟨by rw [upd_ne (fun z => nb (by rw [z]; exact own_sx ⟨i, ha⟩))]; exact e, nb⟩
  refine ⟨I.sad, fun b h => ?_, fun j b h => ?_, I.inj, ⟨by rw [upd_ne (Ne.symm na)]; exact I.dr.1, by rw [upd_ne (Ne.symm (I.ow i a ha).2.1)]; exact I.dr.2.1, I.dr.2.2⟩, by rw [List.length_set]; exact I.len, fun j s h => ?_⟩
  · obtain ⟨w, e⟩ := I.tr b h
    by_cases z : b = a
    · subst z; exact ⟨u, upd_same⟩
    · exact ⟨w, by rw [upd_ne z]; exact e⟩
  · obtain ⟨h1, h2, w, e, m⟩ := I.ow j b h
    refine ⟨h1, h2, ?_⟩
    by_cases z : b = a
    · subst z; exact ⟨u, upd_same, hm⟩
    · exact ⟨w, by rw [upd_ne z]; exact e, m⟩
  · by_cases e : j = i
    · subst e
      have hl : j < ρ.length := (List.getElem?_eq_some_iff.mp hi).1
      rw [List.getElem?_set_self hl] at h
      cases h
      obtain ⟨b, e1, e2, _⟩ := I.sl j _ hi
      rw [ha] at e1; cases e1
      exact ⟨a, ha, e2, ow⟩
    · rw [List.getElem?_set_ne (Ne.symm e)] at h
      have z := I.sl j s h
      cases s with
      | no => trivial
      | v d' => obtain ⟨w, e1, r⟩ := z; exact ⟨w, e1, Rp.mv mv _ _ r⟩
      | o d' =>
        obtain ⟨b, e1, e2, r⟩ := z
        have nb : b ≠ a := fun z => e (I.inj _ _ _ e1 (z ▸ ha))
        exact ⟨b, e1, e2, r.mv mv fun u e => by rw [upd_ne nb]; exact e⟩
theorem Step.write {a : Addr} {u : HO} {w : HO} (ha : o i = some a) (hw : H a = some w) : Step q o H o (upd H a u) where
  keep := fun b x e n no => by rw [upd_ne (fun z => no (by rw [z]; exact ⟨i, ha⟩))]; exact e
  own := fun b h => .inl h
  live := fun b x e => by
    by_cases z : b = a
    · subst z; exact ⟨u, upd_same⟩
    · exact ⟨x, by rw [upd_ne z]; exact e⟩
/-- an owned object becomes a value that nobody changes -/
theorem EnvR.freeze (I : EnvR K q o σ H ρ st) {d : D} (hi : ρ[i]? = some (.o d)) : EnvR K q (dropO o i) σ H (ρ.set i (.v d)) st := by
  obtain ⟨a, e1, e2, ow⟩ := I.sl i _ hi
  have less : Mv (Sx q o) H (Sx q (dropO o i)) H := Mv.less fun b => drop_sx
  have na : ¬ Sx q (dropO o i) a := fun z => by
    rcases sx_own z with z | ⟨j, z⟩
    · exact (I.ow i a e1).1 z
    · unfold dropO at z
      split at z
      · cases z
      · rename_i hj
        exact hj (I.inj _ _ _ z e1)
  have hσ : σ.set i (some (.ref a)) = σ := by
    refine List.ext_getElem? fun j => ?_
    by_cases e : i = j
    · subst e
      rw [List.getElem?_set_self (List.getElem?_eq_some_iff.mp e2).1, e2]
    · rw [List.getElem?_set_ne e]
  refine ⟨I.sad, I.tr, fun j b h => ?_, fun j k b h1 h2 => ?_, I.dr, by rw [List.length_set]; exact I.len, fun j s h => ?_⟩
  · unfold dropO at h
    split at h
    · cases h
    · exact I.ow j b h
  · unfold dropO at h1 h2
    split at h1
    · cases h1
    · split at h2
      · cases h2
      · exact I.inj j k b h1 h2
  · by_cases e : j = i
    · subst e
      rw [List.getElem?_set_self (List.getElem?_eq_some_iff.mp hi).1] at h
      cases h
      exact ⟨.ref a, e2, OwnAt.rp (ow.mv less fun u e => e) na⟩
    · rw [List.getElem?_set_ne (Ne.symm e)] at h
      have z := I.sl j s h
      cases s with
      | no => trivial
      | v d' => obtain ⟨w, e1, r⟩ := z; exact ⟨w, e1, Rp.mv less _ _ r⟩
      | o d' => obtain ⟨b, e1, e2, r⟩ := z; exact ⟨b, by rw [dropO_ne e]; exact e1, e2, r.mv less fun u e => e⟩
end

def cNil : C := fun ρ st => some (.nx, ρ, st)
def cSeq (g h : C) : C := fun ρ st => match g ρ st with
  | some (.nx, ρ1, st1) => h ρ1 st1
  | x => x
def cSet (i : Nat) (a : E) : C := fun ρ st => match a ρ st with
  | some (.ok d, st1) => some (.nx, ρ.set i (.v d), st1)
  | some (.ex e, st1) => some (.ex e, ρ, st1)
  | none => none
def cOwn (i : Nat) (a : E) : C := fun ρ st => match a ρ st with
  | some (.ok d, st1) => some (.nx, ρ.set i (.o d), st1)
  | some (.ex e, st1) => some (.ex e, ρ, st1)
  | none => none
def cRet (a : E) : C := fun ρ st => match a ρ st with
  | some (.ok d, st1) => some (.rt d, ρ, st1)
  | some (.ex e, st1) => some (.ex e, ρ, st1)
  | none => none
def cExpr (a : E) : C := fun ρ st => match a ρ st with
  | some (.ok _, st1) => some (.nx, ρ, st1)
  | some (.ex e, st1) => some (.ex e, ρ, st1)
  | none => none
def cRetN : C := fun ρ st => some (.rt .non, ρ, st)
def cIf (c : E) (g h : C) : C := fun ρ st => match c ρ st with
  | some (.ok (.bl true), st1) => g ρ st1
  | some (.ok (.bl false), st1) => h ρ st1
  | some (.ex e, st1) => some (.ex e, ρ, st1)
  | _ => none
def cBrk : C := fun ρ st => some (.bk, ρ, st)
def cCont : C := fun ρ st => some (.ct, ρ, st)
def cFrz (i : Nat) : C := fun ρ st => match ρ[i]? with
  | some (.o d) => some (.nx, ρ.set i (.v d), st)
  | _ => none
def cAppend (i : Nat) (a : E) : C := fun ρ st => match ρ[i]? with
  | some (.o (.lst ds)) => (match a ρ st with
    | some (.ok d, st1) => if ds.length < sizeLine then some (.nx, ρ.set i (.o (.lst (ds ++ [d]))), st1) else none
    | some (.ex e, st1) => some (.ex e, ρ, st1)
    | none => none)
  | _ => none
def cAug (f : D → D → Option D) (i : Nat) (a : E) : C := fun ρ st => match ρ[i]? with
  | some (.v x) => (match a ρ st with
    | some (.ok y, st1) => (match f x y with
      | some z => some (.nx, ρ.set i (.v z), st1)
      | none => none)
    | some (.ex e, st1) => some (.ex e, ρ, st1)
    | none => none)
  | _ => none
section
variable {X : Cx} {W : WX} {pos : Pos} {s : Stmt} {rest : List Stmt} {G G' : C} {F : E} {e : Expr} {B : Nat → Bool}
theorem PostS.back {K : PySem.W.Frag} {q : Cq} {o o1 : Ow} {H H1 : Hp} {ρ' : Env} {st' : DS} {D : Ends} {fl : Fl} (t : Step q o H o1 H1) (k : PostS K W q o H ρ' st' D fl) : PostS K W q o1 H1 ρ' st' D fl := by
  cases fl with
  | nx => exact fun σ' H' o' I' t' => k σ' H' o' I' (t.trans t')
  | bk => exact fun σ' H' o' I' t' => k σ' H' o' I' (t.trans t')
  | ct => exact fun σ' H' o' I' t' => k σ' H' o' I' (t.trans t')
  | rt d =>
    refine fun v H' f dr rp => k v H' (fun a u e n no => ?_) dr rp
    refine f a u (t.keep a u e n no) n fun z => ?_
    rcases t.own a z with z | z
    · exact no z
    · rw [e] at z; cases z
  | ex x => exact fun dx σ' H' o' I' t' => k dx σ' H' o' I' (t.trans t')
theorem PostS.ends {K : PySem.W.Frag} {q : Cq} {o : Ow} {H : Hp} {ρ' : Env} {st' : DS} {D D' : Ends} {fl : Fl} (hn : fl ≠ .nx) (h1 : D'.rt = D.rt) (h2 : D'.bk = D.bk) (h3 : D'.ct = D.ct) (k : PostS K W q o H ρ' st' D fl) : PostS K W q o H ρ' st' D' fl := by
  cases fl with
  | nx => exact absurd rfl hn
  | bk => unfold PostS; rw [h2]; exact k
  | ct => unfold PostS; rw [h3]; exact k
  | rt d => unfold PostS; rw [h1]; exact k
  | ex x => exact k
theorem c_nil : PSs X [] (liftS X.K W cNil) := by
  refine pss_imp pss_nil fun D σ H h => ?_
  obtain ⟨q, o, ρ, st, fl, ρ', st', I, e, k⟩ := h
  cases e
  exact k σ H o I Step.refl
theorem c_one (h : PS X s (liftS X.K W G)) : PSs X [s] (liftS X.K W G) := pss_one h
theorem c_cons (h1 : PS X s (liftS X.K W G)) (h2 : PSs X rest (liftS X.K W G')) : PSs X (s :: rest) (liftS X.K W (cSeq G G')) := by
  refine pss_imp (pss_cons h1 h2) fun D σ H h => ?_
  obtain ⟨q, o, ρ, st, fl, ρ', st', I, e, k⟩ := h
  unfold cSeq at e
  split at e
  · rename_i ρ1 st1 e1
    exact ⟨q, o, ρ, st, _, ρ1, st1, I, e1, fun σ1 H1 o1 I1 t1 => ⟨q, o1, ρ1, st1, fl, ρ', st', I1, e, k.back t1⟩⟩
  · rename_i hne
    refine ⟨q, o, ρ, st, fl, ρ', st', I, e, PostS.ends (D := D) (D' := { D with nx := liftS X.K W G' D }) (fun z => ?_) rfl rfl rfl k⟩
    subst z
    exact hne _ _ e
/-- a slot frozen ahead of what follows -/
theorem c_frz (i : Nat) (h : PSs X rest (liftS X.K W G)) : PSs X rest (liftS X.K W (cSeq (cFrz i) G)) := by
  refine pss_imp h fun D σ H h => ?_
  obtain ⟨q, o, ρ, st, fl, ρ', st', I, e, k⟩ := h
  unfold cSeq cFrz at e
  cases hi : ρ[i]? with
  | none => rw [hi] at e; cases e
  | some s =>
    rw [hi] at e
    cases s with
    | no => cases e
    | v d => cases e
    | o d =>
      have t : Step q o H (dropO o i) H := ⟨fun a u h n _ => h, fun a h => .inl (drop_own h), fun a u h => ⟨u, h⟩⟩
      exact ⟨q, dropO o i, ρ.set i (.v d), st, fl, ρ', st', I.freeze hi, e, k.back t⟩
theorem c_set (i : Nat) {x : Str} {pos' : Pos} (hN : X.N.Nodup) (he : PE X e (liftE X.K B0 W F)) (hi : X.N[i]? = some x := by rfl) (hx : Loc X.env.scope x := by first | exact Or.inl rfl | exact Or.inr rfl)
    (hs : swapsWith e (some (.Name x pos')) pos.line X.env = pure false := by rfl) (hf : X.fn x = true ∨ X.env.scope.names.lookup x = some .local := by first | exact .inl rfl | exact .inr rfl | assumption) : PS X (.Assign [.Name x pos'] e pos) (liftS X.K W (cSet i F)) := by
  refine ps_imp (ps_set hN hi hx he hs hf) fun D σ H h => ?_
  obtain ⟨q, o, ρ, st, fl, ρ', st', I, e, k⟩ := h
  unfold cSet at e
  split at e
  · rename_i d st1 eF
    cases e
    exact ⟨q, o, ρ, st, _, _, I, eF, fun v H1 f1 I1 rp => k _ _ _ (I1.setV rp) (I.stepV f1 I1)⟩
  · rename_i x st1 eF
    cases e
    exact ⟨q, o, ρ, st, _, _, I, eF, fun dx H' f I' er => k dx σ H' o I' (I.step f I') er⟩
  · cases e
theorem c_own (i : Nat) {x : Str} {pos' : Pos} (hN : X.N.Nodup) (he : PE X e (liftN X.K B0 W F)) (hi : X.N[i]? = some x := by rfl) (hx : Loc X.env.scope x := by first | exact Or.inl rfl | exact Or.inr rfl)
    (hs : swapsWith e (some (.Name x pos')) pos.line X.env = pure false := by rfl) (hf : X.fn x = true ∨ X.env.scope.names.lookup x = some .local := by first | exact .inl rfl | exact .inr rfl | assumption) : PS X (.Assign [.Name x pos'] e pos) (liftS X.K W (cOwn i F)) := by
  refine ps_imp (ps_set hN hi hx he hs hf) fun D σ H h => ?_
  obtain ⟨q, o, ρ, st, fl, ρ', st', I, e, k⟩ := h
  unfold cOwn at e
  split at e
  · rename_i d st1 eF
    cases e
    exact ⟨q, o, ρ, st, _, _, I, eF, fun a H1 f1 I1 n ow => k _ _ _ (I.setO f1 I1 n ow) (I.stepO f1 I1 n)⟩
  · rename_i x st1 eF
    cases e
    exact ⟨q, o, ρ, st, _, _, I, eF, fun dx H' f I' er => k dx σ H' o I' (I.step f I') er⟩
  · cases e
theorem c_ret (he : PE X e (liftE X.K B1 W F)) : PS X (.Return (some e) pos) (liftS X.K W (cRet F)) := by
  refine ps_imp (ps_ret he) fun D σ H h => ?_
  obtain ⟨q, o, ρ, st, fl, ρ', st', I, e, k⟩ := h
  unfold cRet at e
  split at e
  · rename_i d st1 eF
    cases e
    refine ⟨q, o, ρ, st, _, _, I, eF, fun v H1 f1 I1 rp => k v H1 (fun a u e n no => f1 a u e n) I1.dr (Rp.mv (Mv.less fun a z => .inl z) _ _ rp)⟩
  · rename_i x st1 eF
    cases e
    exact ⟨q, o, ρ, st, _, _, I, eF, fun dx H' f I' er => k dx σ H' o I' (I.step f I') er⟩
  · cases e
theorem c_retN : PS X (.Return none pos) (liftS X.K W cRetN) := by
  refine ps_imp ps_retN fun D σ H h => ?_
  obtain ⟨q, o, ρ, st, fl, ρ', st', I, e, k⟩ := h
  cases e
  exact k .non H (fun a u e _ _ => e) I.dr (rp_non.mpr rfl)
theorem c_expr (he : PE X e (liftE X.K B1 W F)) (hs : swapsWith e none pos.line X.env = pure false := by rfl) : PS X (.Expr e pos) (liftS X.K W (cExpr F)) := by
  refine ps_imp (ps_expr he hs) fun D σ H h => ?_
  obtain ⟨q, o, ρ, st, fl, ρ', st', I, e, k⟩ := h
  unfold cExpr at e
  split at e
  · rename_i d st1 eF
    cases e
    exact ⟨q, o, ρ, st, _, _, I, eF, fun v H1 f1 I1 rp => k _ H1 o I1 (I.step f1 I1)⟩
  · rename_i x st1 eF
    cases e
    exact ⟨q, o, ρ, st, _, _, I, eF, fun dx H' f I' er => k dx σ H' o I' (I.step f I') er⟩
  · cases e
theorem c_if {c : Expr} {a b : List Stmt} {Fc : E} (hc : PT X c (liftT X.K W Fc)) (ha : PSs X a (liftS X.K W G)) (hb : PSs X b (liftS X.K W G')) : PS X (.If c a b pos) (liftS X.K W (cIf Fc G G')) := by
  refine ps_imp (ps_if hc ha hb) fun D σ H h => ?_
  obtain ⟨q, o, ρ, st, fl, ρ', st', I, e, k⟩ := h
  unfold cIf at e
  split at e
  · rename_i st1 eF
    refine ⟨q, o, ρ, st, _, _, I, eF, fun H1 f1 I1 => ?_⟩
    refine iteT ?_
    exact ⟨q, o, ρ, st1, fl, ρ', st', I1, e, k.back (I.step f1 I1)⟩
  · rename_i st1 eF
    refine ⟨q, o, ρ, st, _, _, I, eF, fun H1 f1 I1 => ?_⟩
    refine iteF ?_
    exact ⟨q, o, ρ, st1, fl, ρ', st', I1, e, k.back (I.step f1 I1)⟩
  · rename_i x st1 eF
    cases e
    exact ⟨q, o, ρ, st, _, _, I, eF, fun dx H' f I' er => k dx σ H' o I' (I.step f I') er⟩
  · cases e
theorem c_pass : PS X (.Pass pos) (liftS X.K W cNil) := by
  refine ps_imp ps_pass fun D σ H h => ?_
  obtain ⟨q, o, ρ, st, fl, ρ', st', I, e, k⟩ := h
  cases e
  exact k σ H o I Step.refl
theorem c_brk : PS X (.Break pos) (liftS X.K W cBrk) := by
  refine ps_imp ps_break fun D σ H h => ?_
  obtain ⟨q, o, ρ, st, fl, ρ', st', I, e, k⟩ := h
  cases e
  exact k σ H o I Step.refl
theorem c_cont : PS X (.Continue pos) (liftS X.K W cCont) := by
  refine ps_imp ps_continue fun D σ H h => ?_
  obtain ⟨q, o, ρ, st, fl, ρ', st', I, e, k⟩ := h
  cases e
  exact k σ H o I Step.refl
/-- x.append(e), x an own list -/
theorem c_append (i : Nat) (hp : PS X s (tDrop (tBM X.K "list" rAppend (tVar i) (tCons (liftE X.K B0 W F) tNil)))) : PS X s (liftS X.K W (cAppend i F)) := by
  refine ps_imp hp fun D σ H h => ?_
  obtain ⟨q, o, ρ, st, fl, ρ', st', I, e, k⟩ := h
  unfold cAppend at e
  split at e
  · rename_i ds hi
    obtain ⟨a, e1, e2, vs, ha, ra⟩ := I.sl i _ hi
    refine ⟨_, e2, .inl ⟨rfl, _, SqL.of ha⟩, ?_⟩
    split at e
    · rename_i d st1 eF
      split at e
      · rename_i hl
        cases e
        refine ⟨q, o, ρ, st, _, _, I, eF, fun v H1 f1 I1 rp => ?_⟩
        have ha1 : H1 a = some (.lst vs) := f1 a _ ha fun z => (I.ow i a e1).1 (z ▸ I.sad)
        refine ⟨a, vs, v, rfl, rfl, ha1, by rw [rpAll_length ra]; exact hl, ?_⟩
        have mv : Mv (Sx q o) H1 (Sx q o) (upd H1 a (.lst (vs ++ [v]))) := fun b w e nb => ⟨by rw [upd_ne (fun z => nb (by rw [z]; exact own_sx ⟨i, e1⟩))]; exact e, nb⟩
        refine k _ _ o (I1.write hi e1 rfl ⟨_, upd_same, RpAll.mv mv _ _ (rpAll_append (RpAll.mv (mvB f1 I.sad) _ _ ra) (rpAll_cons rp rpAll_nil))⟩) ((I.step f1 I1).trans (Step.write e1 ha1))
      · cases e
    · rename_i x st1 eF
      cases e
      exact ⟨q, o, ρ, st, _, _, I, eF, fun dx H' f I' er => k dx σ H' o I' (I.step f I') er⟩
    · cases e
  · cases e
end
end FL


set_option Elab.async false
set_option linter.all false
set_option maxRecDepth 100000
set_option maxHeartbeats 4000000
namespace FL
open PySem PySem.Spec L2
open PySem.PyData (strOk)
set_option autoImplicit false
/-! ## 13. Targets -/
abbrev T := D → Env → Option Env
abbrev Ts := List D → Env → Option Env
def tName (i : Nat) : T := fun d ρ => some (ρ.set i (.v d))
def tsNil : Ts := fun ds ρ => match ds with
  | [] => some ρ
  | _ => none
def tsCons (t : T) (u : Ts) : Ts := fun ds ρ => match ds with
  | d :: r => (match t d ρ with
    | some ρ1 => u r ρ1
    | none => none)
  | [] => none
def tTupl (n : Nat) (t : Ts) : T := fun d ρ => match d with
  | .tup ds => if ds.length = n then t ds ρ else none
  | _ => none
/-- σ' is σ but at vs -/
structure Off (vs : List Nat) (σ σ' : L2.St) (o o' : Ow) : Prop where
  len : σ'.length = σ.length
  at_ : ∀ j, j ∉ vs → σ'[j]? = σ[j]?
  ow : ∀ j, o' j = o j ∨ (j ∈ vs ∧ o' j = none)
theorem Off.refl {vs : List Nat} {σ : L2.St} {o : Ow} : Off vs σ σ o o := ⟨rfl, fun _ _ => rfl, fun _ => .inl rfl⟩
theorem Off.trans {vs ws : List Nat} {σ σ1 σ2 : L2.St} {o o1 o2 : Ow} (a : Off vs σ σ1 o o1) (b : Off ws σ1 σ2 o1 o2) : Off (vs ++ ws) σ σ2 o o2 where
  len := b.len.trans a.len
  at_ := fun j h => (b.at_ j fun z => h (List.mem_append_right _ z)).trans (a.at_ j fun z => h (List.mem_append_left _ z))
  ow := fun j => by
    rcases b.ow j with e | ⟨m, e⟩
    · rcases a.ow j with e' | ⟨m', e'⟩
      · exact .inl (e.trans e')
      · exact .inr ⟨List.mem_append_left _ m', e.trans e'⟩
    · exact .inr ⟨List.mem_append_right _ m, e⟩
def liftG (K : PySem.W.Frag) (vs : List Nat) (t : T) : TG := fun v σ H Q => ∃ q o ρ st d ρ', EnvR K q o σ H ρ st ∧ Rp K q.ad (Sx q o) H d v ∧ t d ρ = some ρ' ∧
  ∀ σ' o', EnvR K q o' σ' H ρ' st → Step q o H o' H → Off vs σ σ' o o' → Q σ' H
def liftGs (K : PySem.W.Frag) (vs : List Nat) (t : Ts) : TGs := fun ws σ H Q => ∃ q o ρ st ds ρ', EnvR K q o σ H ρ st ∧ RpAll K q.ad (Sx q o) H ds ws ∧ t ds ρ = some ρ' ∧
  ∀ σ' o', EnvR K q o' σ' H ρ' st → Step q o H o' H → Off vs σ σ' o o' → Q σ' H
theorem pg_imp {X : Cx} {e : Expr} {t t' : TG} (h : PG X e t) (k : ∀ v σ H Q, t' v σ H Q → t v σ H Q) : PG X e t' := ⟨fun pins s σ H v u Q I r q => h.run pins s σ H v u Q I r (k v σ H Q q)⟩
theorem pgs_imp {X : Cx} {e : List Expr} {t t' : TGs} (h : PGs X e t) (k : ∀ v σ H Q, t' v σ H Q → t v σ H Q) : PGs X e t' := ⟨fun pins s σ H v u Q I r q => h.run pins s σ H v u Q I r (k v σ H Q q)⟩
theorem Step.mv {q : Cq} {o o' : Ow} {H H' : Hp} (h : Step q o H o' H') (sad : q.S q.ad) : Mv (Sx q o) H (Sx q o') H' := fun a u e n => by
  refine ⟨h.keep a u e (fun z => n (.inl (z ▸ sad))) (fun z => n (own_sx z)), fun z => ?_⟩
  rcases sx_own z with z | z
  · exact n (.inl z)
  · rcases h.own a z with z | z
    · exact n (own_sx z)
    · rw [e] at z; cases z
section
variable {X : Cx} {pos : Pos}
theorem g_name (i : Nat) {x : Str} (hN : X.N.Nodup) (hi : X.N[i]? = some x := by rfl) (hx : Loc X.env.scope x := by first | exact Or.inl rfl | exact Or.inr rfl) (hf : X.fn x = true ∨ X.env.scope.names.lookup x = some .local := by first | exact .inl rfl | exact .inr rfl | assumption) :
    PG X (.Name x pos) (liftG X.K [i] (tName i)) := by
  refine pg_imp (pg_name hN hi hx hf) fun v σ H Q h => ?_
  obtain ⟨q, o, ρ, st, d, ρ', I, rp, e, k⟩ := h
  cases e
  refine k _ _ (I.setV rp) ⟨fun a u h n _ => h, fun a h => .inl (drop_own h), fun a u h => ⟨u, h⟩⟩ ⟨by rw [List.length_set], fun j hj => ?_, fun j => ?_⟩
  · rw [List.getElem?_set_ne (fun z => hj (by simp [z]))]
  · unfold dropO
    split
    · rename_i e; exact .inr ⟨by simp [e], rfl⟩
    · exact .inl rfl
theorem gs_nil : PGs X [] (liftGs X.K [] tsNil) := by
  refine pgs_imp pgs_nil fun v σ H Q h => ?_
  obtain ⟨q, o, ρ, st, ds, ρ', I, rp, e, k⟩ := h
  unfold tsNil at e
  split at e
  · cases e
    exact ⟨rpAll_nil_inv rp, k σ o I Step.refl Off.refl⟩
  · cases e
theorem gs_cons {e : Expr} {es : List Expr} {t : T} {u : Ts} {vs ws : List Nat} (h1 : PG X e (liftG X.K vs t)) (h2 : PGs X es (liftGs X.K ws u))
    (hs : (assignEach (e :: es) X.env).map (·.2) = assign e X.env :: (assignEach es X.env).map (·.2) := by rfl) : PGs X (e :: es) (liftGs X.K (vs ++ ws) (tsCons t u)) := by
  refine pgs_imp (pgs_cons h1 h2 hs) fun v σ H Q h => ?_
  obtain ⟨q, o, ρ, st, ds, ρ', I, rp, e, k⟩ := h
  unfold tsCons at e
  split at e
  · rename_i d r
    split at e
    · rename_i ρ1 e1
      obtain ⟨x, w, rfl, r1, r2⟩ := rpAll_inv rp
      refine ⟨x, w, rfl, q, o, ρ, st, d, ρ1, I, r1, e1, fun σ1 o1 I1 s1 f1 => ?_⟩
      exact ⟨q, o1, ρ1, st, r, ρ', I1, RpAll.mv (s1.mv I.sad) _ _ r2, e, fun σ2 o2 I2 s2 f2 => k σ2 o2 I2 (s1.trans s2) (f1.trans f2)⟩
    · cases e
  · cases e
theorem g_tup {es : List Expr} {kk : Nat} {t : Ts} {n : Nat} {vs : List Nat} (hc : X.calm = true) (h : PGs X es (liftGs X.K vs t))
    (hn : (assignEach es X.env).length = n := by rfl) (hst : (assignEach es X.env).findIdx? (·.1) = none := by rfl) : PG X (.Tuple es kk pos) (liftG X.K vs (tTupl n t)) := by
  refine pg_imp (pg_tup hc h hn hst) fun v σ H Q h => ?_
  obtain ⟨q, o, ρ, st, d, ρ', I, rp, e, k⟩ := h
  unfold tTupl at e
  split at e
  · rename_i ds
    split at e
    · rename_i hl
      obtain ⟨a, xs, rfl, t, r⟩ := rp_tup.mp rp
      exact ⟨a, xs, rfl, t.sq, by rw [rpAll_length r]; exact hl, q, o, ρ, st, ds, ρ', I, r, e, k⟩
    · cases e
  · cases e
end
/-- target = e -/
def cAsg (t : T) (a : E) : C := fun ρ st => match a ρ st with
  | some (.ok d, st1) => (match t d ρ with
    | some ρ1 => some (.nx, ρ1, st1)
    | none => none)
  | some (.ex e, st1) => some (.ex e, ρ, st1)
  | none => none
section
variable {X : Cx} {W : WX} {pos : Pos}
theorem c_asg {tg e : Expr} {F : E} {t : T} {vs : List Nat} (he : PE X e (liftE X.K B0 W F)) (hg : PG X tg (liftG X.K vs t)) (hs : swapsWithSole [tg] e pos.line X.env = pure false := by rfl) (hw : swappedStores [tg] e X.env = pure none := by rfl)
    (h1 : (assignEach [tg] X.env).map (·.2) = [assign tg X.env] := by rfl) : PS X (.Assign [tg] e pos) (liftS X.K W (cAsg t F)) := by
  refine ps_imp (ps_asg he hg hs hw h1) fun D σ H h => ?_
  obtain ⟨q, o, ρ, st, fl, ρ', st', I, e, k⟩ := h
  unfold cAsg at e
  split at e
  · rename_i d st1 eF
    split at e
    · rename_i ρ1 et
      cases e
      refine ⟨q, o, ρ, st, _, _, I, eF, fun v H1 f1 I1 rp => ?_⟩
      exact ⟨q, o, ρ, _, d, _, I1, rp, et, fun σ' o' I' s' _ => k σ' H1 o' I' ((I.step f1 I1).trans s')⟩
    · cases e
  · rename_i x st1 eF
    cases e
    exact ⟨q, o, ρ, st, _, _, I, eF, fun dx H' f I' er => k dx σ H' o I' (I.step f I') er⟩
  · cases e
end

/-! ## 14. What is walked -/
def iSeq (a : E) : Es := fun ρ st => match a ρ st with
  | some (.ok (.lst ds), st1) => some (.ok ds, st1)
  | some (.ok (.tup ds), st1) => some (.ok ds, st1)
  | some (.ex e, st1) => some (.ex e, st1)
  | _ => none
/-- the own list of slot i -/
def iBor (i : Nat) : Es := fun ρ st => match ρ[i]? with
  | some (.o (.lst ds)) => some (.ok ds, st)
  | _ => none
def rangeD (lo : Int) (n : Nat) : List D := (List.range n).map fun k : Nat => D.int (lo + (k : Int))
def iRng1 (a : E) : Es := fun ρ st => match a ρ st with
  | some (.ok (.int j), st1) => if (decide (-(2 ^ 62) ≤ j) && decide (j < 2 ^ 62)) = true then some (.ok (rangeD 0 j.toNat), st1) else none
  | some (.ex e, st1) => some (.ex e, st1)
  | _ => none
def iRng2 (a b : E) : Es := fun ρ st => match a ρ st with
  | some (.ok (.int i), st1) => (match b ρ st1 with
    | some (.ok (.int j), st2) => if (decide (-(2 ^ 62) ≤ i) && decide (i < 2 ^ 62) && (decide (-(2 ^ 62) ≤ j) && decide (j < 2 ^ 62))) = true then some (.ok (rangeD i (j - i).toNat), st2) else none
    | some (.ex e, st2) => some (.ex e, st2)
    | _ => none)
  | some (.ex e, st1) => some (.ex e, st1)
  | _ => none
section
variable {X : Cx} {W : WX} {pos : Pos} {tg : Expr} {F G : E}
def tSeqI (K : PySem.W.Frag) (tl : TE) : TI := fun σ H R => tl σ H fun x H1 => (∃ a, x = .ref a ∧ (∃ xs, SqL K H1 a xs) ∧ R (Itl K a) H1) ∨ (∃ a, x = .ref a ∧ (∃ xs, SqT K H1 a xs) ∧ R (Itt K a) H1)
theorem pi_seq {l : Expr} {tl : TE} (hl : PE X l tl) : PI X tg l (tSeqI X.K tl) := by
  refine ⟨fun pins s σ H R I h => ?_⟩
  refine thn (hl.run pins s σ H _ I h) fun v s1 ⟨x, H1, I1, r1, q1⟩ => ?_
  rcases q1 with ⟨a, e, ⟨xs, hq⟩, q⟩ | ⟨a, e, ⟨xs, hq⟩, q⟩
  · subst e
    cases r1
    obtain ⟨its, rv, p, hz⟩ := I1.list hq
    refine wpAny_pyIter_list p.isList ?_
    refine ⟨s1.heap.objs.size, [s1.heap.objs.size], _, _, H1, rfl, I1.kept (t' := s1.toks) fun b o e => Heap.get?_push_of_some _ e, turn_list a _, ⟨_, Heap.get?_push_size _ rfl, rfl, rfl⟩, fun b hb => ?_, q⟩
    have e : b = s1.heap.objs.size := by simpa using hb
    subst e
    exact I1.fpOk (Nat.le_refl _) (I1.hok.fresh (Nat.le_refl _))
  · subst e
    cases r1
    obtain ⟨its, rv, p, hz⟩ := I1.tuple hq
    refine wpAny_pyIter_tuple (show s1.heap.IsTuple a its.toArray from p) ?_
    refine ⟨s1.heap.objs.size, [s1.heap.objs.size], _, _, H1, rfl, I1.kept (t' := s1.toks) fun b o e => Heap.get?_push_of_some _ e, turn_tuple a _, ⟨_, Heap.get?_push_size _ rfl, rfl, rfl⟩, fun b hb => ?_, q⟩
    have e : b = s1.heap.objs.size := by simpa using hb
    subst e
    exact I1.fpOk (Nat.le_refl _) (I1.hok.fresh (Nat.le_refl _))
theorem feeds_list {K : PySem.W.Frag} {b_ : Bool} {q : Cq} {o : Ow} {H : Hp} {a : Addr} {vs : List V} {ds : List D} (h : H a = some (.lst vs)) (ha : ∀ S' H1, Mv (Sx q o) H S' H1 → (b_ = true → Fr q.ad H H1) → H1 a = some (.lst vs)) (r : RpAll K q.ad (Sx q o) H ds vs) : Feeds K b_ q o H (Itl K a) ds := by
  intro S' H1 mv fr tr i
  have h1 := ha S' H1 mv fr
  have r1 := RpAll.mv mv _ _ r
  refine ⟨fun hl => ⟨vs, SqL.of h1, by rw [rpAll_length r1]; exact hl⟩, fun d hd => ?_⟩
  obtain ⟨v, hv, rv⟩ := rpAll_get r1 hd
  refine ⟨⟨vs, v, SqL.of h1, hv⟩, fun x H2 y => ?_⟩
  obtain ⟨e, y⟩ := y
  subst e
  have := y vs (SqL.of h1)
  rw [hv] at this; cases this
  exact ⟨Same.refl _, rv⟩
theorem feeds_tup {K : PySem.W.Frag} {b_ : Bool} {q : Cq} {o : Ow} {H : Hp} {a : Addr} {vs : List V} {ds : List D} (h : TupAt K (Sx q o) H a vs) (r : RpAll K q.ad (Sx q o) H ds vs) : Feeds K b_ q o H (Itt K a) ds := by
  intro S' H1 mv fr tr i
  have h1 := h.mv mv
  have r1 := RpAll.mv mv _ _ r
  refine ⟨fun hl => ⟨vs, h1.sq, by rw [rpAll_length r1]; exact hl⟩, fun d hd => ?_⟩
  obtain ⟨v, hv, rv⟩ := rpAll_get r1 hd
  refine ⟨⟨vs, v, h1.sq, hv⟩, fun x H2 y => ?_⟩
  obtain ⟨e, y⟩ := y
  subst e
  have := y vs h1.sq
  rw [hv] at this; cases this
  exact ⟨Same.refl _, rv⟩
theorem i_seq {b_ : Bool} {l : Expr} (hl : PE X l (liftE X.K B0 W F)) : PI X tg l (liftI X.K b_ W (iSeq F)) := by
  refine pi_imp (pi_seq hl) fun σ H R h => ?_
  obtain ⟨q, o, ρ, st, rr, st', I, e, k⟩ := h
  unfold iSeq at e
  split at e
  · rename_i ds st1 eF
    cases e
    refine ⟨q, o, ρ, st, _, _, I, eF, fun v H1 f1 I1 rp => .inl ?_⟩
    obtain ⟨a, xs, rfl, t, r⟩ := rp_lst.mp rp
    exact ⟨a, rfl, ⟨xs, t.sq⟩, k _ H1 f1 I1 (feeds_list t.1 (fun S' H2 mv _ => (mv a _ t.1 t.2).1) r)⟩
  · rename_i ds st1 eF
    cases e
    refine ⟨q, o, ρ, st, _, _, I, eF, fun v H1 f1 I1 rp => .inr ?_⟩
    obtain ⟨a, xs, rfl, t, r⟩ := rp_tup.mp rp
    exact ⟨a, rfl, ⟨xs, t.sq⟩, k _ H1 f1 I1 (feeds_tup t r)⟩
  · rename_i x st1 eF
    cases e
    exact ⟨q, o, ρ, st, _, _, I, eF, k⟩
  · cases e
theorem i_bor (i : Nat) {x : Str} (hN : X.N[i]? = some x := by rfl) (hv : Vis X.env.scope x := by first | exact Or.inl rfl | exact Or.inr (Or.inl rfl) | exact Or.inr (Or.inr rfl)) (hd : (x == ("__debug__" : Str)) = false := by decide)
    (hcd : (x == ("__classdict__" : Str)) = false := by decide) : PI X tg (.Name x pos) (liftI X.K true W (iBor i)) := by
  refine pi_imp (pi_list (pe_var hN hv hd hcd)) fun σ H R h => ?_
  obtain ⟨q, o, ρ, st, rr, st', I, e, k⟩ := h
  unfold iBor at e
  split at e
  · rename_i ds hi
    cases e
    obtain ⟨a, e1, e2, vs, ha, ra⟩ := I.sl i _ hi
    refine ⟨_, e2, a, rfl, ⟨vs, SqL.of ha⟩, k _ H Fr.refl I (feeds_list ha (fun S' H1 mv fr => fr rfl a _ ha fun z => (I.ow i a e1).1 (z ▸ I.sad)) ra)⟩
  · cases e
theorem feeds_range {K : PySem.W.Frag} {b_ : Bool} {q : Cq} {o : Ow} {H : Hp} {lo : Int} {n : Nat} : Feeds K b_ q o H (Itr lo n) (rangeD lo n) := by
  intro S' H1 mv fr tr i
  unfold rangeD
  refine ⟨fun hl => (by simpa using hl : n ≤ i), fun d hd => ?_⟩
  rw [List.getElem?_map] at hd
  cases e : (List.range n)[i]? with
  | none => rw [e] at hd; cases hd
  | some j =>
    rw [e] at hd; cases hd
    obtain ⟨h1, h2⟩ := List.getElem?_eq_some_iff.mp e
    have h3 : i < n := by simpa using h1
    have h4 : j = i := by rw [← h2]; simp
    subst h4
    refine ⟨h3, fun x H2 y => ?_⟩
    obtain ⟨e1, e2⟩ := y
    subst e1
    exact ⟨Same.refl _, rp_int.mpr e2⟩
theorem i_rng1 {b_ : Bool} {a : Expr} {p : Pos} (hg : Gl X "range") (hm : X.mg "range" = none) (ha : PE X a (liftE X.K B1 W F)) (hs : starEach [a] X.env = [(false, eval a X.env)] := by rfl) (hs' : starEach [a] X.env = (false, eval a X.env) :: starEach [] X.env := by rfl) : PI X tg (.Call (.Name "range" p) [a] [] pos) (liftI X.K b_ W (iRng1 F)) := by
  refine pi_imp (pi_range1 hg hm (pa_cons ha pa_nil hs') hs) fun σ H R h => ?_
  obtain ⟨q, o, ρ, st, rr, st', I, e, k⟩ := h
  unfold iRng1 at e
  split at e
  · rename_i j st1 eF
    split at e
    · rename_i hb
      cases e
      rw [Bool.and_eq_true, decide_eq_true_eq, decide_eq_true_eq] at hb
      refine ⟨q, o, ρ, st, _, _, I, eF, fun v H1 f1 I1 rp => ⟨j, by rw [rp_int.mp rp], hb.1, hb.2, k _ H1 f1 I1 feeds_range⟩⟩
    · cases e
  · rename_i x st1 eF
    cases e
    exact ⟨q, o, ρ, st, _, _, I, eF, k⟩
  · cases e
theorem i_rng2 {b_ : Bool} {a b : Expr} {p : Pos} (hg : Gl X "range") (hm : X.mg "range" = none) (ha : PE X a (liftE X.K B1 W F)) (hb : PE X b (liftE X.K B1 W G)) (hs : starEach [a, b] X.env = [(false, eval a X.env), (false, eval b X.env)] := by rfl) (hs2 : starEach [b] X.env = [(false, eval b X.env)] := by rfl)
    (hs' : starEach [a, b] X.env = (false, eval a X.env) :: starEach [b] X.env := by rfl) (hs'' : starEach [b] X.env = (false, eval b X.env) :: starEach [] X.env := by rfl) : PI X tg (.Call (.Name "range" p) [a, b] [] pos) (liftI X.K b_ W (iRng2 F G)) := by
  refine pi_imp (pi_range2 hg hm (pa_cons ha (pa_cons hb pa_nil hs'') hs') hs hs2) fun σ H R h => ?_
  obtain ⟨q, o, ρ, st, rr, st', I, e, k⟩ := h
  unfold iRng2 at e
  split at e
  · rename_i i st1 eF
    refine ⟨q, o, ρ, st, _, _, I, eF, fun v H1 f1 I1 rp => ?_⟩
    split at e
    · rename_i j st2 eG
      split at e
      · rename_i hb
        cases e
        simp only [Bool.and_eq_true, decide_eq_true_eq] at hb
        refine ⟨q, o, ρ, st1, _, _, I1, eG, fun w H2 f2 I2 rq => ⟨i, j, by rw [rp_int.mp rp, rp_int.mp rq], ⟨hb.1.1, hb.1.2, hb.2.1, hb.2.2⟩, k _ H2 (f1.trans f2) I2 feeds_range⟩⟩
      · cases e
    · rename_i x st2 eG
      cases e
      exact ⟨q, o, ρ, st1, _, _, I1, eG, fun dx H' fr I' er => k dx H' (f1.trans fr) I' er⟩
    · cases e
  · rename_i x st1 eF
    cases e
    exact ⟨q, o, ρ, st, _, _, I, eF, k⟩
  · cases e
end

/-! ## 15. for -/
def loopF (t : T) (g : C) : List D → C
  | [], ρ, st => some (.nx, ρ, st)
  | d :: ds, ρ, st => match t d ρ with
    | none => none
    | some ρ1 => match g ρ1 st with
      | some (.nx, ρ2, st2) => loopF t g ds ρ2 st2
      | some (.ct, ρ2, st2) => loopF t g ds ρ2 st2
      | some (.bk, ρ2, st2) => some (.nx, ρ2, st2)
      | some (.rt d, ρ2, st2) => some (.rt d, ρ2, st2)
      | some (.ex x, ρ2, st2) => some (.ex x, ρ2, st2)
      | none => none
def cFor (it : Es) (t : T) (g : C) : C := fun ρ st => match it ρ st with
  | some (.ok ds, st1) => loopF t g ds ρ st1
  | some (.ex e, st1) => some (.ex e, ρ, st1)
  | none => none
theorem drop_cons {α : Type} {l : List α} {i : Nat} (h : i < l.length) : l.drop i = l[i] :: l.drop (i + 1) := List.drop_eq_getElem_cons h
theorem c_for {X : Cx} {W : WX} {pos : Pos} {tg iter : Expr} {body : List Stmt} {it : Es} {t : T} {vs : List Nat} {g : C} (hp : PassesOwn (model X.prog X.w) X.A X.env X.xe) (hc : X.calm = true) (hi : PI X tg iter (liftI X.K false W it)) (hg : PG X tg (liftG X.K vs t)) (hb : PSs X body (liftS X.K W g))
    (hs : ∀ x, foldedSetIterable iter X.env x = pure x := by intro _; rfl) : PS X (.For tg iter body [] pos) (liftS X.K W (cFor it t g)) := by
  refine ps_imp (ps_for hp hc hi hg hb hs) fun D σ H h => ?_
  obtain ⟨q, o, ρ, st, fl, ρf, stf, I, e, k⟩ := h
  unfold cFor at e
  split at e
  · rename_i ds st1 ei
    refine ⟨q, o, ρ, st, _, st1, I, ei, fun J H1 f1 I1 fd => ?_⟩
    have k1 : PostS X.K W q o H1 ρf stf D fl := k.back (I.step f1 I1)
    refine ⟨fun i m σ' H' => m = ds.length - i ∧ i ≤ ds.length ∧ ∃ o' ρ' st', EnvR X.K q o' σ' H' ρ' st' ∧ Step q o H1 o' H' ∧ loopF t g (ds.drop i) ρ' st' = some (fl, ρf, stf),
      ⟨ds.length, rfl, Nat.zero_le _, o, ρ, st1, I1, Step.refl, by simpa using e⟩, ?_⟩
    rintro i m σ' H' ⟨rfl, hle, o', ρ', st', I', s', e'⟩
    obtain ⟨fs, fi⟩ := fd (Sx q o') H' (s'.mv I.sad) (fun z => nomatch z) (fun a h => I'.trB h) i
    by_cases hlt : i < ds.length
    · refine .inr ?_
      rw [drop_cons hlt] at e'
      obtain ⟨go, yl⟩ := fi ds[i] (by simp [hlt])
      refine ⟨go, fun σ2 H2 => ∃ o2 ρ2 st2, EnvR X.K q o2 σ2 H2 ρ2 st2 ∧ Step q o H1 o2 H2 ∧ loopF t g (ds.drop (i + 1)) ρ2 st2 = some (fl, ρf, stf), ?_, ?_⟩
      · rintro σ2 H2 ⟨o2, ρ2, st2, I2, s2, e2⟩
        exact ⟨ds.length - (i + 1), by omega, rfl, hlt, o2, ρ2, st2, I2, s2, e2⟩
      · intro x H2 y
        obtain ⟨sm, rp⟩ := yl x H2 y
        unfold loopF at e'
        split at e'
        · cases e'
        · rename_i ρ1 et
          have I2 : EnvR X.K q o' σ' H2 ρ' st' := I'.same sm
          have s2 : Step q o H1 o' H2 := s'.trans (I'.step (Fr.of_same sm) I2)
          refine ⟨q, o', ρ', st', _, ρ1, I2, rp, et, fun σ3 o3 I3 s3 _ => ?_⟩
          have s3' := s2.trans s3
          split at e'
          · rename_i ρ2 st2 eg
            exact ⟨q, o3, ρ1, st', _, ρ2, st2, I3, eg, fun σ4 H4 o4 I4 s4 => ⟨o4, ρ2, st2, I4, s3'.trans s4, e'⟩⟩
          · rename_i ρ2 st2 eg
            exact ⟨q, o3, ρ1, st', _, ρ2, st2, I3, eg, fun σ4 H4 o4 I4 s4 => ⟨o4, ρ2, st2, I4, s3'.trans s4, e'⟩⟩
          · rename_i ρ2 st2 eg
            cases e'
            exact ⟨q, o3, ρ1, st', _, _, _, I3, eg, fun σ4 H4 o4 I4 s4 => k1 σ4 H4 o4 I4 (s3'.trans s4)⟩
          · rename_i d ρ2 st2 eg
            cases e'
            exact ⟨q, o3, ρ1, st', _, _, _, I3, eg, PostS.back s3' k1⟩
          · rename_i x ρ2 st2 eg
            cases e'
            exact ⟨q, o3, ρ1, st', _, _, _, I3, eg, PostS.back s3' k1⟩
          · cases e'
    · have ei : i = ds.length := by omega
      subst ei
      refine .inl ⟨fs (Nat.le_refl _), ?_⟩
      rw [List.drop_length] at e'
      cases e'
      exact k1 σ' H' o' I' s'
  · rename_i x st1 ei
    cases e
    exact ⟨q, o, ρ, st, _, _, I, ei, fun dx H' f I' er => k dx σ H' o I' (I.step f I') er⟩
  · cases e
end FL


set_option Elab.async false
set_option linter.all false
set_option maxRecDepth 100000
set_option maxHeartbeats 4000000
namespace FL
open PySem PySem.Spec L2
open PySem.PyData (strOk)
set_option autoImplicit false
/-! ## 16. List comprehensions -/
def wipeE (ρ : Env) : List Nat → Env
  | [] => ρ
  | v :: vs => (wipeE ρ vs).set v .no
def lcF (t : T) (tt el : E) (ρ0 : Env) : List D → List D → DS → Option (List D × DS)
  | [], acc, st => some (acc, st)
  | d :: ds, acc, st => match t d ρ0 with
    | none => none
    | some ρ1 => match tt ρ1 st with
      | some (.ok (.bl true), st1) => (match el ρ1 st1 with
        | some (.ok z, st2) => if acc.length < sizeLine then lcF t tt el ρ0 ds (acc ++ [z]) st2 else none
        | _ => none)
      | some (.ok (.bl false), st1) => lcF t tt el ρ0 ds acc st1
      | _ => none
def eLc (it : Es) (own : List Nat) (t : T) (tt el : E) : E := fun ρ st => match it ρ st with
  | some (.ok ds, st1) => (match lcF t tt el (wipeE ρ own) ds [] st1 with
    | some (acc, st2) => some (.ok (.lst acc), st2)
    | none => none)
  | some (.ex e, st1) => some (.ex e, st1)
  | none => none
theorem wipe_get {σ : L2.St} {j : Nat} : ∀ {vs : List Nat}, j ∉ vs → (wipe σ vs)[j]? = σ[j]?
  | [], _ => rfl
  | v :: vs, h => by
    unfold wipe
    rw [List.getElem?_set_ne (fun z => h (by simp [z]))]
    exact wipe_get fun z => h (List.mem_cons_of_mem _ z)
theorem wipe_in {σ : L2.St} {j : Nat} : ∀ {vs : List Nat}, j ∈ vs → j < σ.length → (wipe σ vs)[j]? = some none
  | [], h, _ => by cases h
  | v :: vs, h, hl => by
    unfold wipe
    by_cases e : v = j
    · subst e; exact List.getElem?_set_self (by rw [wipe_length]; exact hl)
    · rw [List.getElem?_set_ne e]
      exact wipe_in ((List.mem_cons.mp h).resolve_left (Ne.symm e)) hl
theorem wipe_wipe_off {σ σ' : L2.St} {vs : List Nat} (h1 : σ'.length = (wipe σ vs).length) (h2 : ∀ j, j ∉ vs → σ'[j]? = (wipe σ vs)[j]?) : wipe σ' vs = wipe σ vs := by
  rw [wipe_length] at h1
  refine List.ext_getElem? fun j => ?_
  by_cases e : j ∈ vs
  · by_cases hl : j < σ.length
    · rw [wipe_in e hl, wipe_in e (by rw [h1]; exact hl)]
    · rw [List.getElem?_eq_none (by rw [wipe_length, h1]; omega), List.getElem?_eq_none (by rw [wipe_length]; omega)]
  · rw [wipe_get e]; exact h2 j e
theorem wipeE_length (ρ : Env) : ∀ vs : List Nat, (wipeE ρ vs).length = ρ.length
  | [] => rfl
  | v :: vs => by unfold wipeE; rw [List.length_set, wipeE_length ρ vs]
theorem wipeE_get {ρ : Env} {j : Nat} {s : Sl} : ∀ {vs : List Nat}, (wipeE ρ vs)[j]? = some s → s = .no ∨ (ρ[j]? = some s ∧ j ∉ vs)
  | [], h => .inr ⟨h, by simp⟩
  | v :: vs, h => by
    unfold wipeE at h
    by_cases e : v = j
    · subst e
      by_cases hl : v < (wipeE ρ vs).length
      · rw [List.getElem?_set_self hl] at h; cases h; exact .inl rfl
      · rw [List.getElem?_eq_none (by simpa using hl)] at h; cases h
    · rw [List.getElem?_set_ne e] at h
      rcases wipeE_get h with h | ⟨h, n⟩
      · exact .inl h
      · exact .inr ⟨h, fun z => (List.mem_cons.mp z).elim (fun z => e z.symm) n⟩
/-- in a block: the new object at a is the block's, what the wiped slots held is nobody's -/
def Cq.blk (q : Cq) (o : Ow) (vs : List Nat) (a : Addr) : Cq := { q with S := fun b => q.S b ∨ b = a ∨ ∃ i, i ∈ vs ∧ o i = some b }
def owB (o : Ow) (vs : List Nat) : Ow := fun j => if j ∈ vs then none else o j
section
variable {K : PySem.W.Frag} {q : Cq} {o : Ow} {σ : L2.St} {H H1 : Hp} {ρ : Env} {st st1 : DS} {B : Nat → Bool} {vs : List Nat}
theorem owB_some {j : Nat} {b : Addr} (h : owB o vs j = some b) : o j = some b ∧ j ∉ vs := by
  unfold owB at h
  split at h
  · cases h
  · rename_i n; exact ⟨h, n⟩
theorem sx_blk {a b : Addr} (h : Sx (q.blk o vs a) (owB o vs) b) : Sx q o b ∨ b = a := by
  rcases sx_own h with h | ⟨i, h⟩
  · rcases h with h | h | ⟨i, _, h⟩
    · exact .inl (.inl h)
    · exact .inr h
    · exact .inl (own_sx ⟨i, h⟩)
  · exact .inl (own_sx ⟨i, (owB_some h).1⟩)
theorem sb_blk {a b : Addr} (h : Sa (Sb q B o) a b) : Sb (q.blk o vs a) B (owB o vs) b := by
  rcases h with (h | ⟨i, hb, e⟩) | h
  · exact .inl (.inl h)
  · by_cases m : i ∈ vs
    · exact .inl (.inr (.inr ⟨i, m, e⟩))
    · exact .inr ⟨i, hb, by unfold owB; rw [if_neg m]; exact e⟩
  · exact .inl (.inr (.inl h))
theorem EnvR.block (I : EnvR K q o σ H ρ st) {a : Addr} {u : HO} (n : H a = none) : EnvR K (q.blk o vs a) (owB o vs) (wipe σ vs) (upd H a u) (wipeE ρ vs) st where
  sad := .inl I.sad
  tr := fun b h => by
    rcases h with h | h | ⟨i, _, h⟩
    · obtain ⟨w, e⟩ := I.tr b h
      exact ⟨w, same_new n b w e⟩
    · subst h; exact ⟨u, upd_same⟩
    · obtain ⟨w, e, _⟩ := (I.ow i b h).2.2
      exact ⟨w, same_new n b w e⟩
  ow := fun i b h => by
    obtain ⟨h, ni⟩ := owB_some h
    obtain ⟨h1, h2, w, e, m⟩ := I.ow i b h
    refine ⟨fun z => ?_, h2, w, same_new n b w e, m⟩
    rcases z with z | z | ⟨j, hj, z⟩
    · exact h1 z
    · rw [z, n] at e; cases e
    · exact ni (I.inj _ _ _ z h ▸ hj)
  inj := fun i j b h1 h2 => I.inj i j b (owB_some h1).1 (owB_some h2).1
  dr := ⟨same_new n _ _ I.dr.1, same_new n _ _ I.dr.2.1, I.dr.2.2⟩
  len := by rw [wipeE_length, wipe_length]; exact I.len
  sl := fun i s h => by
    rcases wipeE_get h with h | ⟨h, ni⟩
    · subst h; trivial
    · have mv : Mv (Sx q o) H (Sx (q.blk o vs a) (owB o vs)) (upd H a u) := fun b w e nb => ⟨same_new n b w e, fun z => (sx_blk z).elim nb fun z => by rw [z, n] at e; cases e⟩
      have z := I.sl i s h
      cases s with
      | no => trivial
      | v d => obtain ⟨v, e, r⟩ := z; exact ⟨v, by rw [wipe_get ni]; exact e, Rp.mv mv _ _ r⟩
      | o d => obtain ⟨b, e1, e2, r⟩ := z; exact ⟨b, by unfold owB; rw [if_neg ni]; exact e1, by rw [wipe_get ni]; exact e2, r.mv mv fun w e => same_new n b w e⟩
/-- an object that nobody here leans on is written -/
theorem EnvR.writeS {a : Addr} {u : HO} (I : EnvR K q o σ H ρ st) (hs : q.S a) (h1 : a ≠ q.ad) (h2 : a ≠ q.ac) : EnvR K q o σ (upd H a u) ρ st where
  sad := I.sad
  tr := fun b h => by
    by_cases e : b = a
    · subst e; exact ⟨u, upd_same⟩
    · obtain ⟨w, hw⟩ := I.tr b h
      exact ⟨w, by rw [upd_ne e]; exact hw⟩
  ow := fun i b h => by
    obtain ⟨n1, n2, w, e, m⟩ := I.ow i b h
    exact ⟨n1, n2, w, by rw [upd_ne fun z => n1 (by rw [z]; exact hs)]; exact e, m⟩
  inj := I.inj
  dr := ⟨by rw [upd_ne (Ne.symm h1)]; exact I.dr.1, by rw [upd_ne (Ne.symm h2)]; exact I.dr.2.1, I.dr.2.2⟩
  len := I.len
  sl := fun i s h => by
    have mv : Mv (Sx q o) H (Sx q o) (upd H a u) := fun b w e nb => ⟨by rw [upd_ne fun z => nb (.inl (by rw [z]; exact hs))]; exact e, nb⟩
    exact (I.sl i s h).mv mv fun b w e1 e2 => by rw [upd_ne fun z => (I.ow i b e1).1 (by rw [z]; exact hs)]; exact e2
end
theorem t_none {X : Cx} {W : WX} : PTs X [] (liftT X.K W (eC (.bl true))) := ⟨fun pins s σ H Q I h => by
  obtain ⟨q, o, ρ, st, r, st', I', e, k⟩ := h
  cases e
  exact pts_nil.run pins s σ H Q I (k H Fr.refl I')⟩
theorem t_one {X : Cx} {W : WX} {c : Expr} {F : E} (h : PT X c (liftT X.K W F)) : PTs X [c] (liftT X.K W F) := pts_one h
theorem lift_lc {K : PySem.W.Frag} {B : Nat → Bool} {W : WX} {it : Es} {t : T} {tt el : E} {vs : List Nat} {σ : L2.St} {H : Hp} {Q : VK} (h : liftN K B W (eLc it vs t tt el) σ H Q) : tLc (liftI K true W it) (liftG K vs t) (liftT K WF tt) (liftE K B WF el) vs σ H Q := by
  obtain ⟨q, o, ρ, st, rr, stf, I, e, k⟩ := h
  unfold eLc at e
  split at e
  · rename_i ds st1 ei
    refine ⟨q, o, ρ, st, _, st1, I, ei, fun J H1 f1 I1 fd Da hD => ?_⟩
    split at e
    · rename_i res stf' el'
      cases e
      have nad : Da ≠ q.ad := fun z => by rw [z, I1.dr.1] at hD; cases hD
      have nac : Da ≠ q.ac := fun z => by rw [z, I1.dr.2.1] at hD; cases hD
      have fresh : H Da = none := fresh_back I1 f1 hD
      refine ⟨fun i m H' => m = ds.length - i ∧ i ≤ ds.length ∧ ∃ st' acc ws, EnvR K (q.blk o vs Da) (owB o vs) (wipe σ vs) H' (wipeE ρ vs) st' ∧ Fr q.ad H1 H' ∧ H' Da = some (.lst ws) ∧ RpAll K q.ad (Sa (Sb q B o) Da) H' acc ws ∧
        lcF t tt el (wipeE ρ vs) (ds.drop i) acc st' = some (res, stf),
        ⟨ds.length, rfl, Nat.zero_le _, st1, [], [], I1.block hD, Fr.of_same (same_new hD), upd_same, rpAll_nil, by simpa using el'⟩, ?_⟩
      rintro i m H' ⟨rfl, hle, st', acc, ws, I', f', hD', ra, e'⟩
      have mvD : Mv (Sx q o) H1 (Sx (q.blk o vs Da) (owB o vs)) H' := fun a u e na => by
        refine ⟨f' a u e fun z => na (.inl (z ▸ I.sad)), fun z => ?_⟩
        rcases sx_blk z with z | z
        · exact na z
        · rw [z, hD] at e; cases e
      obtain ⟨fs, fi⟩ := fd (Sx (q.blk o vs Da) (owB o vs)) H' mvD (fun _ => f') (fun a h => I'.trB h) i
      by_cases hlt : i < ds.length
      · refine .inr ?_
        rw [drop_cons hlt] at e'
        obtain ⟨go, yl⟩ := fi ds[i] (by simp [hlt])
        refine ⟨go, fun H2 => ∃ st2 acc2 ws2, EnvR K (q.blk o vs Da) (owB o vs) (wipe σ vs) H2 (wipeE ρ vs) st2 ∧ Fr q.ad H1 H2 ∧ H2 Da = some (.lst ws2) ∧ RpAll K q.ad (Sa (Sb q B o) Da) H2 acc2 ws2 ∧
          lcF t tt el (wipeE ρ vs) (ds.drop (i + 1)) acc2 st2 = some (res, stf), ?_, ?_⟩
        · rintro H2 ⟨st2, acc2, ws2, I2, f2, hD2, ra2, e2⟩
          exact ⟨ds.length - (i + 1), by omega, rfl, hlt, st2, acc2, ws2, I2, f2, hD2, ra2, e2⟩
        · intro x H2 y
          obtain ⟨sm, rp⟩ := yl x H2 y
          have I2 := I'.same sm
          have f2 : Fr q.ad H1 H2 := f'.trans (Fr.of_same sm)
          have hD2 : H2 Da = some (.lst ws) := sm _ _ hD'
          have mvS : ∀ {Ha Hb : Hp}, Fr q.ad Ha Hb → Mv (Sa (Sb q B o) Da) Ha (Sa (Sb q B o) Da) Hb := fun {Ha Hb} f a u e na => ⟨f a u e fun z => na (.inl (.inl (z ▸ I.sad))), na⟩
          have ra2 := RpAll.mv (mvS (Fr.of_same sm)) _ _ ra
          unfold lcF at e'
          split at e'
          · cases e'
          · rename_i ρ1 et
            refine ⟨q.blk o vs Da, owB o vs, _, st', _, ρ1, I2, rp, et, fun σ3 o3 I3 s3 off => ⟨wipe_wipe_off off.len off.at_, ?_⟩⟩
            have eo : o3 = owB o vs := by
              funext j
              rcases off.ow j with e | ⟨m, e⟩
              · exact e
              · rw [e]; unfold owB; rw [if_pos m]
            subst eo
            split at e'
            · rename_i st2 ett
              refine ⟨q.blk o vs Da, owB o vs, ρ1, st', _, _, I3, ett, fun H4 f4 I4 => ?_⟩
              refine iteT ?_
              split at e'
              · rename_i z st3 eel
                split at e'
                · rename_i hl
                  refine ⟨q.blk o vs Da, owB o vs, ρ1, st2, _, _, I4, eel, fun v H5 f5 I5 rp5 => ?_⟩
                  have f25 : Fr q.ad H2 H5 := f4.trans f5
                  have hD5 : H5 Da = some (.lst ws) := f25 Da _ hD2 nad
                  have J5 : EnvR K (q.blk o vs Da) (owB o vs) (wipe σ vs) H5 (wipeE ρ vs) st3 := I2.fr f25 I5.dr
                  have ra5 := RpAll.mv (mvS f25) _ _ ra2
                  have rp5' : Rp K q.ad (Sa (Sb q B o) Da) H5 z v := Rp.mv (Mv.less fun a h => sb_blk h) _ _ rp5
                  refine ⟨ws, hD5, by rw [rpAll_length ra5]; exact hl, st3, acc ++ [z], ws ++ [v], J5.writeS (.inr (.inl rfl)) nad nac, fun a u e n => ?_, upd_same, ?_, e'⟩
                  · rw [upd_ne fun q => by rw [q, hD] at e; cases e]
                    exact f25 a u (f2 a u e n) n
                  · refine RpAll.mv (fun a u e n => ⟨?_, n⟩) _ _ (rpAll_append ra5 (rpAll_cons rp5' rpAll_nil))
                    rw [upd_ne fun q => n (.inr q)]; exact e
                · cases e'
              · cases e'
            · rename_i st2 ett
              refine ⟨q.blk o vs Da, owB o vs, ρ1, st', _, _, I3, ett, fun H4 f4 I4 => ?_⟩
              refine iteF ?_
              exact ⟨st2, acc, ws, I2.fr f4 I4.dr, f2.trans f4, f4 Da _ hD2 nad, RpAll.mv (mvS f4) _ _ ra2, e'⟩
            · cases e'
      · have ei : i = ds.length := by omega
        subst ei
        refine .inl ⟨fs (Nat.le_refl _), ?_⟩
        rw [List.drop_length] at e'
        cases e'
        exact k Da H' (f1.trans f') (I1.fr f' I'.dr) fresh ⟨ws, hD', ra⟩
    · cases e
  · rename_i x st1 ei
    cases e
    exact ⟨q, o, ρ, st, _, _, I, ei, k⟩
  · cases e

section
variable {X : Cx} {B : Nat → Bool} {W : WX} {elt tg iter : Expr} {ifs : List Expr} {scope : Scope} {own : List (Str × Nat)} {pos : Pos} {it : Es} {t : T} {tt el : E} {vs : List Nat}
theorem n_lc (hvs : vs = own.map (·.2)) (hc : X.calm = true) (hN : X.N.Nodup) (hi : PI X tg iter (liftI X.K true W it)) (ok : BlkOk X.N X.env.scope scope own)
    (hg : ∀ (s : Shared) (H : Hp) (C : Addr) (cl : List (Str × Addr)) (fp : List Addr), PG (X.blk s H scope (compEnvC scope cl C X.env) fp) tg (liftG X.K vs t)) (ht : ∀ (s : Shared) (H : Hp) (C : Addr) (cl : List (Str × Addr)) (fp : List Addr), PTs (X.blk s H scope (compEnvC scope cl C X.env) fp) ifs (liftT X.K WF tt))
    (he : ∀ (s : Shared) (H : Hp) (C : Addr) (cl : List (Str × Addr)) (fp : List Addr), PE (X.blk s H scope (compEnvC scope cl C X.env) fp) elt (liftE X.K B WF el)) (hs : ∀ x, foldedSetIterable iter X.env x = pure x := by intro _; rfl) :
    PE X (.ListComp elt [⟨tg, iter, ifs, 0⟩] scope pos) (liftN X.K B W (eLc it vs t tt el)) :=
  pe_imp (pe_lc hc hN hi ok hg ht he hs) fun σ H Q h => by rw [← hvs]; exact lift_lc h
/-- y = [..] on one line, y a local: y is a new list that may change -/
theorem c_ownLc (i : Nat) {y : Str} {py spos : Pos} (hvs : vs = own.map (·.2)) (hc : X.calm = true) (hN : X.N.Nodup) (hi : PI X tg iter (liftI X.K true W it)) (ok : BlkOk X.N X.env.scope scope own)
    (hg : ∀ (s : Shared) (H : Hp) (C : Addr) (cl : List (Str × Addr)) (fp : List Addr), PG (X.blk s H scope (compEnvC scope cl C X.env) fp) tg (liftG X.K vs t)) (ht : ∀ (s : Shared) (H : Hp) (C : Addr) (cl : List (Str × Addr)) (fp : List Addr), PTs (X.blk s H scope (compEnvC scope cl C X.env) fp) ifs (liftT X.K WF tt))
    (he : ∀ (s : Shared) (H : Hp) (C : Addr) (cl : List (Str × Addr)) (fp : List Addr), PE (X.blk s H scope (compEnvC scope cl C X.env) fp) elt (liftE X.K B0 WF el)) (hs : ∀ x, foldedSetIterable iter X.env x = pure x := by intro _; rfl)
    (hsw : swapsWith (.ListComp elt [⟨tg, iter, ifs, 0⟩] scope pos) (some (.Name y py)) spos.line X.env = pure true := by exact sw_true rfl rfl rfl (by decide +kernel)) (hy : X.N[i]? = some y := by rfl) (hyl : X.env.scope.names.lookup y = some .local := by rfl) :
    PS X (.Assign [.Name y py] (.ListComp elt [⟨tg, iter, ifs, 0⟩] scope pos) spos) (liftS X.K W (cOwn i (eLc it vs t tt el))) := by
  refine ps_imp (ps_setLc hc hN hy hyl hsw hi ok hg ht he hs) fun D σ H h => ?_
  rw [← hvs]
  obtain ⟨q, o, ρ, st, fl, ρ', st', I, e, k⟩ := h
  unfold cOwn at e
  refine lift_lc (B := B0) ?_
  split at e
  · rename_i d st1 eF
    cases e
    exact ⟨q, o, ρ, st, _, _, I, eF, fun a H1 f1 I1 n ow => k _ _ _ (I.setO f1 I1 n ow) (I.stepO f1 I1 n)⟩
  · rename_i x st1 eF
    cases e
    exact ⟨q, o, ρ, st, _, _, I, eF, fun dx H' f I' er => k dx σ H' o I' (I.step f I') er⟩
  · cases e
/-- .. a value -/
theorem c_setLc (i : Nat) {y : Str} {py spos : Pos} (hvs : vs = own.map (·.2)) (hc : X.calm = true) (hN : X.N.Nodup) (hi : PI X tg iter (liftI X.K true W it)) (ok : BlkOk X.N X.env.scope scope own)
    (hg : ∀ (s : Shared) (H : Hp) (C : Addr) (cl : List (Str × Addr)) (fp : List Addr), PG (X.blk s H scope (compEnvC scope cl C X.env) fp) tg (liftG X.K vs t)) (ht : ∀ (s : Shared) (H : Hp) (C : Addr) (cl : List (Str × Addr)) (fp : List Addr), PTs (X.blk s H scope (compEnvC scope cl C X.env) fp) ifs (liftT X.K WF tt))
    (he : ∀ (s : Shared) (H : Hp) (C : Addr) (cl : List (Str × Addr)) (fp : List Addr), PE (X.blk s H scope (compEnvC scope cl C X.env) fp) elt (liftE X.K B0 WF el)) (hs : ∀ x, foldedSetIterable iter X.env x = pure x := by intro _; rfl)
    (hsw : swapsWith (.ListComp elt [⟨tg, iter, ifs, 0⟩] scope pos) (some (.Name y py)) spos.line X.env = pure true := by exact sw_true rfl rfl rfl (by decide +kernel)) (hy : X.N[i]? = some y := by rfl) (hyl : X.env.scope.names.lookup y = some .local := by rfl) :
    PS X (.Assign [.Name y py] (.ListComp elt [⟨tg, iter, ifs, 0⟩] scope pos) spos) (liftS X.K W (cSet i (eLc it vs t tt el))) := by
  refine ps_imp (ps_setLc hc hN hy hyl hsw hi ok hg ht he hs) fun D σ H h => ?_
  rw [← hvs]
  obtain ⟨q, o, ρ, st, fl, ρ', st', I, e, k⟩ := h
  unfold cSet at e
  refine lift_lc (B := B0) ?_
  split at e
  · rename_i d st1 eF
    cases e
    refine ⟨q, o, ρ, st, _, _, I, eF, fun a H1 f1 I1 n ow => k _ _ _ (I1.setV (OwnAt.rp (ow.mv (Mv.less fun b z => .inl z) fun u e => e) (I.fresh n))) (I.stepV f1 I1)⟩
  · rename_i x st1 eF
    cases e
    exact ⟨q, o, ρ, st, _, _, I, eF, fun dx H' f I' er => k dx σ H' o I' (I.step f I') er⟩
  · cases e
end
end FL


set_option Elab.async false
set_option linter.all false
set_option maxRecDepth 100000
set_option maxHeartbeats 4000000
namespace FL
open PySem PySem.Spec L2
open PySem.PyData (strOk)
set_option autoImplicit false
/-! ## 17. Defs -/
abbrev Fn := List D → DS → Option (R × DS)
def PostF (K : PySem.W.Frag) (q : Cq) (H : Hp) (st' : DS) (Q : VK) (E : XK) : R → Prop
  | .ok d => ∀ v H', Fr q.ad H H' → DrawAt q H' st' → Rp K q.ad q.S H' d v → Q v H'
  | .ex x => ∀ dx H', Fr q.ad H H' → DrawAt q H' st' → ExR K q.ad q.S H' x dx → E (.ref x.cls) (some dx) H'
/-- a def that computes F: n parameters -/
def spD (K : PySem.W.Frag) (n : Nat) (F : Fn) : Sp := fun vs H Q E => ∃ q ds st r st', q.S q.ad ∧ (∀ a, q.S a → ∃ u, H a = some u) ∧ DrawAt q H st ∧ ds.length = n ∧ RpAll K q.ad q.S H ds vs ∧ F ds st = some (r, st') ∧ PostF K q H st' Q E r
def fnBody (n N : Nat) (G : C) : Fn := fun ds st => if ds.length = n then (match G (ds.map Sl.v ++ List.replicate (N - n) Sl.no) st with
  | some (.rt d, _, st1) => some (.ok d, st1)
  | some (.nx, _, st1) => some (.ok .non, st1)
  | some (.ex x, _, st1) => some (.ex x, st1)
  | _ => none) else none
def eCall (n : Nat) (F : Fn) (a : Es) : E := fun ρ st => match a ρ st with
  | some (.ok ds, st1) => if ds.length = n then F ds st1 else none
  | some (.ex e, st1) => some (.ex e, st1)
  | none => none
section
variable {P : Program} {w : World} {K : PySem.W.Frag} {mg : Str → Option Value} {base : Heap}
theorem envR_start {q : Cq} {H : Hp} {ds : List D} {vs : List V} {st : DS} {N : List Str} (h1 : q.S q.ad) (h2 : ∀ a, q.S a → ∃ u, H a = some u) (h3 : DrawAt q H st) (r : RpAll K q.ad q.S H ds vs) : EnvR K q (fun _ => none) (L2.start N vs) H (ds.map Sl.v ++ List.replicate (N.length - ds.length) Sl.no) st where
  sad := h1
  tr := h2
  ow := fun i a h => by cases h
  inj := fun i j a h => by cases h
  dr := h3
  len := by
    unfold L2.start
    simp [rpAll_length r]
  sl := fun i s h => by
    have hl := rpAll_length r
    by_cases hi : i < ds.length
    · rw [List.getElem?_append_left (by simpa using hi), List.getElem?_map] at h
      cases e : ds[i]? with
      | none => rw [e] at h; cases h
      | some d =>
        rw [e] at h; cases h
        obtain ⟨v, hv, rv⟩ := rpAll_get r e
        refine ⟨v, ?_, Rp.mv (Mv.less fun a z => ?_) _ _ rv⟩
        · unfold L2.start
          rw [List.getElem?_append_left (by simpa [hl] using hi), List.getElem?_map, hv]
          rfl
        · rcases z with z | ⟨j, _, z⟩
          · exact z
          · cases z
    · rw [List.getElem?_append_right (by simpa using hi), List.getElem?_replicate] at h
      split at h
      · cases h; trivial
      · cases h
/-- THE RULE for a def -/
theorem fn_mk {x qual : Str} {st : Stmt} {f : Addr} {fd : FuncData} {N ps : List Str} {k : Nat} {G : C} (F : Fun K x qual st f fd) (S : FnScope N ps (defScope st))
    (hbody : ∀ (cdv : Value) (A : Around) (outer : List PySem.Env) (s : Shared) (H : Hp) (E : XK), Room k (A.deeper (PyProof.Rows.envOfC qual (defScope st) s.heap.objs.size f cdv)) →
      PSs (cxOf (L2.CX P w) P w K mg base N qual (defScope st) f cdv A outer s H E) (defBody st) (liftS K (fun cls d _ H' => E cls d H') G)) :
    FnOk P w K mg base (L2.CX P w) (k + 1) f fd ps (spD K ps.length (fnBody ps.length N.length G)) := by
  refine F.okX S (fun vs H Q E h => ?_) (fun cdv A outer s H vs Q E hr h => ?_)
  · obtain ⟨q, ds, st, r, st', _, _, _, hl, rp, _⟩ := h
    rw [rpAll_length rp, hl]
  · obtain ⟨q, ds, st0, r, st', h1, h2, h3, hl, rp, e, k⟩ := h
    refine ⟨_, hbody cdv A outer s H E hr, ?_⟩
    have I := envR_start (N := N) h1 h2 h3 rp
    unfold fnBody at e
    rw [if_pos hl] at e
    rw [← hl] at e
    split at e
    · rename_i d ρ1 st1 eg
      cases e
      exact ⟨q, _, _, st0, _, ρ1, _, I, eg, fun v H' f dr rp => k v H' (fun a u e n => f a u e n fun z => by obtain ⟨i, z⟩ := z; cases z) dr rp⟩
    · rename_i ρ1 st1 eg
      cases e
      refine ⟨q, _, _, st0, _, ρ1, _, I, eg, fun σ' H' o' I' s' => k .non H' (fun a u e n => s'.keep a u e n fun z => by obtain ⟨i, z⟩ := z; cases z) I'.dr (rp_non.mpr rfl)⟩
    · rename_i x ρ1 st1 eg
      cases e
      exact ⟨q, _, _, st0, _, ρ1, _, I, eg, fun dx σ' H' o' I' s' er => k dx H' (fun a u e n => s'.keep a u e n fun z => by obtain ⟨i, z⟩ := z; cases z) I'.dr er⟩
    · cases e
end
section
variable {X : Cx} {B : Nat → Bool} {W : WX} {pos p : Pos} {e : Expr} {es : List Expr} {Fs : Es} {x : Str} {f : Addr} {fd : FuncData} {ps : List Str} {k n : Nat} {F : Fn}
theorem e_call (G : FnOk X.prog X.w X.K X.mg X.base (L2.CX X.prog X.w) k f fd ps (spD X.K n F)) (hr : Room k X.A) (hm : X.mg x = some (.ref f)) (hk : PySem.W.keepIn X.K (.ref f) = true) (hb : Binds X.K fd ps []) (tk : Takes X W)
    (ha : PA X (e :: es) (liftA X.K B W Fs)) (hg : Gl X x := by rfl) (hdb : (x == ("__debug__" : Str)) = false := by decide) (he : starEach (e :: es) X.env = (false, eval e X.env) :: starEach es X.env := by rfl) (hpl : (backTo pos (starEach es X.env)).any (·.1) = false := by rfl) :
    PE X (.Call (.Name x p) (e :: es) [] pos) (liftE X.K B W (eCall n F Fs)) := by
  refine pe_imp (pe_callS G hr hg hm hk hb (fun σ => passAt tk σ) ha hdb he hpl) fun σ H Q h => ?_
  obtain ⟨q, o, ρ, st, rr, st', I, e, k⟩ := h
  unfold eCall at e
  split at e
  · rename_i ds st1 ea
    refine ⟨q, o, ρ, st, _, st1, I, ea, fun vs H1 f1 I1 rp => ?_⟩
    split at e
    · rename_i hl
      refine ⟨⟨q.ad, q.ac, Sb q B o⟩, ds, st1, rr, st', .inl I.sad, fun a h => I1.trB h, I1.dr, hl, rp, e, ?_⟩
      cases rr with
      | ok d => exact fun v H' f2 dr rd => k v H' (f1.trans f2) (I1.fr f2 dr) rd
      | ex x =>
        refine fun dx H' f2 dr er => k dx H' (f1.trans f2) (I1.fr f2 dr) ?_
        obtain ⟨fs, h1, h2, h3⟩ := er
        have go : ∀ (ds : List (Str × D)) (ys : List (Str × V)), RpF X.K q.ad (Sb q B o) H' ds ys → RpF X.K q.ad q.S H' ds ys := by
          intro ds
          induction ds with
          | nil => exact fun ys h => h
          | cons p ds ih =>
            obtain ⟨k, d⟩ := p
            rintro ys ⟨v, r, rfl, a, b⟩
            exact ⟨v, r, rfl, Rp.mv (Mv.less fun a z => .inl z) _ _ a, ih r b⟩
        exact ⟨fs, h1, fun z => h2 (.inl z), go _ _ h3⟩
    · cases e
  · rename_i x st1 ea
    cases e
    exact ⟨q, o, ρ, st, _, _, I, ea, k⟩
  · cases e
end
/-! ## 18. Dicts with int and text keys -/
def D.key : D → Option Key
  | .int i => some (.inl i)
  | .str x => some (.inr x)
  | _ => none
theorem rp_key {K : PySem.W.Frag} {ad : Addr} {S : Addr → Prop} {H : Hp} {d : D} {v : V} {k : Key} (r : Rp K ad S H d v) (h : d.key = some k) : v = kV k := by
  cases d with
  | int i => cases h; exact rp_int.mp r
  | str x => cases h; exact (rp_str.mp r).1
  | _ => cases h
section
variable {K : PySem.W.Frag} {ad : Addr} {S S' : Addr → Prop} {H : Hp}
def valD (kvs : List (Key × D)) (k : Key) : Option D := (kvs.find? fun kv => decide (kv.1 = k)).map (·.2)
def putD (kvs : List (Key × D)) (k : Key) (v : D) : List (Key × D) :=
  if (kvs.any fun kv => decide (kv.1 = k)) = true then kvs.map (fun kv => if kv.1 = k then (kv.1, v) else kv) else kvs ++ [(k, v)]
def dropD (kvs : List (Key × D)) (k : Key) : List (Key × D) := kvs.filter fun kv => decide (kv.1 ≠ k)
theorem rpKV_nil : RpKV K ad S H [] [] := by unfold RpKV; rfl
theorem rpKV_nil_inv {ys : List (Key × V)} (h : RpKV K ad S H [] ys) : ys = [] := by unfold RpKV at h; exact h
theorem rpKV_cons {k : Key} {d : D} {v : V} {ds : List (Key × D)} {ys : List (Key × V)} (h : Rp K ad S H d v) (r : RpKV K ad S H ds ys) : RpKV K ad S H ((k, d) :: ds) ((k, v) :: ys) := by
  unfold RpKV; exact ⟨v, ys, rfl, h, r⟩
theorem rpKV_inv {p : Key × D} {ds : List (Key × D)} {ys : List (Key × V)} (h : RpKV K ad S H (p :: ds) ys) : ∃ v r, ys = (p.1, v) :: r ∧ Rp K ad S H p.2 v ∧ RpKV K ad S H ds r := by
  obtain ⟨k, d⟩ := p
  unfold RpKV at h; exact h
theorem rpKV_any {k : Key} : ∀ {ds : List (Key × D)} {ys : List (Key × V)}, RpKV K ad S H ds ys → (ys.any fun kv => decide (kv.1 = k)) = (ds.any fun kv => decide (kv.1 = k))
  | [], ys, h => by rw [rpKV_nil_inv h]; rfl
  | p :: ds, ys, h => by
    obtain ⟨v, r, rfl, _, q⟩ := rpKV_inv h
    rw [List.any_cons, List.any_cons, rpKV_any q]
theorem rpKV_val {k : Key} : ∀ {ds : List (Key × D)} {ys : List (Key × V)}, RpKV K ad S H ds ys → (valD ds k = none ∧ valV ys k = none) ∨ ∃ d v, valD ds k = some d ∧ valV ys k = some v ∧ Rp K ad S H d v
  | [], ys, h => by rw [rpKV_nil_inv h]; exact .inl ⟨rfl, rfl⟩
  | p :: ds, ys, h => by
    obtain ⟨v, r, rfl, hv, q⟩ := rpKV_inv h
    by_cases e : p.1 = k
    · refine .inr ⟨p.2, v, by simp [valD, List.find?_cons, e], by simp [valV, List.find?_cons, e], hv⟩
    · rcases rpKV_val (k := k) q with ⟨a, b⟩ | ⟨d, w, a, b, c⟩
      · refine .inl ⟨?_, ?_⟩
        · unfold valD at a ⊢; rw [List.find?_cons_of_neg (by simpa using e)]; exact a
        · unfold valV at b ⊢; rw [List.find?_cons_of_neg (by simpa using e)]; exact b
      · refine .inr ⟨d, w, ?_, ?_, c⟩
        · unfold valD at a ⊢; rw [List.find?_cons_of_neg (by simpa using e)]; exact a
        · unfold valV at b ⊢; rw [List.find?_cons_of_neg (by simpa using e)]; exact b
theorem rpKV_map {k : Key} {d : D} {v : V} (hv : Rp K ad S H d v) : ∀ {ds : List (Key × D)} {ys : List (Key × V)}, RpKV K ad S H ds ys → RpKV K ad S H (ds.map fun kv => if kv.1 = k then (kv.1, d) else kv) (ys.map fun kv => if kv.1 = k then (kv.1, v) else kv)
  | [], ys, h => by rw [rpKV_nil_inv h]; exact rpKV_nil
  | p :: ds, ys, h => by
    obtain ⟨w, r, rfl, hw, q⟩ := rpKV_inv h
    rw [List.map_cons, List.map_cons]
    by_cases e : p.1 = k
    · rw [if_pos e, if_pos e]; exact rpKV_cons hv (rpKV_map hv q)
    · rw [if_neg e, if_neg e]; exact rpKV_cons hw (rpKV_map hv q)
theorem rpKV_app {k : Key} {d : D} {v : V} (hv : Rp K ad S H d v) : ∀ {ds : List (Key × D)} {ys : List (Key × V)}, RpKV K ad S H ds ys → RpKV K ad S H (ds ++ [(k, d)]) (ys ++ [(k, v)])
  | [], ys, h => by rw [rpKV_nil_inv h]; exact rpKV_cons hv rpKV_nil
  | p :: ds, ys, h => by
    obtain ⟨w, r, rfl, hw, q⟩ := rpKV_inv h
    exact rpKV_cons hw (rpKV_app hv q)
theorem rpKV_put {k : Key} {d : D} {v : V} {ds : List (Key × D)} {ys : List (Key × V)} (hv : Rp K ad S H d v) (r : RpKV K ad S H ds ys) : RpKV K ad S H (putD ds k d) (putK ys k v) := by
  unfold putD putK
  rw [rpKV_any r]
  split
  · exact rpKV_map hv r
  · exact rpKV_app hv r
theorem rpKV_drop {k : Key} : ∀ {ds : List (Key × D)} {ys : List (Key × V)}, RpKV K ad S H ds ys → RpKV K ad S H (dropD ds k) (dropK ys k)
  | [], ys, h => by rw [rpKV_nil_inv h]; exact rpKV_nil
  | p :: ds, ys, h => by
    obtain ⟨w, r, rfl, hw, q⟩ := rpKV_inv h
    have ih := rpKV_drop (k := k) q
    unfold dropD dropK at ih ⊢
    by_cases e : p.1 = k
    · rw [List.filter_cons_of_neg (by simp [e]), List.filter_cons_of_neg (by simp [e])]; exact ih
    · rw [List.filter_cons_of_pos (by simp [e]), List.filter_cons_of_pos (by simp [e])]; exact rpKV_cons hw ih
end
/-! d[k] -/
def rDG : R2 := fun x y H Q => ∃ a v, x = .ref a ∧ DGet H a y (some v) ∧ Q v H
theorem ix_dict {X : Cx} (hu : X.A.units + 1 < cLine) : IxR X rDG := by
  intro value slice pins s σ H x y v u Q I rx ry h hs
  obtain ⟨a, z, rfl, g, q⟩ := h
  cases rx
  exact PyProof.Rows.tail_any (dict_typeIs I g) PySem.F.slot_dict_getitem.lookup (d_getItem hu I g ry fun w' s3 I3 rw' => ⟨z, H, I3, rw', q⟩) hs
def dIxD : D → D → Option D
  | .dic kvs, y => (match y.key with
    | some k => valD kvs k
    | none => none)
  | _, _ => none
theorem opD_ixD {K : PySem.W.Frag} : OpD K rDG dIxD := by
  intro ad S H d e z x y Q tr rx ry h k
  unfold dIxD at h
  split at h
  · rename_i kvs
    split at h
    · rename_i kk hk
      obtain ⟨a, ys, rfl, ha, n, r⟩ := rp_dic.mp rx
      rcases rpKV_val (k := kk) r with ⟨e1, _⟩ | ⟨d', v, e1, e2, rv⟩
      · rw [e1] at h; cases h
      · rw [e1] at h; cases h
        refine ⟨a, v, rfl, ?_, k v H (Same.refl H) rv⟩
        rw [rp_key ry hk, ← e2]
        exact DGet.k ha
    · cases h
  · cases h
theorem IxR.or {X : Cx} {r r' : R2} (h : IxR X r) (h' : IxR X r') : IxR X (fun x y H Q => r x y H Q ∨ r' x y H Q) := by
  intro value slice pins s σ H x y v u Q I rx ry q hs
  rcases q with q | q
  · exact h value slice pins s σ H x y v u Q I rx ry q hs
  · exact h' value slice pins s σ H x y v u Q I rx ry q hs
/-- a[i] of a list, a tuple, a text, a dict -/
def dAt : D → D → Option D := dOr dIx dIxD
theorem opD_at {K : PySem.W.Frag} : OpD K (fun x y H Q => rIx K x y H Q ∨ rDG x y H Q) dAt := OpD.or opD_ix opD_ixD
theorem ix_at {X : Cx} (hu : X.A.units + 1 < cLine) : IxR X (fun x y H Q => rIx X.K x y H Q ∨ rDG x y H Q) := IxR.or ix_seq (ix_dict hu)
/-! k in d; x in a list or tuple of flat things; a text in a text -/
def rDI (neg : Bool) : R2 := fun x y H Q => ∃ a o, y = .ref a ∧ DGet H a x o ∧ Q (.bl (if neg then !o.isSome else o.isSome)) H
theorem op_inDic {X : Cx} (hu : X.A.units + 1 < cLine) : OpR X (compareOp .In) (rDI false) := by
  intro pins s σ H x y v u Q I rx ry h
  obtain ⟨a, o, rfl, g, q⟩ := h
  cases ry
  exact d_in hu I g rx fun s3 I3 => ⟨.bl _, H, I3, rfl, q⟩
theorem op_notInDic {X : Cx} (hu : X.A.units + 1 < cLine) : OpR X (compareOp .NotIn) (rDI true) := by
  intro pins s σ H x y v u Q I rx ry h
  obtain ⟨a, o, rfl, g, q⟩ := h
  cases ry
  exact d_notIn hu I g rx fun s3 I3 => ⟨.bl _, H, I3, rfl, q⟩
def dInDic (neg : Bool) : D → D → Option D
  | x, .dic kvs => (match x.key with
    | some k => some (.bl (if neg then !(valD kvs k).isSome else (valD kvs k).isSome))
    | none => none)
  | _, _ => none
theorem opD_inDic {K : PySem.W.Frag} {neg : Bool} : OpD K (rDI neg) (dInDic neg) := by
  intro ad S H d e z x y Q tr rx ry h k
  unfold dInDic at h
  split at h
  · rename_i kvs
    split at h
    · rename_i kk hk
      obtain ⟨a, ys, rfl, ha, n, r⟩ := rp_dic.mp ry
      cases h
      refine ⟨a, valV ys kk, rfl, ?_, ?_⟩
      · rw [rp_key rx hk]; exact DGet.k ha
      · rcases rpKV_val (k := kk) r with ⟨e1, e2⟩ | ⟨d', v, e1, e2, rv⟩
        · rw [e1] at k; rw [e2]; exact k _ H (Same.refl H) (rp_bl.mpr rfl)
        · rw [e1] at k; rw [e2]; exact k _ H (Same.refl H) (rp_bl.mpr rfl)
    · cases h
  · cases h
/-- flat data -/
def D.flat : D → Bool
  | .non | .bl _ | .int _ | .str _ => true
  | _ => false
theorem rp_flat {K : PySem.W.Frag} {ad : Addr} {S : Addr → Prop} {H : Hp} {d : D} {v : V} (r : Rp K ad S H d v) (h : d.flat = true) : flatV v = true := by
  cases d with
  | non => rw [rp_non.mp r]; rfl
  | bl b => rw [rp_bl.mp r]; rfl
  | int i => rw [rp_int.mp r]; rfl
  | str x => rw [(rp_str.mp r).1]; rfl
  | _ => cases h
theorem rpAll_flat {K : PySem.W.Frag} {ad : Addr} {S : Addr → Prop} {H : Hp} : ∀ {ds : List D} {vs : List V}, RpAll K ad S H ds vs → ds.all D.flat = true → vs.all flatV = true
  | [], vs, h, _ => by rw [rpAll_nil_inv h]; rfl
  | d :: ds, vs, h, f => by
    obtain ⟨v, r, rfl, h1, h2⟩ := rpAll_inv h
    rw [List.all_cons, Bool.and_eq_true] at f ⊢
    exact ⟨rp_flat h1 f.1, rpAll_flat h2 f.2⟩
theorem eqV_eqv {K : PySem.W.Frag} {ad : Addr} {S : Addr → Prop} {H : Hp} {d e : D} {v w : V} (r : Rp K ad S H d v) (r' : Rp K ad S H e w) (h : d.flat = true) (h' : e.flat = true) : eqV v w = D.eqv d e := by
  cases d with
  | non =>
    rw [rp_non.mp r]
    cases e with
    | non => rw [rp_non.mp r']; rfl
    | bl b => rw [rp_bl.mp r']; rfl
    | int i => rw [rp_int.mp r']; rfl
    | str x => rw [(rp_str.mp r').1]; rfl
    | _ => cases h'
  | bl b =>
    rw [rp_bl.mp r]
    cases e with
    | non => rw [rp_non.mp r']; rfl
    | bl b => rw [rp_bl.mp r']; rfl
    | int i => rw [rp_int.mp r']; rfl
    | str x => rw [(rp_str.mp r').1]; rfl
    | _ => cases h'
  | int i =>
    rw [rp_int.mp r]
    cases e with
    | non => rw [rp_non.mp r']; rfl
    | bl b => rw [rp_bl.mp r']; rfl
    | int i => rw [rp_int.mp r']; rfl
    | str x => rw [(rp_str.mp r').1]; rfl
    | _ => cases h'
  | str x =>
    rw [(rp_str.mp r).1]
    cases e with
    | non => rw [rp_non.mp r']; rfl
    | bl b => rw [rp_bl.mp r']; rfl
    | int i => rw [rp_int.mp r']; rfl
    | str x => rw [(rp_str.mp r').1]; rfl
    | _ => cases h'
  | _ => cases h
theorem inV_any {K : PySem.W.Frag} {ad : Addr} {S : Addr → Prop} {H : Hp} {d : D} {v : V} (r : Rp K ad S H d v) (h : d.flat = true) : ∀ {ds : List D} {vs : List V}, RpAll K ad S H ds vs → ds.all D.flat = true → inV v vs = ds.any fun z => D.eqv z d
  | [], vs, h', _ => by rw [rpAll_nil_inv h']; rfl
  | e :: ds, vs, h', f => by
    obtain ⟨w, r', rfl, h1, h2⟩ := rpAll_inv h'
    rw [List.all_cons, Bool.and_eq_true] at f
    unfold inV
    rw [List.any_cons, List.any_cons, eqV_eqv h1 r f.1 h]
    have := inV_any r h h2 f.2
    unfold inV at this
    rw [this]
def dInSeq (neg : Bool) : D → D → Option D
  | x, .lst ds => if (x.flat && ds.all D.flat) = true then some (.bl (if neg then !(ds.any fun z => D.eqv z x) else ds.any fun z => D.eqv z x)) else none
  | x, .tup ds => if (x.flat && ds.all D.flat) = true then some (.bl (if neg then !(ds.any fun z => D.eqv z x) else ds.any fun z => D.eqv z x)) else none
  | _, _ => none
theorem opD_inSeq {K : PySem.W.Frag} {neg : Bool} : OpD K (rIn K neg) (dInSeq neg) := by
  intro ad S H d e z x y Q tr rx ry h k
  unfold dInSeq at h
  split at h
  · split at h
    · rename_i hf
      rw [Bool.and_eq_true] at hf
      cases h
      obtain ⟨a, ys, rfl, t, r⟩ := rp_lst.mp ry
      refine ⟨a, ys, rfl, .inl t.sq, rp_flat rx hf.1, rpAll_flat r hf.2, ?_⟩
      rw [inV_any rx hf.1 r hf.2]
      exact k _ H (Same.refl H) (rp_bl.mpr rfl)
    · cases h
  · split at h
    · rename_i hf
      rw [Bool.and_eq_true] at hf
      cases h
      obtain ⟨a, ys, rfl, t, r⟩ := rp_tup.mp ry
      refine ⟨a, ys, rfl, .inr t.sq, rp_flat rx hf.1, rpAll_flat r hf.2, ?_⟩
      rw [inV_any rx hf.1 r hf.2]
      exact k _ H (Same.refl H) (rp_bl.mpr rfl)
    · cases h
  · cases h
def dIn : D → D → Option D := dOr (dInDic false) (dInSeq false)
def dNotIn : D → D → Option D := dOr (dInDic true) (dInSeq true)
theorem opD_in {K : PySem.W.Frag} : OpD K (fun x y H Q => rDI false x y H Q ∨ rIn K false x y H Q) dIn := OpD.or opD_inDic opD_inSeq
theorem opD_notIn {K : PySem.W.Frag} : OpD K (fun x y H Q => rDI true x y H Q ∨ rIn K true x y H Q) dNotIn := OpD.or opD_inDic opD_inSeq
theorem opR_in {X : Cx} (hu : X.A.units + 1 < cLine) : OpR X (compareOp .In) (fun x y H Q => rDI false x y H Q ∨ rIn X.K false x y H Q) := OpR.or (op_inDic hu) op_in_seq
theorem opR_notIn {X : Cx} (hu : X.A.units + 1 < cLine) : OpR X (compareOp .NotIn) (fun x y H Q => rDI true x y H Q ∨ rIn X.K true x y H Q) := OpR.or (op_notInDic hu) op_notIn_seq
end FL


set_option Elab.async false
set_option linter.all false
set_option maxRecDepth 100000
set_option maxHeartbeats 4000000
namespace FL
open PySem PySem.Spec L2
open PySem.PyData (strOk)
set_option autoImplicit false
/-! d.get(k), d.get(k, x) -/
def eGet1 (a b : E) : E := fun ρ st => match a ρ st with
  | some (.ok (.dic kvs), st1) => (match b ρ st1 with
    | some (.ok y, st2) => (match y.key with
      | some k => some (.ok ((valD kvs k).getD .non), st2)
      | none => none)
    | some (.ex e, st2) => some (.ex e, st2)
    | none => none)
  | some (.ex e, st1) => some (.ex e, st1)
  | _ => none
def eGet2 (a b c : E) : E := fun ρ st => match a ρ st with
  | some (.ok (.dic kvs), st1) => (match b ρ st1 with
    | some (.ok y, st2) => (match c ρ st2 with
      | some (.ok z, st3) => (match y.key with
        | some k => some (.ok ((valD kvs k).getD z), st3)
        | none => none)
      | some (.ex e, st3) => some (.ex e, st3)
      | none => none)
    | some (.ex e, st2) => some (.ex e, st2)
    | none => none)
  | some (.ex e, st1) => some (.ex e, st1)
  | _ => none
section
variable {X : Cx} {B : Nat → Bool} {W : WX} {apos cpos : Pos} {o e f : Expr} {F G K' : E}
theorem e_get1 (hu : X.A.units + 1 < cLine) (ho : PE X o (liftE X.K B W F)) (he : PE X e (liftE X.K B W G)) (m : M1 X o "get" apos e cpos := by exact ⟨rfl, by rfl, by rfl, rfl⟩) : PE X (.Call (.Attribute o "get" apos) [e] [] cpos) (liftE X.K B W (eGet1 F G)) := by
  refine pe_imp (pe_dget1 hu ho he m) fun σ H Q h => ?_
  obtain ⟨q, o, ρ, st, rr, st', I, e, k⟩ := h
  unfold eGet1 at e
  split at e
  · rename_i kvs st1 eF
    refine ⟨q, o, ρ, st, _, st1, I, eF, fun v H1 f1 I1 rp => ?_⟩
    obtain ⟨a, ys, rfl, ha, n, r⟩ := rp_dic.mp rp
    refine ⟨a, rfl, .inl ⟨ys, .inl ha⟩, ?_⟩
    split at e
    · rename_i y st2 eG
      split at e
      · rename_i kk hk
        cases e
        refine ⟨q, o, ρ, _, _, _, I1, eG, fun w H2 f2 I2 rq => ?_⟩
        have ha2 : H2 a = some (.dK ys) := f2 a _ ha fun z => n (.inl (z ▸ I.sad))
        refine ⟨valV ys kk, ?_, ?_⟩
        · rw [rp_key rq hk]; exact DGet.k ha2
        · have r2 := RpKV.mv (mvB f2 I.sad) _ _ r
          rcases rpKV_val (k := kk) r2 with ⟨e1, e2⟩ | ⟨d', v, e1, e2, rv⟩
          · rw [e1] at k; rw [e2]; exact k _ H2 (f1.trans f2) I2 (rp_non.mpr rfl)
          · rw [e1] at k; rw [e2]; exact k _ H2 (f1.trans f2) I2 rv
      · cases e
    · rename_i x st2 eG
      cases e
      exact ⟨q, o, ρ, _, _, _, I1, eG, fun dx H' fr I' er => k dx H' (f1.trans fr) I' er⟩
    · cases e
  · rename_i x st1 eF
    cases e
    exact ⟨q, o, ρ, st, _, _, I, eF, k⟩
  · cases e
theorem e_get2 (hu : X.A.units + 1 < cLine) (ho : PE X o (liftE X.K B W F)) (he : PE X e (liftE X.K B W G)) (hf : PE X f (liftE X.K B W K')) (m : M2 X o "get" apos e f cpos := by exact ⟨rfl, by rfl, by rfl, rfl⟩) : PE X (.Call (.Attribute o "get" apos) [e, f] [] cpos) (liftE X.K B W (eGet2 F G K')) := by
  refine pe_imp (pe_dget2 hu ho he hf m) fun σ H Q h => ?_
  obtain ⟨q, o, ρ, st, rr, st', I, e, k⟩ := h
  unfold eGet2 at e
  split at e
  · rename_i kvs st1 eF
    refine ⟨q, o, ρ, st, _, st1, I, eF, fun v H1 f1 I1 rp => ?_⟩
    obtain ⟨a, ys, rfl, ha, n, r⟩ := rp_dic.mp rp
    refine ⟨a, rfl, .inl ⟨ys, .inl ha⟩, ?_⟩
    split at e
    · rename_i y st2 eG
      refine ⟨q, o, ρ, _, _, _, I1, eG, fun w H2 f2 I2 rq => ?_⟩
      split at e
      · rename_i z st3 eK
        split at e
        · rename_i kk hk
          cases e
          refine ⟨q, o, ρ, _, _, _, I2, eK, fun w3 H3 f3 I3 r3 => ?_⟩
          have f23 := f2.trans f3
          have ha3 : H3 a = some (.dK ys) := f23 a _ ha fun z => n (.inl (z ▸ I.sad))
          refine ⟨valV ys kk, ?_, ?_⟩
          · rw [rp_key rq hk]; exact DGet.k ha3
          · have r2 := RpKV.mv (mvB f23 I.sad) _ _ r
            rcases rpKV_val (k := kk) r2 with ⟨e1, e2⟩ | ⟨d', v, e1, e2, rv⟩
            · rw [e1] at k; rw [e2]; exact k _ H3 (f1.trans f23) I3 r3
            · rw [e1] at k; rw [e2]; exact k _ H3 (f1.trans f23) I3 rv
        · cases e
      · rename_i x st3 eK
        cases e
        exact ⟨q, o, ρ, _, _, _, I2, eK, fun dx H' fr I' er => k dx H' ((f1.trans f2).trans fr) I' er⟩
      · cases e
    · rename_i x st2 eG
      cases e
      exact ⟨q, o, ρ, _, _, _, I1, eG, fun dx H' fr I' er => k dx H' (f1.trans fr) I' er⟩
    · cases e
  · rename_i x st1 eF
    cases e
    exact ⟨q, o, ρ, st, _, _, I, eF, k⟩
  · cases e
end
/-! d[k] = v, d an own dict -/
def cPut (i : Nat) (a v : E) : C := fun ρ st => match v ρ st with
  | some (.ok d, st1) => (match ρ[i]? with
    | some (.o (.dic kvs)) => (match a ρ st1 with
      | some (.ok y, st2) => (match y.key with
        | some k => if kvs.length < sizeLine then some (.nx, ρ.set i (.o (.dic (putD kvs k d))), st2) else none
        | none => none)
      | some (.ex e, st2) => some (.ex e, ρ, st2)
      | none => none)
    | _ => none)
  | some (.ex e, st1) => some (.ex e, ρ, st1)
  | none => none
theorem c_put {X : Cx} {W : WX} {e v : Expr} {F G : E} {px pos' pos : Pos} (i : Nat) {x : Str} (hu : X.A.units + 1 < cLine) (he : PE X e (liftE X.K B0 W F)) (hv : PE X v (liftE X.K B0 W G)) (hN : X.N[i]? = some x := by rfl) (hvi : Vis X.env.scope x := by first | exact Or.inl rfl | exact Or.inr (Or.inl rfl) | exact Or.inr (Or.inr rfl)) (hd : (x == ("__debug__" : Str)) = false := by decide)
    (hcd : (x == ("__classdict__" : Str)) = false := by decide) (hs : swapsWith v (some (.Subscript (.Name x px) e pos')) pos.line X.env = pure false := by rfl) : PS X (.Assign [.Subscript (.Name x px) e pos'] v pos) (liftS X.K W (cPut i F G)) := by
  refine ps_imp (ps_dput hu (pe_var hN hvi hd hcd) he hv hs) fun D σ H h => ?_
  obtain ⟨q, o, ρ, st, fl, ρ', st', I, e, k⟩ := h
  unfold cPut at e
  split at e
  · rename_i d st1 eG
    refine ⟨q, o, ρ, st, _, _, I, eG, fun w H1 f1 I1 rv => ?_⟩
    split at e
    · rename_i kvs hi
      obtain ⟨a, e1, e2, ys, ha, ra⟩ := I1.sl i _ hi
      refine ⟨_, e2, ?_⟩
      split at e
      · rename_i y st2 eF
        split at e
        · rename_i kk hk
          split at e
          · rename_i hl
            cases e
            refine ⟨q, o, ρ, _, _, _, I1, eF, fun u H2 f2 I2 ry => ?_⟩
            have ha2 : H2 a = some (.dK ys) := f2 a _ ha fun z => (I.ow i a e1).1 (z ▸ I.sad)
            have r2 := RpKV.mv (mvB f2 I.sad) _ _ ra
            have eu := rp_key ry hk
            subst eu
            have mv : Mv (Sx q o) H2 (Sx q o) (upd H2 a (.dK (putK ys kk w))) := fun b u e nb => ⟨by rw [upd_ne (fun z => nb (by rw [z]; exact own_sx ⟨i, e1⟩))]; exact e, nb⟩
            exact ⟨a, _, rfl, DPut.k ha2 (by rw [rpKV_length r2]; exact hl), k _ _ o (I2.write hi e1 rfl ⟨_, upd_same, RpKV.mv mv _ _ (rpKV_put (Rp.mv (mvB f2 I.sad) _ _ rv) r2)⟩) ((I.step (f1.trans f2) I2).trans (Step.write e1 ha2))⟩
          · cases e
        · cases e
      · rename_i x st2 eF
        cases e
        exact ⟨q, o, ρ, _, _, _, I1, eF, fun dx H' f I' er => k dx σ H' o I' (I.step (f1.trans f) I') er⟩
      · cases e
    · cases e
  · rename_i x st1 eG
    cases e
    exact ⟨q, o, ρ, st, _, _, I, eG, fun dx H' f I' er => k dx σ H' o I' (I.step f I') er⟩
  · cases e
/-! ## 19. while -/
/-- n turns at most -/
def whileF (c : E) (g : C) : Nat → C
  | 0, _, _ => none
  | n + 1, ρ, st => match c ρ st with
    | some (.ok (.bl true), st1) => (match g ρ st1 with
      | some (.nx, ρ2, st2) => whileF c g n ρ2 st2
      | some (.ct, ρ2, st2) => whileF c g n ρ2 st2
      | some (.bk, ρ2, st2) => some (.nx, ρ2, st2)
      | some (.rt d, ρ2, st2) => some (.rt d, ρ2, st2)
      | some (.ex x, ρ2, st2) => some (.ex x, ρ2, st2)
      | none => none)
    | some (.ok (.bl false), st1) => some (.nx, ρ, st1)
    | some (.ex x, st1) => some (.ex x, ρ, st1)
    | _ => none
/-- a while with a bound on its turns read off the environment -/
def cWhile (m : Env → DS → Nat) (c : E) (g : C) : C := fun ρ st => whileF c g (m ρ st) ρ st
theorem c_while {X : Cx} {W : WX} {pos : Pos} {c : Expr} {body : List Stmt} {Fc : E} {g : C} (m : Env → DS → Nat) (hp : PassesOwn (model X.prog X.w) X.A X.env X.xe) (hc : PT X c (liftT X.K W Fc)) (hb : PSs X body (liftS X.K W g)) : PS X (.While c body [] pos) (liftS X.K W (cWhile m Fc g)) := by
  refine ps_imp (ps_while hp hc hb) fun D σ H h => ?_
  obtain ⟨q, o, ρ, st, fl, ρf, stf, I, e, k⟩ := h
  unfold cWhile at e
  refine ⟨fun n σ' H' => ∃ o' ρ' st', EnvR X.K q o' σ' H' ρ' st' ∧ Step q o H o' H' ∧ whileF Fc g n ρ' st' = some (fl, ρf, stf), ⟨_, o, ρ, st, I, Step.refl, e⟩, ?_⟩
  rintro n σ' H' ⟨o', ρ', st', I', s', e'⟩
  cases n with
  | zero => unfold whileF at e'; cases e'
  | succ n =>
    unfold whileF at e'
    split at e'
    · rename_i st1 ec
      refine ⟨q, o', ρ', st', _, _, I', ec, fun H1 f1 I1 => ?_⟩
      refine iteT ?_
      have s1 := s'.trans (I'.step f1 I1)
      refine ⟨fun σ2 H2 => ∃ o2 ρ2 st2, EnvR X.K q o2 σ2 H2 ρ2 st2 ∧ Step q o H o2 H2 ∧ whileF Fc g n ρ2 st2 = some (fl, ρf, stf), fun σ2 H2 h2 => ⟨n, Nat.lt_succ_self n, h2⟩, ?_⟩
      split at e'
      · rename_i ρ2 st2 eg
        exact ⟨q, o', ρ', st1, _, ρ2, st2, I1, eg, fun σ4 H4 o4 I4 s4 => ⟨o4, ρ2, st2, I4, s1.trans s4, e'⟩⟩
      · rename_i ρ2 st2 eg
        exact ⟨q, o', ρ', st1, _, ρ2, st2, I1, eg, fun σ4 H4 o4 I4 s4 => ⟨o4, ρ2, st2, I4, s1.trans s4, e'⟩⟩
      · rename_i ρ2 st2 eg
        cases e'
        exact ⟨q, o', ρ', st1, _, _, _, I1, eg, fun σ4 H4 o4 I4 s4 => k σ4 H4 o4 I4 (s1.trans s4)⟩
      · rename_i d ρ2 st2 eg
        cases e'
        exact ⟨q, o', ρ', st1, _, _, _, I1, eg, PostS.back s1 k⟩
      · rename_i x ρ2 st2 eg
        cases e'
        exact ⟨q, o', ρ', st1, _, _, _, I1, eg, PostS.back s1 k⟩
      · cases e'
    · rename_i st1 ec
      cases e'
      refine ⟨q, o', _, st', _, _, I', ec, fun H1 f1 I1 => ?_⟩
      refine iteF ?_
      exact k σ' H1 o' I1 (s'.trans (I'.step f1 I1))
    · rename_i x st1 ec
      cases e'
      exact ⟨q, o', _, st', _, _, I', ec, fun dx H1 f1 I1 er => k dx σ' H1 o' I1 (s'.trans (I'.step f1 I1)) er⟩
    · cases e'
/-! ## 20. x += e -/
def PipD (K : PySem.W.Frag) (r : TIp) (f : D → D → Option D) : Prop := OpD K r f
theorem pip_of {X : Cx} {op : Operator} {r : R2} (h : OpR X (inplaceOp op) r) : PIp X op r := fun pins s σ H x y v u Q I r1 r2 hh => h pins s σ H x y v u Q I r1 r2 hh
theorem c_aug {X : Cx} {W : WX} {e : Expr} {F : E} {pos pos' : Pos} {op : Operator} {r : R2} {f : D → D → Option D} (i : Nat) {x : Str} (hN : X.N.Nodup) (hd : OpD X.K r f) (ho : OpR X (inplaceOp op) r) (he : PE X e (liftE X.K B0 W F)) (hi : X.N[i]? = some x := by rfl) (hx : Loc X.env.scope x := by first | exact Or.inl rfl | exact Or.inr rfl)
    (hf : X.fn x = true ∨ X.env.scope.names.lookup x = some .local := by first | exact .inl rfl | exact .inr rfl | assumption) : PS X (.AugAssign (.Name x pos') op e pos) (liftS X.K W (cAug f i F)) := by
  refine ps_imp (ps_aug hN hi hx he (pip_of ho) hf) fun D σ H h => ?_
  obtain ⟨q, o, ρ, st, fl, ρ', st', I, e, k⟩ := h
  unfold cAug at e
  split at e
  · rename_i x hi
    obtain ⟨v, e1, rp⟩ := I.sl i _ hi
    refine ⟨v, e1, ?_⟩
    split at e
    · rename_i y st1 eF
      split at e
      · rename_i z ez
        cases e
        refine ⟨q, o, ρ, st, _, _, I, eF, fun w H1 f1 I1 rq => ?_⟩
        refine hd q.ad (Sb q B0 o) H1 _ _ _ _ _ _ (fun a h => I1.trB h) (Rp.mv (mvB f1 I.sad) _ _ rp) rq ez fun u H3 s3 r3 => ?_
        exact k _ _ _ ((I1.same s3).setV r3) (I.stepV (f1.trans (Fr.of_same s3)) (I1.same s3))
      · cases e
    · rename_i x st1 eF
      cases e
      exact ⟨q, o, ρ, st, _, _, I, eF, fun dx H' f I' er => k dx σ H' o I' (I.step f I') er⟩
    · cases e
  · cases e
end FL


set_option Elab.async false
set_option linter.all false
set_option maxRecDepth 100000
set_option maxHeartbeats 4000000
namespace FL
open PySem PySem.Spec L2
open PySem.PyData (strOk)
set_option autoImplicit false
/-! ## 20. The law's drawing -/
def drawSize (st : DS) : Int := match st.cells[st.pos]? with
  | some c => 2 * (if c < 0 then -c else c) + (if decide (c < 0) = true then 1 else 0)
  | none => 0
def nextSeed (seed size pos : Int) : Int := (seed * 48271 + size % 2147483629 * 16807 + pos * 69621 + 11) % 2147483647
def drawD (st : DS) (m : Int) : Int × DS :=
  if 0 < st.big then (st.big % m, { st with big := st.big / m })
  else if 2000000000000000000 ≤ drawSize st then
    ((drawSize st / 2) % 2 ^ 6000 % m, { st with pos := st.pos + 1, big := (drawSize st / 2) % 2 ^ 6000 / m })
  else (nextSeed st.seed (drawSize st) ((st.pos : Int) + 1) / 16 % m, { st with pos := st.pos + 1, seed := nextSeed st.seed (drawSize st) ((st.pos : Int) + 1) })
def F_draw : Fn := fun ds st => match ds with
  | [.dst, .int m] => if (decide (0 < m) && decide (m < 1073741824)) = true then some (.ok (.int (drawD st m).1), (drawD st m).2) else none
  | _ => none
theorem draw_range (st : DS) {m : Int} (h : 0 < m) : 0 ≤ (drawD st m).1 ∧ (drawD st m).1 < m := by
  unfold drawD
  split
  · exact ⟨Int.emod_nonneg _ (by omega), Int.emod_lt_of_pos _ h⟩
  · split
    · exact ⟨Int.emod_nonneg _ (by omega), Int.emod_lt_of_pos _ h⟩
    · exact ⟨Int.emod_nonneg _ (by omega), Int.emod_lt_of_pos _ h⟩
/-- xs[i] op= e of a list -/
theorem get_list {X : Cx} : PGet X (rIxL X.K) := by
  intro pins s σ H x y v u Q I rx ry h
  obtain ⟨p, xs, i, z, rfl, rfl, hq, he, q⟩ := h
  cases rx
  obtain ⟨t, rfl⟩ := ry
  obtain ⟨its, r, pl, hz⟩ := I.list hq
  obtain ⟨j, h1, h2, h3, h4, h5⟩ := atI_get he
  obtain ⟨w, ew, rw'⟩ := r.get h2
  have hl := r.length
  have hn := line63
  by_cases h0 : 0 ≤ i
  · have hj : i.toNat = j := by
      rw [seqIndex_of h0 h5] at h1
      exact Option.some.inj h1
    exact wpAny_getItem_list pl.isList h0 (by omega) (by rw [hj]; simpa using ew) ⟨z, H, I, rw', q⟩
  · have hj : (i + (its.toArray.size : Int)).toNat = j := by
      rw [seqIndex_neg (by omega) h4] at h1
      rw [List.size_toArray, ← hl]
      exact Option.some.inj h1
    exact wpAny_getItem_list_neg pl.isList (by omega) (by rw [List.size_toArray] <;> omega) (by omega) (by rw [hj]; simpa using ew) ⟨z, H, I, rw', q⟩
theorem at0 {a b c d : V} : atI [a, b, c, d] 0 = some a := by rfl
theorem at1 {a b c d : V} : atI [a, b, c, d] 1 = some b := by rfl
theorem at2 {a b c d : V} : atI [a, b, c, d] 2 = some c := by rfl
theorem at3 {a b c d : V} : atI [a, b, c, d] 3 = some d := by rfl
theorem ix1 : ixN 4 1 = some 1 := by rfl
theorem ix2 : ixN 4 2 = some 2 := by rfl
theorem ix3 : ixN 4 3 = some 3 := by rfl
/-- the reading of _law_draw's body -/
theorem draw_step {K : PySem.W.Frag} {q : Cq} {H : Hp} {st st' : DS} {Q : VK} {E : XK} {d : D} (hs : q.S q.ad) (tr : ∀ a, q.S a → ∃ u, H a = some u) (dr : DrawAt q H st) (hc : st'.cells = st.cells) (k : PostF K q H st' Q E (.ok d)) {v : V} (rv : ∀ H', Rp K q.ad q.S H' d v) :
    Q v (upd H q.ad (.lst [.ref q.ac, .int st'.pos, .int st'.big, .int st'.seed])) := by
  refine k v _ (fun a u e n => by rw [upd_ne n]; exact e) ⟨upd_same, ?_, dr.2.2⟩ (rv _)
  rw [upd_ne dr.2.2, hc]
  exact dr.2.1
end FL


set_option Elab.async false
set_option linter.all false
set_option maxRecDepth 100000
set_option maxHeartbeats 4000000
namespace FL
open PySem PySem.Spec L2
open PySem.PyData (strOk)
set_option autoImplicit false
theorem opD_mod {K : PySem.W.Frag} : OpD K (rI (fun _ j => j ≠ 0) fun i j => .int (i.fmod j)) dMod := opD_I fun i j h => by simpa using h
def dNeg : D → Option D
  | .int i => some (.int (-i))
  | _ => none
theorem unD_neg {K : PySem.W.Frag} : UnD K (rU fun i => .int (-i)) dNeg := by
  intro ad S H d z x Q tr rx h k
  unfold dNeg at h
  split at h
  · cases h
    exact ⟨_, rp_int.mp rx, k _ H (Same.refl H) (rp_int.mpr rfl)⟩
  · cases h
/-- a def of the text: its place, its parameters, what its name holds -/
structure Df (K : PySem.W.Frag) (mg : Str → Option Value) (x : Str) (st : Stmt) (ps : List Str) (f : Addr) (fd : FuncData) : Prop where
  fn : Fun K x x st f fd
  g : mg x = some (.ref f)
  b : Binds K fd ps []
theorem df_mk {K : PySem.W.Frag} {h : Heap} {mg : Str → Option Value} (X : K.In h) (G : h.Ns mainGlobals mg) {x : Str} {st : Stmt} {ps : List Str} {f : Addr} {oc : Value} {od an : Option Addr} {osl : Array (Option Value)} {kV doc pm cdv ct : Value}
    (a : PySem.W.nsIn K mainGlobals x = some (some (.ref f))) (l : K.lookup f = some ⟨oc, od, .func (PySem.W.fnOf x x (defArgs st) (defBody st) (defScope st) .none kV doc pm an cdv ct), osl⟩) (c : PySem.W.codeIn K cdv x = true) (k : PySem.W.keepIn K (.ref f) = true)
    (b : ∀ (kV doc pm : Value) (an : Option Addr) (cdv ct : Value) (us : List Value), us.length = ps.length → bindArgs (PySem.W.fnOf x x (defArgs st) (defBody st) (defScope st) .none kV doc pm an cdv ct) ⟨us, []⟩ = pure (ps.zip us)) :
    Df K mg x st ps f (PySem.W.fnOf x x (defArgs st) (defBody st) (defScope st) .none kV doc pm an cdv ct) := ⟨fun_mk l c k, PySem.W.mg_of X G a, (fun_mk l c k).binds b⟩
theorem fn_none {P : Program} {w : World} {K : PySem.W.Frag} {mg : Str → Option Value} {base : Heap} {CX : CXT} {k n : Nat} {f : Addr} {fd : FuncData} {ps : List Str} (h : ps.length = n) : FnOk P w K mg base CX k f fd ps (spD K n fun _ _ => none) :=
  have no : ∀ {vs H Q E}, spD K n (fun _ _ => none) vs H Q E → False := fun {vs H Q E} q => by
    obtain ⟨_, _, _, _, _, _, _, _, _, _, e, _⟩ := q
    cases e
  ⟨fun vs H Q E q => (no q).elim, fun A outer s H args us vs Q E hr he hb hv q => (no q).elim⟩
/-! sorted(d), a dict with fewer than 64 int keys -/
def intKeys? : List (Key × D) → Option (List Int)
  | [] => some []
  | (.inl i, _) :: r => (intKeys? r).map (i :: ·)
  | _ :: _ => none
def dSortDI : List D → Option D
  | [.dic kvs] => (match intKeys? kvs with
    | some ns => if ns.length < 64 then some (.lst ((sortI ns).map D.int)) else none
    | none => none)
  | _ => none
theorem intKeys_eq {K : PySem.W.Frag} {ad : Addr} {S : Addr → Prop} {H : Hp} : ∀ {ds : List (Key × D)} {ys : List (Key × V)} {ns : List Int}, RpKV K ad S H ds ys → intKeys? ds = some ns → ys.map (·.1) = ns.map Sum.inl
  | [], ys, ns, r, h => by unfold intKeys? at h; cases h; rw [rpKV_nil_inv r]; rfl
  | p :: ds, ys, ns, r, h => by
    obtain ⟨v, w, rfl, _, r2⟩ := rpKV_inv r
    unfold intKeys? at h
    split at h
    · rename_i heq; cases heq
    · rename_i i d r' heq
      cases heq
      cases e : intKeys? ds with
      | none => rw [e] at h; cases h
      | some ms =>
        rw [e] at h; cases h
        rw [List.map_cons, intKeys_eq r2 e]; rfl
    · cases h
theorem cn_sortDI {K : PySem.W.Frag} : CallN K (fun xs H Q => ∃ (a : Addr) (kvs : List (Key × V)) (ks : List Int), xs = [.ref a] ∧ Rd H a (.dK kvs) ∧ kvs.map (·.1) = ks.map Sum.inl ∧ ks.length < 64 ∧
    ∀ (ys : List Int) (p : Addr), ys.Perm ks → ys.Pairwise (· ≤ ·) → H p = none → Q (.ref p) (upd H p (.lst (ys.map V.int)))) dSortDI := by
  intro ad S H ds z xs Q tr rp ez k
  unfold dSortDI at ez
  split at ez
  · rename_i kvs
    split at ez
    · rename_i ns hn
      split at ez
      · rename_i hl
        cases ez
        obtain ⟨v, w, rfl, r1, r2⟩ := rpAll_inv rp
        obtain ⟨a, ys, rfl, t, n, ra⟩ := rp_dic.mp r1
        rw [rpAll_nil_inv r2]
        refine ⟨a, ys, ns, rfl, .inl t, intKeys_eq ra hn, hl, fun ns' p hp hs hn => ?_⟩
        have e3 : ns' = sortI ns := sorted_uniq (hp.trans (sortI_perm ns).symm) hs (sortI_le ns)
        subst e3
        exact k p _ hn (same_new hn) ⟨_, upd_same, rpAll_ints' _⟩
      · cases ez
    · cases ez
  · cases ez
/-! the drawing list is made -/
def spBegin (K : PySem.W.Frag) : Sp := fun vs H Q _ => ∃ (a : Addr) (ns : List Int), vs = [.ref a] ∧ SqL K H a (ns.map V.int) ∧ ns.length ≤ 63 ∧
  ∀ (H' : Hp) (p c : Addr), c ≠ p → H' p = some (.lst [.ref c, .int 0, .int 0, .int 7]) → H' c = some (.lst (ns.map V.int)) → Q (.ref p) H'
theorem begin_reads {K : PySem.W.Frag} {H : Hp} {a : Addr} {ns : List Int} {Q : VK} (hS : SqL K H a (ns.map V.int)) (hl : ns.length ≤ 63) (k : ∀ (H' : Hp) (p c : Addr), c ≠ p → H' p = some (.lst [.ref c, .int 0, .int 0, .int 7]) → H' c = some (.lst (ns.map V.int)) → Q (.ref p) H') :
    tRet (tLst (tCons (tLc (iList K (tSl (rSlL K) (tVar 0) tNoPart (tPart (tC (.int 63))))) (gName 1) tYes (tCB (fun xs H Q => (∃ i, xs = [.int i] ∧ Q (.int i) H) ∨ ∃ k, xs = [.bl k] ∧ Q (.int (if k then 1 else 0)) H) (tCons (tVar 1) tNil)) [1])
      (tCons (tC (.int 0)) (tCons (tC (.int 0)) (tCons (tC (.int 7)) tNil))))) { nx := fun _ H' => Q .non H', rt := Q } (L2.start ["script", "cell"] [.ref a]) H := by
  have cut : cutV (ns.map V.int) none (some 63) = ns.map V.int := by
    unfold cutV
    have e1 : HT.sIx (ns.map V.int).length 0 none = 0 := rfl
    have e2 : HT.sIx (ns.map V.int).length (ns.map V.int).length (some 63) = ns.length := by
      show min (63 : Int).toNat (ns.map V.int).length = ns.length
      rw [List.length_map]
      show min 63 ns.length = ns.length
      omega
    rw [e1, e2, List.drop_zero, Nat.sub_zero]
    exact List.take_of_length_le (by rw [List.length_map]; exact Nat.le_refl _)
  refine ⟨_, rfl, 63, rfl, a, _, rfl, hS, fun p hp => ?_⟩
  rw [cut]
  refine ⟨p, rfl, ⟨_, SqL.of upd_same⟩, fun c hc => ?_⟩
  have pc : p ≠ c := fun e => by rw [← e, upd_same] at hc; cases hc
  refine lc_list (K := K) (xs := ns.map V.int) (fun i H' => H' p = some (.lst (ns.map V.int)) ∧ H' c = some (.lst ((ns.take i).map V.int))) ⟨by rw [upd_ne pc, upd_same], by rw [upd_same]; rfl⟩ (fun i H' _ h => SqL.of h.1) ?_ ?_
  · rintro i x H' hx ⟨h1, h2⟩
    rw [List.getElem?_map] at hx
    cases e : ns[i]? with
    | none => rw [e] at hx; cases hx
    | some z =>
      rw [e] at hx
      obtain rfl : V.int z = x := Option.some.inj hx
      refine ⟨rfl, ?_⟩
      refine iteT (B := H' p = some (.lst (ns.map V.int)) ∧ H' c = some (.lst ((ns.take (i+1)).map V.int))) ?_
      refine ⟨_, rfl, .inl ⟨z, rfl, _, h2, ?_, ?_⟩⟩
      · rw [List.length_map, List.length_take, sizeLine_eq]; omega
      · refine ⟨by rw [upd_ne pc]; exact h1, ?_⟩
        rw [upd_same, List.take_add_one, e]
        simp
  · rintro H' ⟨h1, h2⟩
    refine ⟨by show 4 ≤ sizeLine; decide, fun d hd => ?_⟩
    have cd : c ≠ d := ne_of_none h2 hd
    refine k _ d c cd upd_same ?_
    rw [upd_ne cd, h2, List.length_map, List.take_length]
/-- the law: a script of at most 63 ints, True comes out -/
def spLaw (K : PySem.W.Frag) : Sp := fun vs H Q _ => ∃ (a : Addr) (ns : List Int), vs = [.ref a] ∧ SqL K H a (ns.map V.int) ∧ ns.length ≤ 63 ∧ ∀ H', Q (.bl true) H'
/-- the drawing state at first -/
def DS.begin (ns : List Int) : DS := ⟨ns, 0, 0, 7⟩
/-- the law's body behind its first row: G runs at an environment of n slots, the drawing list in slot i -/
theorem law_rest {K : PySem.W.Frag} {W : WX} {G : C} {ns : List Int} {H : Hp} {p c : Addr} {σ : L2.St} {n i : Nat} {D : Ends} {ρ' : Env} {st' : DS} (hn : σ.length = n) (hi : σ[i]? = some (some (.ref p))) (hc : c ≠ p) (h1 : H p = some (.lst [.ref c, .int 0, .int 0, .int 7])) (h2 : H c = some (.lst (ns.map V.int)))
    (e : G ((List.replicate n Sl.no).set i (.v .dst)) (DS.begin ns) = some (.rt (.bl true), ρ', st')) (k : ∀ H', D.rt (.bl true) H') : liftS K W G D σ H := by
  refine ⟨⟨p, c, fun b => b = p⟩, fun _ => none, _, _, _, ρ', st', ?_, e, fun v H' _ _ rp => by rw [rp_bl.mp rp]; exact k H'⟩
  refine ⟨rfl, fun b e => ⟨.lst [.ref c, .int 0, .int 0, .int 7], by rw [(show b = p from e)]; exact h1⟩, (fun _ _ z => by cases z), (fun _ _ _ z => by cases z), ⟨h1, h2, hc⟩, (by rw [List.length_set, List.length_replicate, hn]), fun j s hs => ?_⟩
  by_cases ej : j = i
  · subst ej
    have hl : j < (List.replicate n Sl.no).length := by
      rw [List.length_replicate, ← hn]
      exact (List.getElem?_eq_some_iff.mp hi).1
    rw [List.getElem?_set_self hl] at hs
    cases hs
    exact ⟨_, hi, by unfold Rp; rfl⟩
  · rw [List.getElem?_set_ne (Ne.symm ej), List.getElem?_replicate] at hs
    split at hs
    · cases hs; trivial
    · cases hs
end FL


set_option Elab.async false
set_option linter.all false
set_option maxRecDepth 100000
namespace FL
open PySem PySem.Spec L2
open PySem.PyData (strOk)
set_option autoImplicit false
/-! ## 21. sorted(set(xs)) of ints -/
/-- the object that set.__new__ lays -/
abbrev newSetO (w : World) : Obj := ⟨.type "set", none, .set #[] 0 (.fresh 0 0 (!w.params.followText "set-order")), #[]⟩
section
variable {P : Program} {w : World} {A : Around} {E : Value → Shared → Prop} {s : Shared}
/-- set.__init__ of a fresh set at a, from the list at l -/
theorem set_init_lst {l : Addr} {items : Array Value} (ns : List Int) {s : Shared} {R : Value → Shared → Prop} (hh : A.handled = none) (hl : s.heap.IsList l items) (hit : PyProof.Rows.IntsAre items.toList ns) (hb : ns.length + 1 < scanBound)
    (hR : ∀ (h' : Heap) (tk c : Nat), SetR w h' s.heap.objs.size (fun j => decide (j ∈ ns)) c → c ≤ ns.length → (∀ b o, s.heap.get? b = some o → h'.get? b = some o) → R .none { s with heap := h', toks := tk }) :
    codeAny (model P w) A (.call (.builtin "set.__init__") ⟨[.ref s.heap.objs.size, .ref l], []⟩) (wants R E) { s with heap := s.heap.push (newSetO w) } := by
  have size_ns : items.size = ns.length := (Array.length_toList (xs := items)).symm.trans (PyProof.Rows.IntsAre.length hit)
  have new_at : (s.heap.push (newSetO w)).get? s.heap.objs.size = some (newSetO w) := Heap.get?_push_size _ rfl
  have is_set : Shared.TypeIs { s with heap := s.heap.push (newSetO w) } (.ref s.heap.objs.size) "set" := ⟨_, new_at, rfl⟩
  refine codeAny_call_builtin (R := wants R E) F.called_set.init.plain F.entry_set_init (check_set_init_1 is_set ?_)
  have l_lt : l < s.heap.objs.size := by
    obtain ⟨ob, hob, _⟩ := hl
    exact Heap.lt_size hob
  have is_list : (s.heap.push (newSetO w)).IsList l items := hl.push _
  obtain ⟨⟨c0, dd, dt, sl⟩, at_l, e1, nl, e3⟩ := id is_list
  simp only at e1 e3
  subst e1 e3
  have no_set := F.sub_list_set
  have no_frozen := F.sub_list_frozenset
  have no_dict : (Value.type "list" == Value.type "dict") = false := by decide
  unfold Builtin.«set.__init__» noKeywords Builtin.Frozenset.updateFrom
  generalize iter_is : pyIter = PI
  wp_walk
  subst iter_is
  refine wpAny_pyIter_list is_list (wpAny_bind (wpAny_runValue ?_))
  have z0 : (s.heap.push (newSetO w)).objs.size = s.heap.objs.size + 1 := Heap.size_push ..
  have l_it : l ≠ (s.heap.push (newSetO w)).objs.size := by rw [z0]; exact Nat.ne_of_lt (Nat.lt_succ_of_lt l_lt)
  have apart : s.heap.objs.size ∉ [(s.heap.push (newSetO w)).objs.size, l] := by
    rw [z0]
    intro m
    rcases List.mem_cons.mp m with m | m
    · exact absurd m (Nat.ne_of_lt (Nat.lt_succ_self _))
    · rcases List.mem_cons.mp m with m | m
      · exact absurd m.symm (Nat.ne_of_lt l_lt)
      · cases m
  have value : ∀ (i : Nat) (v : Value), items[i]? = some v → ∃ k t, ns[i]? = some k ∧ v = .int k t := fun i v hv => by
    have lt : i < ns.length := by rw [← size_ns]; exact (Array.getElem?_eq_some_iff.mp hv).1
    obtain ⟨t, e⟩ := PyProof.Rows.IntsAre.int_at hit i v (by rw [Array.getElem?_toList]; exact hv)
    refine ⟨ns[i], t, List.getElem?_eq_getElem lt, ?_⟩
    rw [e, List.getD_eq_getElem?_getD, List.getElem?_eq_getElem lt]
    rfl
  have calm3 : A.in1.in1.handled = none := hh
  refine set_update_ints ((Walks.list calm3 _ l l_it items).toS) s.heap.objs.size apart ns size_ns hb value items.size 0 _ (Nat.sub_zero _) (Nat.zero_le _) ⟨⟨_, Heap.get?_push_size _ rfl, rfl, rfl⟩, is_list.push _⟩ ⟨0, Nat.le_refl 0, setR_new_at (Heap.get?_push_of_some _ new_at)⟩ ?_
  rintro ⟨h', g2, d', tk', os'⟩ c moved le_c made
  obtain rfl : g2 = s.gens := moved.gens
  obtain rfl : d' = s.drawn := moved.drawn
  obtain rfl : os' = s.os := moved.os
  refine wpAny_pure (wpAny_pure (hR h' tk' c made (by rw [← size_ns]; exact le_c) fun b o e => ?_))
  have lt := Heap.lt_size e
  refine moved.heap b o (fun m => ?_) (Heap.get?_push_of_some _ (Heap.get?_push_of_some _ e))
  rcases List.mem_cons.mp m with m | m
  · exact absurd m (Nat.ne_of_lt lt)
  · rcases List.mem_cons.mp m with m | m
    · rw [z0] at m; exact absurd m (Nat.ne_of_lt (Nat.lt_succ_of_lt lt))
    · cases m
theorem code_set_lst (a : Value) {Q₁ : Value → Shared → Prop} (h : Q₁ (.ref s.heap.objs.size) { s with heap := s.heap.push (newSetO w) }) :
    codeAny (model P w) A (.call (.builtin "set.__new__") ⟨[.type "set", a], []⟩) (wants Q₁ E) s := code_set_led1 a h
/-- set(xs), xs a list of ints -/
theorem call_set_lst {l : Addr} {items : Array Value} (ns : List Int) {Q : Value → Shared → Prop} (hh : A.handled = none) (hl : s.heap.IsList l items) (hit : PyProof.Rows.IntsAre items.toList ns) (hb : ns.length + 1 < scanBound)
    (hQ : ∀ (h' : Heap) (tk c : Nat), SetR w h' s.heap.objs.size (fun j => decide (j ∈ ns)) c → c ≤ ns.length → (∀ b o, s.heap.get? b = some o → h'.get? b = some o) → Q (.ref s.heap.objs.size) { s with heap := h', toks := tk }) :
    wpAny (model P w) A (call (.type "set") [.ref l]) Q E s := by
  obtain ⟨cc, tl, mro⟩ := F.called_set.mro
  have was_made := F.called_set.made
  have is_sub := F.called_set.sub
  refine wpAny_call (codeAny_of_tree ?_)
  show wpAny _ _ (callAny (.type "set") _) _ _ _
  refine wpAny_pure ⟨Code.quiet_builtin _ (by decide +kernel), ?_⟩
  refine codeAny_builtin F.entry_type_call ?_
  rw [Around.under_plain (weight_type_call_type "set" [.ref l] []) rfl]
  have no_type := F.called_set.notType
  have creates := F.called_set.canCreate
  have checked := F.typeCall_set_1 (.ref l)
  repeat (any_goals (first | assumption | wp_step))
  refine codeAny_mono (code_set_lst (.ref l) (E := E) (Q₁ := fun obj s₁ => obj = .ref s.heap.objs.size ∧ s₁ = { s with heap := s.heap.push (newSetO w) }) ⟨rfl, rfl⟩) fun r s₁ hr => ?_
  cases r with
  | error e => exact hr
  | ok fl =>
    cases fl with
    | ret obj =>
      obtain ⟨rfl, rfl⟩ := hr
      have new_at : (s.heap.push (newSetO w)).get? s.heap.objs.size = some (newSetO w) := Heap.get?_push_size _ rfl
      have is_set : Shared.TypeIs { s with heap := s.heap.push (newSetO w) } (.ref s.heap.objs.size) "set" := ⟨_, new_at, rfl⟩
      have init_at := F.called_set.init.lookup
      have init_bound := F.called_set.init.bind (.ref s.heap.objs.size)
      repeat (any_goals (first | assumption | wp_step))
      refine codeAny_mono (set_init_lst (R := fun r s₂ => r = .none ∧ ∃ h' tk c, s₂ = { s with heap := h', toks := tk } ∧ SetR w h' s.heap.objs.size (fun j => decide (j ∈ ns)) c ∧ c ≤ ns.length ∧ (∀ b o, s.heap.get? b = some o → h'.get? b = some o)) (E := E) ns hh hl hit hb fun h' tk c m lc kk => ⟨rfl, h', tk, c, rfl, m, lc, kk⟩) fun r₂ s₂ hr₂ => ?_
      cases r₂ with
      | error e => exact hr₂
      | ok fl₂ =>
        cases fl₂ with
        | ret r =>
          obtain ⟨rfl, h', tk, c, rfl, m, lc, kk⟩ := hr₂
          repeat (any_goals (first | assumption | wp_step))
          exact hQ _ _ _ m lc kk
        | _ => exact hr₂.elim
    | _ => exact hr.elim
end
section
variable {X : Cx}
/-- set(xs): the members, and how many there are at most -/
def rSetL (K : PySem.W.Frag) (w : World) : List V → Hp → VK → Prop := fun xs H Q => ∃ (a : Addr) (ns : List Int), xs = [.ref a] ∧ SqL K H a (ns.map V.int) ∧ ns.length + 1 < scanBound ∧
  ∀ p c, c ≤ ns.length → H p = none → Q (.ref p) (upd H p (SetO w p (fun j => decide (j ∈ ns)) c))
theorem cr_setL (hc : X.calm = true) : CallR X (.type "set") (rSetL X.K X.w) := by
  intro pins s σ H xs us Q I r h
  obtain ⟨a, ns, rfl, hs, hb, q⟩ := h
  obtain ⟨its, rv, hl, hz⟩ := I.list hs
  rw [Vals.ref1 r]
  refine call_set_lst ns (I.ok.hd hc) hl.isList (by simpa using rv.ints) hb fun h' tk c m lc kk => ?_
  refine ⟨.ref s.heap.objs.size, upd H s.heap.objs.size (SetO X.w s.heap.objs.size (fun j => decide (j ∈ ns)) c), I.laid (t' := tk) kk (Nat.le_refl _) (setO_new m), rfl, q _ c lc (I.hok.fresh (Nat.le_refl _))⟩
/-! the members of a list of ints, rising, each once -/
def uniqI : List Int → List Int
  | [] => []
  | x :: r => if x ∈ r then uniqI r else x :: uniqI r
theorem uniqI_mem {k : Int} : ∀ {l : List Int}, k ∈ uniqI l ↔ k ∈ l
  | [] => Iff.rfl
  | x :: r => by
    unfold uniqI
    split
    · rename_i h
      rw [uniqI_mem, List.mem_cons]
      exact ⟨.inr, fun z => z.elim (fun e => e ▸ h) id⟩
    · rw [List.mem_cons, List.mem_cons, uniqI_mem]
theorem uniqI_nodup : ∀ l : List Int, (uniqI l).Nodup
  | [] => List.nodup_nil
  | x :: r => by
    unfold uniqI
    split
    · exact uniqI_nodup r
    · rename_i h
      exact List.nodup_cons.mpr ⟨fun z => h (uniqI_mem.mp z), uniqI_nodup r⟩
theorem lt_of_le_nd : ∀ {l : List Int}, l.Pairwise (· ≤ ·) → l.Nodup → l.Pairwise (· < ·)
  | [], _, _ => List.Pairwise.nil
  | x :: r, h, n => by
    rw [List.pairwise_cons] at h ⊢
    rw [List.nodup_cons] at n
    refine ⟨fun y hy => ?_, lt_of_le_nd h.2 n.2⟩
    have h1 := h.1 y hy
    have h2 : x ≠ y := fun e => n.1 (e ▸ hy)
    omega
theorem risen_uniq {l m : List Int} (h1 : l.Pairwise (· < ·)) (h2 : m.Pairwise (· < ·)) (h : ∀ k, k ∈ l ↔ k ∈ m) : l = m := by
  have n1 : l.Nodup := h1.imp fun h => Int.ne_of_lt h
  have n2 : m.Nodup := h2.imp fun h => Int.ne_of_lt h
  have p : l.Perm m := (List.perm_ext_iff_of_nodup n1 n2).mpr h
  exact sorted_uniq p (h1.imp fun h => Int.le_of_lt h) (h2.imp fun h => Int.le_of_lt h)
def setI (ns : List Int) : List Int := sortI (uniqI ns)
theorem setI_lt (ns : List Int) : (setI ns).Pairwise (· < ·) := lt_of_le_nd (sortI_le _) ((sortI_perm _).nodup_iff.mpr (uniqI_nodup _))
theorem setI_mem {ns : List Int} {k : Int} : k ∈ setI ns ↔ k ∈ ns := by unfold setI; rw [(sortI_perm _).mem_iff, uniqI_mem]
def dSortSetI : D → Option D
  | .lst ds => (match ints? ds with
    | some ns => if ns.length < 64 then some (.lst ((setI ns).map D.int)) else none
    | none => none)
  | _ => none
theorem n_sortSetI {B : Nat → Bool} {W : WX} {e : Expr} {F : E} {p1 p2 pos1 pos2 : Pos} (hc : X.calm = true) (hg : Gl X "sorted") (hm : X.mg "sorted" = none) (hg2 : Gl X "set") (hm2 : X.mg "set" = none) (ha : PE X e (liftE X.K B W F))
    (he1 : starEach [e] X.env = (false, eval e X.env) :: starEach [] X.env := by rfl) (he2 : starEach [.Call (.Name "set" p2) [e] [] pos2] X.env = (false, eval (.Call (.Name "set" p2) [e] [] pos2) X.env) :: starEach [] X.env := by rfl) :
    PE X (.Call (.Name "sorted" p1) [.Call (.Name "set" p2) [e] [] pos2] [] pos1) (liftN X.K B W (eUn dSortSetI F)) := by
  have h1 := pe_callTy (pos := pos2) (p := p2) (cr_setL hc) hg2 hm2 PyProof.Rows.boot_set (pa_cons ha pa_nil he1) (by decide) (by decide) he1 (by rfl)
  refine pe_imp (pe_callB (cr_sortedSet hc) hg hm (by decide +kernel) (pa_cons h1 pa_nil he2) (by decide) (by decide) he2 (by rfl)) fun σ H Q h => ?_
  obtain ⟨q, o, ρ, st, rr, st', I, e, k⟩ := h
  unfold eUn at e
  split at e
  · rename_i x st1 eF
    refine ⟨q, o, ρ, st, _, st1, I, eF, fun v H1 f1 I1 rp1 => ?_⟩
    split at e
    · rename_i z ez
      cases e
      unfold dSortSetI at ez
      split at ez
      · rename_i ds
        split at ez
        · rename_i ns en
          split at ez
          · rename_i hl
            cases ez
            obtain ⟨a, xs, rfl, t, r⟩ := rp_lst.mp rp1
            rw [ints_eq en] at r
            have ex := rpAll_ints r
            subst ex
            refine ⟨a, ns, rfl, t.sq, by unfold scanBound; omega, fun p c lc hp => ?_⟩
            refine ⟨p, _, c, rfl, upd_same, by omega, fun ms p2 h1 h2 h3 hp2 => ?_⟩
            have em : ms = setI ns := risen_uniq h1 (setI_lt ns) fun j => by rw [h2 j, setI_mem, decide_eq_true_eq]
            subst em
            have sm : Same H1 (upd (upd H1 p (SetO X.w p (fun j => decide (j ∈ ns)) c)) p2 (.lst ((setI ns).map V.int))) := fun b u e => same_new hp2 b u (same_new hp b u e)
            have n2 : H1 p2 = none := (same_new (u := SetO X.w p (fun j => decide (j ∈ ns)) c) hp |> fun s => by
              cases e : H1 p2 with
              | none => rfl
              | some u => have := s _ _ e; rw [hp2] at this; cases this)
            exact k p2 _ (f1.trans (Fr.of_same sm)) (I1.same sm) (fresh_back I1 f1 n2) ⟨_, upd_same, rpAll_ints' _⟩
          · cases ez
        · cases ez
      · cases ez
    · cases e
  · rename_i x st1 eF
    cases e
    exact ⟨q, o, ρ, st, _, _, I, eF, k⟩
  · cases e
end
end FL


set_option Elab.async false
set_option linter.all false
set_option maxRecDepth 100000
set_option maxHeartbeats 4000000
namespace FL
open PySem PySem.Spec L2
open PySem.PyData (strOk)
set_option autoImplicit false
/-! ## 22. A set comprehension of ints -/
section
variable {X : Cx}
theorem addI_ok {pins : List (Addr × Obj)} {σ : L2.St} {H : Hp} {s : Shared} {E : Value → Shared → Prop} {D : Addr} {S : Int → Bool} {n : Nat} {y : Int} {t : Tok} {Q : Value → Shared → Prop} (I : Inv X pins σ H s) (hD : H D = some (SetO X.w D S n)) (room : n + 1 < scanBound)
    (h : ∀ s', Inv X pins σ (upd H D (SetO X.w D (fun j => S j || decide (j = y)) (if S y = true then n else n + 1))) s' → Q .none s') : wpAny (model X.prog X.w) X.A (call (.builtin "set.add") [.ref D, .int y t]) Q E s := by
  refine setR_add (setO_get I hD) room fun h' sb new => h _ ?_
  have there : ∃ u, h'.get? D = some u := by
    have ⟨ob, _, _, _, at_D, _⟩ := new
    exact ⟨ob, at_D⟩
  exact I.write (e := D) (t' := s.toks + 1) (by rw [hD]; trivial) (.inl rfl) (fun b u ne at_b => (sb.2 b ne).trans at_b) there (setO_new new)
/-- {elt for target in iter if ..}, elt an int -/
def tScI (w : World) (wi : TI) (g : TG) (tt : TT) (te : TE) (vs : List Nat) : TE := fun σ H Q => wi σ H fun J H1 => ∀ D, H1 D = none → ∃ W : Nat → Nat → Hp → Prop, (∃ m, W 0 m (upd H1 D (SetO w D (fun _ => false) 0))) ∧ ∀ i m H, W i m H →
  (J.stop i H ∧ Q (.ref D) H) ∨ (J.go i H ∧ ∃ Nx : Hp → Prop, (∀ H', Nx H' → ∃ m', m' < m ∧ W (i + 1) m' H') ∧ ∀ x H', J.yld i H x H' → g x (wipe σ vs) H' fun σ2 H2 => wipe σ2 vs = wipe σ vs ∧ tt σ2 H2 fun b H3 =>
    if b = true then te σ2 H3 fun y H4 => ∃ (c : Int) (S : Int → Bool) (n : Nat), y = .int c ∧ H4 D = some (SetO w D S n) ∧ n + 1 < scanBound ∧ Nx (upd H4 D (SetO w D (fun j => S j || decide (j = c)) (if S c = true then n else n + 1))) else Nx H3)
theorem setR_nil {h : Heap} (w : World) : SetR w (h.push (newSetO w)) h.objs.size (fun _ => false) 0 :=
  SetR.congr (setR_new_at (ns := []) (Heap.get?_push_size _ rfl)) fun k => by simp
theorem sc_ints {pins : List (Addr × Obj)} {s : Shared} {σ : L2.St} {H : Hp} {Q : VK} {elt tg iter : Expr} {ifs : List Expr} {scope : Scope} {own : List (Str × Nat)} {pos pos' : Pos} {wi : TI} {g : TG} {tt : TT} {te : TE} {Qf : Value → Shared → Prop}
    (hc : X.calm = true) (hN : X.N.Nodup) (I : Inv X pins σ H s) (hi : PI X tg iter wi) (ok : BlkOk X.N X.env.scope scope own)
    (hg : ∀ (s : Shared) (H : Hp) (C : Addr) (cl : List (Str × Addr)) (fp : List Addr), PG (X.blk s H scope (compEnvC scope cl C X.env) fp) tg g) (ht : ∀ (s : Shared) (H : Hp) (C : Addr) (cl : List (Str × Addr)) (fp : List Addr), PTs (X.blk s H scope (compEnvC scope cl C X.env) fp) ifs tt)
    (he : ∀ (s : Shared) (H : Hp) (C : Addr) (cl : List (Str × Addr)) (fp : List Addr), PE (X.blk s H scope (compEnvC scope cl C X.env) fp) elt te) (hs : ∀ x, foldedSetIterable iter X.env x = pure x)
    (h : tScI X.w wi g tt te (own.map (·.2)) σ H Q)
    (hRR : ∀ D C s' m H', Inv X pins σ H' s' → Q (.ref D) H' → s'.heap.Ns C m → FpOk X pins H' C → compPost (model X.prog X.w) X.A X.xe none Qf (.ref D) C (.ok .next) s') :
    wpAny (model X.prog X.w) X.A (comprehension (.SetComp elt [⟨tg, iter, ifs, 0⟩] scope pos) scope X.env pos' (newSet (.type "set")) false (eval iter X.env) none) Qf X.xe s := by
  have cells_ok : ∀ y ∈ scope.names, y.2 = .free → ∃ c, X.env.cells.lookup y.1 = some c := fun y hy e =>
    (ok.free y hy e).elim (fun k => I.ok.has _ (.inl k)) fun k => I.ok.has _ (.inr k)
  refine wpAny_comprehension_free (use := none) rfl hs (closure_ok cells_ok) ok.kind (fun y hy e => by rw [ok.uniq y hy, e]) ?_
  refine thn (hi.run pins s σ H _ I h) fun xv s1 walked => thn walked fun itv s2 begun => ?_
  obtain ⟨it, fp, tn, J, H2, rfl, I2, T, at_2, fps, q⟩ := begun
  refine PpSet.newSet_ok (newEnv_comp ?_)
  generalize eD : s2.heap.objs.size = D
  obtain ⟨W, ⟨m0, w0⟩, turn⟩ := q D (I2.hok.fresh (Nat.le_of_eq eD))
  generalize e3 : ({ s2 with heap := s2.heap.push (newSetO X.w) } : Shared) = s3
  have heap3 : s3.heap = s2.heap.push (newSetO X.w) := by rw [← e3]
  have I3 : Inv X pins σ (upd H2 D (SetO X.w D (fun _ => false) 0)) s3 := by
    rw [← e3]
    refine I2.laid (t' := s2.toks) (fun b o e => Heap.get?_push_of_some _ e) (Nat.le_of_eq eD) ?_
    rw [← eD]
    exact setO_new (setR_nil X.w)
  generalize eH : upd H2 D (SetO X.w D (fun _ => false) 0) = H3 at I3 w0
  have fps3 : ∀ b ∈ fp, FpOk X pins H3 b ∧ b < s3.heap.objs.size := fun b hb => by
    obtain ⟨ob, at_b, _⟩ := T.obj _ _ at_2 b hb
    have small := Heap.lt_size at_b
    refine ⟨⟨?_, (fps b hb).2⟩, by rw [heap3, Heap.size_push]; exact Nat.lt_succ_of_lt small⟩
    rw [← eH, upd_ne (by rw [← eD]; exact Nat.ne_of_lt small)]
    exact (fps b hb).1
  have at_3 : tn 0 s3.heap := T.keep _ _ _ at_2 fun b _ o e => by rw [heap3]; exact Heap.get?_push_of_some _ e
  have I4 := block_start I3 ok hN fps3
  have pg := hg s3 H3 s3.heap.objs.size (cellsFrom (s3.heap.objs.size + 1) scope.names (cloFrom X.env.cells scope.names [])) fp
  have pt := ht s3 H3 s3.heap.objs.size (cellsFrom (s3.heap.objs.size + 1) scope.names (cloFrom X.env.cells scope.names [])) fp
  have pe := he s3 H3 s3.heap.objs.size (cellsFrom (s3.heap.objs.size + 1) scope.names (cloFrom X.env.cells scope.names [])) fp
  have apart : ∀ b ∈ fp, H3 b = none := fun b hb => (fps3 b hb).1.1
  show codeAny (model X.prog X.w) X.A (.compStart (.SetComp elt [⟨tg, iter, ifs, 0⟩] scope pos) 0 (.ref it) (.ref D) (compEnvC scope (cellsFrom (s3.heap.objs.size + 1) scope.names (cloFrom X.env.cells scope.names [])) s3.heap.objs.size X.env))
    (compPost (model X.prog X.w) X.A X.xe none Qf (.ref D) s3.heap.objs.size) { s3 with heap := pushCells (s3.heap.push { cls := .type "dict", data := .dict #[] }) scope.names }
  generalize ece : compEnvC scope (cellsFrom (s3.heap.objs.size + 1) scope.names (cloFrom X.env.cells scope.names [])) s3.heap.objs.size X.env = ce at I4 pg pt pe ⊢
  have ce_at : ce.locals = s3.heap.objs.size := by subst ece; rfl
  generalize e4 : ({ s3 with heap := pushCells (s3.heap.push { cls := .type "dict", data := .dict #[] }) scope.names } : Shared) = s4 at I4 ⊢
  have at_4 : tn 0 s4.heap := T.keep _ _ _ at_3 fun b _ o e => by rw [← e4]; exact pushCells_keeps _ _ _ _ (Heap.get?_push_of_some _ e)
  have still : ∀ {σ' : L2.St} {H' : Hp} {s' : Shared}, Inv (X.blk s3 H3 scope ce fp) [] σ' H' s' → (∀ b ∈ fp, H' b = none) → ∀ b ∈ fp, FpOk (X.blk s3 H3 scope ce fp) [] H' b := fun {σ' H' s'} I' nb b hb =>
    ⟨nb b hb, (I'.ok.exf b hb).1, I'.ok.exfs b hb, .inl hb, fun x c e => (I'.ok.exf b hb).2 x c e, fun p hp => by cases hp⟩
  have loop : codeAny (model X.prog X.w) X.A (.compLoop (.SetComp elt [⟨tg, iter, ifs, 0⟩] scope pos) 0 (.ref it) (.ref D) ce) (compPost (model X.prog X.w) X.A X.xe none Qf (.ref D) s3.heap.objs.size) s4 := by
    refine PpSet.compLoopS_any (fun n s' => ∃ i H', Inv (X.blk s3 H3 scope ce fp) [] (wipe σ (own.map (·.2))) H' s' ∧ tn i s'.heap ∧ (∀ b ∈ fp, H' b = none) ∧ W i n H') ?_ m0 ⟨0, H3, I4, at_4, apart, w0⟩
    rintro n s5 ⟨i, H5, I5, at_5, n5, w5⟩
    rcases turn i n H5 w5 with ⟨stops, at_end⟩ | ⟨goes, Nx, falls, step⟩
    · refine thnF (T.done (X.blk s3 H3 scope ce fp) rfl rfl rfl hc i [] s5 _ H5 (fun _ _ => False) I5 (still I5 n5) at_5 stops) fun r s6 hr => ?_
      obtain ⟨rfl, I6⟩ := hr
      have I7 : Inv X pins σ H5 s6 := I3.call' (ch := fp) I6.os I6.base I6.hok I6.bare fun b hb => by
        obtain ⟨⟨_, f1, f2, f3, f4, f5⟩, _⟩ := fps3 b hb
        exact ⟨f3, f1, f4, f5⟩
      have free_C : H5 s3.heap.objs.size = none := by rw [← ce_at]; exact I6.free
      obtain ⟨m, ns_m, _⟩ := I6.loc
      exact hRR D s3.heap.objs.size s6 m H5 I7 at_end (by rw [← ce_at]; exact ns_m) (I3.fpOk (Nat.le_refl _) free_C)
    · refine thnF (T.item (X.blk s3 H3 scope ce fp) rfl rfl rfl hc i [] s5 _ H5 (fun _ _ => False) I5 (still I5 n5) at_5 goes) fun r s6 hr => ?_
      obtain ⟨u, rfl, let_go⟩ := hr
      refine thnF let_go fun _ s7 hx => ?_
      obtain ⟨x, H7, I7, r7, y7, at_7, n7⟩ := hx
      refine thnF (pg.run _ s7 _ H7 x u _ (I7.pinned (still I7 n7) (T.obj _ _ at_7)) r7 (step x H7 y7)) fun _ s8 hy => ?_
      obtain ⟨σ8, H8, I8, wiped, q8⟩ := hy
      refine thnF (pt.run _ s8 σ8 H8 _ I8 q8) fun b s9 hz => ?_
      obtain ⟨H9, I9, q9⟩ := hz
      have ends : ∀ {s' : Shared} {H' : Hp}, Inv (X.blk s3 H3 scope ce fp) ([] ++ pinsAt fp s7.heap) σ8 H' s' → Nx H' → ∃ m, m < n ∧ ∃ i H', Inv (X.blk s3 H3 scope ce fp) [] (wipe σ (own.map (·.2))) H' s' ∧ tn i s'.heap ∧ (∀ b ∈ fp, H' b = none) ∧ W i m H' := fun {s' H'} I' nx => by
        obtain ⟨m', lt_m, w'⟩ := falls H' nx
        have pinned : ∀ b ∈ fp, ∀ o, s7.heap.get? b = some o → s'.heap.get? b = some o ∧ H' b = none := fun b hb o e => by
          have z := I'.pin (b, o) (List.mem_append_right _ (List.mem_append_right _ (mem_pinsAt hb e)))
          exact ⟨z.1, z.2.1⟩
        refine ⟨m', lt_m, i + 1, H', (I'.unpinned (pins := [])).weak (by rw [← wiped, wipe_length]) (fun j v e => ?_), T.keep _ _ _ at_7 fun b hb o e => (pinned b hb o e).1, fun b hb => ?_, w'⟩
        · rw [← wiped] at e
          exact (wipe_some e).1
        · obtain ⟨ob, e, _⟩ := T.obj _ _ at_7 b hb
          exact (pinned b hb ob e).2
      cases b with
      | false =>
        simp only [Bool.false_eq_true, if_false] at q9 ⊢
        exact ends I9 q9
      | true =>
        simp only [if_true] at q9 ⊢
        refine thnF (pe.run _ s9 σ8 H9 _ I9 q9) fun z s10 hv => ?_
        obtain ⟨yv, H10, I10, r10, c, S0, n0, rfl, at_D, room, nx⟩ := hv
        obtain ⟨tk, rfl⟩ := (show ∃ t, z = Value.int c t from r10)
        exact addI_ok (X := X.blk s3 H3 scope ce fp) I10 at_D room fun s11 I11 => ends I11 nx
  exact PpSet.codeAny_compStart_set loop (T.self X.A 0 _ _ _ at_4 loop)
theorem pe_scI {elt tg iter : Expr} {ifs : List Expr} {scope : Scope} {own : List (Str × Nat)} {pos : Pos} {wi : TI} {g : TG} {tt : TT} {te : TE} (hc : X.calm = true) (hN : X.N.Nodup) (hi : PI X tg iter wi) (ok : BlkOk X.N X.env.scope scope own)
    (hg : ∀ (s : Shared) (H : Hp) (C : Addr) (cl : List (Str × Addr)) (fp : List Addr), PG (X.blk s H scope (compEnvC scope cl C X.env) fp) tg g) (ht : ∀ (s : Shared) (H : Hp) (C : Addr) (cl : List (Str × Addr)) (fp : List Addr), PTs (X.blk s H scope (compEnvC scope cl C X.env) fp) ifs tt)
    (he : ∀ (s : Shared) (H : Hp) (C : Addr) (cl : List (Str × Addr)) (fp : List Addr), PE (X.blk s H scope (compEnvC scope cl C X.env) fp) elt te) (hs : ∀ x, foldedSetIterable iter X.env x = pure x := by intro _; rfl) :
    PE X (.SetComp elt [⟨tg, iter, ifs, 0⟩] scope pos) (tScI X.w wi g tt te (own.map (·.2))) := by
  refine ⟨fun pins s σ H Q I h => ?_⟩
  rw [PpSet.eval_SetComp]
  refine sc_ints hc hN I hi ok hg ht he hs h fun D C s' m H' I' q ns_m f => ⟨m, ns_m, fun h'' sb => ?_⟩
  obtain ⟨f0, f1, f2, f3, f4, f5⟩ := f
  exact ⟨.ref D, H', I'.turned (t' := s'.toks) (fun b o ne e => (sb.2 b ne).trans e) f0 f1 f3 f4 f5, rfl, q⟩
end
theorem lcF_more {t : T} {tt el : E} {ρ0 : Env} : ∀ {ds acc : List D} {st : DS} {res : List D} {st' : DS}, lcF t tt el ρ0 ds acc st = some (res, st') → ∃ more, res = acc ++ more
  | [], acc, st, res, st', h => by unfold lcF at h; cases h; exact ⟨[], by simp⟩
  | d :: ds, acc, st, res, st', h => by
    unfold lcF at h
    split at h
    · cases h
    · split at h
      · split at h
        · split at h
          · obtain ⟨m, e⟩ := lcF_more h
            exact ⟨_, by rw [e, List.append_assoc]⟩
          · cases h
        · cases h
      · exact lcF_more h
      · cases h
theorem ints_app : ∀ {a b : List D} {ns : List Int}, ints? (a ++ b) = some ns → ∃ ms ks, ints? a = some ms ∧ ints? b = some ks ∧ ns = ms ++ ks
  | [], b, ns, h => ⟨[], ns, rfl, h, rfl⟩
  | d :: a, b, ns, h => by
    rw [List.cons_append] at h
    unfold ints? at h
    split at h
    · rename_i heq; cases heq
    · rename_i i r heq
      cases heq
      cases e : ints? (a ++ b) with
      | none => rw [e] at h; cases h
      | some ls =>
        rw [e] at h; cases h
        obtain ⟨ms, ks, e1, e2, e3⟩ := ints_app e
        refine ⟨i :: ms, ks, ?_, e2, by rw [e3]; rfl⟩
        unfold ints?
        rw [e1]; rfl
    · cases h
theorem lift_scI {w : World} {K : PySem.W.Frag} {B : Nat → Bool} {W : WX} {it : Es} {t : T} {tt el : E} {vs : List Nat} {σ : L2.St} {H : Hp} {Q : VK} (h : liftN K B W (eUn dSortSetI (eLc it vs t tt el)) σ H Q) :
    tCB (rSortedSet w) (tCons (tScI w (liftI K true W it) (liftG K vs t) (liftT K WF tt) (liftE K B WF el) vs) tNil) σ H Q := by
  obtain ⟨q, o, ρ, st, rr, stf, I, e, k⟩ := h
  unfold eUn eLc at e
  split at e
  · rename_i x st1 eF
    split at eF
    · rename_i ds st0 ei
      split at eF
      · rename_i res st9 eL
        cases eF
        split at e
        · rename_i z ez
          cases e
          unfold dSortSetI at ez
          split at ez
          · rename_i ds' hds
            cases hds
            split at ez
            · rename_i ns en
              split at ez
              · rename_i h64
                cases ez
                refine ⟨q, o, ρ, st, _, _, I, ei, fun J H1 f1 I1 fd Da hD => ?_⟩
                have nad : Da ≠ q.ad := fun z => by rw [z, I1.dr.1] at hD; cases hD
                have nac : Da ≠ q.ac := fun z => by rw [z, I1.dr.2.1] at hD; cases hD
                refine ⟨fun i m H' => m = ds.length - i ∧ i ≤ ds.length ∧ ∃ (st' : DS) (ms : List Int) (c : Nat), EnvR K (q.blk o vs Da) (owB o vs) (wipe σ vs) H' (wipeE ρ vs) st' ∧ Fr q.ad H1 H' ∧ H' Da = some (SetO w Da (fun j => decide (j ∈ ms)) c) ∧ c ≤ ms.length ∧
                  lcF t tt el (wipeE ρ vs) (ds.drop i) (ms.map D.int) st' = some (res, stf),
                  ⟨ds.length, rfl, Nat.zero_le _, st0, [], 0, I1.block hD, Fr.of_same (same_new hD), ?_, Nat.le_refl _, by simpa using eL⟩, ?_⟩
                · rw [upd_same]
                  congr 2
                rintro i m H' ⟨rfl, hle, st', ms, c, I', f', hD', hc, e'⟩
                have mvD : Mv (Sx q o) H1 (Sx (q.blk o vs Da) (owB o vs)) H' := fun a u e na => by
                  refine ⟨f' a u e fun z => na (.inl (z ▸ I.sad)), fun z => ?_⟩
                  rcases sx_blk z with z | z
                  · exact na z
                  · rw [z, hD] at e; cases e
                obtain ⟨fs, fi⟩ := fd (Sx (q.blk o vs Da) (owB o vs)) H' mvD (fun _ => f') (fun a h => I'.trB h) i
                by_cases hlt : i < ds.length
                · refine .inr ?_
                  rw [drop_cons hlt] at e'
                  obtain ⟨go, yl⟩ := fi ds[i] (by simp [hlt])
                  refine ⟨go, fun H2 => ∃ (st2 : DS) (ms2 : List Int) (c2 : Nat), EnvR K (q.blk o vs Da) (owB o vs) (wipe σ vs) H2 (wipeE ρ vs) st2 ∧ Fr q.ad H1 H2 ∧ H2 Da = some (SetO w Da (fun j => decide (j ∈ ms2)) c2) ∧ c2 ≤ ms2.length ∧
                    lcF t tt el (wipeE ρ vs) (ds.drop (i + 1)) (ms2.map D.int) st2 = some (res, stf), ?_, ?_⟩
                  · rintro H2 ⟨st2, ms2, c2, I2, f2, hD2, hc2, e2⟩
                    exact ⟨ds.length - (i + 1), by omega, rfl, hlt, st2, ms2, c2, I2, f2, hD2, hc2, e2⟩
                  · intro x H2 y
                    obtain ⟨sm, rp⟩ := yl x H2 y
                    have I2 := I'.same sm
                    have f2 : Fr q.ad H1 H2 := f'.trans (Fr.of_same sm)
                    have hD2 := sm _ _ hD'
                    unfold lcF at e'
                    split at e'
                    · cases e'
                    · rename_i ρ1 et
                      refine ⟨q.blk o vs Da, owB o vs, _, st', _, ρ1, I2, rp, et, fun σ3 o3 I3 s3 off => ⟨wipe_wipe_off off.len off.at_, ?_⟩⟩
                      have eo : o3 = owB o vs := by
                        funext j
                        rcases off.ow j with e | ⟨m, e⟩
                        · exact e
                        · rw [e]; unfold owB; rw [if_pos m]
                      subst eo
                      split at e'
                      · rename_i st2 ett
                        refine ⟨q.blk o vs Da, owB o vs, ρ1, st', _, _, I3, ett, fun H4 f4 I4 => ?_⟩
                        refine iteT ?_
                        split at e'
                        · rename_i z st3 eel
                          split at e'
                          · rename_i hl
                            refine ⟨q.blk o vs Da, owB o vs, ρ1, st2, _, _, I4, eel, fun v H5 f5 I5 rp5 => ?_⟩
                            have f25 : Fr q.ad H2 H5 := f4.trans f5
                            have hD5 := f25 Da _ hD2 nad
                            have J5 : EnvR K (q.blk o vs Da) (owB o vs) (wipe σ vs) H5 (wipeE ρ vs) st3 := I2.fr f25 I5.dr
                            -- the new item is an int
                            obtain ⟨more, er⟩ := lcF_more e'
                            rw [er] at en
                            obtain ⟨ms1, ks, g1, g2, g3⟩ := ints_app en
                            obtain ⟨ms0, zs, k1, k2, k3⟩ := ints_app g1
                            rw [ints_map] at k1; cases k1
                            have hz : ∃ c0, z = D.int c0 := by
                              have := ints_eq k2
                              cases zs with
                              | nil => simp at this
                              | cons c0 r => simp at this; exact ⟨c0, this.1⟩
                            obtain ⟨c0, rfl⟩ := hz
                            have hlen : ms.length + 1 ≤ ns.length := by
                              rw [g3, k3]
                              have := ints_eq k2
                              cases zs with
                              | nil => simp at this
                              | cons c0 r => first | (simp; done) | (simp; omega)
                            refine ⟨c0, _, c, rp_int.mp rp5, hD5, by unfold scanBound; omega, st3, ms ++ [c0], if decide (c0 ∈ ms) = true then c else c + 1, J5.writeS (.inr (.inl rfl)) nad nac, fun a u e n => ?_, ?_, ?_, by rw [List.map_append]; exact e'⟩
                            · rw [upd_ne fun q => by rw [q, hD] at e; cases e]
                              exact f25 a u (f2 a u e n) n
                            · rw [upd_same]
                              congr 2
                              funext j
                              simp [List.mem_append]
                            · rw [List.length_append]
                              have one : [c0].length = 1 := rfl
                              split <;> omega
                          · cases e'
                        · cases e'
                      · rename_i st2 ett
                        refine ⟨q.blk o vs Da, owB o vs, ρ1, st', _, _, I3, ett, fun H4 f4 I4 => ?_⟩
                        refine iteF ?_
                        exact ⟨st2, ms, c, I2.fr f4 I4.dr, f2.trans f4, f4 Da _ hD2 nad, hc, e'⟩
                      · cases e'
                · have ei : i = ds.length := by omega
                  subst ei
                  refine .inl ⟨fs (Nat.le_refl _), ?_⟩
                  rw [List.drop_length] at e'
                  unfold lcF at e'
                  cases e'
                  rw [ints_map] at en
                  cases en
                  refine ⟨Da, _, c, rfl, hD', by omega, fun ks p2 h1 h2 h3 hp2 => ?_⟩
                  have em : ks = setI ns := risen_uniq h1 (setI_lt ns) fun j => by rw [h2 j, setI_mem, decide_eq_true_eq]
                  subst em
                  have n1 : H1 p2 = none := fresh_back (I1.fr f' I'.dr) f' hp2
                  have f2 : Fr q.ad H1 (upd H' p2 (.lst ((setI ns).map V.int))) := f'.trans (Fr.of_same (same_new hp2))
                  exact k p2 _ (f1.trans f2) ((I1.fr f' I'.dr).same (same_new hp2)) (fresh_back I1 f1 n1) ⟨_, upd_same, rpAll_ints' _⟩
              · cases ez
            · cases ez
          · rename_i hne; exact (hne _ rfl).elim
        · cases e
      · cases eF
    · cases eF
    · cases eF
  · rename_i x st1 eF
    cases e
    split at eF
    · split at eF
      · cases eF
      · cases eF
    · rename_i e2 st2 ei
      cases eF
      exact ⟨q, o, ρ, st, _, _, I, ei, k⟩
    · cases eF
  · cases e
section
variable {X : Cx} {B : Nat → Bool} {W : WX} {elt tg iter : Expr} {ifs : List Expr} {scope : Scope} {own : List (Str × Nat)} {pos p1 pos1 : Pos} {it : Es} {t : T} {tt el : E} {vs : List Nat}
theorem n_sortLcI (hc : X.calm = true) (hgs : Gl X "sorted") (hms : X.mg "sorted" = none) (hvs : vs = own.map (·.2)) (hc' : X.calm = true) (hN : X.N.Nodup) (hi : PI X tg iter (liftI X.K true W it)) (ok : BlkOk X.N X.env.scope scope own)
    (hg : ∀ (s : Shared) (H : Hp) (C : Addr) (cl : List (Str × Addr)) (fp : List Addr), PG (X.blk s H scope (compEnvC scope cl C X.env) fp) tg (liftG X.K vs t)) (ht : ∀ (s : Shared) (H : Hp) (C : Addr) (cl : List (Str × Addr)) (fp : List Addr), PTs (X.blk s H scope (compEnvC scope cl C X.env) fp) ifs (liftT X.K WF tt))
    (he : ∀ (s : Shared) (H : Hp) (C : Addr) (cl : List (Str × Addr)) (fp : List Addr), PE (X.blk s H scope (compEnvC scope cl C X.env) fp) elt (liftE X.K B WF el)) (hs : ∀ x, foldedSetIterable iter X.env x = pure x := by intro _; rfl)
    (he2 : starEach [.SetComp elt [⟨tg, iter, ifs, 0⟩] scope pos] X.env = (false, eval (.SetComp elt [⟨tg, iter, ifs, 0⟩] scope pos) X.env) :: starEach [] X.env := by rfl) :
    PE X (.Call (.Name "sorted" p1) [.SetComp elt [⟨tg, iter, ifs, 0⟩] scope pos] [] pos1) (liftN X.K B W (eUn dSortSetI (eLc it vs t tt el))) := by
  refine pe_imp (pe_callB (cr_sortedSet hc) hgs hms (by decide +kernel) (pa_cons (pe_scI hc hN hi ok hg ht he hs) pa_nil he2) (by decide) (by decide) he2 (by rfl)) fun σ H Q h => ?_
  rw [← hvs]
  exact lift_scI h
end
end FL


set_option Elab.async false
set_option linter.all false
set_option maxRecDepth 100000
/-! FLW: running the functional texts: what must hold for a result to have P. -/
namespace FL
set_option autoImplicit false
open PySem PySem.Spec L2
def Eo (e : E) (ρ : FL.Env) (st : DS) (P : D → DS → Prop) : Prop := ∃ v st', e ρ st = some (.ok v, st') ∧ P v st'
def As (e : Es) (ρ : FL.Env) (st : DS) (P : List D → DS → Prop) : Prop := ∃ v st', e ρ st = some (.ok v, st') ∧ P v st'
def Po (e : Ep) (ρ : FL.Env) (st : DS) (P : Option Int → DS → Prop) : Prop := ∃ v st', e ρ st = some (.ok v, st') ∧ P v st'
def Fo (F : Fn) (ds : List D) (st : DS) (P : D → DS → Prop) : Prop := ∃ v st', F ds st = some (.ok v, st') ∧ P v st'
def Co (c : C) (ρ : FL.Env) (st : DS) (Q : Fl → FL.Env → DS → Prop) : Prop := ∃ fl ρ' st', c ρ st = some (fl, ρ', st') ∧ Q fl ρ' st'
def Sq (h : C) (Q : Fl → FL.Env → DS → Prop) : Fl → FL.Env → DS → Prop
  | .nx, ρ, st => Co h ρ st Q
  | fl, ρ, st => Q fl ρ st
def Fb (P : D → DS → Prop) : Fl → FL.Env → DS → Prop
  | .rt d, _, st => P d st
  | .nx, _, st => P .non st
  | _, _, _ => False
section
variable {ρ : FL.Env} {st : DS} {P : D → DS → Prop} {PA : List D → DS → Prop} {Q : Fl → FL.Env → DS → Prop}
theorem Eo.mono {e : E} {P P' : D → DS → Prop} (h : Eo e ρ st P) (k : ∀ v st', P v st' → P' v st') : Eo e ρ st P' := by
  obtain ⟨v, st', e1, p⟩ := h
  exact ⟨v, st', e1, k v st' p⟩
theorem Fo.mono {F : Fn} {ds : List D} {P P' : D → DS → Prop} (h : Fo F ds st P) (k : ∀ v st', P v st' → P' v st') : Fo F ds st P' := by
  obtain ⟨v, st', e1, p⟩ := h
  exact ⟨v, st', e1, k v st' p⟩
theorem Co.mono {c : C} {Q Q' : Fl → FL.Env → DS → Prop} (h : Co c ρ st Q) (k : ∀ fl ρ' st', Q fl ρ' st' → Q' fl ρ' st') : Co c ρ st Q' := by
  obtain ⟨v, ρ', st', e1, p⟩ := h
  exact ⟨v, ρ', st', e1, k v ρ' st' p⟩
theorem Fo_of {F : Fn} {ds : List D} {v : D} {st' : DS} (h : F ds st = some (.ok v, st')) : Fo F ds st P ↔ P v st' := by
  constructor
  · rintro ⟨v2, st2, e, p⟩
    rw [h] at e
    cases e
    exact p
  · exact fun p => ⟨_, _, h, p⟩
theorem Eo_of {F : E} {v : D} {st' : DS} (h : F ρ st = some (.ok v, st')) : Eo F ρ st P ↔ P v st' := by
  constructor
  · rintro ⟨v2, st2, e, p⟩
    rw [h] at e
    cases e
    exact p
  · exact fun p => ⟨_, _, h, p⟩
theorem to_Fo {F : Fn} {ds : List D} {v : D} (h : ∀ P : D → DS → Prop, P v st → Fo F ds st P) : F ds st = some (.ok v, st) := by
  obtain ⟨v2, st2, e, p⟩ := h (fun v' st' => v' = v ∧ st' = st) ⟨rfl, rfl⟩
  rw [e, p.1, p.2]
theorem Eo_C {d : D} : Eo (eC d) ρ st P ↔ P d st := Eo_of rfl
theorem Eo_V {i : Nat} : Eo (eV i) ρ st P ↔ ∃ d, ρ[i]? = some (.v d) ∧ P d st := by
  constructor
  · rintro ⟨v, st', e, p⟩
    unfold eV at e
    split at e
    · cases e
      exact ⟨_, by assumption, p⟩
    · cases e
  · rintro ⟨d, hd, p⟩
    exact ⟨d, st, by unfold eV; rw [hd], p⟩
theorem Eo_B {i : Nat} : Eo (eB i) ρ st P ↔ ∃ d, (ρ[i]? = some (.v d) ∨ ρ[i]? = some (.o d)) ∧ P d st := by
  constructor
  · rintro ⟨v, st', e, p⟩
    unfold eB at e
    split at e
    · cases e
      exact ⟨_, .inl (by assumption), p⟩
    · cases e
      exact ⟨_, .inr (by assumption), p⟩
    · cases e
  · rintro ⟨d, hd | hd, p⟩
    · exact ⟨d, st, by unfold eB; rw [hd], p⟩
    · exact ⟨d, st, by unfold eB; rw [hd], p⟩
theorem Eo_bin {f : D → D → Option D} {a b : E} : Eo (eBin f a b) ρ st P ↔ Eo a ρ st fun x st1 => Eo b ρ st1 fun y st2 => ∃ z, f x y = some z ∧ P z st2 := by
  constructor
  · rintro ⟨v, st', e, p⟩
    unfold eBin at e
    repeat' split at e
    all_goals first | cases e; done | skip
    cases e
    exact ⟨_, _, ‹a ρ st = _›, _, _, ‹b ρ _ = _›, _, ‹f _ _ = _›, p⟩
  · rintro ⟨x, st1, h1, y, st2, h2, z, h3, p⟩
    exact ⟨z, st2, by unfold eBin; simp only [h1, h2, h3], p⟩
theorem Eo_un {f : D → Option D} {a : E} : Eo (eUn f a) ρ st P ↔ Eo a ρ st fun x st1 => ∃ z, f x = some z ∧ P z st1 := by
  constructor
  · rintro ⟨v, st', e, p⟩
    unfold eUn at e
    repeat' split at e
    all_goals first | cases e; done | skip
    cases e
    exact ⟨_, _, ‹a ρ st = _›, _, ‹f _ = _›, p⟩
  · rintro ⟨x, st1, h1, z, h3, p⟩
    exact ⟨z, st1, by unfold eUn; simp only [h1, h3], p⟩
theorem Eo_and {a b : E} : Eo (eAnd a b) ρ st P ↔ Eo a ρ st fun x st1 => ∃ t, x = .bl t ∧ (if t = true then Eo b ρ st1 P else P (.bl false) st1) := by
  constructor
  · rintro ⟨v, st', e, p⟩
    unfold eAnd at e
    repeat' split at e
    · rename_i st1 h1
      exact ⟨_, st1, h1, true, rfl, by rw [if_pos rfl]; exact ⟨v, st', e, p⟩⟩
    · rename_i st1 h1
      cases e
      exact ⟨_, _, h1, false, rfl, by rw [if_neg (by decide)]; exact p⟩
    all_goals cases e
  · rintro ⟨x, st1, h1, t, rfl, p⟩
    cases t with
    | true =>
      rw [if_pos rfl] at p
      obtain ⟨v, st', e, p⟩ := p
      exact ⟨v, st', by unfold eAnd; simp only [h1]; exact e, p⟩
    | false =>
      rw [if_neg (by decide)] at p
      exact ⟨_, st1, by unfold eAnd; simp only [h1], p⟩
theorem Eo_or {a b : E} : Eo (eOr a b) ρ st P ↔ Eo a ρ st fun x st1 => ∃ t, x = .bl t ∧ (if t = true then P (.bl true) st1 else Eo b ρ st1 P) := by
  constructor
  · rintro ⟨v, st', e, p⟩
    unfold eOr at e
    repeat' split at e
    · rename_i st1 h1
      exact ⟨_, st1, h1, false, rfl, by rw [if_neg (by decide)]; exact ⟨v, st', e, p⟩⟩
    · rename_i st1 h1
      cases e
      exact ⟨_, _, h1, true, rfl, by rw [if_pos rfl]; exact p⟩
    all_goals cases e
  · rintro ⟨x, st1, h1, t, rfl, p⟩
    cases t with
    | false =>
      rw [if_neg (by decide)] at p
      obtain ⟨v, st', e, p⟩ := p
      exact ⟨v, st', by unfold eOr; simp only [h1]; exact e, p⟩
    | true =>
      rw [if_pos rfl] at p
      exact ⟨_, st1, by unfold eOr; simp only [h1], p⟩
theorem Eo_not {a : E} : Eo (eNot a) ρ st P ↔ Eo a ρ st fun x st1 => ∃ t, x = .bl t ∧ P (.bl (!t)) st1 := by
  constructor
  · rintro ⟨v, st', e, p⟩
    unfold eNot at e
    repeat' split at e
    · cases e
      exact ⟨_, _, ‹a ρ st = _›, _, rfl, p⟩
    all_goals cases e
  · rintro ⟨x, st1, h1, t, rfl, p⟩
    exact ⟨_, st1, by unfold eNot; simp only [h1], p⟩
theorem Eo_if {c a b : E} : Eo (eIf c a b) ρ st P ↔ Eo c ρ st fun x st1 => ∃ t, x = .bl t ∧ (if t = true then Eo a ρ st1 P else Eo b ρ st1 P) := by
  constructor
  · rintro ⟨v, st', e, p⟩
    unfold eIf at e
    repeat' split at e
    · rename_i st1 h1
      exact ⟨_, st1, h1, true, rfl, by rw [if_pos rfl]; exact ⟨v, st', e, p⟩⟩
    · rename_i st1 h1
      exact ⟨_, st1, h1, false, rfl, by rw [if_neg (by decide)]; exact ⟨v, st', e, p⟩⟩
    all_goals cases e
  · rintro ⟨x, st1, h1, t, rfl, p⟩
    cases t with
    | true =>
      rw [if_pos rfl] at p
      obtain ⟨v, st', e, p⟩ := p
      exact ⟨v, st', by unfold eIf; simp only [h1]; exact e, p⟩
    | false =>
      rw [if_neg (by decide)] at p
      obtain ⟨v, st', e, p⟩ := p
      exact ⟨v, st', by unfold eIf; simp only [h1]; exact e, p⟩
theorem Eo_free {a : E} : Eo (eFree a) ρ st P ↔ Eo a ρ st fun x st1 => x.free = true ∧ P x st1 := by
  constructor
  · rintro ⟨v, st', e, p⟩
    unfold eFree at e
    repeat' split at e
    all_goals first | cases e; done | skip
    cases e
    exact ⟨_, _, ‹a ρ st = _›, by assumption, p⟩
  · rintro ⟨x, st1, h1, hf, p⟩
    exact ⟨_, st1, by unfold eFree; simp only [h1, hf, if_true], p⟩
theorem As_nil : As eNil ρ st PA ↔ PA [] st := by
  constructor
  · rintro ⟨v, st', e, p⟩
    cases e
    exact p
  · exact fun p => ⟨_, _, rfl, p⟩
theorem As_cons {a : E} {r : Es} : As (eCons a r) ρ st PA ↔ Eo a ρ st fun x st1 => As r ρ st1 fun xs st2 => PA (x :: xs) st2 := by
  constructor
  · rintro ⟨v, st', e, p⟩
    unfold eCons at e
    repeat' split at e
    all_goals first | cases e; done | skip
    cases e
    exact ⟨_, _, ‹a ρ st = _›, _, _, ‹r ρ _ = _›, p⟩
  · rintro ⟨x, st1, h1, y, st2, h2, p⟩
    exact ⟨_, st2, by unfold eCons; simp only [h1, h2], p⟩
theorem Eo_fn {f : List D → Option D} {a : Es} : Eo (eFn f a) ρ st P ↔ As a ρ st fun x st1 => ∃ z, f x = some z ∧ P z st1 := by
  constructor
  · rintro ⟨v, st', e, p⟩
    unfold eFn at e
    repeat' split at e
    all_goals first | cases e; done | skip
    cases e
    exact ⟨_, _, ‹a ρ st = _›, _, ‹f _ = _›, p⟩
  · rintro ⟨x, st1, h1, z, h3, p⟩
    exact ⟨z, st1, by unfold eFn; simp only [h1, h3], p⟩
theorem Eo_call {n : Nat} {F : Fn} {a : Es} : Eo (eCall n F a) ρ st P ↔ As a ρ st fun x st1 => x.length = n ∧ Fo F x st1 P := by
  constructor
  · rintro ⟨v, st', e, p⟩
    unfold eCall at e
    repeat' split at e
    all_goals first | cases e; done | skip
    exact ⟨_, _, ‹a ρ st = _›, by assumption, _, _, e, p⟩
  · rintro ⟨x, st1, h1, h2, v, st', e, p⟩
    exact ⟨v, st', by unfold eCall; simp only [h1, h2, if_true]; exact e, p⟩
theorem Fo_body {n N : Nat} {G : C} {ds : List D} : Fo (fnBody n N G) ds st P ↔ ds.length = n ∧ Co G (ds.map Sl.v ++ List.replicate (N - n) Sl.no) st (Fb P) := by
  constructor
  · rintro ⟨v, st', e, p⟩
    unfold fnBody at e
    repeat' split at e
    all_goals first | cases e; done | skip
    · cases e
      have g := ‹G _ st = _›
      exact ⟨‹ds.length = n›, _, _, _, g, p⟩
    · cases e
      have g := ‹G _ st = _›
      exact ⟨‹ds.length = n›, _, _, _, g, p⟩
  · rintro ⟨hl, fl, ρ', st', h1, p⟩
    cases fl with
    | rt d => exact ⟨d, st', by unfold fnBody; simp only [hl, if_true, h1], p⟩
    | nx => exact ⟨_, st', by unfold fnBody; simp only [hl, if_true, h1], p⟩
    | _ => exact p.elim
theorem Co_nil : Co cNil ρ st Q ↔ Q .nx ρ st := ⟨fun ⟨_, _, _, e, p⟩ => by cases e; exact p, fun p => ⟨_, _, _, rfl, p⟩⟩
theorem Co_brk : Co cBrk ρ st Q ↔ Q .bk ρ st := ⟨fun ⟨_, _, _, e, p⟩ => by cases e; exact p, fun p => ⟨_, _, _, rfl, p⟩⟩
theorem Co_cont : Co cCont ρ st Q ↔ Q .ct ρ st := ⟨fun ⟨_, _, _, e, p⟩ => by cases e; exact p, fun p => ⟨_, _, _, rfl, p⟩⟩
theorem Co_retN : Co cRetN ρ st Q ↔ Q (.rt .non) ρ st := ⟨fun ⟨_, _, _, e, p⟩ => by cases e; exact p, fun p => ⟨_, _, _, rfl, p⟩⟩
theorem Co_seq {g h : C} : Co (cSeq g h) ρ st Q ↔ Co g ρ st (Sq h Q) := by
  constructor
  · rintro ⟨fl, ρ', st', e, p⟩
    unfold cSeq at e
    split at e
    · rename_i ρ1 st1 h1
      exact ⟨_, _, _, h1, _, _, _, e, p⟩
    · rename_i hx
      refine ⟨_, _, _, e, ?_⟩
      cases fl with
      | nx => exact absurd e (hx _ _)
      | _ => exact p
  · rintro ⟨fl, ρ1, st1, h1, p⟩
    cases fl with
    | nx =>
      obtain ⟨fl, ρ', st', e, p⟩ := p
      exact ⟨fl, ρ', st', by unfold cSeq; simp only [h1]; exact e, p⟩
    | _ => exact ⟨_, _, _, by unfold cSeq; simp only [h1], p⟩
theorem Co_set {i : Nat} {a : E} : Co (cSet i a) ρ st Q ↔ Eo a ρ st (fun d st1 => Q .nx (ρ.set i (.v d)) st1) ∨ ∃ x st1, a ρ st = some (.ex x, st1) ∧ Q (.ex x) ρ st1 := by
  constructor
  · rintro ⟨fl, ρ', st', e, p⟩
    unfold cSet at e
    split at e
    · rename_i d st1 h1
      cases e
      exact .inl ⟨_, _, h1, p⟩
    · rename_i x st1 h1
      cases e
      exact .inr ⟨_, _, h1, p⟩
    · cases e
  · rintro (⟨d, st1, h1, p⟩ | ⟨x, st1, h1, p⟩)
    · exact ⟨_, _, _, by unfold cSet; simp only [h1], p⟩
    · exact ⟨_, _, _, by unfold cSet; simp only [h1], p⟩
theorem Co_set' {i : Nat} {a : E} (h : Eo a ρ st fun d st1 => Q .nx (ρ.set i (.v d)) st1) : Co (cSet i a) ρ st Q := Co_set.mpr (.inl h)
theorem Co_own' {i : Nat} {a : E} (h : Eo a ρ st fun d st1 => Q .nx (ρ.set i (.o d)) st1) : Co (cOwn i a) ρ st Q := by
  obtain ⟨d, st1, h1, p⟩ := h
  exact ⟨_, _, _, by unfold cOwn; simp only [h1], p⟩
theorem Co_ret' {a : E} (h : Eo a ρ st fun d st1 => Q (.rt d) ρ st1) : Co (cRet a) ρ st Q := by
  obtain ⟨d, st1, h1, p⟩ := h
  exact ⟨_, _, _, by unfold cRet; simp only [h1], p⟩
theorem Co_expr' {a : E} (h : Eo a ρ st fun d st1 => Q .nx ρ st1) : Co (cExpr a) ρ st Q := by
  obtain ⟨d, st1, h1, p⟩ := h
  exact ⟨_, _, _, by unfold cExpr; simp only [h1], p⟩
theorem Co_if' {c : E} {g k : C} (h : Eo c ρ st fun x st1 => ∃ t, x = .bl t ∧ (if t = true then Co g ρ st1 Q else Co k ρ st1 Q)) : Co (cIf c g k) ρ st Q := by
  obtain ⟨x, st1, h1, t, rfl, p⟩ := h
  cases t with
  | true =>
    rw [if_pos rfl] at p
    obtain ⟨v, ρ', st', e, p⟩ := p
    exact ⟨v, ρ', st', by unfold cIf; simp only [h1]; exact e, p⟩
  | false =>
    rw [if_neg (by decide)] at p
    obtain ⟨v, ρ', st', e, p⟩ := p
    exact ⟨v, ρ', st', by unfold cIf; simp only [h1]; exact e, p⟩
theorem Co_frz' {i : Nat} (h : ∃ d, ρ[i]? = some (.o d) ∧ Q .nx (ρ.set i (.v d)) st) : Co (cFrz i) ρ st Q := by
  obtain ⟨d, h1, p⟩ := h
  exact ⟨_, _, _, by unfold cFrz; rw [h1], p⟩
theorem Co_app' {i : Nat} {a : E} (h : ∃ ds, ρ[i]? = some (.o (.lst ds)) ∧ Eo a ρ st fun d st1 => ds.length < sizeLine ∧ Q .nx (ρ.set i (.o (.lst (ds ++ [d])))) st1) : Co (cAppend i a) ρ st Q := by
  obtain ⟨ds, h0, d, st1, h1, hl, p⟩ := h
  exact ⟨_, _, _, by unfold cAppend; simp only [h0, h1, hl, if_true], p⟩
theorem Co_put' {i : Nat} {a v : E} (h : Eo v ρ st fun d st1 => ∃ kvs, ρ[i]? = some (.o (.dic kvs)) ∧ Eo a ρ st1 fun y st2 => ∃ k, y.key = some k ∧ kvs.length < sizeLine ∧ Q .nx (ρ.set i (.o (.dic (putD kvs k d)))) st2) : Co (cPut i a v) ρ st Q := by
  obtain ⟨d, st1, h1, kvs, h2, y, st2, h3, k, h4, hl, p⟩ := h
  exact ⟨_, _, _, by unfold cPut; simp only [h1, h2, h3, h4, hl, if_true], p⟩
theorem Co_aug' {f : D → D → Option D} {i : Nat} {a : E} (h : ∃ x, ρ[i]? = some (.v x) ∧ Eo a ρ st fun y st1 => ∃ z, f x y = some z ∧ Q .nx (ρ.set i (.v z)) st1) : Co (cAug f i a) ρ st Q := by
  obtain ⟨x, h0, y, st1, h1, z, h2, p⟩ := h
  exact ⟨_, _, _, by unfold cAug; simp only [h0, h1, h2], p⟩
theorem Co_asg' {t : T} {a : E} (h : Eo a ρ st fun d st1 => ∃ ρ1, t d ρ = some ρ1 ∧ Q .nx ρ1 st1) : Co (cAsg t a) ρ st Q := by
  obtain ⟨x, st1, h1, ρ1, h2, p⟩ := h
  exact ⟨_, _, _, by unfold cAsg; simp only [h1, h2], p⟩
/-- a loop: J i ρ st stands ahead of the i-th item -/
theorem Co_for' {it : Es} {t : T} {g : C} (J : Nat → FL.Env → DS → Prop) (h : As it ρ st fun ds st1 => J 0 ρ st1 ∧
    (∀ i d ρ st, ds[i]? = some d → J i ρ st → ∃ ρ1, t d ρ = some ρ1 ∧ Co g ρ1 st fun fl ρ2 st2 => match fl with
      | .nx => J (i + 1) ρ2 st2
      | .ct => J (i + 1) ρ2 st2
      | .bk => Q .nx ρ2 st2
      | .rt d => Q (.rt d) ρ2 st2
      | .ex x => Q (.ex x) ρ2 st2) ∧ ∀ ρ st, J ds.length ρ st → Q .nx ρ st) : Co (cFor it t g) ρ st Q := by
  obtain ⟨ds, st1, h1, j0, hs, hz⟩ := h
  have run : ∀ (r : List D) (i : Nat) (ρ : FL.Env) (st : DS), ds.drop i = r → i ≤ ds.length → J i ρ st → Co (loopF t g r) ρ st Q := by
    intro r
    induction r with
    | nil =>
      intro i ρ st hd hi j
      have e : i = ds.length := by
        have := congrArg List.length hd
        rw [List.length_drop, List.length_nil] at this
        omega
      subst e
      exact ⟨_, _, _, rfl, hz _ _ j⟩
    | cons d r ih =>
      intro i ρ st hd hi j
      have hl : i < ds.length := by
        have := congrArg List.length hd
        rw [List.length_drop, List.length_cons] at this
        omega
      have e0 : ds[i]? = some d := by
        have := List.getElem?_drop (xs := ds) (i := i) (j := 0)
        rw [hd] at this
        simpa using this.symm
      have er : ds.drop (i + 1) = r := by
        rw [← List.tail_drop, hd]; rfl
      obtain ⟨ρ1, t1, fl, ρ2, st2, g1, p⟩ := hs i d ρ st e0 j
      cases fl with
      | nx =>
        obtain ⟨fl, ρ3, st3, e3, p3⟩ := ih (i + 1) ρ2 st2 er hl p
        exact ⟨fl, ρ3, st3, by unfold loopF; simp only [t1, g1]; exact e3, p3⟩
      | ct =>
        obtain ⟨fl, ρ3, st3, e3, p3⟩ := ih (i + 1) ρ2 st2 er hl p
        exact ⟨fl, ρ3, st3, by unfold loopF; simp only [t1, g1]; exact e3, p3⟩
      | bk => exact ⟨_, _, _, by unfold loopF; simp only [t1, g1], p⟩
      | rt d => exact ⟨_, _, _, by unfold loopF; simp only [t1, g1], p⟩
      | ex x => exact ⟨_, _, _, by unfold loopF; simp only [t1, g1], p⟩
  obtain ⟨fl, ρ', st', e, p⟩ := run ds 0 ρ st1 rfl (Nat.zero_le _) j0
  exact ⟨fl, ρ', st', by unfold cFor; simp only [h1]; exact e, p⟩
theorem As_seq {a : E} : As (iSeq a) ρ st PA ↔ Eo a ρ st fun x st1 => ∃ ds, (x = .lst ds ∨ x = .tup ds) ∧ PA ds st1 := by
  constructor
  · rintro ⟨v, st', e, p⟩
    unfold iSeq at e
    repeat' split at e
    · rename_i h1
      cases e
      exact ⟨_, _, h1, _, .inl rfl, p⟩
    · rename_i h1
      cases e
      exact ⟨_, _, h1, _, .inr rfl, p⟩
    all_goals cases e
  · rintro ⟨x, st1, h1, ds, rfl | rfl, p⟩
    · exact ⟨_, st1, by unfold iSeq; simp only [h1], p⟩
    · exact ⟨_, st1, by unfold iSeq; simp only [h1], p⟩
theorem As_bor {i : Nat} : As (iBor i) ρ st PA ↔ ∃ ds, ρ[i]? = some (.o (.lst ds)) ∧ PA ds st := by
  constructor
  · rintro ⟨v, st', e, p⟩
    unfold iBor at e
    split at e
    · rename_i h1
      cases e
      exact ⟨_, h1, p⟩
    · cases e
  · rintro ⟨ds, h1, p⟩
    exact ⟨_, st, by unfold iBor; simp only [h1], p⟩
theorem As_rng1 {a : E} : As (iRng1 a) ρ st PA ↔ Eo a ρ st fun x st1 => ∃ j, x = .int j ∧ (-(2 ^ 62) ≤ j ∧ j < 2 ^ 62) ∧ PA (rangeD 0 j.toNat) st1 := by
  constructor
  · rintro ⟨v, st', e, p⟩
    unfold iRng1 at e
    repeat' split at e
    all_goals first | cases e; done | skip
    rename_i h1 h2
    cases e
    rw [Bool.and_eq_true, decide_eq_true_eq, decide_eq_true_eq] at h2
    exact ⟨_, _, h1, _, rfl, h2, p⟩
  · rintro ⟨x, st1, h1, j, rfl, h2, p⟩
    refine ⟨_, st1, ?_, p⟩
    unfold iRng1
    simp only [h1]
    rw [if_pos (by rw [Bool.and_eq_true, decide_eq_true_eq, decide_eq_true_eq]; exact h2)]
/-- a comprehension whose test and item draw nothing -/
theorem Eo_lc' {it : Es} {own : List Nat} {t : T} {tt el : E} (c : D → Bool) (f : D → D) (h : As it ρ st fun ds st1 => ds.length ≤ sizeLine ∧
    (∀ d ∈ ds, ∃ ρ1, t d (wipeE ρ own) = some ρ1 ∧ (Eo tt ρ1 st1 fun x st2 => x = .bl (c d) ∧ st2 = st1) ∧ (c d = true → Eo el ρ1 st1 fun z st2 => z = f d ∧ st2 = st1)) ∧ P (.lst ((ds.filter c).map f)) st1) : Eo (eLc it own t tt el) ρ st P := by
  obtain ⟨ds, st1, h1, hl, hd, p⟩ := h
  have run : ∀ (r : List D) (acc : List D), (∀ d ∈ r, d ∈ ds) → acc.length + r.length ≤ sizeLine → lcF t tt el (wipeE ρ own) r acc st1 = some (acc ++ (r.filter c).map f, st1) := by
    intro r
    induction r with
    | nil => intro acc _ _; unfold lcF; simp
    | cons d r ih =>
      intro acc hm hb
      rw [List.length_cons] at hb
      obtain ⟨ρ1, t1, ⟨x, st2, e2, rfl, rfl⟩, hel⟩ := hd d (hm d List.mem_cons_self)
      cases hc : c d with
      | true =>
        obtain ⟨z, st3, e3, rfl, rfl⟩ := hel hc
        rw [hc] at e2
        have hlt : acc.length < sizeLine := by omega
        unfold lcF
        simp only [t1, e2, e3, hlt, if_true]
        rw [ih _ (fun d hd => hm d (List.mem_cons_of_mem _ hd)) (by rw [List.length_append, List.length_singleton]; omega)]
        rw [List.filter_cons_of_pos hc, List.map_cons, List.append_assoc]; rfl
      | false =>
        rw [hc] at e2
        unfold lcF
        simp only [t1, e2]
        rw [ih _ (fun d hd => hm d (List.mem_cons_of_mem _ hd)) (by omega), List.filter_cons_of_neg (by rw [hc]; decide)]
  refine ⟨_, st1, ?_, p⟩
  unfold eLc
  simp only [h1, run ds [] (fun _ h => h) (by simpa using hl), List.nil_append]
theorem Po_no {PP : Option Int → DS → Prop} : Po pNo ρ st PP ↔ PP none st := ⟨fun ⟨_, _, e, p⟩ => by cases e; exact p, fun p => ⟨_, _, rfl, p⟩⟩
theorem Po_E {a : E} {PP : Option Int → DS → Prop} : Po (pE a) ρ st PP ↔ Eo a ρ st fun x st1 => ∃ j, x = .int j ∧ PP (some j) st1 := by
  constructor
  · rintro ⟨v, st', e, p⟩
    unfold pE at e
    repeat' split at e
    all_goals first | cases e; done | skip
    rename_i h1
    cases e
    exact ⟨_, _, h1, _, rfl, p⟩
  · rintro ⟨x, st1, h1, j, rfl, p⟩
    exact ⟨_, st1, by unfold pE; simp only [h1], p⟩
theorem Eo_sl {f : D → Option Int → Option Int → Option D} {a : E} {l u : Ep} : Eo (eSl f a l u) ρ st P ↔ Eo a ρ st fun x st1 => Po l ρ st1 fun i st2 => Po u ρ st2 fun j st3 => ∃ z, f x i j = some z ∧ P z st3 := by
  constructor
  · rintro ⟨v, st', e, p⟩
    unfold eSl at e
    repeat' split at e
    all_goals first | cases e; done | skip
    cases e
    exact ⟨_, _, ‹a ρ st = _›, _, _, ‹l ρ _ = _›, _, _, ‹u ρ _ = _›, _, ‹f _ _ _ = _›, p⟩
  · rintro ⟨x, st1, h1, i, st2, h2, j, st3, h3, z, h4, p⟩
    exact ⟨z, st3, by unfold eSl; simp only [h1, h2, h3, h4], p⟩
theorem Eo_get1 {a b : E} : Eo (eGet1 a b) ρ st P ↔ Eo a ρ st fun x st1 => ∃ kvs, x = .dic kvs ∧ Eo b ρ st1 fun y st2 => ∃ k, y.key = some k ∧ P ((valD kvs k).getD .non) st2 := by
  constructor
  · rintro ⟨v, st', e, p⟩
    unfold eGet1 at e
    repeat' split at e
    all_goals first | cases e; done | skip
    cases e
    exact ⟨_, _, ‹a ρ st = _›, _, rfl, _, _, ‹b ρ _ = _›, _, ‹D.key _ = _›, p⟩
  · rintro ⟨x, st1, h1, kvs, rfl, y, st2, h2, k, h3, p⟩
    exact ⟨_, st2, by unfold eGet1; simp only [h1, h2, h3], p⟩
end
theorem Fo_draw {m : Int} {st : DS} {P : D → DS → Prop} (hm : 0 < m) (hb : m < 1073741824) (h : ∀ i st', 0 ≤ i → i < m → P (.int i) st') : Fo F_draw [.dst, .int m] st P :=
  ⟨_, _, by unfold F_draw; simp only [hm, hb, decide_true, Bool.and_self, if_true]; rfl, h _ _ (draw_range st hm).1 (draw_range st hm).2⟩
theorem iteD {c : Prop} [Decidable c] {A B : Prop} (h1 : c → A) (h2 : ¬c → B) : if c then A else B := by
  by_cases h : c
  · rw [if_pos h]; exact h1 h
  · rw [if_neg h]; exact h2 h
/-! values -/
theorem dAdd_int (i j : Int) : dAdd (.int i) (.int j) = some (.int (i + j)) := rfl
theorem dSub_int (i j : Int) : dSub (.int i) (.int j) = some (.int (i - j)) := rfl
theorem dLt_int (i j : Int) : dLt (.int i) (.int j) = some (.bl (decide (i < j))) := rfl
theorem dLe_int (i j : Int) : dLe (.int i) (.int j) = some (.bl (decide (i ≤ j))) := rfl
theorem dGt_int (i j : Int) : dGt (.int i) (.int j) = some (.bl (decide (j < i))) := rfl
theorem dGe_int (i j : Int) : dGe (.int i) (.int j) = some (.bl (decide (j ≤ i))) := rfl
theorem dNeg_int (i : Int) : dNeg (.int i) = some (.int (-i)) := rfl
theorem dMax2_int (i j : Int) : dMax2 [.int i, .int j] = some (.int (if j > i then j else i)) := rfl
theorem dMin2_int (i j : Int) : dMin2 [.int i, .int j] = some (.int (if j < i then j else i)) := rfl
theorem dLen_lst (ds : List D) : dLen [.lst ds] = some (.int ds.length) := rfl
theorem dLen_tup (ds : List D) : dLen [.tup ds] = some (.int ds.length) := rfl
theorem dTuple_lst (ds : List D) : dTuple [.lst ds] = some (.tup ds) := rfl
theorem dTuple_tup (ds : List D) : dTuple [.tup ds] = some (.tup ds) := rfl
theorem dRev_lst (ds : List D) : dRev (.lst ds) = some (.lst ds.reverse) := rfl
theorem dAt_lst (ds : List D) (i : Int) : dAt (.lst ds) (.int i) = atI ds i := by
  cases h : atI ds i <;> simp [dAt, dOr, dIx, dIxL, dIxT, dIxS, dIxD, h]
theorem dAt_tup (ds : List D) (i : Int) : dAt (.tup ds) (.int i) = atI ds i := by
  cases h : atI ds i <;> simp [dAt, dOr, dIx, dIxL, dIxT, dIxS, dIxD, h]
theorem dAt_dic (kvs : List (Key × D)) (i : Int) : dAt (.dic kvs) (.int i) = valD kvs (.inl i) := by
  unfold dAt dIx dOr dIxL dIxT dIxS dIxD
  rfl
theorem dAdd_lst (x y : List D) (h : x.length + y.length ≤ sizeLine) : dAdd (.lst x) (.lst y) = some (.lst (x ++ y)) := by
  unfold dAdd dOr dAddI dI dAddS dAddT dAddL
  simp only [h, if_true]
theorem dAdd_tup (x y : List D) (h : x.length + y.length ≤ sizeLine) : dAdd (.tup x) (.tup y) = some (.tup (x ++ y)) := by
  unfold dAdd dOr dAddI dI dAddS dAddT dAddL
  simp only [h, if_true]
theorem dAdd_str (x y : Str) (h : x.length + y.length ≤ sizeLine) : dAdd (.str x) (.str y) = some (.str (x ++ y)) := by
  unfold dAdd dOr dAddI dI dAddS
  simp only [h, if_true]
theorem dTup_of (ds : List D) (h : ds.length ≤ sizeLine) : dTup ds = some (.tup ds) := if_pos h
theorem dLst_of (ds : List D) (h : ds.length ≤ sizeLine) : dLst ds = some (.lst ds) := if_pos h
theorem dLst_nil : dLst [] = some (.lst []) := if_pos (Nat.zero_le _)
theorem at_0 {a : D} {l : List D} : atI (a :: l) 0 = some a := atI_nat (j := 0) rfl
theorem at_1 {a b : D} {l : List D} : atI (a :: b :: l) 1 = some b := atI_nat (j := 1) rfl
theorem at_2 {a b c : D} {l : List D} : atI (a :: b :: c :: l) 2 = some c := atI_nat (j := 2) rfl
theorem at_3 {a b c d : D} {l : List D} : atI (a :: b :: c :: d :: l) 3 = some d := atI_nat (j := 3) rfl
theorem at_in {ds : List D} {i : Int} (h0 : 0 ≤ i) (h1 : i < ds.length) : ∃ d, atI ds i = some d ∧ d ∈ ds := by
  obtain ⟨j, rfl⟩ := Int.eq_ofNat_of_zero_le h0
  have hj : j < ds.length := by omega
  exact ⟨ds[j], atI_nat (by rw [List.getElem?_eq_getElem hj]), List.getElem_mem hj⟩
theorem at_last {ds : List D} (h : ds ≠ []) : atI ds (-1) = some (ds.getLast h) := by
  have e := atI_last ds.dropLast (ds.getLast h)
  rwa [List.dropLast_concat_getLast] at e
/-! equality -/
theorem eqv_int (i j : Int) : D.eqv (.int i) (.int j) = decide (i = j) := by
  unfold D.eqv D.py PyData.eqv
  by_cases h : i = j
  · simp [h]
  · simp [h]
mutual
theorem eqv_refl : ∀ x : D, x.dat = true → D.eqv x x = true
  | .non, _ => rfl
  | .bl b, _ => by unfold D.eqv D.py PyData.eqv; exact beq_self_eq_true b
  | .int i, _ => by unfold D.eqv D.py PyData.eqv; exact beq_self_eq_true i
  | .str x, _ => by unfold D.eqv D.py PyData.eqv; exact beq_self_eq_true x
  | .tup ds, h => by unfold D.eqv D.py PyData.eqv; exact eqvAll_refl ds (by unfold D.dat at h; exact h)
  | .lst ds, h => by unfold D.eqv D.py PyData.eqv; exact eqvAll_refl ds (by unfold D.dat at h; exact h)
  | .dic _, h => by unfold D.dat at h; cases h
  | .dst, h => by unfold D.dat at h; cases h
theorem eqvAll_refl : ∀ ds : List D, D.datAll ds = true → PyData.eqvAll (D.pyAll ds) (D.pyAll ds) = true
  | [], _ => by unfold D.pyAll PyData.eqvAll; rfl
  | d :: ds, h => by
    unfold D.datAll at h
    rw [Bool.and_eq_true] at h
    unfold D.pyAll PyData.eqvAll
    rw [Bool.and_eq_true]
    exact ⟨eqv_refl d h.1, eqvAll_refl ds h.2⟩
end
theorem dEq_of {x y : D} (hx : x.eqOk = true) (hy : y.eqOk = true) : dEq x y = some (.bl (D.eqv x y)) := by
  unfold dEq
  rw [hx, hy]
  rfl
theorem dNe_of {x y : D} (hx : x.eqOk = true) (hy : y.eqOk = true) : dNe x y = some (.bl (!D.eqv x y)) := by
  unfold dNe
  rw [hx, hy]
  rfl
theorem dEq_int (i j : Int) : dEq (.int i) (.int j) = some (.bl (decide (i = j))) := by
  rw [dEq_of rfl rfl, eqv_int]
end FL


set_option Elab.async false
set_option linter.all false
set_option maxRecDepth 100000
set_option maxHeartbeats 4000000
namespace LW
open PySem PySem.Spec L2 FL
set_option autoImplicit false
def topS (i : Nat) : Stmt := PySem.Challenge.pw_delvewarden_k76_two_times.main.body.getD i (.Pass ⟨0, 0, 0, 0⟩)
abbrev s_entries_until : Stmt := topS 1
def N_entries_until : List Str := ["book", "day", "entry"]
abbrev s_last_words : Stmt := topS 2
def N_last_words : List Str := ["entries", "found", "entered", "number", "notice"]
abbrev s_known_on : Stmt := topS 3
def N_known_on : List Str := ["book", "day"]
abbrev s_as_entered : Stmt := topS 4
def N_as_entered : List Str := ["book", "day", "known", "number"]
abbrev s_as_told : Stmt := topS 5
def N_as_told : List Str := ["book", "day", "told", "pair"]
abbrev s_numbers_of : Stmt := topS 6
def N_numbers_of : List Str := ["book", "entry"]
abbrev s_corrected : Stmt := topS 7
def N_corrected : List Str := ["book", "day", "later", "one", "other", "number"]
abbrev s_entries_of : Stmt := topS 8
def N_entries_of : List Str := ["book", "number", "entry"]
abbrev s_says_more : Stmt := topS 9
def N_says_more : List Str := ["pairs", "at"]
abbrev s_history : Stmt := topS 10
def N_history : List Str := ["book", "number", "pairs", "at"]
abbrev s_law_begin : Stmt := topS 12
def N_law_begin : List Str := ["script", "cell"]
abbrev s_law_draw : Stmt := topS 13
def N_law_draw : List Str := ["d", "many", "found", "size", "cell"]
abbrev s_law_pick : Stmt := topS 14
def N_law_pick : List Str := ["d", "row"]
abbrev s_law_rare : Stmt := topS 15
def N_law_rare : List Str := ["d", "many"]
abbrev s_law_names : Stmt := topS 16
def N_law_names : List Str := ["d", "many", "letters", "tails", "step", "found", "k"]
abbrev s_law_is_int : Stmt := topS 17
def N_law_is_int : List Str := ["thing"]
abbrev s_law_pool : Stmt := topS 18
def N_law_pool : List Str := ["d", "found", "k"]
abbrev s_law_notice : Stmt := topS 19
def N_law_notice : List Str := ["d", "work", "entered", "first", "last", "told"]
abbrev s_law_said : Stmt := topS 20
def N_law_said : List Str := ["book", "number", "day", "entry"]
abbrev s_law_next : Stmt := topS 21
def N_law_next : List Str := ["d", "names", "book", "number", "day", "known", "elder", "entry"]
abbrev s_law_book : Stmt := topS 22
def N_law_book : List Str := ["d", "names", "pool", "many", "day", "book", "k", "number"]
abbrev s_law_longer : Stmt := topS 23
def N_law_longer : List Str := ["d", "names", "pool", "book", "day", "number"]
abbrev s_law_numbers : Stmt := topS 24
def N_law_numbers : List Str := ["book", "entry"]
abbrev s_law_known : Stmt := topS 25
def N_law_known : List Str := ["book", "day", "found", "number", "notice"]
abbrev s_law_corrected : Stmt := topS 26
def N_law_corrected : List Str := ["book", "day", "later", "found", "number"]
abbrev s_law_history : Stmt := topS 27
def N_law_history : List Str := ["book", "number", "found", "entry"]
abbrev s_law_plain : Stmt := topS 28
def N_law_plain : List Str := ["thing", "depth", "part"]
abbrev s_law_same : Stmt := topS 29
def N_law_same : List Str := ["told", "due"]
abbrev s_law_days_right : Stmt := topS 30
def N_law_days_right : List Str := ["book", "day", "later", "heard", "known", "due", "pair"]
abbrev s_law_histories_right : Stmt := topS 31
def N_law_histories_right : List Str := ["book", "numbers", "spare", "number"]
abbrev s_law : Stmt := topS 32
def N_law : List Str := ["script", "d", "names", "pool", "many", "book", "longer", "until", "ahead", "entry", "days", "turn", "day", "later", "heard", "rows"]
/-- what the top has left -/
structure Txt (K : PySem.W.Frag) (mg : Str → Option Value) (ad : Nat → Addr) (fd : Nat → FuncData) : Prop where
  m_abs : mg "abs" = none
  m_all : mg "all" = none
  m_bool : mg "bool" = none
  m_int : mg "int" = none
  m_isinstance : mg "isinstance" = none
  m_len : mg "len" = none
  m_max : mg "max" = none
  m_min : mg "min" = none
  m_range : mg "range" = none
  m_set : mg "set" = none
  m_sorted : mg "sorted" = none
  m_str : mg "str" = none
  m_tuple : mg "tuple" = none
  d_entries_until : Df K mg "entries_until" s_entries_until ["book", "day"] (ad 1) (fd 1)
  d_last_words : Df K mg "last_words" s_last_words ["entries"] (ad 2) (fd 2)
  d_known_on : Df K mg "known_on" s_known_on ["book", "day"] (ad 3) (fd 3)
  d_as_entered : Df K mg "as_entered" s_as_entered ["book", "day"] (ad 4) (fd 4)
  d_as_told : Df K mg "as_told" s_as_told ["book", "day", "told"] (ad 5) (fd 5)
  d_numbers_of : Df K mg "numbers_of" s_numbers_of ["book"] (ad 6) (fd 6)
  d_corrected : Df K mg "corrected" s_corrected ["book", "day", "later"] (ad 7) (fd 7)
  d_entries_of : Df K mg "entries_of" s_entries_of ["book", "number"] (ad 8) (fd 8)
  d_says_more : Df K mg "says_more" s_says_more ["pairs", "at"] (ad 9) (fd 9)
  d_history : Df K mg "history" s_history ["book", "number"] (ad 10) (fd 10)
  d_law_begin : Df K mg "_law_begin" s_law_begin ["script"] (ad 12) (fd 12)
  d_law_draw : Df K mg "_law_draw" s_law_draw ["d", "many"] (ad 13) (fd 13)
  d_law_pick : Df K mg "_law_pick" s_law_pick ["d", "row"] (ad 14) (fd 14)
  d_law_rare : Df K mg "_law_rare" s_law_rare ["d", "many"] (ad 15) (fd 15)
  d_law_names : Df K mg "_law_names" s_law_names ["d", "many"] (ad 16) (fd 16)
  d_law_is_int : Df K mg "_law_is_int" s_law_is_int ["thing"] (ad 17) (fd 17)
  d_law_pool : Df K mg "_law_pool" s_law_pool ["d"] (ad 18) (fd 18)
  d_law_notice : Df K mg "_law_notice" s_law_notice ["d", "work", "entered"] (ad 19) (fd 19)
  d_law_said : Df K mg "_law_said" s_law_said ["book", "number", "day"] (ad 20) (fd 20)
  d_law_next : Df K mg "_law_next" s_law_next ["d", "names", "book", "number", "day"] (ad 21) (fd 21)
  d_law_book : Df K mg "_law_book" s_law_book ["d", "names", "pool", "many"] (ad 22) (fd 22)
  d_law_longer : Df K mg "_law_longer" s_law_longer ["d", "names", "pool", "book"] (ad 23) (fd 23)
  d_law_numbers : Df K mg "_law_numbers" s_law_numbers ["book"] (ad 24) (fd 24)
  d_law_known : Df K mg "_law_known" s_law_known ["book", "day"] (ad 25) (fd 25)
  d_law_corrected : Df K mg "_law_corrected" s_law_corrected ["book", "day", "later"] (ad 26) (fd 26)
  d_law_history : Df K mg "_law_history" s_law_history ["book", "number"] (ad 27) (fd 27)
  d_law_plain : Df K mg "_law_plain" s_law_plain ["thing", "depth"] (ad 28) (fd 28)
  d_law_same : Df K mg "_law_same" s_law_same ["told", "due"] (ad 29) (fd 29)
  d_law_days_right : Df K mg "_law_days_right" s_law_days_right ["book", "day", "later", "heard"] (ad 30) (fd 30)
  d_law_histories_right : Df K mg "_law_histories_right" s_law_histories_right ["book"] (ad 31) (fd 31)
  d_law : Df K mg "law" s_law ["script"] (ad 32) (fd 32)
section
variable {P : Program} {w : World} {K : PySem.W.Frag} {mg : Str → Option Value} {base : Heap} {ad : Nat → Addr} {fd : Nat → FuncData}
/-! entries_until -/
theorem sc_entries_until : FnScope ["book", "day", "entry"] ["book", "day"] (defScope s_entries_until) := ⟨rfl, rfl, rfl, by decide +kernel, rfl, by decide +kernel, by decide +kernel⟩
def G_entries_until : C :=
    (cRet (eFn dTuple (eCons (eLc (iSeq (eV 0)) [2] (tName 2) (eBin dLe (eBin dAt (eV 2) (eC (.int 0))) (eV 1)) (eV 2)) eNil)))
def F_entries_until : Fn := fnBody 2 3 G_entries_until
theorem ok_entries_until (T : Txt K mg ad fd) : FnOk P w K mg base (L2.CX P w) 1 (ad 1) (fd 1) ["book", "day"] (spD K 2 F_entries_until) := by
  refine fn_mk (G := G_entries_until) (N := ["book", "day", "entry"]) (k := 0) T.d_entries_until.fn sc_entries_until fun cdv A outer s H E hr => ?_
  have nd := sc_entries_until.nd
  have tk : Takes (cxOf (L2.CX P w) P w K mg base ["book", "day", "entry"] "entries_until" (defScope s_entries_until) (ad 1) cdv A outer s H E) (fun cls d _ H' => E cls d H') := takes_of rfl rfl rfl rfl
  exact (c_one (c_ret (e_callTy cd_tuple call_tuple_of (by rfl) T.m_tuple (by decide +kernel) (a_cons (e_new (n_lc (own := [("entry", 2)]) rfl rfl nd (i_seq (e_var 0)) (blkOk_by (N := N_entries_until) (sc := defScope s_entries_until) (by decide +kernel)) (fun _ _ _ _ _ => (g_name 2 nd)) (fun _ _ _ _ _ => (t_one (t_cmp (B := B1) opD_B0 op_le (e_ix opD_at (ix_at (hu_of hr)) (e_var 2) e_int) (e_var 1)))) (fun _ _ _ _ _ => (e_var 2)))) a_nil))))
/-! last_words -/
theorem sc_last_words : FnScope ["entries", "found", "entered", "number", "notice"] ["entries"] (defScope s_last_words) := ⟨rfl, rfl, rfl, by decide +kernel, rfl, by decide +kernel, by decide +kernel⟩
def G_last_words : C :=
    (cSeq (cOwn 1 (eC (.dic [])))
    (cSeq (cFor (iSeq (eV 0)) (tTupl 3 (tsCons (tName 2) (tsCons (tName 3) (tsCons (tName 4) tsNil))))
    (cPut 1 (eV 3) (eV 4)))
    (cRet (eB 1))))
def F_last_words : Fn := fnBody 1 5 G_last_words
theorem ok_last_words (T : Txt K mg ad fd) : FnOk P w K mg base (L2.CX P w) 1 (ad 2) (fd 2) ["entries"] (spD K 1 F_last_words) := by
  refine fn_mk (G := G_last_words) (N := ["entries", "found", "entered", "number", "notice"]) (k := 0) T.d_last_words.fn sc_last_words fun cdv A outer s H E hr => ?_
  have nd := sc_last_words.nd
  have tk : Takes (cxOf (L2.CX P w) P w K mg base ["entries", "found", "entered", "number", "notice"] "last_words" (defScope s_last_words) (ad 2) cdv A outer s H E) (fun cls d _ H' => E cls d H') := takes_of rfl rfl rfl rfl
  have ps : PassesOwn (model P w) (cxOf (L2.CX P w) P w K mg base ["entries", "found", "entered", "number", "notice"] "last_words" (defScope s_last_words) (ad 2) cdv A outer s H E).A (cxOf (L2.CX P w) P w K mg base ["entries", "found", "entered", "number", "notice"] "last_words" (defScope s_last_words) (ad 2) cdv A outer s H E).env (cxOf (L2.CX P w) P w K mg base ["entries", "found", "entered", "number", "notice"] "last_words" (defScope s_last_words) (ad 2) cdv A outer s H E).xe := passes_of rfl
  exact (c_cons (c_own 1 nd n_dic0)
    (c_cons (c_for ps rfl (i_seq (e_var 0)) (g_tup rfl (gs_cons (g_name 2 nd) (gs_cons (g_name 3 nd) (gs_cons (g_name 4 nd) gs_nil))))
    (c_one (c_put 1 (hu_of hr) (e_var 3) (e_var 4))))
    (c_one (c_ret (e_bor 1)))))
/-! known_on -/
theorem sc_known_on : FnScope ["book", "day"] ["book", "day"] (defScope s_known_on) := ⟨rfl, rfl, rfl, by decide +kernel, rfl, by decide +kernel, by decide +kernel⟩
def G_known_on : C :=
    (cRet (eCall 1 F_last_words (eCons (eCall 2 F_entries_until (eCons (eV 0) (eCons (eV 1) eNil))) eNil)))
def F_known_on : Fn := fnBody 2 2 G_known_on
theorem ok_known_on (T : Txt K mg ad fd) : FnOk P w K mg base (L2.CX P w) 2 (ad 3) (fd 3) ["book", "day"] (spD K 2 F_known_on) := by
  refine fn_mk (G := G_known_on) (N := ["book", "day"]) (k := 1) T.d_known_on.fn sc_known_on fun cdv A outer s H E hr => ?_
  have nd := sc_known_on.nd
  have tk : Takes (cxOf (L2.CX P w) P w K mg base ["book", "day"] "known_on" (defScope s_known_on) (ad 3) cdv A outer s H E) (fun cls d _ H' => E cls d H') := takes_of rfl rfl rfl rfl
  exact (c_one (c_ret (e_call (ok_last_words T) (hr.mono (by first | decide | omega)) T.d_last_words.g T.d_last_words.fn.kp T.d_last_words.b tk (a_cons (e_call (ok_entries_until T) (hr.mono (by first | decide | omega)) T.d_entries_until.g T.d_entries_until.fn.kp T.d_entries_until.b tk (a_cons (e_var 0) (a_cons (e_var 1) a_nil))) a_nil))))
/-! as_entered -/
theorem sc_as_entered : FnScope ["book", "day", "known", "number"] ["book", "day"] (defScope s_as_entered) := ⟨rfl, rfl, rfl, by decide +kernel, rfl, by decide +kernel, by decide +kernel⟩
def G_as_entered : C :=
    (cSeq (cSet 2 (eCall 2 F_known_on (eCons (eV 0) (eCons (eV 1) eNil))))
    (cRet (eFn dTuple (eCons (eLc (iSeq (eFn dSortDI (eCons (eV 2) eNil))) [3] (tName 3) (eBin dNotN (eBin dAt (eV 2) (eV 3)) (eC .non)) (eFn dTup (eCons (eV 3) (eCons (eBin dAt (eV 2) (eV 3)) eNil)))) eNil))))
def F_as_entered : Fn := fnBody 2 4 G_as_entered
theorem ok_as_entered (T : Txt K mg ad fd) : FnOk P w K mg base (L2.CX P w) 3 (ad 4) (fd 4) ["book", "day"] (spD K 2 F_as_entered) := by
  refine fn_mk (G := G_as_entered) (N := ["book", "day", "known", "number"]) (k := 2) T.d_as_entered.fn sc_as_entered fun cdv A outer s H E hr => ?_
  have nd := sc_as_entered.nd
  have tk : Takes (cxOf (L2.CX P w) P w K mg base ["book", "day", "known", "number"] "as_entered" (defScope s_as_entered) (ad 4) cdv A outer s H E) (fun cls d _ H' => E cls d H') := takes_of rfl rfl rfl rfl
  exact (c_cons (c_set 2 nd (e_call (ok_known_on T) (hr.mono (by first | decide | omega)) T.d_known_on.g T.d_known_on.fn.kp T.d_known_on.b tk (a_cons (e_var 0) (a_cons (e_var 1) a_nil))))
    (c_one (c_ret (e_callTy cd_tuple call_tuple_of (by rfl) T.m_tuple (by decide +kernel) (a_cons (e_new (n_lc (own := [("number", 3)]) rfl rfl nd (i_seq (e_new (n_callB cn_sortDI (call_sortedDI rfl) (by rfl) T.m_sorted (by decide +kernel) (a_cons (e_var 2) a_nil)))) (blkOk_by (N := N_as_entered) (sc := defScope s_as_entered) (by decide +kernel)) (fun _ _ _ _ _ => (g_name 3 nd)) (fun _ _ _ _ _ => (t_one (t_cmp (B := B1) opD_notN op_notN (e_ix opD_at (ix_at (hu_of hr)) (e_var 2) (e_var 3)) e_non))) (fun _ _ _ _ _ => (e_tup (a_cons (e_var 3) (a_cons (e_ix opD_at (ix_at (hu_of hr)) (e_var 2) (e_var 3)) a_nil)))))) a_nil)))))
/-! as_told -/
theorem sc_as_told : FnScope ["book", "day", "told", "pair"] ["book", "day", "told"] (defScope s_as_told) := ⟨rfl, rfl, rfl, by decide +kernel, rfl, by decide +kernel, by decide +kernel⟩
def G_as_told : C :=
    (cRet (eFn dTuple (eCons (eLc (iSeq (eCall 2 F_as_entered (eCons (eV 0) (eCons (eV 1) eNil)))) [3] (tName 3) (eBin dLe (eBin dAt (eBin dAt (eV 3) (eC (.int 1))) (eC (.int 0))) (eV 2)) (eV 3)) eNil)))
def F_as_told : Fn := fnBody 3 4 G_as_told
theorem ok_as_told (T : Txt K mg ad fd) : FnOk P w K mg base (L2.CX P w) 4 (ad 5) (fd 5) ["book", "day", "told"] (spD K 3 F_as_told) := by
  refine fn_mk (G := G_as_told) (N := ["book", "day", "told", "pair"]) (k := 3) T.d_as_told.fn sc_as_told fun cdv A outer s H E hr => ?_
  have nd := sc_as_told.nd
  have tk : Takes (cxOf (L2.CX P w) P w K mg base ["book", "day", "told", "pair"] "as_told" (defScope s_as_told) (ad 5) cdv A outer s H E) (fun cls d _ H' => E cls d H') := takes_of rfl rfl rfl rfl
  exact (c_one (c_ret (e_callTy cd_tuple call_tuple_of (by rfl) T.m_tuple (by decide +kernel) (a_cons (e_new (n_lc (own := [("pair", 3)]) rfl rfl nd (i_seq (e_call (ok_as_entered T) (hr.mono (by first | decide | omega)) T.d_as_entered.g T.d_as_entered.fn.kp T.d_as_entered.b tk (a_cons (e_var 0) (a_cons (e_var 1) a_nil)))) (blkOk_by (N := N_as_told) (sc := defScope s_as_told) (by decide +kernel)) (fun _ _ _ _ _ => (g_name 3 nd)) (fun _ _ _ _ _ => (t_one (t_cmp (B := B1) opD_B0 op_le (e_ix opD_at (ix_at (hu_of hr)) (e_ix opD_at (ix_at (hu_of hr)) (e_var 3) e_int) e_int) (e_var 2)))) (fun _ _ _ _ _ => (e_var 3)))) a_nil))))
/-! numbers_of -/
theorem sc_numbers_of : FnScope ["book", "entry"] ["book"] (defScope s_numbers_of) := ⟨rfl, rfl, rfl, by decide +kernel, rfl, by decide +kernel, by decide +kernel⟩
def G_numbers_of : C :=
    (cRet (eFn dTuple (eCons (eUn dSortSetI (eLc (iSeq (eV 0)) [1] (tName 1) (eC (.bl true)) (eBin dAt (eV 1) (eC (.int 1))))) eNil)))
def F_numbers_of : Fn := fnBody 1 2 G_numbers_of
theorem ok_numbers_of (T : Txt K mg ad fd) : FnOk P w K mg base (L2.CX P w) 1 (ad 6) (fd 6) ["book"] (spD K 1 F_numbers_of) := by
  refine fn_mk (G := G_numbers_of) (N := ["book", "entry"]) (k := 0) T.d_numbers_of.fn sc_numbers_of fun cdv A outer s H E hr => ?_
  have nd := sc_numbers_of.nd
  have tk : Takes (cxOf (L2.CX P w) P w K mg base ["book", "entry"] "numbers_of" (defScope s_numbers_of) (ad 6) cdv A outer s H E) (fun cls d _ H' => E cls d H') := takes_of rfl rfl rfl rfl
  exact (c_one (c_ret (e_callTy cd_tuple call_tuple_of (by rfl) T.m_tuple (by decide +kernel) (a_cons (e_new (n_sortLcI rfl (by rfl) T.m_sorted (own := [("entry", 1)]) rfl rfl nd (i_seq (e_var 0)) (blkOk_by (N := N_numbers_of) (sc := defScope s_numbers_of) (by decide +kernel)) (fun _ _ _ _ _ => (g_name 1 nd)) (fun _ _ _ _ _ => t_none) (fun _ _ _ _ _ => (e_ix opD_at (ix_at (hu_of hr)) (e_var 1) e_int)))) a_nil))))
/-! corrected -/
theorem sc_corrected : FnScope ["book", "day", "later", "one", "other", "number"] ["book", "day", "later"] (defScope s_corrected) := ⟨rfl, rfl, rfl, by decide +kernel, rfl, by decide +kernel, by decide +kernel⟩
def G_corrected : C :=
    (cSeq (cSet 3 (eCall 2 F_known_on (eCons (eV 0) (eCons (eV 1) eNil))))
    (cSeq (cSet 4 (eCall 2 F_known_on (eCons (eV 0) (eCons (eV 2) eNil))))
    (cRet (eFn dTuple (eCons (eLc (iSeq (eCall 1 F_numbers_of (eCons (eV 0) eNil))) [5] (tName 5) (eBin dNe (eGet1 (eV 3) (eV 5)) (eGet1 (eV 4) (eV 5))) (eV 5)) eNil)))))
def F_corrected : Fn := fnBody 3 6 G_corrected
theorem ok_corrected (T : Txt K mg ad fd) : FnOk P w K mg base (L2.CX P w) 3 (ad 7) (fd 7) ["book", "day", "later"] (spD K 3 F_corrected) := by
  refine fn_mk (G := G_corrected) (N := ["book", "day", "later", "one", "other", "number"]) (k := 2) T.d_corrected.fn sc_corrected fun cdv A outer s H E hr => ?_
  have nd := sc_corrected.nd
  have tk : Takes (cxOf (L2.CX P w) P w K mg base ["book", "day", "later", "one", "other", "number"] "corrected" (defScope s_corrected) (ad 7) cdv A outer s H E) (fun cls d _ H' => E cls d H') := takes_of rfl rfl rfl rfl
  exact (c_cons (c_set 3 nd (e_call (ok_known_on T) (hr.mono (by first | decide | omega)) T.d_known_on.g T.d_known_on.fn.kp T.d_known_on.b tk (a_cons (e_var 0) (a_cons (e_var 1) a_nil))))
    (c_cons (c_set 4 nd (e_call (ok_known_on T) (hr.mono (by first | decide | omega)) T.d_known_on.g T.d_known_on.fn.kp T.d_known_on.b tk (a_cons (e_var 0) (a_cons (e_var 2) a_nil))))
    (c_one (c_ret (e_callTy cd_tuple call_tuple_of (by rfl) T.m_tuple (by decide +kernel) (a_cons (e_new (n_lc (own := [("number", 5)]) rfl rfl nd (i_seq (e_call (ok_numbers_of T) (hr.mono (by first | decide | omega)) T.d_numbers_of.g T.d_numbers_of.fn.kp T.d_numbers_of.b tk (a_cons (e_var 0) a_nil))) (blkOk_by (N := N_corrected) (sc := defScope s_corrected) (by decide +kernel)) (fun _ _ _ _ _ => (g_name 5 nd)) (fun _ _ _ _ _ => (t_one (t_cmp (B := B1) opD_ne (op_neD hr.units) (e_get1 (hu_of hr) (e_var 3) (e_var 5)) (e_get1 (hu_of hr) (e_var 4) (e_var 5))))) (fun _ _ _ _ _ => (e_var 5)))) a_nil))))))
/-! entries_of -/
theorem sc_entries_of : FnScope ["book", "number", "entry"] ["book", "number"] (defScope s_entries_of) := ⟨rfl, rfl, rfl, by decide +kernel, rfl, by decide +kernel, by decide +kernel⟩
def G_entries_of : C :=
    (cRet (eFn dTuple (eCons (eLc (iSeq (eV 0)) [2] (tName 2) (eBin dEq (eBin dAt (eV 2) (eC (.int 1))) (eV 1)) (eFn dTup (eCons (eBin dAt (eV 2) (eC (.int 0))) (eCons (eBin dAt (eV 2) (eC (.int 2))) eNil)))) eNil)))
def F_entries_of : Fn := fnBody 2 3 G_entries_of
theorem ok_entries_of (T : Txt K mg ad fd) : FnOk P w K mg base (L2.CX P w) 1 (ad 8) (fd 8) ["book", "number"] (spD K 2 F_entries_of) := by
  refine fn_mk (G := G_entries_of) (N := ["book", "number", "entry"]) (k := 0) T.d_entries_of.fn sc_entries_of fun cdv A outer s H E hr => ?_
  have nd := sc_entries_of.nd
  have tk : Takes (cxOf (L2.CX P w) P w K mg base ["book", "number", "entry"] "entries_of" (defScope s_entries_of) (ad 8) cdv A outer s H E) (fun cls d _ H' => E cls d H') := takes_of rfl rfl rfl rfl
  exact (c_one (c_ret (e_callTy cd_tuple call_tuple_of (by rfl) T.m_tuple (by decide +kernel) (a_cons (e_new (n_lc (own := [("entry", 2)]) rfl rfl nd (i_seq (e_var 0)) (blkOk_by (N := N_entries_of) (sc := defScope s_entries_of) (by decide +kernel)) (fun _ _ _ _ _ => (g_name 2 nd)) (fun _ _ _ _ _ => (t_one (t_cmp (B := B1) opD_eq (op_eqD hr.units) (e_ix opD_at (ix_at (hu_of hr)) (e_var 2) e_int) (e_var 1)))) (fun _ _ _ _ _ => (e_tup (a_cons (e_ix opD_at (ix_at (hu_of hr)) (e_var 2) e_int) (a_cons (e_ix opD_at (ix_at (hu_of hr)) (e_var 2) e_int) a_nil)))))) a_nil))))
/-! says_more -/
theorem sc_says_more : FnScope ["pairs", "at"] ["pairs", "at"] (defScope s_says_more) := ⟨rfl, rfl, rfl, by decide +kernel, rfl, by decide +kernel, by decide +kernel⟩
def G_says_more : C :=
    (cRet (eOr (eBin dEq (eV 1) (eC (.int 0))) (eBin dNe (eBin dAt (eBin dAt (eV 0) (eV 1)) (eC (.int 1))) (eBin dAt (eBin dAt (eV 0) (eBin dSub (eV 1) (eC (.int 1)))) (eC (.int 1))))))
def F_says_more : Fn := fnBody 2 2 G_says_more
theorem ok_says_more (T : Txt K mg ad fd) : FnOk P w K mg base (L2.CX P w) 1 (ad 9) (fd 9) ["pairs", "at"] (spD K 2 F_says_more) := by
  refine fn_mk (G := G_says_more) (N := ["pairs", "at"]) (k := 0) T.d_says_more.fn sc_says_more fun cdv A outer s H E hr => ?_
  have nd := sc_says_more.nd
  have tk : Takes (cxOf (L2.CX P w) P w K mg base ["pairs", "at"] "says_more" (defScope s_says_more) (ad 9) cdv A outer s H E) (fun cls d _ H' => E cls d H') := takes_of rfl rfl rfl rfl
  exact (c_one (c_ret (e_or (e_cmp opD_eq (op_eqD hr.units) (e_var 1) e_int) (e_one (e_cmp opD_ne (op_neD hr.units) (e_ix opD_at (ix_at (hu_of hr)) (e_ix opD_at (ix_at (hu_of hr)) (e_var 0) (e_var 1)) e_int) (e_ix opD_at (ix_at (hu_of hr)) (e_ix opD_at (ix_at (hu_of hr)) (e_var 0) (e_bin opD_I0 op_sub (e_var 1) e_int)) e_int))))))
/-! history -/
theorem sc_history : FnScope ["book", "number", "pairs", "at"] ["book", "number"] (defScope s_history) := ⟨rfl, rfl, rfl, by decide +kernel, rfl, by decide +kernel, by decide +kernel⟩
def G_history : C :=
    (cSeq (cSet 2 (eCall 2 F_entries_of (eCons (eV 0) (eCons (eV 1) eNil))))
    (cRet (eFn dTuple (eCons (eLc (iRng1 (eFn dLen (eCons (eV 2) eNil))) [3] (tName 3) (eCall 2 F_says_more (eCons (eV 2) (eCons (eV 3) eNil))) (eBin dAt (eV 2) (eV 3))) eNil))))
def F_history : Fn := fnBody 2 4 G_history
theorem ok_history (T : Txt K mg ad fd) : FnOk P w K mg base (L2.CX P w) 2 (ad 10) (fd 10) ["book", "number"] (spD K 2 F_history) := by
  refine fn_mk (G := G_history) (N := ["book", "number", "pairs", "at"]) (k := 1) T.d_history.fn sc_history fun cdv A outer s H E hr => ?_
  have nd := sc_history.nd
  have tk : Takes (cxOf (L2.CX P w) P w K mg base ["book", "number", "pairs", "at"] "history" (defScope s_history) (ad 10) cdv A outer s H E) (fun cls d _ H' => E cls d H') := takes_of rfl rfl rfl rfl
  exact (c_cons (c_set 2 nd (e_call (ok_entries_of T) (hr.mono (by first | decide | omega)) T.d_entries_of.g T.d_entries_of.fn.kp T.d_entries_of.b tk (a_cons (e_var 0) (a_cons (e_var 1) a_nil))))
    (c_one (c_ret (e_callTy cd_tuple call_tuple_of (by rfl) T.m_tuple (by decide +kernel) (a_cons (e_new (n_lc (own := [("at", 3)]) rfl rfl nd (i_rng1 (by rfl) T.m_range (e_callB cd_len cr_len (by rfl) T.m_len (by decide +kernel) (a_cons (e_var 2) a_nil))) (blkOk_by (N := N_history) (sc := defScope s_history) (by decide +kernel)) (fun _ _ _ _ _ => (g_name 3 nd)) (fun _ _ _ _ _ => (t_one (t_val (B := B1) (e_call (ok_says_more T) (hr.mono (by first | decide | omega)) T.d_says_more.g T.d_says_more.fn.kp T.d_says_more.b takes0 (a_cons (e_var 2) (a_cons (e_var 3) a_nil)))))) (fun _ _ _ _ _ => (e_ix opD_at (ix_at (hu_of hr)) (e_var 2) (e_var 3))))) a_nil)))))
theorem sc_law_begin : FnScope ["script", "cell"] ["script"] (defScope s_law_begin) := ⟨rfl, rfl, rfl, by decide +kernel, rfl, by decide +kernel, by decide +kernel⟩
theorem ok_law_begin (T : Txt K mg ad fd) : FnOk P w K mg base (L2.CX P w) 1 (ad 12) (fd 12) ["script"] (spBegin K) := by
  refine T.d_law_begin.fn.okX sc_law_begin (fun vs H Q E h => ?_) (fun cdv A outer s H vs Q E hr h => ?_)
  · obtain ⟨a, ns, rfl, _⟩ := h; rfl
  · obtain ⟨a, ns, rfl, hS, hl, k⟩ := h
    have nd := sc_law_begin.nd
    refine ⟨_, pss_one (ps_ret (pe_lst (pa_cons (pe_lc (own := [("cell", 1)]) (g := gName 1) (tt := tYes) rfl nd (pi_list (pe_slice sl_list (pv 0) po_none (po_some pe_int)))
      (blkOk_by (own := [("cell", 1)]) (N := ["script", "cell"]) (sc := defScope s_law_begin) (by decide +kernel)) (fun _ _ _ _ _ => pg_name (i := 1) nd rfl (Or.inl rfl)) (fun _ _ _ _ _ => pts_nil)
      (fun _ _ _ _ _ => pe_callTy call_int1 (by rfl) T.m_int (by decide +kernel) (pa_cons (pv 1) pa_nil)))
      (pa_cons pe_int (pa_cons pe_int (pa_cons pe_int pa_nil)))))), ?_⟩
    exact begin_reads hS hl k
abbrev F_law_draw : Fn := F_draw
theorem sc_law_draw : FnScope ["d", "many", "found", "size", "cell"] ["d", "many"] (defScope s_law_draw) := ⟨rfl, rfl, rfl, by decide +kernel, rfl, by decide +kernel, by decide +kernel⟩
theorem ok_law_draw (T : Txt K mg ad fd) : FnOk P w K mg base (L2.CX P w) 1 (ad 13) (fd 13) ["d", "many"] (spD K 2 F_draw) := by
  have F := T.d_law_draw.fn
  have m1 := T.m_int
  have m2 := T.m_len
  have m3 := T.m_abs
  refine F.okX sc_law_draw (fun vs H Q E h => ?_) (fun cdv A outer s H vs Q E hr h => ?_)
  · obtain ⟨q, ds, st, r, st', _, _, _, hl, rp, _⟩ := h
    rw [rpAll_length rp, hl]; rfl
  · obtain ⟨q, ds, st, r, st', hs, tr, dr, hl, rp, e, k⟩ := h
    unfold F_draw at e
    split at e
    · rename_i m
      split at e
      · rename_i hm
        cases e
        simp only [Bool.and_eq_true, decide_eq_true_eq] at hm
        obtain ⟨v, r, rfl, rv, r1⟩ := rpAll_inv rp
        obtain ⟨v2, r2, rfl, rv2, r3⟩ := rpAll_inv r1
        rw [rpAll_nil_inv r3]
        rw [rp_int] at rv2
        have ev : v = V.ref q.ad := by unfold Rp at rv; exact rv
        subst rv2 ev
        obtain ⟨d1, d2, d3⟩ := id dr
        have nd := sc_law_draw.nd
        refine ⟨_, pss_cons (ps_if (pt_cmpR op_gt (pe_ix ix_list (pv 0) pe_int (fun _ _ => rfl)) pe_int (nomark _))
            (pss_cons (ps_set (i := 2) nd rfl (.inl rfl) (pe_ix ix_list (pv 0) pe_int (fun _ _ => rfl)))
            (pss_cons (ps_asg (pe_op op_fdiv (pv 2) (pv 1)) (pg_sub (pv 0) pe_int set_list))
            (pss_one (ps_ret (pe_op op_mod (pe_callTy call_int1 (by rfl) m1 (by decide +kernel) (pa_cons (pv 2) pa_nil)) (pv 1)))))) pss_nil)
          (pss_cons (ps_set (i := 3) nd rfl (.inl rfl) pe_int)
          (pss_cons (ps_if (pt_cmpR op_lt (pe_ix ix_list (pv 0) pe_int (fun _ _ => rfl)) (pe_callB call_len_seq (by rfl) m2 (by decide +kernel) (pa_cons (pe_ix ix_list (pv 0) pe_int (fun _ _ => rfl)) pa_nil)) (nomark _))
            (pss_cons (ps_set (i := 4) nd rfl (.inl rfl) (pe_ix ix_list (pe_ix ix_list (pv 0) pe_int (fun _ _ => rfl)) (pe_ix ix_list (pv 0) pe_int (fun _ _ => rfl)) (fun _ _ => rfl)))
            (pss_one (ps_set (i := 3) nd rfl (.inl rfl) (pe_op op_add (pe_op op_mul pe_int (pe_callB call_abs (by rfl) m3 (by decide +kernel) (pa_cons (pv 4) pa_nil)))
              (pe_callTy call_int1 (by rfl) m1 (by decide +kernel) (pa_cons (pe_cmpR op_lt (pv 4) pe_int (nomark _)) pa_nil)))))) pss_nil)
          (pss_cons (ps_augS (pv 0) pe_int get_list pe_int ip_add set_list)
          (pss_cons (ps_if (pt_cmpR op_ge (pv 3) (pe_op op_mul pe_int (pe_op op_pow pe_int pe_int)) (nomark _))
            (pss_cons (ps_set (i := 2) nd rfl (.inl rfl) (pe_op op_mod (pe_callTy call_int1 (by rfl) m1 (by decide +kernel) (pa_cons (pe_op op_fdiv (pv 3) pe_int) pa_nil)) (pe_op op_shl pe_int pe_int)))
            (pss_cons (ps_asg (pe_op op_fdiv (pv 2) (pv 1)) (pg_sub (pv 0) pe_int set_list))
            (pss_one (ps_ret (pe_op op_mod (pe_callTy call_int1 (by rfl) m1 (by decide +kernel) (pa_cons (pv 2) pa_nil)) (pv 1)))))) pss_nil)
          (pss_cons (ps_asg (pe_op op_mod (pe_callTy call_int1 (by rfl) m1 (by decide +kernel) (pa_cons (pe_op op_add (pe_op op_add (pe_op op_add (pe_op op_mul (pe_ix ix_list (pv 0) pe_int (fun _ _ => rfl)) pe_int)
              (pe_op op_mul (pe_op op_mod (pe_callTy call_int1 (by rfl) m1 (by decide +kernel) (pa_cons (pv 3) pa_nil)) pe_int) pe_int)) (pe_op op_mul (pe_ix ix_list (pv 0) pe_int (fun _ _ => rfl)) pe_int)) pe_int) pa_nil)) pe_int) (pg_sub (pv 0) pe_int set_list))
          (pss_one (ps_ret (pe_op op_mod (pe_callTy call_int1 (by rfl) m1 (by decide +kernel) (pa_cons (pe_op op_fdiv (pe_ix ix_list (pv 0) pe_int (fun _ _ => rfl)) pe_int) pa_nil)) (pv 1))))))))), ?_⟩
        have L : SqL K H q.ad [.ref q.ac, .int st.pos, .int st.big, .int st.seed] := SqL.of d1
        have K1 : ∀ st' : DS, st'.cells = st.cells → ∀ i : Int, i = (drawD st m).1 → st' = (drawD st m).2 → Q (.int i) (upd H q.ad (.lst [.ref q.ac, .int st'.pos, .int st'.big, .int st'.seed])) := fun st' hc i e1 e2 => by
          subst e1 e2
          exact draw_step hs tr dr hc k fun H' => rp_int.mpr rfl
        refine ⟨_, rfl, _, _, _, _, rfl, rfl, L, at2, _, _, rfl, rfl, _, rfl, ite2 (fun hb => ?_) fun hb => ?_⟩
        · have hb : 0 < st.big := by simpa using hb
          refine ⟨_, rfl, _, _, _, _, rfl, rfl, L, at2, _, rfl, _, rfl, _, _, rfl, rfl, hm, _, rfl, _, _, _, 2, rfl, rfl, d1, rfl, _, rfl, .inl ⟨_, rfl, _, rfl, _, _, rfl, rfl, hm.1, ?_⟩⟩
          exact K1 { st with big := st.big / m } rfl _ (by unfold drawD; rw [if_pos hb]) (by unfold drawD; rw [if_pos hb])
        · have hb : ¬ 0 < st.big := by simpa using hb
          have LC : SqL K H q.ac (st.cells.map V.int) := SqL.of d2
          have U : ∀ o : HO, SqL K (upd H q.ad o) q.ac (st.cells.map V.int) := fun o => SqL.of (by rw [upd_ne d3]; exact d2)
          have hlen : ((st.cells.map V.int).length : Int) = (st.cells.length : Int) := by rw [List.length_map]
          have pw : (10 : Int) ^ (18 : Int).toNat = 1000000000000000000 := by decide
          have sh : (1 : Int) * 2 ^ (6000 : Int).toNat = 2 ^ 6000 := by rw [Int.one_mul]; rfl
          have sp : (0 : Int) < 1 * 2 ^ (6000 : Int).toNat := by rw [sh]; exact Int.pow_pos (by decide)
          refine ⟨_, rfl, _, _, _, _, rfl, rfl, L, at1, _, rfl, _, _, _, _, rfl, rfl, L, at0, _, _, rfl, .inl LC, _, _, rfl, rfl, _, rfl, ite2 (fun hp => ?_) fun hp => ?_⟩
          · have hp : st.pos < st.cells.length := by rw [hlen] at hp; simpa using hp
            have hc0 : st.cells[st.pos]? = some st.cells[st.pos] := List.getElem?_eq_getElem hp
            have hsz : drawSize st = 2 * (if st.cells[st.pos] < 0 then -st.cells[st.pos] else st.cells[st.pos]) + (if decide (st.cells[st.pos] < 0) = true then 1 else 0) := by
              unfold drawSize; rw [hc0]
            refine ⟨_, rfl, _, _, _, _, rfl, rfl, L, at0, _, rfl, _, _, _, _, rfl, rfl, L, at1, _, _, _, _, rfl, rfl, LC, atI_nat (j := st.pos) (by rw [List.getElem?_map, hc0]; rfl), ?_⟩
            refine ⟨_, rfl, _, rfl, _, _, rfl, rfl, .inl (by decide), _, rfl, _, _, rfl, rfl, .inr ⟨_, rfl, _, _, rfl, rfl, ?_⟩⟩
            refine ⟨_, rfl, _, _, _, _, rfl, rfl, L, at1, _, _, rfl, rfl, _, _, _, 1, rfl, rfl, d1, rfl, ?_⟩
            have L' : SqL K (upd H q.ad (.lst [.ref q.ac, .int ((st.pos : Int) + 1), .int st.big, .int st.seed])) q.ad [.ref q.ac, .int ((st.pos : Int) + 1), .int st.big, .int st.seed] := SqL.of upd_same
            refine ⟨_, rfl, _, _, rfl, rfl, ⟨by decide, by decide, by decide⟩, _, _, rfl, rfl, .inl (by decide), _, _, rfl, rfl, _, rfl, ite2 (fun hz => ?_) fun hz => ?_⟩
            · have hz : 2000000000000000000 ≤ drawSize st := by rw [pw] at hz; rw [hsz]; simpa using hz
              refine ⟨_, rfl, _, _, rfl, rfl, ⟨by decide, by decide⟩, .inl ⟨_, rfl, _, _, rfl, rfl, ⟨by decide, by decide, by decide⟩, _, _, rfl, rfl, sp, ?_⟩⟩
              refine ⟨_, rfl, _, rfl, _, _, rfl, rfl, hm, _, rfl, _, _, _, 2, rfl, rfl, upd_same, rfl, ?_⟩
              refine ⟨_, rfl, .inl ⟨_, rfl, _, rfl, _, _, rfl, rfl, hm.1, ?_⟩⟩
              rw [upd_upd, sh]
              refine K1 { st with pos := st.pos + 1, big := _ } rfl _ (by unfold drawD; rw [if_neg hb, if_pos hz, hsz]) (by unfold drawD; rw [if_neg hb, if_pos hz, hsz])
            · have hz : ¬ 2000000000000000000 ≤ drawSize st := by rw [pw] at hz; rw [hsz]; simpa using hz
              refine ⟨_, rfl, _, _, _, _, rfl, rfl, L', at3, _, _, rfl, rfl, .inr (by decide), _, rfl, .inl ⟨_, rfl, _, _, rfl, rfl, (show (0 : Int) < 2147483629 by decide), _, _, rfl, rfl, .inr (by decide), _, _, rfl, rfl, ?_⟩⟩
              refine ⟨_, rfl, _, _, _, _, rfl, rfl, L', at1, _, _, rfl, rfl, .inr (by decide), _, _, rfl, rfl, _, _, rfl, rfl, .inl ⟨_, rfl, _, _, rfl, rfl, (show (0 : Int) < 2147483647 by decide), ?_⟩⟩
              refine ⟨_, rfl, _, _, _, 3, rfl, rfl, upd_same, rfl, ?_⟩
              rw [upd_upd]
              refine ⟨_, rfl, _, _, _, _, rfl, rfl, SqL.of upd_same, at3, _, _, rfl, rfl, ⟨by decide, by decide⟩, .inl ⟨_, rfl, _, rfl, _, _, rfl, rfl, hm.1, ?_⟩⟩
              refine K1 { st with pos := st.pos + 1, seed := _ } rfl _ (by unfold drawD; rw [if_neg hb, if_neg hz, hsz]; rfl) (by unfold drawD; rw [if_neg hb, if_neg hz, hsz]; rfl)
          · have hp : ¬ st.pos < st.cells.length := by rw [hlen] at hp; simpa using hp
            have hsz : drawSize st = 0 := by unfold drawSize; rw [List.getElem?_eq_none (by omega)]
            refine ⟨_, rfl, _, _, _, _, rfl, rfl, L, at1, _, _, rfl, rfl, _, _, _, 1, rfl, rfl, d1, rfl, ?_⟩
            have L' : SqL K (upd H q.ad (.lst [.ref q.ac, .int ((st.pos : Int) + 1), .int st.big, .int st.seed])) q.ad [.ref q.ac, .int ((st.pos : Int) + 1), .int st.big, .int st.seed] := SqL.of upd_same
            refine ⟨_, rfl, _, _, rfl, rfl, ⟨by decide, by decide, by decide⟩, _, _, rfl, rfl, .inl (by decide), _, _, rfl, rfl, _, rfl, ite2 (fun hz => ?_) fun hz => ?_⟩
            · exact absurd hz (by rw [pw]; decide)
            · have hz' : ¬ 2000000000000000000 ≤ drawSize st := by rw [hsz]; decide
              refine ⟨_, rfl, _, _, _, _, rfl, rfl, L', at3, _, _, rfl, rfl, .inr (by decide), _, rfl, .inl ⟨_, rfl, _, _, rfl, rfl, (show (0 : Int) < 2147483629 by decide), _, _, rfl, rfl, .inr (by decide), _, _, rfl, rfl, ?_⟩⟩
              refine ⟨_, rfl, _, _, _, _, rfl, rfl, L', at1, _, _, rfl, rfl, .inr (by decide), _, _, rfl, rfl, _, _, rfl, rfl, .inl ⟨_, rfl, _, _, rfl, rfl, (show (0 : Int) < 2147483647 by decide), ?_⟩⟩
              refine ⟨_, rfl, _, _, _, 3, rfl, rfl, upd_same, rfl, ?_⟩
              rw [upd_upd]
              refine ⟨_, rfl, _, _, _, _, rfl, rfl, SqL.of upd_same, at3, _, _, rfl, rfl, ⟨by decide, by decide⟩, .inl ⟨_, rfl, _, rfl, _, _, rfl, rfl, hm.1, ?_⟩⟩
              refine K1 { st with pos := st.pos + 1, seed := _ } rfl _ (by unfold drawD; rw [if_neg hb, if_neg hz', hsz]; rfl) (by unfold drawD; rw [if_neg hb, if_neg hz', hsz]; rfl)
      · cases e
    · cases e
/-! _law_pick -/
theorem sc_law_pick : FnScope ["d", "row"] ["d", "row"] (defScope s_law_pick) := ⟨rfl, rfl, rfl, by decide +kernel, rfl, by decide +kernel, by decide +kernel⟩
def G_law_pick : C :=
    (cRet (eBin dAt (eV 1) (eCall 2 F_law_draw (eCons (eV 0) (eCons (eFn dLen (eCons (eV 1) eNil)) eNil)))))
def F_law_pick : Fn := fnBody 2 2 G_law_pick
theorem ok_law_pick (T : Txt K mg ad fd) : FnOk P w K mg base (L2.CX P w) 2 (ad 14) (fd 14) ["d", "row"] (spD K 2 F_law_pick) := by
  refine fn_mk (G := G_law_pick) (N := ["d", "row"]) (k := 1) T.d_law_pick.fn sc_law_pick fun cdv A outer s H E hr => ?_
  have nd := sc_law_pick.nd
  have tk : Takes (cxOf (L2.CX P w) P w K mg base ["d", "row"] "_law_pick" (defScope s_law_pick) (ad 14) cdv A outer s H E) (fun cls d _ H' => E cls d H') := takes_of rfl rfl rfl rfl
  exact (c_one (c_ret (e_ix opD_at (ix_at (hu_of hr)) (e_var 1) (e_call (ok_law_draw T) (hr.mono (by first | decide | omega)) T.d_law_draw.g T.d_law_draw.fn.kp T.d_law_draw.b tk (a_cons (e_var 0) (a_cons (e_callB cd_len cr_len (by rfl) T.m_len (by decide +kernel) (a_cons (e_var 1) a_nil)) a_nil))))))
/-! _law_rare -/
theorem sc_law_rare : FnScope ["d", "many"] ["d", "many"] (defScope s_law_rare) := ⟨rfl, rfl, rfl, by decide +kernel, rfl, by decide +kernel, by decide +kernel⟩
def G_law_rare : C :=
    (cRet (eBin dEq (eCall 2 F_law_draw (eCons (eV 0) (eCons (eV 1) eNil))) (eBin dDiv (eV 1) (eC (.int 2)))))
def F_law_rare : Fn := fnBody 2 2 G_law_rare
theorem ok_law_rare (T : Txt K mg ad fd) : FnOk P w K mg base (L2.CX P w) 2 (ad 15) (fd 15) ["d", "many"] (spD K 2 F_law_rare) := by
  refine fn_mk (G := G_law_rare) (N := ["d", "many"]) (k := 1) T.d_law_rare.fn sc_law_rare fun cdv A outer s H E hr => ?_
  have nd := sc_law_rare.nd
  have tk : Takes (cxOf (L2.CX P w) P w K mg base ["d", "many"] "_law_rare" (defScope s_law_rare) (ad 15) cdv A outer s H E) (fun cls d _ H' => E cls d H') := takes_of rfl rfl rfl rfl
  exact (c_one (c_ret (e_cmp opD_eq (op_eqD hr.units) (e_call (ok_law_draw T) (hr.mono (by first | decide | omega)) T.d_law_draw.g T.d_law_draw.fn.kp T.d_law_draw.b tk (a_cons (e_var 0) (a_cons (e_var 1) a_nil))) (e_bin (opD_I cDiv_ok) op_fdivN (e_var 1) e_int))))
/-! _law_names -/
theorem sc_law_names : FnScope ["d", "many", "letters", "tails", "step", "found", "k"] ["d", "many"] (defScope s_law_names) := ⟨rfl, rfl, rfl, by decide +kernel, rfl, by decide +kernel, by decide +kernel⟩
def G_law_names : C :=
    (cSeq (cSet 2 (eC (.str "abcdefghijklmnopqrstuvwxyz")))
    (cSeq (cSet 3 (eFn dLst (eCons (eC (.str "")) (eCons (eC (.str "")) (eCons (eC (.str "0")) (eCons (eC (.str "b")) (eCons (eC (.str "z9")) (eCons (eC (.str "long3")) (eCons (eC (.str "a1b2c3d")) eNil)))))))))
    (cSeq (cSet 4 (eBin dDiv (eC (.int 26)) (eFn dMax2 (eCons (eC (.int 1)) (eCons (eV 1) eNil)))))
    (cSeq (cOwn 5 (eFn dLst eNil))
    (cSeq (cFor (iRng1 (eV 1)) (tName 6)
    (cAppend 5 (eBin dAdd (eBin dAt (eV 2) (eBin dAdd (eBin dMul (eV 6) (eV 4)) (eCall 2 F_law_draw (eCons (eV 0) (eCons (eV 4) eNil))))) (eCall 2 F_law_pick (eCons (eV 0) (eCons (eV 3) eNil))))))
    (cRet (eB 5)))))))
def F_law_names : Fn := fnBody 2 7 G_law_names
theorem ok_law_names (T : Txt K mg ad fd) : FnOk P w K mg base (L2.CX P w) 3 (ad 16) (fd 16) ["d", "many"] (spD K 2 F_law_names) := by
  refine fn_mk (G := G_law_names) (N := ["d", "many", "letters", "tails", "step", "found", "k"]) (k := 2) T.d_law_names.fn sc_law_names fun cdv A outer s H E hr => ?_
  have nd := sc_law_names.nd
  have tk : Takes (cxOf (L2.CX P w) P w K mg base ["d", "many", "letters", "tails", "step", "found", "k"] "_law_names" (defScope s_law_names) (ad 16) cdv A outer s H E) (fun cls d _ H' => E cls d H') := takes_of rfl rfl rfl rfl
  have ps : PassesOwn (model P w) (cxOf (L2.CX P w) P w K mg base ["d", "many", "letters", "tails", "step", "found", "k"] "_law_names" (defScope s_law_names) (ad 16) cdv A outer s H E).A (cxOf (L2.CX P w) P w K mg base ["d", "many", "letters", "tails", "step", "found", "k"] "_law_names" (defScope s_law_names) (ad 16) cdv A outer s H E).env (cxOf (L2.CX P w) P w K mg base ["d", "many", "letters", "tails", "step", "found", "k"] "_law_names" (defScope s_law_names) (ad 16) cdv A outer s H E).xe := passes_of rfl
  exact (c_cons (c_set 2 nd (e_str))
    (c_cons (c_set 3 nd (e_new (n_lst (a_cons (e_str) (a_cons (e_str) (a_cons (e_str) (a_cons (e_str) (a_cons (e_str) (a_cons (e_str) (a_cons (e_str) a_nil))))))))))
    (c_cons (c_set 4 nd (e_bin (opD_I cDiv_ok) op_fdivN e_int (e_callB cd_max2 (call_max2 rfl) (by rfl) T.m_max (by decide +kernel) (a_cons e_int (a_cons (e_var 1) a_nil)))))
    (c_cons (c_own 5 nd (n_lst a_nil))
    (c_cons (c_for ps rfl (i_rng1 (by rfl) T.m_range (e_var 1)) (g_name 6 nd)
    (c_one (c_append 5 (ps_expr (pe_bm PySem.F.plainAttrs_list PySem.F.slot_list_append PySem.F.type_list_append mt_append (pv 5) (pa_cons (e_bin opD_add opR_add (e_ix opD_at (ix_at (hu_of hr)) (e_var 2) (e_bin opD_add opR_add (e_bin (opD_I cMul_ok) op_mul (e_var 6) (e_var 4)) (e_call (ok_law_draw T) (hr.mono (by first | decide | omega)) T.d_law_draw.g T.d_law_draw.fn.kp T.d_law_draw.b tk (a_cons (e_var 0) (a_cons (e_var 4) a_nil))))) (e_call (ok_law_pick T) (hr.mono (by first | decide | omega)) T.d_law_pick.g T.d_law_pick.fn.kp T.d_law_pick.b tk (a_cons (e_var 0) (a_cons (e_var 3) a_nil)))) pa_nil))))))
    (c_one (c_ret (e_bor 5))))))))
/-! _law_is_int -/
theorem sc_law_is_int : FnScope ["thing"] ["thing"] (defScope s_law_is_int) := ⟨rfl, rfl, rfl, by decide +kernel, rfl, by decide +kernel, by decide +kernel⟩
def G_law_is_int : C :=
    (cRet (eAnd (eUn (dIsi "int") (eV 0)) (eNot (eUn (dIsi "bool") (eV 0)))))
def F_law_is_int : Fn := fnBody 1 1 G_law_is_int
theorem ok_law_is_int (T : Txt K mg ad fd) : FnOk P w K mg base (L2.CX P w) 1 (ad 17) (fd 17) ["thing"] (spD K 1 F_law_is_int) := by
  refine fn_mk (G := G_law_is_int) (N := ["thing"]) (k := 0) T.d_law_is_int.fn sc_law_is_int fun cdv A outer s H E hr => ?_
  have nd := sc_law_is_int.nd
  have tk : Takes (cxOf (L2.CX P w) P w K mg base ["thing"] "_law_is_int" (defScope s_law_is_int) (ad 17) cdv A outer s H E) (fun cls d _ H' => E cls d H') := takes_of rfl rfl rfl rfl
  exact (c_one (c_ret (e_and (e_isi (by rfl) T.m_isinstance (by rfl) T.m_int (by decide +kernel) (e_var 0)) (e_one (e_not (e_isi (by rfl) T.m_isinstance (by rfl) T.m_bool (by decide +kernel) (e_var 0)))))))
/-! _law_pool -/
theorem sc_law_pool : FnScope ["d", "found", "k"] ["d"] (defScope s_law_pool) := ⟨rfl, rfl, rfl, by decide +kernel, rfl, by decide +kernel, by decide +kernel⟩
def G_law_pool : C :=
    (cSeq (cOwn 1 (eFn dLst eNil))
    (cSeq (cFor (iRng1 (eBin dAdd (eC (.int 1)) (eCall 2 F_law_draw (eCons (eV 0) (eCons (eC (.int 4)) eNil))))) (tName 2)
    (cAppend 1 (eIf (eBin dEq (eCall 2 F_law_draw (eCons (eV 0) (eCons (eC (.int 3)) eNil))) (eC (.int 1))) (eCall 2 F_law_pick (eCons (eV 0) (eCons (eFn dLst (eCons (eC (.int 0)) (eCons (eC (.int 99)) (eCons (eC (.int 9)) (eCons (eC (.int 10)) eNil))))) eNil))) (eCall 2 F_law_draw (eCons (eV 0) (eCons (eC (.int 100)) eNil))))))
    (cRet (eB 1))))
def F_law_pool : Fn := fnBody 1 3 G_law_pool
theorem ok_law_pool (T : Txt K mg ad fd) : FnOk P w K mg base (L2.CX P w) 3 (ad 18) (fd 18) ["d"] (spD K 1 F_law_pool) := by
  refine fn_mk (G := G_law_pool) (N := ["d", "found", "k"]) (k := 2) T.d_law_pool.fn sc_law_pool fun cdv A outer s H E hr => ?_
  have nd := sc_law_pool.nd
  have tk : Takes (cxOf (L2.CX P w) P w K mg base ["d", "found", "k"] "_law_pool" (defScope s_law_pool) (ad 18) cdv A outer s H E) (fun cls d _ H' => E cls d H') := takes_of rfl rfl rfl rfl
  have ps : PassesOwn (model P w) (cxOf (L2.CX P w) P w K mg base ["d", "found", "k"] "_law_pool" (defScope s_law_pool) (ad 18) cdv A outer s H E).A (cxOf (L2.CX P w) P w K mg base ["d", "found", "k"] "_law_pool" (defScope s_law_pool) (ad 18) cdv A outer s H E).env (cxOf (L2.CX P w) P w K mg base ["d", "found", "k"] "_law_pool" (defScope s_law_pool) (ad 18) cdv A outer s H E).xe := passes_of rfl
  exact (c_cons (c_own 1 nd (n_lst a_nil))
    (c_cons (c_for ps rfl (i_rng1 (by rfl) T.m_range (e_bin opD_add opR_add e_int (e_call (ok_law_draw T) (hr.mono (by first | decide | omega)) T.d_law_draw.g T.d_law_draw.fn.kp T.d_law_draw.b tk (a_cons (e_var 0) (a_cons e_int a_nil))))) (g_name 2 nd)
    (c_one (c_append 1 (ps_expr (pe_bm PySem.F.plainAttrs_list PySem.F.slot_list_append PySem.F.type_list_append mt_append (pv 1) (pa_cons (e_if (t_cmp (B := B1) opD_eq (op_eqD hr.units) (e_call (ok_law_draw T) (hr.mono (by first | decide | omega)) T.d_law_draw.g T.d_law_draw.fn.kp T.d_law_draw.b tk (a_cons (e_var 0) (a_cons e_int a_nil))) e_int) (e_call (ok_law_pick T) (hr.mono (by first | decide | omega)) T.d_law_pick.g T.d_law_pick.fn.kp T.d_law_pick.b tk (a_cons (e_var 0) (a_cons (e_new (n_lst (a_cons e_int (a_cons e_int (a_cons e_int (a_cons e_int a_nil)))))) a_nil))) (e_call (ok_law_draw T) (hr.mono (by first | decide | omega)) T.d_law_draw.g T.d_law_draw.fn.kp T.d_law_draw.b tk (a_cons (e_var 0) (a_cons e_int a_nil)))) pa_nil))))))
    (c_one (c_ret (e_bor 1)))))
/-! _law_notice -/
theorem sc_law_notice : FnScope ["d", "work", "entered", "first", "last", "told"] ["d", "work", "entered"] (defScope s_law_notice) := ⟨rfl, rfl, rfl, by decide +kernel, rfl, by decide +kernel, by decide +kernel⟩
def G_law_notice : C :=
    (cSeq (cSet 3 (eIf (eCall 2 F_law_rare (eCons (eV 0) (eCons (eC (.int 17)) eNil))) (eC (.int 999)) (eCall 2 F_law_draw (eCons (eV 0) (eCons (eC (.int 5)) eNil)))))
    (cSeq (cSet 4 (eIf (eCall 2 F_law_rare (eCons (eV 0) (eCons (eC (.int 17)) eNil))) (eC (.int 999)) (eFn dMin2 (eCons (eC (.int 999)) (eCons (eBin dAdd (eV 3) (eCall 2 F_law_draw (eCons (eV 0) (eCons (eC (.int 3)) eNil)))) eNil)))))
    (cSeq (cSet 5 (eIf (eCall 2 F_law_rare (eCons (eV 0) (eCons (eC (.int 7)) eNil))) (eC (.int 0)) (eFn dMax2 (eCons (eC (.int 0)) (eCons (eBin dSub (eV 2) (eCall 2 F_law_draw (eCons (eV 0) (eCons (eC (.int 7)) eNil)))) eNil)))))
    (cRet (eFn dTup (eCons (eV 5) (eCons (eV 1) (eCons (eV 3) (eCons (eV 4) eNil)))))))))
def F_law_notice : Fn := fnBody 3 6 G_law_notice
theorem ok_law_notice (T : Txt K mg ad fd) : FnOk P w K mg base (L2.CX P w) 3 (ad 19) (fd 19) ["d", "work", "entered"] (spD K 3 F_law_notice) := by
  refine fn_mk (G := G_law_notice) (N := ["d", "work", "entered", "first", "last", "told"]) (k := 2) T.d_law_notice.fn sc_law_notice fun cdv A outer s H E hr => ?_
  have nd := sc_law_notice.nd
  have tk : Takes (cxOf (L2.CX P w) P w K mg base ["d", "work", "entered", "first", "last", "told"] "_law_notice" (defScope s_law_notice) (ad 19) cdv A outer s H E) (fun cls d _ H' => E cls d H') := takes_of rfl rfl rfl rfl
  exact (c_cons (c_set 3 nd (e_if (t_val (B := B1) (e_call (ok_law_rare T) (hr.mono (by first | decide | omega)) T.d_law_rare.g T.d_law_rare.fn.kp T.d_law_rare.b tk (a_cons (e_var 0) (a_cons e_int a_nil)))) e_int (e_call (ok_law_draw T) (hr.mono (by first | decide | omega)) T.d_law_draw.g T.d_law_draw.fn.kp T.d_law_draw.b tk (a_cons (e_var 0) (a_cons e_int a_nil)))))
    (c_cons (c_set 4 nd (e_if (t_val (B := B1) (e_call (ok_law_rare T) (hr.mono (by first | decide | omega)) T.d_law_rare.g T.d_law_rare.fn.kp T.d_law_rare.b tk (a_cons (e_var 0) (a_cons e_int a_nil)))) e_int (e_callB cd_min2 (call_min2 rfl) (by rfl) T.m_min (by decide +kernel) (a_cons e_int (a_cons (e_bin opD_add opR_add (e_var 3) (e_call (ok_law_draw T) (hr.mono (by first | decide | omega)) T.d_law_draw.g T.d_law_draw.fn.kp T.d_law_draw.b tk (a_cons (e_var 0) (a_cons e_int a_nil)))) a_nil)))))
    (c_cons (c_set 5 nd (e_if (t_val (B := B1) (e_call (ok_law_rare T) (hr.mono (by first | decide | omega)) T.d_law_rare.g T.d_law_rare.fn.kp T.d_law_rare.b tk (a_cons (e_var 0) (a_cons e_int a_nil)))) e_int (e_callB cd_max2 (call_max2 rfl) (by rfl) T.m_max (by decide +kernel) (a_cons e_int (a_cons (e_bin opD_I0 op_sub (e_var 2) (e_call (ok_law_draw T) (hr.mono (by first | decide | omega)) T.d_law_draw.g T.d_law_draw.fn.kp T.d_law_draw.b tk (a_cons (e_var 0) (a_cons e_int a_nil)))) a_nil)))))
    (c_one (c_ret (e_tup (a_cons (e_var 5) (a_cons (e_var 1) (a_cons (e_var 3) (a_cons (e_var 4) a_nil))))))))))
/-! _law_said -/
theorem sc_law_said : FnScope ["book", "number", "day", "entry"] ["book", "number", "day"] (defScope s_law_said) := ⟨rfl, rfl, rfl, by decide +kernel, rfl, by decide +kernel, by decide +kernel⟩
def G_law_said : C :=
    (cSeq (cFor (iSeq (eUn dRev (eV 0))) (tName 3)
    (cIf (eAnd (eBin dLe (eBin dAt (eV 3) (eC (.int 0))) (eV 2)) (eBin dEq (eBin dAt (eV 3) (eC (.int 1))) (eV 1))) (cRet (eBin dAt (eV 3) (eC (.int 2)))) cNil))
    (cRet (eC .non)))
def F_law_said : Fn := fnBody 3 4 G_law_said
theorem ok_law_said (T : Txt K mg ad fd) : FnOk P w K mg base (L2.CX P w) 1 (ad 20) (fd 20) ["book", "number", "day"] (spD K 3 F_law_said) := by
  refine fn_mk (G := G_law_said) (N := ["book", "number", "day", "entry"]) (k := 0) T.d_law_said.fn sc_law_said fun cdv A outer s H E hr => ?_
  have nd := sc_law_said.nd
  have tk : Takes (cxOf (L2.CX P w) P w K mg base ["book", "number", "day", "entry"] "_law_said" (defScope s_law_said) (ad 20) cdv A outer s H E) (fun cls d _ H' => E cls d H') := takes_of rfl rfl rfl rfl
  have ps : PassesOwn (model P w) (cxOf (L2.CX P w) P w K mg base ["book", "number", "day", "entry"] "_law_said" (defScope s_law_said) (ad 20) cdv A outer s H E).A (cxOf (L2.CX P w) P w K mg base ["book", "number", "day", "entry"] "_law_said" (defScope s_law_said) (ad 20) cdv A outer s H E).env (cxOf (L2.CX P w) P w K mg base ["book", "number", "day", "entry"] "_law_said" (defScope s_law_said) (ad 20) cdv A outer s H E).xe := passes_of rfl
  exact (c_cons (c_for ps rfl (i_seq (e_new (n_rev (e_var 0)))) (g_name 3 nd)
    (c_one (c_if (PW.pt (w_and (t_cmp (B := B1) opD_B0 op_le (e_ix opD_at (ix_at (hu_of hr)) (e_var 3) e_int) (e_var 2)) (w_and1 (t_cmp (B := B1) opD_eq (op_eqD hr.units) (e_ix opD_at (ix_at (hu_of hr)) (e_var 3) e_int) (e_var 1))))) (c_one (c_ret (e_ix opD_at (ix_at (hu_of hr)) (e_var 3) e_int))) c_nil)))
    (c_one (c_ret e_non)))
/-! _law_next -/
theorem sc_law_next : FnScope ["d", "names", "book", "number", "day", "known", "elder", "entry"] ["d", "names", "book", "number", "day"] (defScope s_law_next) := ⟨rfl, rfl, rfl, by decide +kernel, rfl, by decide +kernel, by decide +kernel⟩
def G_law_next : C :=
    (cSeq (cSet 5 (eCall 3 F_law_said (eCons (eV 2) (eCons (eV 3) (eCons (eV 4) eNil)))))
    (cSeq (cIf (eOr (eBin dIsN (eV 5) (eC .non)) (eBin dEq (eCall 2 F_law_draw (eCons (eV 0) (eCons (eC (.int 3)) eNil))) (eC (.int 1)))) (cSeq (cSet 6 (eLc (iSeq (eV 2)) [7] (tName 7) (eAnd (eBin dEq (eBin dAt (eV 7) (eC (.int 1))) (eV 3)) (eBin dNotN (eBin dAt (eV 7) (eC (.int 2))) (eC .non))) (eBin dAt (eV 7) (eC (.int 2)))))
    (cSeq (cIf (eAnd (eBin dGt (eFn dLen (eCons (eV 6) eNil)) (eC (.int 0))) (eBin dEq (eCall 2 F_law_draw (eCons (eV 0) (eCons (eC (.int 2)) eNil))) (eC (.int 1)))) (cRet (eCall 2 F_law_pick (eCons (eV 0) (eCons (eV 6) eNil)))) cNil)
    (cRet (eCall 3 F_law_notice (eCons (eV 0) (eCons (eCall 2 F_law_pick (eCons (eV 0) (eCons (eV 1) eNil))) (eCons (eV 4) eNil))))))) cNil)
    (cSeq (cIf (eBin dEq (eCall 2 F_law_draw (eCons (eV 0) (eCons (eC (.int 3)) eNil))) (eC (.int 1))) (cRet (eV 5)) cNil)
    (cRet (eC .non)))))
def F_law_next : Fn := fnBody 5 8 G_law_next
theorem ok_law_next (T : Txt K mg ad fd) : FnOk P w K mg base (L2.CX P w) 4 (ad 21) (fd 21) ["d", "names", "book", "number", "day"] (spD K 5 F_law_next) := by
  refine fn_mk (G := G_law_next) (N := ["d", "names", "book", "number", "day", "known", "elder", "entry"]) (k := 3) T.d_law_next.fn sc_law_next fun cdv A outer s H E hr => ?_
  have nd := sc_law_next.nd
  have tk : Takes (cxOf (L2.CX P w) P w K mg base ["d", "names", "book", "number", "day", "known", "elder", "entry"] "_law_next" (defScope s_law_next) (ad 21) cdv A outer s H E) (fun cls d _ H' => E cls d H') := takes_of rfl rfl rfl rfl
  exact (c_cons (c_set 5 nd (e_call (ok_law_said T) (hr.mono (by first | decide | omega)) T.d_law_said.g T.d_law_said.fn.kp T.d_law_said.b tk (a_cons (e_var 2) (a_cons (e_var 3) (a_cons (e_var 4) a_nil)))))
    (c_cons (c_if (PW.pt (w_or (t_cmp (B := B1) opD_isN op_isN (e_var 5) e_non) (w_or1 (t_cmp (B := B1) opD_eq (op_eqD hr.units) (e_call (ok_law_draw T) (hr.mono (by first | decide | omega)) T.d_law_draw.g T.d_law_draw.fn.kp T.d_law_draw.b tk (a_cons (e_var 0) (a_cons e_int a_nil))) e_int)))) (c_cons (c_setLc 6 (own := [("entry", 7)]) rfl rfl nd (i_seq (e_var 2)) (blkOk_by (N := N_law_next) (sc := defScope s_law_next) (by decide +kernel)) (fun _ _ _ _ _ => (g_name 7 nd)) (fun _ _ _ _ _ => (t_one (PW.pt (w_and (t_cmp (B := B1) opD_eq (op_eqD hr.units) (e_ix opD_at (ix_at (hu_of hr)) (e_var 7) e_int) (e_var 3)) (w_and1 (t_cmp (B := B1) opD_notN op_notN (e_ix opD_at (ix_at (hu_of hr)) (e_var 7) e_int) e_non)))))) (fun _ _ _ _ _ => (e_ix opD_at (ix_at (hu_of hr)) (e_var 7) e_int)))
    (c_cons (c_if (PW.pt (w_and (t_cmp (B := B1) opD_B0 op_gt (e_callB cd_len cr_len (by rfl) T.m_len (by decide +kernel) (a_cons (e_var 6) a_nil)) e_int) (w_and1 (t_cmp (B := B1) opD_eq (op_eqD hr.units) (e_call (ok_law_draw T) (hr.mono (by first | decide | omega)) T.d_law_draw.g T.d_law_draw.fn.kp T.d_law_draw.b tk (a_cons (e_var 0) (a_cons e_int a_nil))) e_int)))) (c_one (c_ret (e_call (ok_law_pick T) (hr.mono (by first | decide | omega)) T.d_law_pick.g T.d_law_pick.fn.kp T.d_law_pick.b tk (a_cons (e_var 0) (a_cons (e_var 6) a_nil))))) c_nil)
    (c_one (c_ret (e_call (ok_law_notice T) (hr.mono (by first | decide | omega)) T.d_law_notice.g T.d_law_notice.fn.kp T.d_law_notice.b tk (a_cons (e_var 0) (a_cons (e_call (ok_law_pick T) (hr.mono (by first | decide | omega)) T.d_law_pick.g T.d_law_pick.fn.kp T.d_law_pick.b tk (a_cons (e_var 0) (a_cons (e_var 1) a_nil))) (a_cons (e_var 4) a_nil)))))))) c_nil)
    (c_cons (c_if (t_cmp (B := B1) opD_eq (op_eqD hr.units) (e_call (ok_law_draw T) (hr.mono (by first | decide | omega)) T.d_law_draw.g T.d_law_draw.fn.kp T.d_law_draw.b tk (a_cons (e_var 0) (a_cons e_int a_nil))) e_int) (c_one (c_ret (e_var 5))) c_nil)
    (c_one (c_ret e_non)))))
/-! _law_book -/
theorem sc_law_book : FnScope ["d", "names", "pool", "many", "day", "book", "k", "number"] ["d", "names", "pool", "many"] (defScope s_law_book) := ⟨rfl, rfl, rfl, by decide +kernel, rfl, by decide +kernel, by decide +kernel⟩
def G_law_book : C :=
    (cSeq (cSet 4 (eCall 2 F_law_draw (eCons (eV 0) (eCons (eC (.int 3)) eNil))))
    (cSeq (cOwn 5 (eFn dLst eNil))
    (cSeq (cFor (iRng1 (eV 3)) (tName 6)
    (cSeq (cSet 4 (eIf (eCall 2 F_law_rare (eCons (eV 0) (eCons (eC (.int 41)) eNil))) (eC (.int 999)) (eFn dMin2 (eCons (eC (.int 999)) (eCons (eBin dAdd (eV 4) (eCall 2 F_law_pick (eCons (eV 0) (eCons (eFn dLst (eCons (eC (.int 0)) (eCons (eC (.int 0)) (eCons (eC (.int 1)) (eCons (eC (.int 2)) (eCons (eC (.int 5)) eNil)))))) eNil)))) eNil)))))
    (cSeq (cSet 7 (eCall 2 F_law_pick (eCons (eV 0) (eCons (eV 2) eNil))))
    (cAppend 5 (eFree (eFn dTup (eCons (eV 4) (eCons (eV 7) (eCons (eCall 5 F_law_next (eCons (eV 0) (eCons (eV 1) (eCons (eB 5) (eCons (eV 7) (eCons (eV 4) eNil)))))) eNil)))))))))
    (cRet (eB 5)))))
def F_law_book : Fn := fnBody 4 8 G_law_book
theorem ok_law_book (T : Txt K mg ad fd) : FnOk P w K mg base (L2.CX P w) 5 (ad 22) (fd 22) ["d", "names", "pool", "many"] (spD K 4 F_law_book) := by
  refine fn_mk (G := G_law_book) (N := ["d", "names", "pool", "many", "day", "book", "k", "number"]) (k := 4) T.d_law_book.fn sc_law_book fun cdv A outer s H E hr => ?_
  have nd := sc_law_book.nd
  have tk : Takes (cxOf (L2.CX P w) P w K mg base ["d", "names", "pool", "many", "day", "book", "k", "number"] "_law_book" (defScope s_law_book) (ad 22) cdv A outer s H E) (fun cls d _ H' => E cls d H') := takes_of rfl rfl rfl rfl
  have ps : PassesOwn (model P w) (cxOf (L2.CX P w) P w K mg base ["d", "names", "pool", "many", "day", "book", "k", "number"] "_law_book" (defScope s_law_book) (ad 22) cdv A outer s H E).A (cxOf (L2.CX P w) P w K mg base ["d", "names", "pool", "many", "day", "book", "k", "number"] "_law_book" (defScope s_law_book) (ad 22) cdv A outer s H E).env (cxOf (L2.CX P w) P w K mg base ["d", "names", "pool", "many", "day", "book", "k", "number"] "_law_book" (defScope s_law_book) (ad 22) cdv A outer s H E).xe := passes_of rfl
  exact (c_cons (c_set 4 nd (e_call (ok_law_draw T) (hr.mono (by first | decide | omega)) T.d_law_draw.g T.d_law_draw.fn.kp T.d_law_draw.b tk (a_cons (e_var 0) (a_cons e_int a_nil))))
    (c_cons (c_own 5 nd (n_lst a_nil))
    (c_cons (c_for ps rfl (i_rng1 (by rfl) T.m_range (e_var 3)) (g_name 6 nd)
    (c_cons (c_set 4 nd (e_if (t_val (B := B1) (e_call (ok_law_rare T) (hr.mono (by first | decide | omega)) T.d_law_rare.g T.d_law_rare.fn.kp T.d_law_rare.b tk (a_cons (e_var 0) (a_cons e_int a_nil)))) e_int (e_callB cd_min2 (call_min2 rfl) (by rfl) T.m_min (by decide +kernel) (a_cons e_int (a_cons (e_bin opD_add opR_add (e_var 4) (e_call (ok_law_pick T) (hr.mono (by first | decide | omega)) T.d_law_pick.g T.d_law_pick.fn.kp T.d_law_pick.b tk (a_cons (e_var 0) (a_cons (e_new (n_lst (a_cons e_int (a_cons e_int (a_cons e_int (a_cons e_int (a_cons e_int a_nil))))))) a_nil)))) a_nil)))))
    (c_cons (c_set 7 nd (e_call (ok_law_pick T) (hr.mono (by first | decide | omega)) T.d_law_pick.g T.d_law_pick.fn.kp T.d_law_pick.b tk (a_cons (e_var 0) (a_cons (e_var 2) a_nil))))
    (c_one (c_append 5 (ps_expr (pe_bm PySem.F.plainAttrs_list PySem.F.slot_list_append PySem.F.type_list_append mt_append (pv 5) (pa_cons (e_free (e_tup (a_cons (e_var 4) (a_cons (e_var 7) (a_cons (e_call (ok_law_next T) (hr.mono (by first | decide | omega)) T.d_law_next.g T.d_law_next.fn.kp T.d_law_next.b tk (a_cons (e_var 0) (a_cons (e_var 1) (a_cons (e_bor 5) (a_cons (e_var 7) (a_cons (e_var 4) a_nil)))))) a_nil))))) pa_nil))))))))
    (c_one (c_ret (e_bor 5))))))
/-! _law_longer -/
theorem sc_law_longer : FnScope ["d", "names", "pool", "book", "day", "number"] ["d", "names", "pool", "book"] (defScope s_law_longer) := ⟨rfl, rfl, rfl, by decide +kernel, rfl, by decide +kernel, by decide +kernel⟩
def G_law_longer : C :=
    (cSeq (cSet 4 (eIf (eBin dGt (eFn dLen (eCons (eV 3) eNil)) (eC (.int 0))) (eBin dAt (eBin dAt (eV 3) (eUn dNeg (eC (.int 1)))) (eC (.int 0))) (eC (.int 0))))
    (cSeq (cSet 4 (eFn dMin2 (eCons (eC (.int 999)) (eCons (eBin dAdd (eV 4) (eCall 2 F_law_draw (eCons (eV 0) (eCons (eC (.int 3)) eNil)))) eNil))))
    (cSeq (cSet 5 (eCall 2 F_law_pick (eCons (eV 0) (eCons (eV 2) eNil))))
    (cRet (eBin dAdd (eV 3) (eFn dLst (eCons (eFn dTup (eCons (eV 4) (eCons (eV 5) (eCons (eCall 5 F_law_next (eCons (eV 0) (eCons (eV 1) (eCons (eV 3) (eCons (eV 5) (eCons (eV 4) eNil)))))) eNil)))) eNil)))))))
def F_law_longer : Fn := fnBody 4 6 G_law_longer
theorem ok_law_longer (T : Txt K mg ad fd) : FnOk P w K mg base (L2.CX P w) 5 (ad 23) (fd 23) ["d", "names", "pool", "book"] (spD K 4 F_law_longer) := by
  refine fn_mk (G := G_law_longer) (N := ["d", "names", "pool", "book", "day", "number"]) (k := 4) T.d_law_longer.fn sc_law_longer fun cdv A outer s H E hr => ?_
  have nd := sc_law_longer.nd
  have tk : Takes (cxOf (L2.CX P w) P w K mg base ["d", "names", "pool", "book", "day", "number"] "_law_longer" (defScope s_law_longer) (ad 23) cdv A outer s H E) (fun cls d _ H' => E cls d H') := takes_of rfl rfl rfl rfl
  exact (c_cons (c_set 4 nd (e_if (t_cmp (B := B1) opD_B0 op_gt (e_callB cd_len cr_len (by rfl) T.m_len (by decide +kernel) (a_cons (e_var 3) a_nil)) e_int) (e_ix opD_at (ix_at (hu_of hr)) (e_ix opD_at (ix_at (hu_of hr)) (e_var 3) (e_un unD_neg un_neg e_int)) e_int) e_int))
    (c_cons (c_set 4 nd (e_callB cd_min2 (call_min2 rfl) (by rfl) T.m_min (by decide +kernel) (a_cons e_int (a_cons (e_bin opD_add opR_add (e_var 4) (e_call (ok_law_draw T) (hr.mono (by first | decide | omega)) T.d_law_draw.g T.d_law_draw.fn.kp T.d_law_draw.b tk (a_cons (e_var 0) (a_cons e_int a_nil)))) a_nil))))
    (c_cons (c_set 5 nd (e_call (ok_law_pick T) (hr.mono (by first | decide | omega)) T.d_law_pick.g T.d_law_pick.fn.kp T.d_law_pick.b tk (a_cons (e_var 0) (a_cons (e_var 2) a_nil))))
    (c_one (c_ret (e_bin opD_add opR_add (e_var 3) (e_new (n_lst (a_cons (e_tup (a_cons (e_var 4) (a_cons (e_var 5) (a_cons (e_call (ok_law_next T) (hr.mono (by first | decide | omega)) T.d_law_next.g T.d_law_next.fn.kp T.d_law_next.b tk (a_cons (e_var 0) (a_cons (e_var 1) (a_cons (e_var 3) (a_cons (e_var 5) (a_cons (e_var 4) a_nil)))))) a_nil)))) a_nil)))))))))
/-! _law_numbers -/
theorem sc_law_numbers : FnScope ["book", "entry"] ["book"] (defScope s_law_numbers) := ⟨rfl, rfl, rfl, by decide +kernel, rfl, by decide +kernel, by decide +kernel⟩
def G_law_numbers : C :=
    (cRet (eUn dSortSetI (eLc (iSeq (eV 0)) [1] (tName 1) (eC (.bl true)) (eBin dAt (eV 1) (eC (.int 1))))))
def F_law_numbers : Fn := fnBody 1 2 G_law_numbers
theorem ok_law_numbers (T : Txt K mg ad fd) : FnOk P w K mg base (L2.CX P w) 1 (ad 24) (fd 24) ["book"] (spD K 1 F_law_numbers) := by
  refine fn_mk (G := G_law_numbers) (N := ["book", "entry"]) (k := 0) T.d_law_numbers.fn sc_law_numbers fun cdv A outer s H E hr => ?_
  have nd := sc_law_numbers.nd
  have tk : Takes (cxOf (L2.CX P w) P w K mg base ["book", "entry"] "_law_numbers" (defScope s_law_numbers) (ad 24) cdv A outer s H E) (fun cls d _ H' => E cls d H') := takes_of rfl rfl rfl rfl
  exact (c_one (c_ret (e_new (n_sortSetI rfl (by rfl) T.m_sorted (by rfl) T.m_set (e_new (n_lc (own := [("entry", 1)]) rfl rfl nd (i_seq (e_var 0)) (blkOk_by (N := N_law_numbers) (sc := defScope s_law_numbers) (by decide +kernel)) (fun _ _ _ _ _ => (g_name 1 nd)) (fun _ _ _ _ _ => t_none) (fun _ _ _ _ _ => (e_ix opD_at (ix_at (hu_of hr)) (e_var 1) e_int))))))))
/-! _law_known -/
theorem sc_law_known : FnScope ["book", "day", "found", "number", "notice"] ["book", "day"] (defScope s_law_known) := ⟨rfl, rfl, rfl, by decide +kernel, rfl, by decide +kernel, by decide +kernel⟩
def G_law_known : C :=
    (cSeq (cOwn 2 (eFn dLst eNil))
    (cSeq (cFor (iSeq (eCall 1 F_law_numbers (eCons (eV 0) eNil))) (tName 3)
    (cSeq (cSet 4 (eCall 3 F_law_said (eCons (eV 0) (eCons (eV 3) (eCons (eV 1) eNil)))))
    (cIf (eBin dNotN (eV 4) (eC .non)) (cAppend 2 (eFn dTup (eCons (eV 3) (eCons (eV 4) eNil)))) cNil)))
    (cRet (eFn dTuple (eCons (eB 2) eNil)))))
def F_law_known : Fn := fnBody 2 5 G_law_known
theorem ok_law_known (T : Txt K mg ad fd) : FnOk P w K mg base (L2.CX P w) 2 (ad 25) (fd 25) ["book", "day"] (spD K 2 F_law_known) := by
  refine fn_mk (G := G_law_known) (N := ["book", "day", "found", "number", "notice"]) (k := 1) T.d_law_known.fn sc_law_known fun cdv A outer s H E hr => ?_
  have nd := sc_law_known.nd
  have tk : Takes (cxOf (L2.CX P w) P w K mg base ["book", "day", "found", "number", "notice"] "_law_known" (defScope s_law_known) (ad 25) cdv A outer s H E) (fun cls d _ H' => E cls d H') := takes_of rfl rfl rfl rfl
  have ps : PassesOwn (model P w) (cxOf (L2.CX P w) P w K mg base ["book", "day", "found", "number", "notice"] "_law_known" (defScope s_law_known) (ad 25) cdv A outer s H E).A (cxOf (L2.CX P w) P w K mg base ["book", "day", "found", "number", "notice"] "_law_known" (defScope s_law_known) (ad 25) cdv A outer s H E).env (cxOf (L2.CX P w) P w K mg base ["book", "day", "found", "number", "notice"] "_law_known" (defScope s_law_known) (ad 25) cdv A outer s H E).xe := passes_of rfl
  exact (c_cons (c_own 2 nd (n_lst a_nil))
    (c_cons (c_for ps rfl (i_seq (e_call (ok_law_numbers T) (hr.mono (by first | decide | omega)) T.d_law_numbers.g T.d_law_numbers.fn.kp T.d_law_numbers.b tk (a_cons (e_var 0) a_nil))) (g_name 3 nd)
    (c_cons (c_set 4 nd (e_call (ok_law_said T) (hr.mono (by first | decide | omega)) T.d_law_said.g T.d_law_said.fn.kp T.d_law_said.b tk (a_cons (e_var 0) (a_cons (e_var 3) (a_cons (e_var 1) a_nil)))))
    (c_one (c_if (t_cmp (B := B1) opD_notN op_notN (e_var 4) e_non) (c_one (c_append 2 (ps_expr (pe_bm PySem.F.plainAttrs_list PySem.F.slot_list_append PySem.F.type_list_append mt_append (pv 2) (pa_cons (e_tup (a_cons (e_var 3) (a_cons (e_var 4) a_nil))) pa_nil))))) c_nil))))
    (c_one (c_ret (e_callTy cd_tuple call_tuple_of (by rfl) T.m_tuple (by decide +kernel) (a_cons (e_bor 2) a_nil))))))
/-! _law_corrected -/
theorem sc_law_corrected : FnScope ["book", "day", "later", "found", "number"] ["book", "day", "later"] (defScope s_law_corrected) := ⟨rfl, rfl, rfl, by decide +kernel, rfl, by decide +kernel, by decide +kernel⟩
def G_law_corrected : C :=
    (cSeq (cOwn 3 (eFn dLst eNil))
    (cSeq (cFor (iSeq (eCall 1 F_law_numbers (eCons (eV 0) eNil))) (tName 4)
    (cIf (eBin dNe (eCall 3 F_law_said (eCons (eV 0) (eCons (eV 4) (eCons (eV 1) eNil)))) (eCall 3 F_law_said (eCons (eV 0) (eCons (eV 4) (eCons (eV 2) eNil))))) (cAppend 3 (eV 4)) cNil))
    (cRet (eFn dTuple (eCons (eB 3) eNil)))))
def F_law_corrected : Fn := fnBody 3 5 G_law_corrected
theorem ok_law_corrected (T : Txt K mg ad fd) : FnOk P w K mg base (L2.CX P w) 2 (ad 26) (fd 26) ["book", "day", "later"] (spD K 3 F_law_corrected) := by
  refine fn_mk (G := G_law_corrected) (N := ["book", "day", "later", "found", "number"]) (k := 1) T.d_law_corrected.fn sc_law_corrected fun cdv A outer s H E hr => ?_
  have nd := sc_law_corrected.nd
  have tk : Takes (cxOf (L2.CX P w) P w K mg base ["book", "day", "later", "found", "number"] "_law_corrected" (defScope s_law_corrected) (ad 26) cdv A outer s H E) (fun cls d _ H' => E cls d H') := takes_of rfl rfl rfl rfl
  have ps : PassesOwn (model P w) (cxOf (L2.CX P w) P w K mg base ["book", "day", "later", "found", "number"] "_law_corrected" (defScope s_law_corrected) (ad 26) cdv A outer s H E).A (cxOf (L2.CX P w) P w K mg base ["book", "day", "later", "found", "number"] "_law_corrected" (defScope s_law_corrected) (ad 26) cdv A outer s H E).env (cxOf (L2.CX P w) P w K mg base ["book", "day", "later", "found", "number"] "_law_corrected" (defScope s_law_corrected) (ad 26) cdv A outer s H E).xe := passes_of rfl
  exact (c_cons (c_own 3 nd (n_lst a_nil))
    (c_cons (c_for ps rfl (i_seq (e_call (ok_law_numbers T) (hr.mono (by first | decide | omega)) T.d_law_numbers.g T.d_law_numbers.fn.kp T.d_law_numbers.b tk (a_cons (e_var 0) a_nil))) (g_name 4 nd)
    (c_one (c_if (t_cmp (B := B1) opD_ne (op_neD hr.units) (e_call (ok_law_said T) (hr.mono (by first | decide | omega)) T.d_law_said.g T.d_law_said.fn.kp T.d_law_said.b tk (a_cons (e_var 0) (a_cons (e_var 4) (a_cons (e_var 1) a_nil)))) (e_call (ok_law_said T) (hr.mono (by first | decide | omega)) T.d_law_said.g T.d_law_said.fn.kp T.d_law_said.b tk (a_cons (e_var 0) (a_cons (e_var 4) (a_cons (e_var 2) a_nil))))) (c_one (c_append 3 (ps_expr (pe_bm PySem.F.plainAttrs_list PySem.F.slot_list_append PySem.F.type_list_append mt_append (pv 3) (pa_cons (e_var 4) pa_nil))))) c_nil)))
    (c_one (c_ret (e_callTy cd_tuple call_tuple_of (by rfl) T.m_tuple (by decide +kernel) (a_cons (e_bor 3) a_nil))))))
/-! _law_history -/
theorem sc_law_history : FnScope ["book", "number", "found", "entry"] ["book", "number"] (defScope s_law_history) := ⟨rfl, rfl, rfl, by decide +kernel, rfl, by decide +kernel, by decide +kernel⟩
def G_law_history : C :=
    (cSeq (cOwn 2 (eFn dLst eNil))
    (cSeq (cFor (iSeq (eV 0)) (tName 3)
    (cIf (eAnd (eBin dEq (eBin dAt (eV 3) (eC (.int 1))) (eV 1)) (eOr (eBin dEq (eFn dLen (eCons (eB 2) eNil)) (eC (.int 0))) (eBin dNe (eBin dAt (eBin dAt (eB 2) (eUn dNeg (eC (.int 1)))) (eC (.int 1))) (eBin dAt (eV 3) (eC (.int 2)))))) (cAppend 2 (eFn dTup (eCons (eBin dAt (eV 3) (eC (.int 0))) (eCons (eBin dAt (eV 3) (eC (.int 2))) eNil)))) cNil))
    (cRet (eFn dTuple (eCons (eB 2) eNil)))))
def F_law_history : Fn := fnBody 2 4 G_law_history
theorem ok_law_history (T : Txt K mg ad fd) : FnOk P w K mg base (L2.CX P w) 1 (ad 27) (fd 27) ["book", "number"] (spD K 2 F_law_history) := by
  refine fn_mk (G := G_law_history) (N := ["book", "number", "found", "entry"]) (k := 0) T.d_law_history.fn sc_law_history fun cdv A outer s H E hr => ?_
  have nd := sc_law_history.nd
  have tk : Takes (cxOf (L2.CX P w) P w K mg base ["book", "number", "found", "entry"] "_law_history" (defScope s_law_history) (ad 27) cdv A outer s H E) (fun cls d _ H' => E cls d H') := takes_of rfl rfl rfl rfl
  have ps : PassesOwn (model P w) (cxOf (L2.CX P w) P w K mg base ["book", "number", "found", "entry"] "_law_history" (defScope s_law_history) (ad 27) cdv A outer s H E).A (cxOf (L2.CX P w) P w K mg base ["book", "number", "found", "entry"] "_law_history" (defScope s_law_history) (ad 27) cdv A outer s H E).env (cxOf (L2.CX P w) P w K mg base ["book", "number", "found", "entry"] "_law_history" (defScope s_law_history) (ad 27) cdv A outer s H E).xe := passes_of rfl
  exact (c_cons (c_own 2 nd (n_lst a_nil))
    (c_cons (c_for ps rfl (i_seq (e_var 0)) (g_name 3 nd)
    (c_one (c_if (PW.pt (w_and (t_cmp (B := B1) opD_eq (op_eqD hr.units) (e_ix opD_at (ix_at (hu_of hr)) (e_var 3) e_int) (e_var 1)) (w_and1 (PW.pt (w_or (t_cmp (B := B1) opD_eq (op_eqD hr.units) (e_callB cd_len cr_len (by rfl) T.m_len (by decide +kernel) (a_cons (e_bor 2) a_nil)) e_int) (w_or1 (t_cmp (B := B1) opD_ne (op_neD hr.units) (e_ix opD_at (ix_at (hu_of hr)) (e_ix opD_at (ix_at (hu_of hr)) (e_bor 2) (e_un unD_neg un_neg e_int)) e_int) (e_ix opD_at (ix_at (hu_of hr)) (e_var 3) e_int)))))))) (c_one (c_append 2 (ps_expr (pe_bm PySem.F.plainAttrs_list PySem.F.slot_list_append PySem.F.type_list_append mt_append (pv 2) (pa_cons (e_tup (a_cons (e_ix opD_at (ix_at (hu_of hr)) (e_var 3) e_int) (a_cons (e_ix opD_at (ix_at (hu_of hr)) (e_var 3) e_int) a_nil))) pa_nil))))) c_nil)))
    (c_one (c_ret (e_callTy cd_tuple call_tuple_of (by rfl) T.m_tuple (by decide +kernel) (a_cons (e_bor 2) a_nil))))))
/-! _law_plain -/
theorem sc_law_plain : FnScope ["thing", "depth", "part"] ["thing", "depth"] (defScope s_law_plain) := ⟨rfl, rfl, rfl, by decide +kernel, rfl, by decide +kernel, by decide +kernel⟩
def G_law_plain (rec : Fn) : C :=
    (cSeq (cIf (eUn (dIsi "tuple") (eV 0)) (cRet (eAnd (eBin dGt (eV 1) (eC (.int 0))) (eFn dAll (eCons (eLc (iSeq (eV 0)) [2] (tName 2) (eC (.bl true)) (eCall 2 rec (eCons (eV 2) (eCons (eBin dSub (eV 1) (eC (.int 1))) eNil)))) eNil)))) cNil)
    (cRet (eOr (eBin dIsN (eV 0) (eC .non)) (eOr (eUn (dIsi "str") (eV 0)) (eCall 1 F_law_is_int (eCons (eV 0) eNil))))))
def F_law_plain : Nat → Fn
  | 0 => fun _ _ => none
  | n + 1 => fnBody 2 3 (G_law_plain (F_law_plain n))
theorem ok_law_plain (T : Txt K mg ad fd) : ∀ n : Nat, FnOk P w K mg base (L2.CX P w) (2 + n) (ad 28) (fd 28) ["thing", "depth"] (spD K 2 (F_law_plain n))
  | 0 => fn_none rfl
  | n + 1 => by
    have IH := ok_law_plain T n
    refine fn_mk (G := G_law_plain (F_law_plain n)) (N := ["thing", "depth", "part"]) (k := 2 + n) T.d_law_plain.fn sc_law_plain fun cdv A outer s H E hr => ?_
    have nd := sc_law_plain.nd
    have tk : Takes (cxOf (L2.CX P w) P w K mg base ["thing", "depth", "part"] "_law_plain" (defScope s_law_plain) (ad 28) cdv A outer s H E) (fun cls d _ H' => E cls d H') := takes_of rfl rfl rfl rfl
    exact (c_cons (c_if (t_val (B := B1) (e_isi (by rfl) T.m_isinstance (by rfl) T.m_tuple (by decide +kernel) (e_var 0))) (c_one (c_ret (e_and (e_cmp opD_B0 op_gt (e_var 1) e_int) (e_one (e_callB cd_all (cr_all rfl) (by rfl) T.m_all (by decide +kernel) (a_cons (e_new (n_lc (own := [("part", 2)]) rfl rfl nd (i_seq (e_var 0)) (blkOk_by (N := N_law_plain) (sc := defScope s_law_plain) (by decide +kernel)) (fun _ _ _ _ _ => (g_name 2 nd)) (fun _ _ _ _ _ => t_none) (fun _ _ _ _ _ => (e_call IH (hr.mono (by omega)) T.d_law_plain.g T.d_law_plain.fn.kp T.d_law_plain.b takes0 (a_cons (e_var 2) (a_cons (e_bin opD_I0 op_sub (e_var 1) e_int) a_nil)))))) a_nil)))))) c_nil)
    (c_one (c_ret (e_or (e_cmp opD_isN op_isN (e_var 0) e_non) (e_or (e_isi (by rfl) T.m_isinstance (by rfl) T.m_str (by decide +kernel) (e_var 0)) (e_one (e_call (ok_law_is_int T) (hr.mono (by first | decide | omega)) T.d_law_is_int.g T.d_law_is_int.fn.kp T.d_law_is_int.b tk (a_cons (e_var 0) a_nil))))))))
/-! _law_same -/
theorem sc_law_same : FnScope ["told", "due"] ["told", "due"] (defScope s_law_same) := ⟨rfl, rfl, rfl, by decide +kernel, rfl, by decide +kernel, by decide +kernel⟩
def G_law_same : C :=
    (cRet (eAnd (eBin dEq (eV 0) (eV 1)) (eCall 2 (F_law_plain 5) (eCons (eV 0) (eCons (eC (.int 3)) eNil)))))
def F_law_same : Fn := fnBody 2 2 G_law_same
theorem ok_law_same (T : Txt K mg ad fd) : FnOk P w K mg base (L2.CX P w) 8 (ad 29) (fd 29) ["told", "due"] (spD K 2 F_law_same) := by
  refine fn_mk (G := G_law_same) (N := ["told", "due"]) (k := 7) T.d_law_same.fn sc_law_same fun cdv A outer s H E hr => ?_
  have nd := sc_law_same.nd
  have tk : Takes (cxOf (L2.CX P w) P w K mg base ["told", "due"] "_law_same" (defScope s_law_same) (ad 29) cdv A outer s H E) (fun cls d _ H' => E cls d H') := takes_of rfl rfl rfl rfl
  exact (c_one (c_ret (e_and (e_cmp opD_eq (op_eqD hr.units) (e_var 0) (e_var 1)) (e_one (e_call (ok_law_plain T 5) (hr.mono (by first | decide | omega)) T.d_law_plain.g T.d_law_plain.fn.kp T.d_law_plain.b tk (a_cons (e_var 0) (a_cons e_int a_nil)))))))
/-! _law_days_right -/
theorem sc_law_days_right : FnScope ["book", "day", "later", "heard", "known", "due", "pair"] ["book", "day", "later", "heard"] (defScope s_law_days_right) := ⟨rfl, rfl, rfl, by decide +kernel, rfl, by decide +kernel, by decide +kernel⟩
def G_law_days_right : C :=
    (cSeq (cSet 4 (eCall 2 F_law_known (eCons (eV 0) (eCons (eV 1) eNil))))
    (cSeq (cSet 5 (eFn dTuple (eCons (eLc (iSeq (eV 4)) [6] (tName 6) (eBin dLe (eBin dAt (eBin dAt (eV 6) (eC (.int 1))) (eC (.int 0))) (eV 3)) (eV 6)) eNil)))
    (cSeq (cIf (eNot (eCall 2 F_law_same (eCons (eCall 2 F_as_entered (eCons (eFn dTuple (eCons (eV 0) eNil)) (eCons (eV 1) eNil))) (eCons (eV 4) eNil)))) (cRet (eC (.bl false))) cNil)
    (cSeq (cIf (eNot (eCall 2 F_law_same (eCons (eCall 3 F_as_told (eCons (eFn dTuple (eCons (eV 0) eNil)) (eCons (eV 1) (eCons (eV 3) eNil)))) (eCons (eV 5) eNil)))) (cRet (eC (.bl false))) cNil)
    (cRet (eCall 2 F_law_same (eCons (eCall 3 F_corrected (eCons (eFn dTuple (eCons (eV 0) eNil)) (eCons (eV 1) (eCons (eV 2) eNil)))) (eCons (eCall 3 F_law_corrected (eCons (eV 0) (eCons (eV 1) (eCons (eV 2) eNil)))) eNil))))))))
def F_law_days_right : Fn := fnBody 4 7 G_law_days_right
theorem ok_law_days_right (T : Txt K mg ad fd) : FnOk P w K mg base (L2.CX P w) 9 (ad 30) (fd 30) ["book", "day", "later", "heard"] (spD K 4 F_law_days_right) := by
  refine fn_mk (G := G_law_days_right) (N := ["book", "day", "later", "heard", "known", "due", "pair"]) (k := 8) T.d_law_days_right.fn sc_law_days_right fun cdv A outer s H E hr => ?_
  have nd := sc_law_days_right.nd
  have tk : Takes (cxOf (L2.CX P w) P w K mg base ["book", "day", "later", "heard", "known", "due", "pair"] "_law_days_right" (defScope s_law_days_right) (ad 30) cdv A outer s H E) (fun cls d _ H' => E cls d H') := takes_of rfl rfl rfl rfl
  exact (c_cons (c_set 4 nd (e_call (ok_law_known T) (hr.mono (by first | decide | omega)) T.d_law_known.g T.d_law_known.fn.kp T.d_law_known.b tk (a_cons (e_var 0) (a_cons (e_var 1) a_nil))))
    (c_cons (c_set 5 nd (e_callTy cd_tuple call_tuple_of (by rfl) T.m_tuple (by decide +kernel) (a_cons (e_new (n_lc (own := [("pair", 6)]) rfl rfl nd (i_seq (e_var 4)) (blkOk_by (N := N_law_days_right) (sc := defScope s_law_days_right) (by decide +kernel)) (fun _ _ _ _ _ => (g_name 6 nd)) (fun _ _ _ _ _ => (t_one (t_cmp (B := B1) opD_B0 op_le (e_ix opD_at (ix_at (hu_of hr)) (e_ix opD_at (ix_at (hu_of hr)) (e_var 6) e_int) e_int) (e_var 3)))) (fun _ _ _ _ _ => (e_var 6)))) a_nil)))
    (c_cons (c_if (t_not (t_val (B := B1) (e_call (ok_law_same T) (hr.mono (by first | decide | omega)) T.d_law_same.g T.d_law_same.fn.kp T.d_law_same.b tk (a_cons (e_call (ok_as_entered T) (hr.mono (by first | decide | omega)) T.d_as_entered.g T.d_as_entered.fn.kp T.d_as_entered.b tk (a_cons (e_callTy cd_tuple call_tuple_of (by rfl) T.m_tuple (by decide +kernel) (a_cons (e_var 0) a_nil)) (a_cons (e_var 1) a_nil))) (a_cons (e_var 4) a_nil))))) (c_one (c_ret e_bl)) c_nil)
    (c_cons (c_if (t_not (t_val (B := B1) (e_call (ok_law_same T) (hr.mono (by first | decide | omega)) T.d_law_same.g T.d_law_same.fn.kp T.d_law_same.b tk (a_cons (e_call (ok_as_told T) (hr.mono (by first | decide | omega)) T.d_as_told.g T.d_as_told.fn.kp T.d_as_told.b tk (a_cons (e_callTy cd_tuple call_tuple_of (by rfl) T.m_tuple (by decide +kernel) (a_cons (e_var 0) a_nil)) (a_cons (e_var 1) (a_cons (e_var 3) a_nil)))) (a_cons (e_var 5) a_nil))))) (c_one (c_ret e_bl)) c_nil)
    (c_one (c_ret (e_call (ok_law_same T) (hr.mono (by first | decide | omega)) T.d_law_same.g T.d_law_same.fn.kp T.d_law_same.b tk (a_cons (e_call (ok_corrected T) (hr.mono (by first | decide | omega)) T.d_corrected.g T.d_corrected.fn.kp T.d_corrected.b tk (a_cons (e_callTy cd_tuple call_tuple_of (by rfl) T.m_tuple (by decide +kernel) (a_cons (e_var 0) a_nil)) (a_cons (e_var 1) (a_cons (e_var 2) a_nil)))) (a_cons (e_call (ok_law_corrected T) (hr.mono (by first | decide | omega)) T.d_law_corrected.g T.d_law_corrected.fn.kp T.d_law_corrected.b tk (a_cons (e_var 0) (a_cons (e_var 1) (a_cons (e_var 2) a_nil)))) a_nil)))))))))
/-! _law_histories_right -/
theorem sc_law_histories_right : FnScope ["book", "numbers", "spare", "number"] ["book"] (defScope s_law_histories_right) := ⟨rfl, rfl, rfl, by decide +kernel, rfl, by decide +kernel, by decide +kernel⟩
def G_law_histories_right : C :=
    (cSeq (cSet 1 (eCall 1 F_law_numbers (eCons (eV 0) eNil)))
    (cSeq (cSet 2 (eLc (iRng1 (eC (.int 100))) [3] (tName 3) (eBin dNotIn (eV 3) (eV 1)) (eV 3)))
    (cSeq (cFor (iSeq (eBin dAdd (eBin dAdd (eV 1) (eSl dSl (eV 2) pNo (pE (eC (.int 1))))) (eSl dSl (eV 2) (pE (eUn dNeg (eC (.int 1)))) pNo))) (tName 3)
    (cIf (eNot (eCall 2 F_law_same (eCons (eCall 2 F_history (eCons (eFn dTuple (eCons (eV 0) eNil)) (eCons (eV 3) eNil))) (eCons (eCall 2 F_law_history (eCons (eV 0) (eCons (eV 3) eNil))) eNil)))) (cRet (eC (.bl false))) cNil))
    (cRet (eC (.bl true))))))
def F_law_histories_right : Fn := fnBody 1 4 G_law_histories_right
theorem ok_law_histories_right (T : Txt K mg ad fd) : FnOk P w K mg base (L2.CX P w) 9 (ad 31) (fd 31) ["book"] (spD K 1 F_law_histories_right) := by
  refine fn_mk (G := G_law_histories_right) (N := ["book", "numbers", "spare", "number"]) (k := 8) T.d_law_histories_right.fn sc_law_histories_right fun cdv A outer s H E hr => ?_
  have nd := sc_law_histories_right.nd
  have tk : Takes (cxOf (L2.CX P w) P w K mg base ["book", "numbers", "spare", "number"] "_law_histories_right" (defScope s_law_histories_right) (ad 31) cdv A outer s H E) (fun cls d _ H' => E cls d H') := takes_of rfl rfl rfl rfl
  have ps : PassesOwn (model P w) (cxOf (L2.CX P w) P w K mg base ["book", "numbers", "spare", "number"] "_law_histories_right" (defScope s_law_histories_right) (ad 31) cdv A outer s H E).A (cxOf (L2.CX P w) P w K mg base ["book", "numbers", "spare", "number"] "_law_histories_right" (defScope s_law_histories_right) (ad 31) cdv A outer s H E).env (cxOf (L2.CX P w) P w K mg base ["book", "numbers", "spare", "number"] "_law_histories_right" (defScope s_law_histories_right) (ad 31) cdv A outer s H E).xe := passes_of rfl
  exact (c_cons (c_set 1 nd (e_call (ok_law_numbers T) (hr.mono (by first | decide | omega)) T.d_law_numbers.g T.d_law_numbers.fn.kp T.d_law_numbers.b tk (a_cons (e_var 0) a_nil)))
    (c_cons (c_setLc 2 (own := [("number", 3)]) rfl rfl nd (i_rng1 (by rfl) T.m_range e_int) (blkOk_by (N := N_law_histories_right) (sc := defScope s_law_histories_right) (by decide +kernel)) (fun _ _ _ _ _ => (g_name 3 nd)) (fun _ _ _ _ _ => (t_one (t_cmp (B := B1) opD_notIn (opR_notIn (hu_of hr)) (e_var 3) (e_var 1)))) (fun _ _ _ _ _ => (e_var 3)))
    (c_cons (c_for ps rfl (i_seq (e_bin opD_add opR_add (e_bin opD_add opR_add (e_var 1) (e_sl sd_any sl_any (e_var 2) p_no (p_e (B := B1) e_int))) (e_sl sd_any sl_any (e_var 2) (p_e (B := B1) (e_un unD_neg un_neg e_int)) p_no))) (g_name 3 nd)
    (c_one (c_if (t_not (t_val (B := B1) (e_call (ok_law_same T) (hr.mono (by first | decide | omega)) T.d_law_same.g T.d_law_same.fn.kp T.d_law_same.b tk (a_cons (e_call (ok_history T) (hr.mono (by first | decide | omega)) T.d_history.g T.d_history.fn.kp T.d_history.b tk (a_cons (e_callTy cd_tuple call_tuple_of (by rfl) T.m_tuple (by decide +kernel) (a_cons (e_var 0) a_nil)) (a_cons (e_var 3) a_nil))) (a_cons (e_call (ok_law_history T) (hr.mono (by first | decide | omega)) T.d_law_history.g T.d_law_history.fn.kp T.d_law_history.b tk (a_cons (e_var 0) (a_cons (e_var 3) a_nil))) a_nil))))) (c_one (c_ret e_bl)) c_nil)))
    (c_one (c_ret e_bl)))))
/-! law -/
theorem sc_law : FnScope ["script", "d", "names", "pool", "many", "book", "longer", "until", "ahead", "entry", "days", "turn", "day", "later", "heard", "rows"] ["script"] (defScope s_law) := ⟨rfl, rfl, rfl, by decide +kernel, rfl, by decide +kernel, by decide +kernel⟩
def G_law : C :=
    (cSeq (cSet 2 (eCall 2 F_law_names (eCons (eV 1) (eCons (eBin dAdd (eC (.int 1)) (eCall 2 F_law_draw (eCons (eV 1) (eCons (eC (.int 3)) eNil)))) eNil))))
    (cSeq (cSet 3 (eCall 1 F_law_pool (eCons (eV 1) eNil)))
    (cSeq (cSet 4 (eIf (eCall 2 F_law_rare (eCons (eV 1) (eCons (eC (.int 9)) eNil))) (eBin dAdd (eC (.int 38)) (eCall 2 F_law_draw (eCons (eV 1) (eCons (eC (.int 3)) eNil)))) (eCall 2 F_law_draw (eCons (eV 1) (eCons (eC (.int 10)) eNil)))))
    (cSeq (cSet 5 (eCall 4 F_law_book (eCons (eV 1) (eCons (eV 2) (eCons (eV 3) (eCons (eV 4) eNil))))))
    (cSeq (cSet 6 (eIf (eBin dLt (eV 4) (eC (.int 40))) (eCall 4 F_law_longer (eCons (eV 1) (eCons (eV 2) (eCons (eV 3) (eCons (eV 5) eNil))))) (eV 5)))
    (cSeq (cSet 7 (eCall 2 F_law_draw (eCons (eV 1) (eCons (eC (.int 12)) eNil))))
    (cSeq (cSet 8 (eLc (iSeq (eV 5)) [9] (tName 9) (eBin dLe (eBin dAt (eV 9) (eC (.int 0))) (eV 7)) (eV 9)))
    (cSeq (cSet 10 (eFn dLst (eCons (eUn dNeg (eC (.int 1))) (eCons (eC (.int 0)) (eCons (eV 7) (eCons (eC (.int 999)) (eCons (eC (.int 1000)) (eCons (eBin dSub (eCall 2 F_law_draw (eCons (eV 1) (eCons (eC (.int 3000)) eNil))) (eC (.int 1000))) eNil))))))))
    (cSeq (cFor (iSeq (eV 6)) (tName 9)
    (cSet 10 (eBin dAdd (eV 10) (eFn dLst (eCons (eBin dSub (eBin dAt (eV 9) (eC (.int 0))) (eC (.int 1))) (eCons (eBin dAt (eV 9) (eC (.int 0))) (eCons (eBin dAdd (eBin dAt (eV 9) (eC (.int 0))) (eC (.int 1))) eNil)))))))
    (cSeq (cFor (iRng1 (eC (.int 4))) (tName 11)
    (cSeq (cSet 12 (eCall 2 F_law_pick (eCons (eV 1) (eCons (eV 10) eNil))))
    (cSeq (cSet 13 (eCall 2 F_law_pick (eCons (eV 1) (eCons (eV 10) eNil))))
    (cSeq (cSet 14 (eCall 2 F_law_pick (eCons (eV 1) (eCons (eV 10) eNil))))
    (cFor (iSeq (eFn dLst (eCons (eV 5) (eCons (eV 6) (eCons (eV 8) (eCons (eV 5) eNil)))))) (tName 15)
    (cIf (eNot (eCall 4 F_law_days_right (eCons (eV 15) (eCons (eV 12) (eCons (eV 13) (eCons (eV 14) eNil)))))) (cRet (eC (.bl false))) cNil))))))
    (cRet (eAnd (eCall 1 F_law_histories_right (eCons (eV 5) eNil)) (eAnd (eCall 1 F_law_histories_right (eCons (eV 6) eNil)) (eCall 1 F_law_histories_right (eCons (eV 8) eNil)))))))))))))))
/-- what is left to be shown: the law runs through -/
def LawRuns : Prop := ∀ ns : List Int, ns.length ≤ 63 → ∃ ρ' st', G_law ((List.replicate 16 Sl.no).set 1 (.v .dst)) (DS.begin ns) = some (.rt (.bl true), ρ', st')
theorem ok_law (LR : LawRuns) (T : Txt K mg ad fd) : FnOk P w K mg base (L2.CX P w) 10 (ad 32) (fd 32) ["script"] (spLaw K) := by
  refine T.d_law.fn.okX sc_law (fun vs H Q E h => ?_) (fun cdv A outer s H vs Q E hr h => ?_)
  · obtain ⟨a, ns, rfl, _⟩ := h; rfl
  · obtain ⟨a, ns, rfl, hS, hl, k⟩ := h
    have nd := sc_law.nd
    have tk : Takes (cxOf (L2.CX P w) P w K mg base ["script", "d", "names", "pool", "many", "book", "longer", "until", "ahead", "entry", "days", "turn", "day", "later", "heard", "rows"] "law" (defScope s_law) (ad 32) cdv A outer s H E) (fun cls d _ H' => E cls d H') := takes_of rfl rfl rfl rfl
    have ps : PassesOwn (model P w) (cxOf (L2.CX P w) P w K mg base ["script", "d", "names", "pool", "many", "book", "longer", "until", "ahead", "entry", "days", "turn", "day", "later", "heard", "rows"] "law" (defScope s_law) (ad 32) cdv A outer s H E).A (cxOf (L2.CX P w) P w K mg base ["script", "d", "names", "pool", "many", "book", "longer", "until", "ahead", "entry", "days", "turn", "day", "later", "heard", "rows"] "law" (defScope s_law) (ad 32) cdv A outer s H E).env (cxOf (L2.CX P w) P w K mg base ["script", "d", "names", "pool", "many", "book", "longer", "until", "ahead", "entry", "days", "turn", "day", "later", "heard", "rows"] "law" (defScope s_law) (ad 32) cdv A outer s H E).xe := passes_of rfl
    have rest : PSs (cxOf (L2.CX P w) P w K mg base ["script", "d", "names", "pool", "many", "book", "longer", "until", "ahead", "entry", "days", "turn", "day", "later", "heard", "rows"] "law" (defScope s_law) (ad 32) cdv A outer s H E) ((defBody s_law).drop 1) (liftS K (fun cls d _ H' => E cls d H') G_law) :=
    (c_cons (c_set 2 nd (e_call (ok_law_names T) (hr.mono (by first | decide | omega)) T.d_law_names.g T.d_law_names.fn.kp T.d_law_names.b tk (a_cons (e_var 1) (a_cons (e_bin opD_add opR_add e_int (e_call (ok_law_draw T) (hr.mono (by first | decide | omega)) T.d_law_draw.g T.d_law_draw.fn.kp T.d_law_draw.b tk (a_cons (e_var 1) (a_cons e_int a_nil)))) a_nil))))
    (c_cons (c_set 3 nd (e_call (ok_law_pool T) (hr.mono (by first | decide | omega)) T.d_law_pool.g T.d_law_pool.fn.kp T.d_law_pool.b tk (a_cons (e_var 1) a_nil)))
    (c_cons (c_set 4 nd (e_if (t_val (B := B1) (e_call (ok_law_rare T) (hr.mono (by first | decide | omega)) T.d_law_rare.g T.d_law_rare.fn.kp T.d_law_rare.b tk (a_cons (e_var 1) (a_cons e_int a_nil)))) (e_bin opD_add opR_add e_int (e_call (ok_law_draw T) (hr.mono (by first | decide | omega)) T.d_law_draw.g T.d_law_draw.fn.kp T.d_law_draw.b tk (a_cons (e_var 1) (a_cons e_int a_nil)))) (e_call (ok_law_draw T) (hr.mono (by first | decide | omega)) T.d_law_draw.g T.d_law_draw.fn.kp T.d_law_draw.b tk (a_cons (e_var 1) (a_cons e_int a_nil)))))
    (c_cons (c_set 5 nd (e_call (ok_law_book T) (hr.mono (by first | decide | omega)) T.d_law_book.g T.d_law_book.fn.kp T.d_law_book.b tk (a_cons (e_var 1) (a_cons (e_var 2) (a_cons (e_var 3) (a_cons (e_var 4) a_nil))))))
    (c_cons (c_set 6 nd (e_if (t_cmp (B := B1) opD_B0 op_lt (e_var 4) e_int) (e_call (ok_law_longer T) (hr.mono (by first | decide | omega)) T.d_law_longer.g T.d_law_longer.fn.kp T.d_law_longer.b tk (a_cons (e_var 1) (a_cons (e_var 2) (a_cons (e_var 3) (a_cons (e_var 5) a_nil))))) (e_var 5)))
    (c_cons (c_set 7 nd (e_call (ok_law_draw T) (hr.mono (by first | decide | omega)) T.d_law_draw.g T.d_law_draw.fn.kp T.d_law_draw.b tk (a_cons (e_var 1) (a_cons e_int a_nil))))
    (c_cons (c_setLc 8 (own := [("entry", 9)]) rfl rfl nd (i_seq (e_var 5)) (blkOk_by (N := N_law) (sc := defScope s_law) (by decide +kernel)) (fun _ _ _ _ _ => (g_name 9 nd)) (fun _ _ _ _ _ => (t_one (t_cmp (B := B1) opD_B0 op_le (e_ix opD_at (ix_at (hu_of hr)) (e_var 9) e_int) (e_var 7)))) (fun _ _ _ _ _ => (e_var 9)))
    (c_cons (c_set 10 nd (e_new (n_lst (a_cons (e_un unD_neg un_neg e_int) (a_cons e_int (a_cons (e_var 7) (a_cons e_int (a_cons e_int (a_cons (e_bin opD_I0 op_sub (e_call (ok_law_draw T) (hr.mono (by first | decide | omega)) T.d_law_draw.g T.d_law_draw.fn.kp T.d_law_draw.b tk (a_cons (e_var 1) (a_cons e_int a_nil))) e_int) a_nil)))))))))
    (c_cons (c_for ps rfl (i_seq (e_var 6)) (g_name 9 nd)
    (c_one (c_set 10 nd (e_bin opD_add opR_add (e_var 10) (e_new (n_lst (a_cons (e_bin opD_I0 op_sub (e_ix opD_at (ix_at (hu_of hr)) (e_var 9) e_int) e_int) (a_cons (e_ix opD_at (ix_at (hu_of hr)) (e_var 9) e_int) (a_cons (e_bin opD_add opR_add (e_ix opD_at (ix_at (hu_of hr)) (e_var 9) e_int) e_int) a_nil)))))))))
    (c_cons (c_for ps rfl (i_rng1 (by rfl) T.m_range e_int) (g_name 11 nd)
    (c_cons (c_set 12 nd (e_call (ok_law_pick T) (hr.mono (by first | decide | omega)) T.d_law_pick.g T.d_law_pick.fn.kp T.d_law_pick.b tk (a_cons (e_var 1) (a_cons (e_var 10) a_nil))))
    (c_cons (c_set 13 nd (e_call (ok_law_pick T) (hr.mono (by first | decide | omega)) T.d_law_pick.g T.d_law_pick.fn.kp T.d_law_pick.b tk (a_cons (e_var 1) (a_cons (e_var 10) a_nil))))
    (c_cons (c_set 14 nd (e_call (ok_law_pick T) (hr.mono (by first | decide | omega)) T.d_law_pick.g T.d_law_pick.fn.kp T.d_law_pick.b tk (a_cons (e_var 1) (a_cons (e_var 10) a_nil))))
    (c_one (c_for ps rfl (i_seq (e_new (n_lst (a_cons (e_var 5) (a_cons (e_var 6) (a_cons (e_var 8) (a_cons (e_var 5) a_nil))))))) (g_name 15 nd)
    (c_one (c_if (t_not (t_val (B := B1) (e_call (ok_law_days_right T) (hr.mono (by first | decide | omega)) T.d_law_days_right.g T.d_law_days_right.fn.kp T.d_law_days_right.b tk (a_cons (e_var 15) (a_cons (e_var 12) (a_cons (e_var 13) (a_cons (e_var 14) a_nil))))))) (c_one (c_ret e_bl)) c_nil))))))))
    (c_one (c_ret (e_and (e_call (ok_law_histories_right T) (hr.mono (by first | decide | omega)) T.d_law_histories_right.g T.d_law_histories_right.fn.kp T.d_law_histories_right.b tk (a_cons (e_var 5) a_nil)) (e_and (e_call (ok_law_histories_right T) (hr.mono (by first | decide | omega)) T.d_law_histories_right.g T.d_law_histories_right.fn.kp T.d_law_histories_right.b tk (a_cons (e_var 6) a_nil)) (e_one (e_call (ok_law_histories_right T) (hr.mono (by first | decide | omega)) T.d_law_histories_right.g T.d_law_histories_right.fn.kp T.d_law_histories_right.b tk (a_cons (e_var 8) a_nil)))))))))))))))))
    obtain ⟨ρ', st', e⟩ := LR ns hl
    refine ⟨_, pss_cons (ps_set (i := 1) nd rfl (.inl rfl) (pe_callS (ok_law_begin T) (hr.mono (by decide)) rfl T.d_law_begin.g T.d_law_begin.fn.kp T.d_law_begin.b (fun σ => passAt tk σ) (pa_cons (pv 0) pa_nil))) rest, ?_⟩
    exact ⟨_, rfl, a, ns, rfl, hS, hl, fun H' p c hc h1 h2 => law_rest (i := 1) rfl rfl hc h1 h2 e k⟩
end
end LW


set_option Elab.async false
set_option linter.all false
set_option maxRecDepth 100000
namespace LW
open PySem PySem.Spec L2 FL
set_option autoImplicit false
theorem pick_runs {ds : List D} {st : DS} {P : D → DS → Prop} (h0 : 0 < ds.length) (h1 : ds.length < 1073741824) (k : ∀ x ∈ ds, ∀ st', P x st') : Fo F_law_pick [.dst, .lst ds] st P := by
  unfold F_law_pick
  (refine Fo_body.mpr ⟨rfl, ?_⟩; simp only [List.map_cons, List.map_nil, List.cons_append, List.nil_append, Nat.reduceSub, List.reduceReplicate])
  unfold G_law_pick
  (first | with_reducible refine Co_seq.mpr ?_ | with_reducible refine Co_nil.mpr ?_ | with_reducible refine Co_brk.mpr ?_ | with_reducible refine Co_cont.mpr ?_ | with_reducible refine Co_retN.mpr ?_ | with_reducible refine Co_set' ?_ | with_reducible refine Co_own' ?_ | with_reducible refine Co_ret' ?_ | with_reducible refine Co_expr' ?_ | with_reducible refine Co_if' ?_ | with_reducible refine Co_frz' ?_ | with_reducible refine Co_app' ?_ | with_reducible refine Co_put' ?_ | with_reducible refine Co_aug' ?_ | with_reducible refine Co_asg' ?_)
  try simp only [Eo_C, Eo_V, Eo_B, Eo_bin, Eo_un, Eo_and, Eo_or, Eo_not, Eo_if, Eo_free, As_nil, As_cons, Eo_fn, Eo_call, As_seq, As_bor, As_rng1, Po_no, Po_E, Eo_sl, Eo_get1, dAdd_int, dSub_int, dLt_int, dLe_int, dGt_int, dGe_int, dNeg_int, dMax2_int, dMin2_int, dLen_lst, dLen_tup, dTuple_lst, dTuple_tup, dRev_lst, dAt_lst, dAt_tup, dAt_dic, dEq_int, dLst_nil, at_0, at_1, at_2, at_3, List.getElem?_cons_succ, List.getElem?_cons_zero, List.set_cons_succ, List.set_cons_zero, Option.some.injEq, Sl.v.injEq, Sl.o.injEq, D.int.injEq, D.bl.injEq, D.str.injEq, D.tup.injEq, D.lst.injEq, D.dic.injEq, reduceCtorEq, false_or, or_false, exists_eq_left', exists_eq_left, exists_eq', List.length_cons, List.length_nil, Nat.reduceAdd, true_and, and_true, decide_eq_true_eq, if_true, if_false, Bool.false_eq_true, Bool.not_true, Bool.not_false, Sq, Fb, wipeE]
  refine Fo_draw (by omega) (by omega) fun i st' hi hj => ?_
  try simp only [Eo_C, Eo_V, Eo_B, Eo_bin, Eo_un, Eo_and, Eo_or, Eo_not, Eo_if, Eo_free, As_nil, As_cons, Eo_fn, Eo_call, As_seq, As_bor, As_rng1, Po_no, Po_E, Eo_sl, Eo_get1, dAdd_int, dSub_int, dLt_int, dLe_int, dGt_int, dGe_int, dNeg_int, dMax2_int, dMin2_int, dLen_lst, dLen_tup, dTuple_lst, dTuple_tup, dRev_lst, dAt_lst, dAt_tup, dAt_dic, dEq_int, dLst_nil, at_0, at_1, at_2, at_3, List.getElem?_cons_succ, List.getElem?_cons_zero, List.set_cons_succ, List.set_cons_zero, Option.some.injEq, Sl.v.injEq, Sl.o.injEq, D.int.injEq, D.bl.injEq, D.str.injEq, D.tup.injEq, D.lst.injEq, D.dic.injEq, reduceCtorEq, false_or, or_false, exists_eq_left', exists_eq_left, exists_eq', List.length_cons, List.length_nil, Nat.reduceAdd, true_and, and_true, decide_eq_true_eq, if_true, if_false, Bool.false_eq_true, Bool.not_true, Bool.not_false, Sq, Fb, wipeE]
  obtain ⟨d, hd, hm⟩ := at_in hi hj
  exact ⟨d, hd, k d hm st'⟩
theorem rare_runs {m : Int} {st : DS} {P : D → DS → Prop} (h0 : 0 < m) (h1 : m < 1073741824) (k : ∀ b, ∀ st', P (.bl b) st') : Fo F_law_rare [.dst, .int m] st P := by
  unfold F_law_rare
  (refine Fo_body.mpr ⟨rfl, ?_⟩; simp only [List.map_cons, List.map_nil, List.cons_append, List.nil_append, Nat.reduceSub, List.reduceReplicate])
  unfold G_law_rare
  (first | with_reducible refine Co_seq.mpr ?_ | with_reducible refine Co_nil.mpr ?_ | with_reducible refine Co_brk.mpr ?_ | with_reducible refine Co_cont.mpr ?_ | with_reducible refine Co_retN.mpr ?_ | with_reducible refine Co_set' ?_ | with_reducible refine Co_own' ?_ | with_reducible refine Co_ret' ?_ | with_reducible refine Co_expr' ?_ | with_reducible refine Co_if' ?_ | with_reducible refine Co_frz' ?_ | with_reducible refine Co_app' ?_ | with_reducible refine Co_put' ?_ | with_reducible refine Co_aug' ?_ | with_reducible refine Co_asg' ?_)
  try simp only [Eo_C, Eo_V, Eo_B, Eo_bin, Eo_un, Eo_and, Eo_or, Eo_not, Eo_if, Eo_free, As_nil, As_cons, Eo_fn, Eo_call, As_seq, As_bor, As_rng1, Po_no, Po_E, Eo_sl, Eo_get1, dAdd_int, dSub_int, dLt_int, dLe_int, dGt_int, dGe_int, dNeg_int, dMax2_int, dMin2_int, dLen_lst, dLen_tup, dTuple_lst, dTuple_tup, dRev_lst, dAt_lst, dAt_tup, dAt_dic, dEq_int, dLst_nil, at_0, at_1, at_2, at_3, List.getElem?_cons_succ, List.getElem?_cons_zero, List.set_cons_succ, List.set_cons_zero, Option.some.injEq, Sl.v.injEq, Sl.o.injEq, D.int.injEq, D.bl.injEq, D.str.injEq, D.tup.injEq, D.lst.injEq, D.dic.injEq, reduceCtorEq, false_or, or_false, exists_eq_left', exists_eq_left, exists_eq', List.length_cons, List.length_nil, Nat.reduceAdd, true_and, and_true, decide_eq_true_eq, if_true, if_false, Bool.false_eq_true, Bool.not_true, Bool.not_false, Sq, Fb, wipeE]
  refine Fo_draw (by omega) (by omega) fun i st' hi hj => ?_
  have e : dDiv (.int m) (.int 2) = some (.int (m.fdiv 2)) := rfl
  simp only [e, Option.some.injEq, exists_eq_left']
  try simp only [Eo_C, Eo_V, Eo_B, Eo_bin, Eo_un, Eo_and, Eo_or, Eo_not, Eo_if, Eo_free, As_nil, As_cons, Eo_fn, Eo_call, As_seq, As_bor, As_rng1, Po_no, Po_E, Eo_sl, Eo_get1, dAdd_int, dSub_int, dLt_int, dLe_int, dGt_int, dGe_int, dNeg_int, dMax2_int, dMin2_int, dLen_lst, dLen_tup, dTuple_lst, dTuple_tup, dRev_lst, dAt_lst, dAt_tup, dAt_dic, dEq_int, dLst_nil, at_0, at_1, at_2, at_3, List.getElem?_cons_succ, List.getElem?_cons_zero, List.set_cons_succ, List.set_cons_zero, Option.some.injEq, Sl.v.injEq, Sl.o.injEq, D.int.injEq, D.bl.injEq, D.str.injEq, D.tup.injEq, D.lst.injEq, D.dic.injEq, reduceCtorEq, false_or, or_false, exists_eq_left', exists_eq_left, exists_eq', List.length_cons, List.length_nil, Nat.reduceAdd, true_and, and_true, decide_eq_true_eq, if_true, if_false, Bool.false_eq_true, Bool.not_true, Bool.not_false, Sq, Fb, wipeE]
  exact k _ _
/-! ### books -/
structure Nt where
  told : Int
  work : Str
  first : Int
  last : Int
def Nt.d (n : Nt) : D := .tup [.int n.told, .str n.work, .int n.first, .int n.last]
def nD : Option Nt → D
  | none => .non
  | some n => n.d
structure En where
  day : Int
  num : Int
  no : Option Nt
def En.d (e : En) : D := .tup [.int e.day, .int e.num, nD e.no]
def bk (es : List En) : List D := es.map En.d
theorem bk_len (es : List En) : (bk es).length = es.length := List.length_map _
theorem bk_get {es : List En} {i : Nat} {d : D} (h : (bk es)[i]? = some d) : ∃ e, es[i]? = some e ∧ d = e.d := by
  unfold bk at h
  rw [List.getElem?_map] at h
  cases e : es[i]? with
  | none => rw [e] at h; cases h
  | some z => rw [e] at h; cases h; exact ⟨z, rfl, rfl⟩
def hit (n day : Int) (e : En) : Bool := decide (e.day ≤ day) && decide (e.num = n)
def said (es : List En) (n day : Int) : Option Nt := (es.reverse.find? (hit n day)).bind En.no
theorem find_at {α : Type} {p : α → Bool} {l : List α} {i : Nat} {e : α} (h : (l.take i).find? p = none) (hi : l[i]? = some e) (hp : p e = true) : l.find? p = some e := by
  have e1 : l = l.take i ++ l.drop i := (List.take_append_drop i l).symm
  have e2 : l.drop i = e :: l.drop (i + 1) := by
    rw [List.drop_eq_getElem_cons (List.getElem?_eq_some_iff.mp hi).1, (List.getElem?_eq_some_iff.mp hi).2]
  rw [e1, List.find?_append, h, e2, List.find?_cons_of_pos hp]
  rfl
theorem find_step {α : Type} {p : α → Bool} {l : List α} {i : Nat} {e : α} (h : (l.take i).find? p = none) (hi : l[i]? = some e) (hp : p e = false) : (l.take (i + 1)).find? p = none := by
  rw [List.take_add_one, hi, List.find?_append, h]
  simp [hp]
theorem Nt_d0 (n : Nt) : dAt n.d (.int 0) = some (.int n.told) := dAt_tup _ _
theorem En_d0 (e : En) : dAt e.d (.int 0) = some (.int e.day) := dAt_tup _ _
theorem En_d1 (e : En) : dAt e.d (.int 1) = some (.int e.num) := dAt_tup _ _
theorem En_d2 (e : En) : dAt e.d (.int 2) = some (nD e.no) := dAt_tup _ _
theorem nD_isN (o : Option Nt) : dIsN (nD o) .non = some (.bl o.isNone) := by cases o <;> rfl
theorem nD_notN (o : Option Nt) : dNotN (nD o) .non = some (.bl o.isSome) := by cases o <;> rfl
theorem said_runs {es : List En} {n day : Int} {st : DS} : F_law_said [.lst (bk es), .int n, .int day] st = some (.ok (nD (said es n day)), st) := by
  refine to_Fo fun P p => ?_
  unfold F_law_said
  (refine Fo_body.mpr ⟨rfl, ?_⟩; simp only [List.map_cons, List.map_nil, List.cons_append, List.nil_append, Nat.reduceSub, List.reduceReplicate])
  unfold G_law_said
  (first | with_reducible refine Co_seq.mpr ?_ | with_reducible refine Co_nil.mpr ?_ | with_reducible refine Co_brk.mpr ?_ | with_reducible refine Co_cont.mpr ?_ | with_reducible refine Co_retN.mpr ?_ | with_reducible refine Co_set' ?_ | with_reducible refine Co_own' ?_ | with_reducible refine Co_ret' ?_ | with_reducible refine Co_expr' ?_ | with_reducible refine Co_if' ?_ | with_reducible refine Co_frz' ?_ | with_reducible refine Co_app' ?_ | with_reducible refine Co_put' ?_ | with_reducible refine Co_aug' ?_ | with_reducible refine Co_asg' ?_)
  refine Co_for' (fun i ρ st' => st' = st ∧ (∃ s, ρ = [.v (.lst (bk es)), .v (.int n), .v (.int day), s]) ∧ (es.reverse.take i).find? (hit n day) = none) ?_
  try simp only [Eo_C, Eo_V, Eo_B, Eo_bin, Eo_un, Eo_and, Eo_or, Eo_not, Eo_if, Eo_free, As_nil, As_cons, Eo_fn, Eo_call, As_seq, As_bor, As_rng1, Po_no, Po_E, Eo_sl, Eo_get1, dAdd_int, dSub_int, dLt_int, dLe_int, dGt_int, dGe_int, dNeg_int, dMax2_int, dMin2_int, dLen_lst, dLen_tup, dTuple_lst, dTuple_tup, dRev_lst, dAt_lst, dAt_tup, dAt_dic, dEq_int, dLst_nil, at_0, at_1, at_2, at_3, List.getElem?_cons_succ, List.getElem?_cons_zero, List.set_cons_succ, List.set_cons_zero, Option.some.injEq, Sl.v.injEq, Sl.o.injEq, D.int.injEq, D.bl.injEq, D.str.injEq, D.tup.injEq, D.lst.injEq, D.dic.injEq, reduceCtorEq, false_or, or_false, exists_eq_left', exists_eq_left, exists_eq', List.length_cons, List.length_nil, Nat.reduceAdd, true_and, and_true, decide_eq_true_eq, if_true, if_false, Bool.false_eq_true, Bool.not_true, Bool.not_false, Sq, Fb, wipeE]
  refine ⟨⟨⟨_, rfl⟩, rfl⟩, ?_, ?_⟩
  · rintro i d ρ st' hd ⟨rfl, ⟨s, rfl⟩, hf⟩
    have hd' : (bk es.reverse)[i]? = some d := by unfold bk at hd ⊢; rw [List.map_reverse]; exact hd
    obtain ⟨e, he, rfl⟩ := bk_get hd'
    refine ⟨_, rfl, ?_⟩
    (first | with_reducible refine Co_seq.mpr ?_ | with_reducible refine Co_nil.mpr ?_ | with_reducible refine Co_brk.mpr ?_ | with_reducible refine Co_cont.mpr ?_ | with_reducible refine Co_retN.mpr ?_ | with_reducible refine Co_set' ?_ | with_reducible refine Co_own' ?_ | with_reducible refine Co_ret' ?_ | with_reducible refine Co_expr' ?_ | with_reducible refine Co_if' ?_ | with_reducible refine Co_frz' ?_ | with_reducible refine Co_app' ?_ | with_reducible refine Co_put' ?_ | with_reducible refine Co_aug' ?_ | with_reducible refine Co_asg' ?_)
    try simp only [Eo_C, Eo_V, Eo_B, Eo_bin, Eo_un, Eo_and, Eo_or, Eo_not, Eo_if, Eo_free, As_nil, As_cons, Eo_fn, Eo_call, As_seq, As_bor, As_rng1, Po_no, Po_E, Eo_sl, Eo_get1, dAdd_int, dSub_int, dLt_int, dLe_int, dGt_int, dGe_int, dNeg_int, dMax2_int, dMin2_int, dLen_lst, dLen_tup, dTuple_lst, dTuple_tup, dRev_lst, dAt_lst, dAt_tup, dAt_dic, dEq_int, dLst_nil, at_0, at_1, at_2, at_3, List.getElem?_cons_succ, List.getElem?_cons_zero, List.set_cons_succ, List.set_cons_zero, Option.some.injEq, Sl.v.injEq, Sl.o.injEq, D.int.injEq, D.bl.injEq, D.str.injEq, D.tup.injEq, D.lst.injEq, D.dic.injEq, reduceCtorEq, false_or, or_false, exists_eq_left', exists_eq_left, exists_eq', List.length_cons, List.length_nil, Nat.reduceAdd, true_and, and_true, decide_eq_true_eq, if_true, if_false, Bool.false_eq_true, Bool.not_true, Bool.not_false, Sq, Fb, wipeE]
    try simp only [En_d0, En_d1, En_d2, nD_isN, nD_notN, Option.some.injEq, exists_eq_left', dLe_int, dEq_int, D.bl.injEq]
    refine iteD (fun h1 => ?_) (fun h1 => ?_)
    · try simp only [Eo_C, Eo_V, Eo_B, Eo_bin, Eo_un, Eo_and, Eo_or, Eo_not, Eo_if, Eo_free, As_nil, As_cons, Eo_fn, Eo_call, As_seq, As_bor, As_rng1, Po_no, Po_E, Eo_sl, Eo_get1, dAdd_int, dSub_int, dLt_int, dLe_int, dGt_int, dGe_int, dNeg_int, dMax2_int, dMin2_int, dLen_lst, dLen_tup, dTuple_lst, dTuple_tup, dRev_lst, dAt_lst, dAt_tup, dAt_dic, dEq_int, dLst_nil, at_0, at_1, at_2, at_3, List.getElem?_cons_succ, List.getElem?_cons_zero, List.set_cons_succ, List.set_cons_zero, Option.some.injEq, Sl.v.injEq, Sl.o.injEq, D.int.injEq, D.bl.injEq, D.str.injEq, D.tup.injEq, D.lst.injEq, D.dic.injEq, reduceCtorEq, false_or, or_false, exists_eq_left', exists_eq_left, exists_eq', List.length_cons, List.length_nil, Nat.reduceAdd, true_and, and_true, decide_eq_true_eq, if_true, if_false, Bool.false_eq_true, Bool.not_true, Bool.not_false, Sq, Fb, wipeE]
      try simp only [En_d0, En_d1, En_d2, nD_isN, nD_notN, Option.some.injEq, exists_eq_left', dLe_int, dEq_int, D.bl.injEq]
      refine iteD (fun h2 => ?_) (fun h2 => ?_)
      · refine Co_ret' ?_
        try simp only [Eo_C, Eo_V, Eo_B, Eo_bin, Eo_un, Eo_and, Eo_or, Eo_not, Eo_if, Eo_free, As_nil, As_cons, Eo_fn, Eo_call, As_seq, As_bor, As_rng1, Po_no, Po_E, Eo_sl, Eo_get1, dAdd_int, dSub_int, dLt_int, dLe_int, dGt_int, dGe_int, dNeg_int, dMax2_int, dMin2_int, dLen_lst, dLen_tup, dTuple_lst, dTuple_tup, dRev_lst, dAt_lst, dAt_tup, dAt_dic, dEq_int, dLst_nil, at_0, at_1, at_2, at_3, List.getElem?_cons_succ, List.getElem?_cons_zero, List.set_cons_succ, List.set_cons_zero, Option.some.injEq, Sl.v.injEq, Sl.o.injEq, D.int.injEq, D.bl.injEq, D.str.injEq, D.tup.injEq, D.lst.injEq, D.dic.injEq, reduceCtorEq, false_or, or_false, exists_eq_left', exists_eq_left, exists_eq', List.length_cons, List.length_nil, Nat.reduceAdd, true_and, and_true, decide_eq_true_eq, if_true, if_false, Bool.false_eq_true, Bool.not_true, Bool.not_false, Sq, Fb, wipeE]
        try simp only [En_d0, En_d1, En_d2, nD_isN, nD_notN, Option.some.injEq, exists_eq_left', dLe_int, dEq_int, D.bl.injEq]
        have := find_at hf he (by simp_all [hit])
        unfold said at p
        rw [this] at p
        exact p
      · refine Co_nil.mpr ⟨rfl, ⟨_, rfl⟩, find_step hf he (by simp [hit, h2])⟩
    · refine Co_nil.mpr ⟨rfl, ⟨_, rfl⟩, find_step hf he (by have h3 : ¬ e.day ≤ day := by simpa using h1
                                                            unfold hit; rw [decide_eq_false h3, Bool.false_and])⟩
  · rintro ρ st' ⟨rfl, ⟨s, rfl⟩, hf⟩
    rw [List.length_reverse, bk_len, ← List.length_reverse, List.take_length] at hf
    refine Co_ret' ?_
    try simp only [Eo_C, Eo_V, Eo_B, Eo_bin, Eo_un, Eo_and, Eo_or, Eo_not, Eo_if, Eo_free, As_nil, As_cons, Eo_fn, Eo_call, As_seq, As_bor, As_rng1, Po_no, Po_E, Eo_sl, Eo_get1, dAdd_int, dSub_int, dLt_int, dLe_int, dGt_int, dGe_int, dNeg_int, dMax2_int, dMin2_int, dLen_lst, dLen_tup, dTuple_lst, dTuple_tup, dRev_lst, dAt_lst, dAt_tup, dAt_dic, dEq_int, dLst_nil, at_0, at_1, at_2, at_3, List.getElem?_cons_succ, List.getElem?_cons_zero, List.set_cons_succ, List.set_cons_zero, Option.some.injEq, Sl.v.injEq, Sl.o.injEq, D.int.injEq, D.bl.injEq, D.str.injEq, D.tup.injEq, D.lst.injEq, D.dic.injEq, reduceCtorEq, false_or, or_false, exists_eq_left', exists_eq_left, exists_eq', List.length_cons, List.length_nil, Nat.reduceAdd, true_and, and_true, decide_eq_true_eq, if_true, if_false, Bool.false_eq_true, Bool.not_true, Bool.not_false, Sq, Fb, wipeE]
    unfold said at p
    rw [hf] at p
    exact p
theorem En_free (e : En) : e.d.free = true := by
  cases e with
  | mk a b c => cases c <;> rfl
theorem to_Eo {F : E} {ρ : FL.Env} {st : DS} {v : D} (h : ∀ P : D → DS → Prop, P v st → Eo F ρ st P) : F ρ st = some (.ok v, st) := by
  obtain ⟨v2, st2, e, p⟩ := h (fun v' st' => v' = v ∧ st' = st) ⟨rfl, rfl⟩
  rw [e, p.1, p.2]
/-- a comprehension over a book -/
theorem lc_bk {it : Es} {own : List Nat} {t : T} {tt el : E} {ρ : FL.Env} {st : DS} {P : D → DS → Prop} (es : List En) (c : En → Bool) (f : En → D)
    (hi : ∀ PA : List D → DS → Prop, PA (bk es) st → As it ρ st PA) (hl : es.length ≤ 64)
    (h : ∀ e ∈ es, ∃ ρ1, t e.d (wipeE ρ own) = some ρ1 ∧ (Eo tt ρ1 st fun x st2 => x = .bl (c e) ∧ st2 = st) ∧ (c e = true → Eo el ρ1 st fun z st2 => z = f e ∧ st2 = st))
    (p : P (.lst ((es.filter c).map f)) st) : Eo (eLc it own t tt el) ρ st P := by
  have key : ∀ (r acc : List D) (rs : List En), r = bk rs → (∀ e ∈ rs, e ∈ es) → acc.length + r.length ≤ sizeLine → lcF t tt el (wipeE ρ own) r acc st = some (acc ++ (rs.filter c).map f, st) := by
    intro r acc rs
    induction rs generalizing r acc with
    | nil => rintro rfl _ _; unfold bk lcF; simp
    | cons e rs ih =>
      rintro rfl hm hb
      have hb' : acc.length + ((bk rs).length + 1) ≤ sizeLine := hb
      obtain ⟨ρ1, t1, ⟨x, st2, e2, rfl, rfl⟩, hel⟩ := h e (hm e List.mem_cons_self)
      show lcF t tt el (wipeE ρ own) (e.d :: bk rs) acc st2 = _
      cases hc : c e with
      | true =>
        obtain ⟨z, st3, e3, rfl, rfl⟩ := hel hc
        rw [hc] at e2
        have hlt : acc.length < sizeLine := by omega
        unfold lcF
        simp only [t1, e2, e3, hlt, if_true]
        rw [ih _ _ rfl (fun d hd => hm d (List.mem_cons_of_mem _ hd)) (by rw [List.length_append, List.length_singleton]; omega)]
        rw [List.filter_cons_of_pos hc, List.map_cons, List.append_assoc]; rfl
      | false =>
        rw [hc] at e2
        unfold lcF
        simp only [t1, e2]
        rw [ih _ _ rfl (fun d hd => hm d (List.mem_cons_of_mem _ hd)) (by omega), List.filter_cons_of_neg (by rw [hc]; decide)]
  obtain ⟨ds, st1, h1, rfl, rfl⟩ := hi (fun ds st' => ds = bk es ∧ st' = st) ⟨rfl, rfl⟩
  refine ⟨_, st1, ?_, p⟩
  unfold eLc
  simp only [h1, key (bk es) [] es rfl (fun _ h => h) (by rw [bk_len]; exact Nat.le_trans (by simpa using hl) (by decide)), List.nil_append]
/-- until a day -/
def upto (es : List En) (day : Int) : List En := es.filter fun e => decide (e.day ≤ day)
theorem until_runs {es : List En} {day : Int} {st : DS} (hl : es.length ≤ 64) : F_entries_until [.tup (bk es), .int day] st = some (.ok (.tup (bk (upto es day))), st) := by
  refine to_Fo fun P p => ?_
  unfold F_entries_until
  (refine Fo_body.mpr ⟨rfl, ?_⟩; simp only [List.map_cons, List.map_nil, List.cons_append, List.nil_append, Nat.reduceSub, List.reduceReplicate])
  unfold G_entries_until
  (first | with_reducible refine Co_seq.mpr ?_ | with_reducible refine Co_nil.mpr ?_ | with_reducible refine Co_brk.mpr ?_ | with_reducible refine Co_cont.mpr ?_ | with_reducible refine Co_retN.mpr ?_ | with_reducible refine Co_set' ?_ | with_reducible refine Co_own' ?_ | with_reducible refine Co_ret' ?_ | with_reducible refine Co_expr' ?_ | with_reducible refine Co_if' ?_ | with_reducible refine Co_frz' ?_ | with_reducible refine Co_app' ?_ | with_reducible refine Co_put' ?_ | with_reducible refine Co_aug' ?_ | with_reducible refine Co_asg' ?_)
  try simp only [Eo_C, Eo_V, Eo_B, Eo_bin, Eo_un, Eo_and, Eo_or, Eo_not, Eo_if, Eo_free, As_nil, As_cons, Eo_fn, Eo_call, As_seq, As_bor, As_rng1, Po_no, Po_E, Eo_sl, Eo_get1, dAdd_int, dSub_int, dLt_int, dLe_int, dGt_int, dGe_int, dNeg_int, dMax2_int, dMin2_int, dLen_lst, dLen_tup, dTuple_lst, dTuple_tup, dRev_lst, dAt_lst, dAt_tup, dAt_dic, dEq_int, dLst_nil, at_0, at_1, at_2, at_3, List.getElem?_cons_succ, List.getElem?_cons_zero, List.set_cons_succ, List.set_cons_zero, Option.some.injEq, Sl.v.injEq, Sl.o.injEq, D.int.injEq, D.bl.injEq, D.str.injEq, D.tup.injEq, D.lst.injEq, D.dic.injEq, reduceCtorEq, false_or, or_false, exists_eq_left', exists_eq_left, exists_eq', List.length_cons, List.length_nil, Nat.reduceAdd, true_and, and_true, decide_eq_true_eq, if_true, if_false, Bool.false_eq_true, Bool.not_true, Bool.not_false, Sq, Fb, wipeE]
  refine lc_bk es (fun e => decide (e.day ≤ day)) En.d (fun PA p => by simp only [Eo_C, Eo_V, Eo_B, Eo_bin, Eo_un, Eo_and, Eo_or, Eo_not, Eo_if, Eo_free, As_nil, As_cons, Eo_fn, Eo_call, As_seq, As_bor, As_rng1, Po_no, Po_E, Eo_sl, Eo_get1, dAdd_int, dSub_int, dLt_int, dLe_int, dGt_int, dGe_int, dNeg_int, dMax2_int, dMin2_int, dLen_lst, dLen_tup, dTuple_lst, dTuple_tup, dRev_lst, dAt_lst, dAt_tup, dAt_dic, dEq_int, dLst_nil, at_0, at_1, at_2, at_3, List.getElem?_cons_succ, List.getElem?_cons_zero, List.set_cons_succ, List.set_cons_zero, Option.some.injEq, Sl.v.injEq, Sl.o.injEq, D.int.injEq, D.bl.injEq, D.str.injEq, D.tup.injEq, D.lst.injEq, D.dic.injEq, reduceCtorEq, false_or, or_false, exists_eq_left', exists_eq_left, exists_eq', List.length_cons, List.length_nil, Nat.reduceAdd, true_and, and_true, decide_eq_true_eq, if_true, if_false, Bool.false_eq_true, Bool.not_true, Bool.not_false, Sq, Fb, wipeE]; exact p) hl (fun e he => ⟨_, rfl, ?_, fun _ => ?_⟩) ?_
  · try simp only [Eo_C, Eo_V, Eo_B, Eo_bin, Eo_un, Eo_and, Eo_or, Eo_not, Eo_if, Eo_free, As_nil, As_cons, Eo_fn, Eo_call, As_seq, As_bor, As_rng1, Po_no, Po_E, Eo_sl, Eo_get1, dAdd_int, dSub_int, dLt_int, dLe_int, dGt_int, dGe_int, dNeg_int, dMax2_int, dMin2_int, dLen_lst, dLen_tup, dTuple_lst, dTuple_tup, dRev_lst, dAt_lst, dAt_tup, dAt_dic, dEq_int, dLst_nil, at_0, at_1, at_2, at_3, List.getElem?_cons_succ, List.getElem?_cons_zero, List.set_cons_succ, List.set_cons_zero, Option.some.injEq, Sl.v.injEq, Sl.o.injEq, D.int.injEq, D.bl.injEq, D.str.injEq, D.tup.injEq, D.lst.injEq, D.dic.injEq, reduceCtorEq, false_or, or_false, exists_eq_left', exists_eq_left, exists_eq', List.length_cons, List.length_nil, Nat.reduceAdd, true_and, and_true, decide_eq_true_eq, if_true, if_false, Bool.false_eq_true, Bool.not_true, Bool.not_false, Sq, Fb, wipeE]
    try simp only [En_d0, En_d1, En_d2, nD_isN, nD_notN, Option.some.injEq, exists_eq_left', dLe_int, dEq_int, D.bl.injEq]
  · try simp only [Eo_C, Eo_V, Eo_B, Eo_bin, Eo_un, Eo_and, Eo_or, Eo_not, Eo_if, Eo_free, As_nil, As_cons, Eo_fn, Eo_call, As_seq, As_bor, As_rng1, Po_no, Po_E, Eo_sl, Eo_get1, dAdd_int, dSub_int, dLt_int, dLe_int, dGt_int, dGe_int, dNeg_int, dMax2_int, dMin2_int, dLen_lst, dLen_tup, dTuple_lst, dTuple_tup, dRev_lst, dAt_lst, dAt_tup, dAt_dic, dEq_int, dLst_nil, at_0, at_1, at_2, at_3, List.getElem?_cons_succ, List.getElem?_cons_zero, List.set_cons_succ, List.set_cons_zero, Option.some.injEq, Sl.v.injEq, Sl.o.injEq, D.int.injEq, D.bl.injEq, D.str.injEq, D.tup.injEq, D.lst.injEq, D.dic.injEq, reduceCtorEq, false_or, or_false, exists_eq_left', exists_eq_left, exists_eq', List.length_cons, List.length_nil, Nat.reduceAdd, true_and, and_true, decide_eq_true_eq, if_true, if_false, Bool.false_eq_true, Bool.not_true, Bool.not_false, Sq, Fb, wipeE]
  · exact ⟨_, rfl, p⟩
/-! the dict of last words -/
def wordsD (es : List En) : List (Key × D) := es.foldl (fun kvs e => putD kvs (.inl e.num) (nD e.no)) []
theorem wordsD_snoc (es : List En) (e : En) : wordsD (es ++ [e]) = putD (wordsD es) (.inl e.num) (nD e.no) := by
  unfold wordsD; rw [List.foldl_append]; rfl
theorem putD_len (kvs : List (Key × D)) (k : Key) (v : D) : (putD kvs k v).length ≤ kvs.length + 1 := by
  unfold putD
  split
  · rw [List.length_map]; omega
  · rw [List.length_append]; exact Nat.le_refl _
theorem valD_cons (k k' : Key) (v : D) (r : List (Key × D)) : valD ((k, v) :: r) k' = if k = k' then some v else valD r k' := by
  unfold valD
  by_cases e : k = k'
  · rw [List.find?_cons_of_pos (by simpa using e), if_pos e]; rfl
  · rw [List.find?_cons_of_neg (by simpa using e), if_neg e]
theorem valD_map (k k' : Key) (v : D) : ∀ kvs : List (Key × D), (kvs.any fun kv => decide (kv.1 = k)) = true → valD (kvs.map fun kv => if kv.1 = k then (kv.1, v) else kv) k' = if k = k' then some v else valD kvs k'
  | [], h => by cases h
  | (ka, va) :: r, h => by
    rw [List.map_cons]
    by_cases e1 : ka = k
    · subst e1
      rw [if_pos rfl, valD_cons, valD_cons]
      by_cases e2 : ka = k'
      · rw [if_pos e2, if_pos e2]
      · rw [if_neg e2, if_neg e2, if_neg e2]
        by_cases h2 : (r.any fun kv => decide (kv.1 = ka)) = true
        · rw [valD_map ka k' v r h2, if_neg e2]
        · have : r.map (fun kv => if kv.1 = ka then (kv.1, v) else kv) = r := by
            conv => rhs; rw [← List.map_id r]
            refine List.map_congr_left fun x hx => ?_
            rw [if_neg fun e => h2 (List.any_eq_true.mpr ⟨x, hx, decide_eq_true e⟩)]; rfl
          rw [this]
    · have h2 : (r.any fun kv => decide (kv.1 = k)) = true := by
        rw [List.any_cons, Bool.or_eq_true] at h
        exact h.resolve_left fun z => e1 (of_decide_eq_true z)
      rw [if_neg e1, valD_cons, valD_cons, valD_map k k' v r h2]
      by_cases e2 : ka = k'
      · rw [if_pos e2, if_neg (fun e : k = k' => e1 (e2.trans e.symm)), if_pos e2]
      · rw [if_neg e2, if_neg e2]
theorem valD_app (k k' : Key) (v : D) : ∀ kvs : List (Key × D), ¬ (kvs.any fun kv => decide (kv.1 = k)) = true → valD (kvs ++ [(k, v)]) k' = if k = k' then some v else valD kvs k'
  | [], _ => by rw [List.nil_append, valD_cons]
  | (ka, va) :: r, h => by
    rw [List.any_cons, Bool.or_eq_true, not_or] at h
    rw [List.cons_append, valD_cons, valD_cons, valD_app k k' v r h.2]
    by_cases e2 : ka = k'
    · rw [if_pos e2, if_neg (fun e : k = k' => h.1 (decide_eq_true (e2.trans e.symm))), if_pos e2]
    · rw [if_neg e2, if_neg e2]
theorem valD_put (kvs : List (Key × D)) (k k' : Key) (v : D) : valD (putD kvs k v) k' = if k = k' then some v else valD kvs k' := by
  unfold putD
  split
  · rename_i h; exact valD_map k k' v kvs h
  · rename_i h; exact valD_app k k' v kvs h
theorem keys_put {kvs : List (Key × D)} {ns : List Int} (n : Int) (v : D) (h : intKeys? kvs = some ns) : intKeys? (putD kvs (.inl n) v) = some (if n ∈ ns then ns else ns ++ [n]) := by
  have hm : ∀ (kvs : List (Key × D)) (ns : List Int), intKeys? kvs = some ns → ((kvs.any fun kv => decide (kv.1 = .inl n)) = true ↔ n ∈ ns) ∧ intKeys? (kvs.map fun kv => if kv.1 = .inl n then (kv.1, v) else kv) = some ns ∧ intKeys? (kvs ++ [(.inl n, v)]) = some (ns ++ [n]) := by
    intro kvs
    induction kvs with
    | nil => intro ns h; unfold intKeys? at h; cases h; simp [intKeys?]
    | cons a r ih =>
      intro ns h
      obtain ⟨ka, va⟩ := a
      cases ka with
      | inr x => simp [intKeys?] at h
      | inl i =>
        unfold intKeys? at h
        cases hr : intKeys? r with
        | none => rw [hr] at h; cases h
        | some ms =>
          rw [hr] at h
          cases h
          obtain ⟨h1, h2, h3⟩ := ih ms hr
          refine ⟨?_, ?_, ?_⟩
          · rw [List.any_cons, Bool.or_eq_true, h1, List.mem_cons]
            have : (decide ((Sum.inl i : Key) = Sum.inl n) = true) ↔ n = i := by rw [decide_eq_true_eq, Sum.inl.injEq]; exact eq_comm
            rw [this]
          · rw [List.map_cons]
            by_cases e : (Sum.inl i : Key) = Sum.inl n
            · simp only [e, if_true]; cases e; unfold intKeys?; rw [h2]; rfl
            · simp only [e, if_false]; unfold intKeys?; rw [h2]; rfl
          · rw [List.cons_append]; unfold intKeys?; rw [h3]; rfl
  obtain ⟨h1, h2, h3⟩ := hm kvs ns h
  unfold putD
  by_cases hn : n ∈ ns
  · rw [if_pos (h1.mpr hn), if_pos hn, h2]
  · rw [if_neg (fun e => hn (h1.mp e)), if_neg hn, h3]
theorem wordsD_len (es : List En) : (wordsD es).length ≤ es.length := by
  have : ∀ (es : List En) (kvs : List (Key × D)), (es.foldl (fun kvs e => putD kvs (.inl e.num) (nD e.no)) kvs).length ≤ kvs.length + es.length := by
    intro es
    induction es with
    | nil => intro kvs; exact Nat.le_refl _
    | cons e es ih =>
      intro kvs
      rw [List.foldl_cons, List.length_cons]
      have := ih (putD kvs (.inl e.num) (nD e.no))
      have := putD_len kvs (.inl e.num) (nD e.no)
      omega
  have := this es []
  rw [List.length_nil] at this
  unfold wordsD
  omega
theorem words_runs {es : List En} {st : DS} (hl : es.length ≤ 64) : F_last_words [.tup (bk es)] st = some (.ok (.dic (wordsD es)), st) := by
  refine to_Fo fun P p => ?_
  unfold F_last_words
  (refine Fo_body.mpr ⟨rfl, ?_⟩; simp only [List.map_cons, List.map_nil, List.cons_append, List.nil_append, Nat.reduceSub, List.reduceReplicate])
  unfold G_last_words
  (first | with_reducible refine Co_seq.mpr ?_ | with_reducible refine Co_nil.mpr ?_ | with_reducible refine Co_brk.mpr ?_ | with_reducible refine Co_cont.mpr ?_ | with_reducible refine Co_retN.mpr ?_ | with_reducible refine Co_set' ?_ | with_reducible refine Co_own' ?_ | with_reducible refine Co_ret' ?_ | with_reducible refine Co_expr' ?_ | with_reducible refine Co_if' ?_ | with_reducible refine Co_frz' ?_ | with_reducible refine Co_app' ?_ | with_reducible refine Co_put' ?_ | with_reducible refine Co_aug' ?_ | with_reducible refine Co_asg' ?_)
  (first | with_reducible refine Co_seq.mpr ?_ | with_reducible refine Co_nil.mpr ?_ | with_reducible refine Co_brk.mpr ?_ | with_reducible refine Co_cont.mpr ?_ | with_reducible refine Co_retN.mpr ?_ | with_reducible refine Co_set' ?_ | with_reducible refine Co_own' ?_ | with_reducible refine Co_ret' ?_ | with_reducible refine Co_expr' ?_ | with_reducible refine Co_if' ?_ | with_reducible refine Co_frz' ?_ | with_reducible refine Co_app' ?_ | with_reducible refine Co_put' ?_ | with_reducible refine Co_aug' ?_ | with_reducible refine Co_asg' ?_)
  try simp only [Eo_C, Eo_V, Eo_B, Eo_bin, Eo_un, Eo_and, Eo_or, Eo_not, Eo_if, Eo_free, As_nil, As_cons, Eo_fn, Eo_call, As_seq, As_bor, As_rng1, Po_no, Po_E, Eo_sl, Eo_get1, dAdd_int, dSub_int, dLt_int, dLe_int, dGt_int, dGe_int, dNeg_int, dMax2_int, dMin2_int, dLen_lst, dLen_tup, dTuple_lst, dTuple_tup, dRev_lst, dAt_lst, dAt_tup, dAt_dic, dEq_int, dLst_nil, at_0, at_1, at_2, at_3, List.getElem?_cons_succ, List.getElem?_cons_zero, List.set_cons_succ, List.set_cons_zero, Option.some.injEq, Sl.v.injEq, Sl.o.injEq, D.int.injEq, D.bl.injEq, D.str.injEq, D.tup.injEq, D.lst.injEq, D.dic.injEq, reduceCtorEq, false_or, or_false, exists_eq_left', exists_eq_left, exists_eq', List.length_cons, List.length_nil, Nat.reduceAdd, true_and, and_true, decide_eq_true_eq, if_true, if_false, Bool.false_eq_true, Bool.not_true, Bool.not_false, Sq, Fb, wipeE]
  (first | with_reducible refine Co_seq.mpr ?_ | with_reducible refine Co_nil.mpr ?_ | with_reducible refine Co_brk.mpr ?_ | with_reducible refine Co_cont.mpr ?_ | with_reducible refine Co_retN.mpr ?_ | with_reducible refine Co_set' ?_ | with_reducible refine Co_own' ?_ | with_reducible refine Co_ret' ?_ | with_reducible refine Co_expr' ?_ | with_reducible refine Co_if' ?_ | with_reducible refine Co_frz' ?_ | with_reducible refine Co_app' ?_ | with_reducible refine Co_put' ?_ | with_reducible refine Co_aug' ?_ | with_reducible refine Co_asg' ?_)
  refine Co_for' (fun i ρ st' => st' = st ∧ ∃ a b c, ρ = [.v (.tup (bk es)), .o (.dic (wordsD (es.take i))), a, b, c]) ?_
  try simp only [Eo_C, Eo_V, Eo_B, Eo_bin, Eo_un, Eo_and, Eo_or, Eo_not, Eo_if, Eo_free, As_nil, As_cons, Eo_fn, Eo_call, As_seq, As_bor, As_rng1, Po_no, Po_E, Eo_sl, Eo_get1, dAdd_int, dSub_int, dLt_int, dLe_int, dGt_int, dGe_int, dNeg_int, dMax2_int, dMin2_int, dLen_lst, dLen_tup, dTuple_lst, dTuple_tup, dRev_lst, dAt_lst, dAt_tup, dAt_dic, dEq_int, dLst_nil, at_0, at_1, at_2, at_3, List.getElem?_cons_succ, List.getElem?_cons_zero, List.set_cons_succ, List.set_cons_zero, Option.some.injEq, Sl.v.injEq, Sl.o.injEq, D.int.injEq, D.bl.injEq, D.str.injEq, D.tup.injEq, D.lst.injEq, D.dic.injEq, reduceCtorEq, false_or, or_false, exists_eq_left', exists_eq_left, exists_eq', List.length_cons, List.length_nil, Nat.reduceAdd, true_and, and_true, decide_eq_true_eq, if_true, if_false, Bool.false_eq_true, Bool.not_true, Bool.not_false, Sq, Fb, wipeE]
  refine ⟨⟨_, _, _, rfl⟩, ?_, ?_⟩
  · rintro i d ρ st' hd ⟨rfl, a, b, c, rfl⟩
    obtain ⟨e, he, rfl⟩ := bk_get hd
    refine ⟨_, rfl, ?_⟩
    (first | with_reducible refine Co_seq.mpr ?_ | with_reducible refine Co_nil.mpr ?_ | with_reducible refine Co_brk.mpr ?_ | with_reducible refine Co_cont.mpr ?_ | with_reducible refine Co_retN.mpr ?_ | with_reducible refine Co_set' ?_ | with_reducible refine Co_own' ?_ | with_reducible refine Co_ret' ?_ | with_reducible refine Co_expr' ?_ | with_reducible refine Co_if' ?_ | with_reducible refine Co_frz' ?_ | with_reducible refine Co_app' ?_ | with_reducible refine Co_put' ?_ | with_reducible refine Co_aug' ?_ | with_reducible refine Co_asg' ?_)
    try simp only [Eo_C, Eo_V, Eo_B, Eo_bin, Eo_un, Eo_and, Eo_or, Eo_not, Eo_if, Eo_free, As_nil, As_cons, Eo_fn, Eo_call, As_seq, As_bor, As_rng1, Po_no, Po_E, Eo_sl, Eo_get1, dAdd_int, dSub_int, dLt_int, dLe_int, dGt_int, dGe_int, dNeg_int, dMax2_int, dMin2_int, dLen_lst, dLen_tup, dTuple_lst, dTuple_tup, dRev_lst, dAt_lst, dAt_tup, dAt_dic, dEq_int, dLst_nil, at_0, at_1, at_2, at_3, List.getElem?_cons_succ, List.getElem?_cons_zero, List.set_cons_succ, List.set_cons_zero, Option.some.injEq, Sl.v.injEq, Sl.o.injEq, D.int.injEq, D.bl.injEq, D.str.injEq, D.tup.injEq, D.lst.injEq, D.dic.injEq, reduceCtorEq, false_or, or_false, exists_eq_left', exists_eq_left, exists_eq', List.length_cons, List.length_nil, Nat.reduceAdd, true_and, and_true, decide_eq_true_eq, if_true, if_false, Bool.false_eq_true, Bool.not_true, Bool.not_false, Sq, Fb, wipeE]
    have e2 : wordsD (es.take (i + 1)) = putD (wordsD (es.take i)) (.inl e.num) (nD e.no) := by
      rw [List.take_add_one, he]; exact wordsD_snoc _ _
    rw [e2]
    exact ⟨_, rfl, Nat.lt_of_le_of_lt (wordsD_len _) (Nat.lt_of_le_of_lt (by rw [List.length_take]; omega : (es.take i).length ≤ 64) (by decide)), _, _, _, rfl⟩
  · rintro ρ st' ⟨rfl, a, b, c, rfl⟩
    rw [bk_len, List.take_length]
    (first | with_reducible refine Co_seq.mpr ?_ | with_reducible refine Co_nil.mpr ?_ | with_reducible refine Co_brk.mpr ?_ | with_reducible refine Co_cont.mpr ?_ | with_reducible refine Co_retN.mpr ?_ | with_reducible refine Co_set' ?_ | with_reducible refine Co_own' ?_ | with_reducible refine Co_ret' ?_ | with_reducible refine Co_expr' ?_ | with_reducible refine Co_if' ?_ | with_reducible refine Co_frz' ?_ | with_reducible refine Co_app' ?_ | with_reducible refine Co_put' ?_ | with_reducible refine Co_aug' ?_ | with_reducible refine Co_asg' ?_)
    try simp only [Eo_C, Eo_V, Eo_B, Eo_bin, Eo_un, Eo_and, Eo_or, Eo_not, Eo_if, Eo_free, As_nil, As_cons, Eo_fn, Eo_call, As_seq, As_bor, As_rng1, Po_no, Po_E, Eo_sl, Eo_get1, dAdd_int, dSub_int, dLt_int, dLe_int, dGt_int, dGe_int, dNeg_int, dMax2_int, dMin2_int, dLen_lst, dLen_tup, dTuple_lst, dTuple_tup, dRev_lst, dAt_lst, dAt_tup, dAt_dic, dEq_int, dLst_nil, at_0, at_1, at_2, at_3, List.getElem?_cons_succ, List.getElem?_cons_zero, List.set_cons_succ, List.set_cons_zero, Option.some.injEq, Sl.v.injEq, Sl.o.injEq, D.int.injEq, D.bl.injEq, D.str.injEq, D.tup.injEq, D.lst.injEq, D.dic.injEq, reduceCtorEq, false_or, or_false, exists_eq_left', exists_eq_left, exists_eq', List.length_cons, List.length_nil, Nat.reduceAdd, true_and, and_true, decide_eq_true_eq, if_true, if_false, Bool.false_eq_true, Bool.not_true, Bool.not_false, Sq, Fb, wipeE]
    exact p
theorem upto_len (es : List En) (day : Int) : (upto es day).length ≤ es.length := List.length_filter_le _ _
theorem known_runs {es : List En} {day : Int} {st : DS} (hl : es.length ≤ 64) : F_known_on [.tup (bk es), .int day] st = some (.ok (.dic (wordsD (upto es day))), st) := by
  refine to_Fo fun P p => ?_
  unfold F_known_on
  (refine Fo_body.mpr ⟨rfl, ?_⟩; simp only [List.map_cons, List.map_nil, List.cons_append, List.nil_append, Nat.reduceSub, List.reduceReplicate])
  unfold G_known_on
  (first | with_reducible refine Co_seq.mpr ?_ | with_reducible refine Co_nil.mpr ?_ | with_reducible refine Co_brk.mpr ?_ | with_reducible refine Co_cont.mpr ?_ | with_reducible refine Co_retN.mpr ?_ | with_reducible refine Co_set' ?_ | with_reducible refine Co_own' ?_ | with_reducible refine Co_ret' ?_ | with_reducible refine Co_expr' ?_ | with_reducible refine Co_if' ?_ | with_reducible refine Co_frz' ?_ | with_reducible refine Co_app' ?_ | with_reducible refine Co_put' ?_ | with_reducible refine Co_aug' ?_ | with_reducible refine Co_asg' ?_)
  try simp only [Eo_C, Eo_V, Eo_B, Eo_bin, Eo_un, Eo_and, Eo_or, Eo_not, Eo_if, Eo_free, As_nil, As_cons, Eo_fn, Eo_call, As_seq, As_bor, As_rng1, Po_no, Po_E, Eo_sl, Eo_get1, dAdd_int, dSub_int, dLt_int, dLe_int, dGt_int, dGe_int, dNeg_int, dMax2_int, dMin2_int, dLen_lst, dLen_tup, dTuple_lst, dTuple_tup, dRev_lst, dAt_lst, dAt_tup, dAt_dic, dEq_int, dLst_nil, at_0, at_1, at_2, at_3, List.getElem?_cons_succ, List.getElem?_cons_zero, List.set_cons_succ, List.set_cons_zero, Option.some.injEq, Sl.v.injEq, Sl.o.injEq, D.int.injEq, D.bl.injEq, D.str.injEq, D.tup.injEq, D.lst.injEq, D.dic.injEq, reduceCtorEq, false_or, or_false, exists_eq_left', exists_eq_left, exists_eq', List.length_cons, List.length_nil, Nat.reduceAdd, true_and, and_true, decide_eq_true_eq, if_true, if_false, Bool.false_eq_true, Bool.not_true, Bool.not_false, Sq, Fb, wipeE]
  rw [Fo_of (until_runs hl)]
  try simp only [Eo_C, Eo_V, Eo_B, Eo_bin, Eo_un, Eo_and, Eo_or, Eo_not, Eo_if, Eo_free, As_nil, As_cons, Eo_fn, Eo_call, As_seq, As_bor, As_rng1, Po_no, Po_E, Eo_sl, Eo_get1, dAdd_int, dSub_int, dLt_int, dLe_int, dGt_int, dGe_int, dNeg_int, dMax2_int, dMin2_int, dLen_lst, dLen_tup, dTuple_lst, dTuple_tup, dRev_lst, dAt_lst, dAt_tup, dAt_dic, dEq_int, dLst_nil, at_0, at_1, at_2, at_3, List.getElem?_cons_succ, List.getElem?_cons_zero, List.set_cons_succ, List.set_cons_zero, Option.some.injEq, Sl.v.injEq, Sl.o.injEq, D.int.injEq, D.bl.injEq, D.str.injEq, D.tup.injEq, D.lst.injEq, D.dic.injEq, reduceCtorEq, false_or, or_false, exists_eq_left', exists_eq_left, exists_eq', List.length_cons, List.length_nil, Nat.reduceAdd, true_and, and_true, decide_eq_true_eq, if_true, if_false, Bool.false_eq_true, Bool.not_true, Bool.not_false, Sq, Fb, wipeE]
  rw [Fo_of (words_runs (Nat.le_trans (upto_len _ _) hl))]
  exact p
/-- the last notice under a number -/
def lastNo (es : List En) (n : Int) : Option En := es.reverse.find? fun e => decide (e.num = n)
theorem rev_ind {α : Type} {p : List α → Prop} (h0 : p []) (h1 : ∀ l a, p l → p (l ++ [a])) (l : List α) : p l := by
  have : ∀ l : List α, p l.reverse := by
    intro l
    induction l with
    | nil => exact h0
    | cons a l ih => rw [List.reverse_cons]; exact h1 _ _ ih
  have := this l.reverse
  rwa [List.reverse_reverse] at this
theorem words_val (n : Int) (es : List En) : valD (wordsD es) (.inl n) = (lastNo es n).map fun e => nD e.no := by
  refine rev_ind (p := fun es => valD (wordsD es) (.inl n) = (lastNo es n).map fun e => nD e.no) rfl (fun l a ih => ?_) es
  rw [wordsD_snoc, valD_put, ih]
  unfold lastNo
  rw [List.reverse_append, List.reverse_singleton, List.singleton_append]
  by_cases h : a.num = n
  · rw [if_pos (by rw [h]), List.find?_cons_of_pos (by simpa using h)]; rfl
  · rw [if_neg (fun e => h (Sum.inl.inj e)), List.find?_cons_of_neg (by simpa using h)]
theorem words_keys (es : List En) : ∃ ns, intKeys? (wordsD es) = some ns ∧ ns.Nodup ∧ (∀ n, n ∈ ns ↔ ∃ e ∈ es, e.num = n) ∧ ns.length ≤ es.length := by
  refine rev_ind (p := fun es => ∃ ns, intKeys? (wordsD es) = some ns ∧ ns.Nodup ∧ (∀ n, n ∈ ns ↔ ∃ e ∈ es, e.num = n) ∧ ns.length ≤ es.length) ⟨[], rfl, List.nodup_nil, fun n => by simp, Nat.le_refl _⟩ (fun l a ih => ?_) es
  obtain ⟨ns, h1, h2, h3, h4⟩ := ih
  rw [wordsD_snoc]
  refine ⟨_, keys_put _ _ h1, ?_, ?_, ?_⟩
  · by_cases h : a.num ∈ ns
    · rw [if_pos h]; exact h2
    · rw [if_neg h]
      exact (List.perm_append_comm.nodup_iff).mpr (List.nodup_cons.mpr ⟨h, h2⟩)
  · intro n
    by_cases h : a.num ∈ ns
    · rw [if_pos h, h3 n]
      constructor
      · rintro ⟨e, he, r⟩; exact ⟨e, List.mem_append_left _ he, r⟩
      · rintro ⟨e, he, r⟩
        rcases List.mem_append.mp he with he | he
        · exact ⟨e, he, r⟩
        · rw [List.mem_singleton] at he; subst he; rw [r] at h; exact (h3 n).mp h
    · rw [if_neg h, List.mem_append, h3 n, List.mem_singleton]
      constructor
      · rintro (⟨e, he, r⟩ | r)
        · exact ⟨e, List.mem_append_left _ he, r⟩
        · exact ⟨a, List.mem_append_right _ (List.mem_singleton.mpr rfl), r.symm⟩
      · rintro ⟨e, he, r⟩
        rcases List.mem_append.mp he with he | he
        · exact .inl ⟨e, he, r⟩
        · rw [List.mem_singleton] at he; subst he; exact .inr r.symm
  · rw [List.length_append, List.length_singleton]
    split
    · omega
    · rw [List.length_append, List.length_singleton]; omega
theorem last_said (es : List En) (n day : Int) : (lastNo (upto es day) n).bind En.no = said es n day := by
  unfold lastNo upto said hit
  rw [← List.filter_reverse, List.find?_filter]
  congr 2
  funext a
  rw [Bool.decide_and, Bool.decide_eq_true, Bool.decide_eq_true]
theorem words_said (es : List En) (n day : Int) : (valD (wordsD (upto es day)) (.inl n)).getD .non = nD (said es n day) := by
  rw [words_val, ← last_said]
  cases lastNo (upto es day) n <;> rfl
def nums (es : List En) : List Int := setI (es.map En.num)
theorem sort_nums {es : List En} (hl : es.length < 64) : dSortSetI (.lst ((es.filter fun _ => true).map fun e => .int e.num)) = some (.lst ((nums es).map D.int)) := by
  have e1 : (es.filter fun _ => true) = es := List.filter_eq_self.mpr fun _ _ => rfl
  have e2 : (es.map fun e => D.int e.num) = (es.map En.num).map D.int := by rw [List.map_map]; rfl
  rw [e1, e2]
  have hl' : (es.map En.num).length < 64 := by rw [List.length_map]; exact hl
  unfold dSortSetI
  simp only [ints_map, hl', if_true]
  rfl
theorem numbers_runs {es : List En} {st : DS} (hl : es.length < 64) : F_law_numbers [.lst (bk es)] st = some (.ok (.lst ((nums es).map D.int)), st) := by
  refine to_Fo fun P p => ?_
  unfold F_law_numbers
  (refine Fo_body.mpr ⟨rfl, ?_⟩; simp only [List.map_cons, List.map_nil, List.cons_append, List.nil_append, Nat.reduceSub, List.reduceReplicate])
  unfold G_law_numbers
  (first | with_reducible refine Co_seq.mpr ?_ | with_reducible refine Co_nil.mpr ?_ | with_reducible refine Co_brk.mpr ?_ | with_reducible refine Co_cont.mpr ?_ | with_reducible refine Co_retN.mpr ?_ | with_reducible refine Co_set' ?_ | with_reducible refine Co_own' ?_ | with_reducible refine Co_ret' ?_ | with_reducible refine Co_expr' ?_ | with_reducible refine Co_if' ?_ | with_reducible refine Co_frz' ?_ | with_reducible refine Co_app' ?_ | with_reducible refine Co_put' ?_ | with_reducible refine Co_aug' ?_ | with_reducible refine Co_asg' ?_)
  try simp only [Eo_C, Eo_V, Eo_B, Eo_bin, Eo_un, Eo_and, Eo_or, Eo_not, Eo_if, Eo_free, As_nil, As_cons, Eo_fn, Eo_call, As_seq, As_bor, As_rng1, Po_no, Po_E, Eo_sl, Eo_get1, dAdd_int, dSub_int, dLt_int, dLe_int, dGt_int, dGe_int, dNeg_int, dMax2_int, dMin2_int, dLen_lst, dLen_tup, dTuple_lst, dTuple_tup, dRev_lst, dAt_lst, dAt_tup, dAt_dic, dEq_int, dLst_nil, at_0, at_1, at_2, at_3, List.getElem?_cons_succ, List.getElem?_cons_zero, List.set_cons_succ, List.set_cons_zero, Option.some.injEq, Sl.v.injEq, Sl.o.injEq, D.int.injEq, D.bl.injEq, D.str.injEq, D.tup.injEq, D.lst.injEq, D.dic.injEq, reduceCtorEq, false_or, or_false, exists_eq_left', exists_eq_left, exists_eq', List.length_cons, List.length_nil, Nat.reduceAdd, true_and, and_true, decide_eq_true_eq, if_true, if_false, Bool.false_eq_true, Bool.not_true, Bool.not_false, Sq, Fb, wipeE]
  refine lc_bk es (fun e => true) (fun e => .int e.num) (fun PA p => by simp only [Eo_C, Eo_V, Eo_B, Eo_bin, Eo_un, Eo_and, Eo_or, Eo_not, Eo_if, Eo_free, As_nil, As_cons, Eo_fn, Eo_call, As_seq, As_bor, As_rng1, Po_no, Po_E, Eo_sl, Eo_get1, dAdd_int, dSub_int, dLt_int, dLe_int, dGt_int, dGe_int, dNeg_int, dMax2_int, dMin2_int, dLen_lst, dLen_tup, dTuple_lst, dTuple_tup, dRev_lst, dAt_lst, dAt_tup, dAt_dic, dEq_int, dLst_nil, at_0, at_1, at_2, at_3, List.getElem?_cons_succ, List.getElem?_cons_zero, List.set_cons_succ, List.set_cons_zero, Option.some.injEq, Sl.v.injEq, Sl.o.injEq, D.int.injEq, D.bl.injEq, D.str.injEq, D.tup.injEq, D.lst.injEq, D.dic.injEq, reduceCtorEq, false_or, or_false, exists_eq_left', exists_eq_left, exists_eq', List.length_cons, List.length_nil, Nat.reduceAdd, true_and, and_true, decide_eq_true_eq, if_true, if_false, Bool.false_eq_true, Bool.not_true, Bool.not_false, Sq, Fb, wipeE]; exact p) (Nat.le_of_lt hl) (fun e he => ⟨_, rfl, ?_, fun _ => ?_⟩) ?_
  · try simp only [Eo_C, Eo_V, Eo_B, Eo_bin, Eo_un, Eo_and, Eo_or, Eo_not, Eo_if, Eo_free, As_nil, As_cons, Eo_fn, Eo_call, As_seq, As_bor, As_rng1, Po_no, Po_E, Eo_sl, Eo_get1, dAdd_int, dSub_int, dLt_int, dLe_int, dGt_int, dGe_int, dNeg_int, dMax2_int, dMin2_int, dLen_lst, dLen_tup, dTuple_lst, dTuple_tup, dRev_lst, dAt_lst, dAt_tup, dAt_dic, dEq_int, dLst_nil, at_0, at_1, at_2, at_3, List.getElem?_cons_succ, List.getElem?_cons_zero, List.set_cons_succ, List.set_cons_zero, Option.some.injEq, Sl.v.injEq, Sl.o.injEq, D.int.injEq, D.bl.injEq, D.str.injEq, D.tup.injEq, D.lst.injEq, D.dic.injEq, reduceCtorEq, false_or, or_false, exists_eq_left', exists_eq_left, exists_eq', List.length_cons, List.length_nil, Nat.reduceAdd, true_and, and_true, decide_eq_true_eq, if_true, if_false, Bool.false_eq_true, Bool.not_true, Bool.not_false, Sq, Fb, wipeE]
  · try simp only [Eo_C, Eo_V, Eo_B, Eo_bin, Eo_un, Eo_and, Eo_or, Eo_not, Eo_if, Eo_free, As_nil, As_cons, Eo_fn, Eo_call, As_seq, As_bor, As_rng1, Po_no, Po_E, Eo_sl, Eo_get1, dAdd_int, dSub_int, dLt_int, dLe_int, dGt_int, dGe_int, dNeg_int, dMax2_int, dMin2_int, dLen_lst, dLen_tup, dTuple_lst, dTuple_tup, dRev_lst, dAt_lst, dAt_tup, dAt_dic, dEq_int, dLst_nil, at_0, at_1, at_2, at_3, List.getElem?_cons_succ, List.getElem?_cons_zero, List.set_cons_succ, List.set_cons_zero, Option.some.injEq, Sl.v.injEq, Sl.o.injEq, D.int.injEq, D.bl.injEq, D.str.injEq, D.tup.injEq, D.lst.injEq, D.dic.injEq, reduceCtorEq, false_or, or_false, exists_eq_left', exists_eq_left, exists_eq', List.length_cons, List.length_nil, Nat.reduceAdd, true_and, and_true, decide_eq_true_eq, if_true, if_false, Bool.false_eq_true, Bool.not_true, Bool.not_false, Sq, Fb, wipeE]
    try simp only [En_d0, En_d1, En_d2, nD_isN, nD_notN, Option.some.injEq, exists_eq_left', dLe_int, dEq_int, D.bl.injEq]
  · exact ⟨_, sort_nums hl, p⟩
theorem numbers_of_runs {es : List En} {st : DS} (hl : es.length < 64) : F_numbers_of [.tup (bk es)] st = some (.ok (.tup ((nums es).map D.int)), st) := by
  refine to_Fo fun P p => ?_
  unfold F_numbers_of
  (refine Fo_body.mpr ⟨rfl, ?_⟩; simp only [List.map_cons, List.map_nil, List.cons_append, List.nil_append, Nat.reduceSub, List.reduceReplicate])
  unfold G_numbers_of
  (first | with_reducible refine Co_seq.mpr ?_ | with_reducible refine Co_nil.mpr ?_ | with_reducible refine Co_brk.mpr ?_ | with_reducible refine Co_cont.mpr ?_ | with_reducible refine Co_retN.mpr ?_ | with_reducible refine Co_set' ?_ | with_reducible refine Co_own' ?_ | with_reducible refine Co_ret' ?_ | with_reducible refine Co_expr' ?_ | with_reducible refine Co_if' ?_ | with_reducible refine Co_frz' ?_ | with_reducible refine Co_app' ?_ | with_reducible refine Co_put' ?_ | with_reducible refine Co_aug' ?_ | with_reducible refine Co_asg' ?_)
  try simp only [Eo_C, Eo_V, Eo_B, Eo_bin, Eo_un, Eo_and, Eo_or, Eo_not, Eo_if, Eo_free, As_nil, As_cons, Eo_fn, Eo_call, As_seq, As_bor, As_rng1, Po_no, Po_E, Eo_sl, Eo_get1, dAdd_int, dSub_int, dLt_int, dLe_int, dGt_int, dGe_int, dNeg_int, dMax2_int, dMin2_int, dLen_lst, dLen_tup, dTuple_lst, dTuple_tup, dRev_lst, dAt_lst, dAt_tup, dAt_dic, dEq_int, dLst_nil, at_0, at_1, at_2, at_3, List.getElem?_cons_succ, List.getElem?_cons_zero, List.set_cons_succ, List.set_cons_zero, Option.some.injEq, Sl.v.injEq, Sl.o.injEq, D.int.injEq, D.bl.injEq, D.str.injEq, D.tup.injEq, D.lst.injEq, D.dic.injEq, reduceCtorEq, false_or, or_false, exists_eq_left', exists_eq_left, exists_eq', List.length_cons, List.length_nil, Nat.reduceAdd, true_and, and_true, decide_eq_true_eq, if_true, if_false, Bool.false_eq_true, Bool.not_true, Bool.not_false, Sq, Fb, wipeE]
  refine lc_bk es (fun e => true) (fun e => .int e.num) (fun PA p => by simp only [Eo_C, Eo_V, Eo_B, Eo_bin, Eo_un, Eo_and, Eo_or, Eo_not, Eo_if, Eo_free, As_nil, As_cons, Eo_fn, Eo_call, As_seq, As_bor, As_rng1, Po_no, Po_E, Eo_sl, Eo_get1, dAdd_int, dSub_int, dLt_int, dLe_int, dGt_int, dGe_int, dNeg_int, dMax2_int, dMin2_int, dLen_lst, dLen_tup, dTuple_lst, dTuple_tup, dRev_lst, dAt_lst, dAt_tup, dAt_dic, dEq_int, dLst_nil, at_0, at_1, at_2, at_3, List.getElem?_cons_succ, List.getElem?_cons_zero, List.set_cons_succ, List.set_cons_zero, Option.some.injEq, Sl.v.injEq, Sl.o.injEq, D.int.injEq, D.bl.injEq, D.str.injEq, D.tup.injEq, D.lst.injEq, D.dic.injEq, reduceCtorEq, false_or, or_false, exists_eq_left', exists_eq_left, exists_eq', List.length_cons, List.length_nil, Nat.reduceAdd, true_and, and_true, decide_eq_true_eq, if_true, if_false, Bool.false_eq_true, Bool.not_true, Bool.not_false, Sq, Fb, wipeE]; exact p) (Nat.le_of_lt hl) (fun e he => ⟨_, rfl, ?_, fun _ => ?_⟩) ?_
  · try simp only [Eo_C, Eo_V, Eo_B, Eo_bin, Eo_un, Eo_and, Eo_or, Eo_not, Eo_if, Eo_free, As_nil, As_cons, Eo_fn, Eo_call, As_seq, As_bor, As_rng1, Po_no, Po_E, Eo_sl, Eo_get1, dAdd_int, dSub_int, dLt_int, dLe_int, dGt_int, dGe_int, dNeg_int, dMax2_int, dMin2_int, dLen_lst, dLen_tup, dTuple_lst, dTuple_tup, dRev_lst, dAt_lst, dAt_tup, dAt_dic, dEq_int, dLst_nil, at_0, at_1, at_2, at_3, List.getElem?_cons_succ, List.getElem?_cons_zero, List.set_cons_succ, List.set_cons_zero, Option.some.injEq, Sl.v.injEq, Sl.o.injEq, D.int.injEq, D.bl.injEq, D.str.injEq, D.tup.injEq, D.lst.injEq, D.dic.injEq, reduceCtorEq, false_or, or_false, exists_eq_left', exists_eq_left, exists_eq', List.length_cons, List.length_nil, Nat.reduceAdd, true_and, and_true, decide_eq_true_eq, if_true, if_false, Bool.false_eq_true, Bool.not_true, Bool.not_false, Sq, Fb, wipeE]
  · try simp only [Eo_C, Eo_V, Eo_B, Eo_bin, Eo_un, Eo_and, Eo_or, Eo_not, Eo_if, Eo_free, As_nil, As_cons, Eo_fn, Eo_call, As_seq, As_bor, As_rng1, Po_no, Po_E, Eo_sl, Eo_get1, dAdd_int, dSub_int, dLt_int, dLe_int, dGt_int, dGe_int, dNeg_int, dMax2_int, dMin2_int, dLen_lst, dLen_tup, dTuple_lst, dTuple_tup, dRev_lst, dAt_lst, dAt_tup, dAt_dic, dEq_int, dLst_nil, at_0, at_1, at_2, at_3, List.getElem?_cons_succ, List.getElem?_cons_zero, List.set_cons_succ, List.set_cons_zero, Option.some.injEq, Sl.v.injEq, Sl.o.injEq, D.int.injEq, D.bl.injEq, D.str.injEq, D.tup.injEq, D.lst.injEq, D.dic.injEq, reduceCtorEq, false_or, or_false, exists_eq_left', exists_eq_left, exists_eq', List.length_cons, List.length_nil, Nat.reduceAdd, true_and, and_true, decide_eq_true_eq, if_true, if_false, Bool.false_eq_true, Bool.not_true, Bool.not_false, Sq, Fb, wipeE]
    try simp only [En_d0, En_d1, En_d2, nD_isN, nD_notN, Option.some.injEq, exists_eq_left', dLe_int, dEq_int, D.bl.injEq]
  · refine ⟨_, sort_nums hl, ?_⟩
    try simp only [Eo_C, Eo_V, Eo_B, Eo_bin, Eo_un, Eo_and, Eo_or, Eo_not, Eo_if, Eo_free, As_nil, As_cons, Eo_fn, Eo_call, As_seq, As_bor, As_rng1, Po_no, Po_E, Eo_sl, Eo_get1, dAdd_int, dSub_int, dLt_int, dLe_int, dGt_int, dGe_int, dNeg_int, dMax2_int, dMin2_int, dLen_lst, dLen_tup, dTuple_lst, dTuple_tup, dRev_lst, dAt_lst, dAt_tup, dAt_dic, dEq_int, dLst_nil, at_0, at_1, at_2, at_3, List.getElem?_cons_succ, List.getElem?_cons_zero, List.set_cons_succ, List.set_cons_zero, Option.some.injEq, Sl.v.injEq, Sl.o.injEq, D.int.injEq, D.bl.injEq, D.str.injEq, D.tup.injEq, D.lst.injEq, D.dic.injEq, reduceCtorEq, false_or, or_false, exists_eq_left', exists_eq_left, exists_eq', List.length_cons, List.length_nil, Nat.reduceAdd, true_and, and_true, decide_eq_true_eq, if_true, if_false, Bool.false_eq_true, Bool.not_true, Bool.not_false, Sq, Fb, wipeE]
    exact p
theorem nums_len (es : List En) : (nums es).length ≤ es.length := by
  unfold nums setI
  rw [(sortI_perm _).length_eq]
  have : ∀ l : List Int, (uniqI l).length ≤ l.length := by
    intro l
    induction l with
    | nil => exact Nat.le_refl _
    | cons a l ih =>
      unfold uniqI
      split
      · rw [List.length_cons]; omega
      · rw [List.length_cons, List.length_cons]; omega
  have := this (es.map En.num)
  rwa [List.length_map] at this
/-- a comprehension over ints -/
theorem lc_int {it : Es} {own : List Nat} {t : T} {tt el : E} {ρ : FL.Env} {st : DS} {P : D → DS → Prop} (ns : List Int) (c : Int → Bool) (f : Int → D)
    (hi : ∀ PA : List D → DS → Prop, PA (ns.map D.int) st → As it ρ st PA) (hl : ns.length ≤ 1000)
    (h : ∀ e ∈ ns, ∃ ρ1, t (.int e) (wipeE ρ own) = some ρ1 ∧ (Eo tt ρ1 st fun x st2 => x = .bl (c e) ∧ st2 = st) ∧ (c e = true → Eo el ρ1 st fun z st2 => z = f e ∧ st2 = st))
    (p : P (.lst ((ns.filter c).map f)) st) : Eo (eLc it own t tt el) ρ st P := by
  have key : ∀ (rs : List Int) (acc : List D), (∀ e ∈ rs, e ∈ ns) → acc.length + rs.length ≤ sizeLine → lcF t tt el (wipeE ρ own) (rs.map D.int) acc st = some (acc ++ (rs.filter c).map f, st) := by
    intro rs
    induction rs with
    | nil => intro acc _ _; unfold lcF; simp
    | cons e rs ih =>
      intro acc hm hb
      have hb' : acc.length + (rs.length + 1) ≤ sizeLine := hb
      obtain ⟨ρ1, t1, ⟨x, st2, e2, rfl, rfl⟩, hel⟩ := h e (hm e List.mem_cons_self)
      rw [List.map_cons]
      cases hc : c e with
      | true =>
        obtain ⟨z, st3, e3, rfl, rfl⟩ := hel hc
        rw [hc] at e2
        have hlt : acc.length < sizeLine := by omega
        unfold lcF
        simp only [t1, e2, e3, hlt, if_true]
        rw [ih _ (fun d hd => hm d (List.mem_cons_of_mem _ hd)) (by rw [List.length_append, List.length_singleton]; omega)]
        rw [List.filter_cons_of_pos hc, List.map_cons, List.append_assoc]; rfl
      | false =>
        rw [hc] at e2
        unfold lcF
        simp only [t1, e2]
        rw [ih _ (fun d hd => hm d (List.mem_cons_of_mem _ hd)) (by omega), List.filter_cons_of_neg (by rw [hc]; decide)]
  obtain ⟨ds, st1, h1, rfl, rfl⟩ := hi (fun ds st' => ds = ns.map D.int ∧ st' = st) ⟨rfl, rfl⟩
  refine ⟨_, st1, ?_, p⟩
  unfold eLc
  simp only [h1, key ns [] (fun _ h => h) (by simpa using Nat.le_trans hl (by decide)), List.nil_append]
def pairD (es : List En) (day n : Int) : D := .tup [.int n, nD (said es n day)]
def has (es : List En) (day n : Int) : Bool := (said es n day).isSome
def known (es : List En) (day : Int) : List D := ((nums es).filter (has es day)).map (pairD es day)
theorem said_mem {es : List En} {n day : Int} (h : has es day n = true) : ∃ e ∈ upto es day, e.num = n := by
  unfold has at h
  rw [← last_said] at h
  cases e : lastNo (upto es day) n with
  | none => rw [e] at h; cases h
  | some x =>
    unfold lastNo at e
    exact ⟨x, List.mem_reverse.mp (List.mem_of_find?_eq_some e), by simpa using List.find?_some e⟩
theorem entered_runs {es : List En} {day : Int} {st : DS} (hl : es.length < 64) : F_as_entered [.tup (bk es), .int day] st = some (.ok (.tup (known es day)), st) := by
  refine to_Fo fun P p => ?_
  obtain ⟨ns, k1, k2, k3, k4⟩ := words_keys (upto es day)
  have k5 : ns.length < 64 := Nat.lt_of_le_of_lt k4 (Nat.lt_of_le_of_lt (upto_len _ _) hl)
  have k6 : (sortI ns).length < 64 := by rw [(sortI_perm ns).length_eq]; exact k5
  unfold F_as_entered
  (refine Fo_body.mpr ⟨rfl, ?_⟩; simp only [List.map_cons, List.map_nil, List.cons_append, List.nil_append, Nat.reduceSub, List.reduceReplicate])
  unfold G_as_entered
  (first | with_reducible refine Co_seq.mpr ?_ | with_reducible refine Co_nil.mpr ?_ | with_reducible refine Co_brk.mpr ?_ | with_reducible refine Co_cont.mpr ?_ | with_reducible refine Co_retN.mpr ?_ | with_reducible refine Co_set' ?_ | with_reducible refine Co_own' ?_ | with_reducible refine Co_ret' ?_ | with_reducible refine Co_expr' ?_ | with_reducible refine Co_if' ?_ | with_reducible refine Co_frz' ?_ | with_reducible refine Co_app' ?_ | with_reducible refine Co_put' ?_ | with_reducible refine Co_aug' ?_ | with_reducible refine Co_asg' ?_)
  (first | with_reducible refine Co_seq.mpr ?_ | with_reducible refine Co_nil.mpr ?_ | with_reducible refine Co_brk.mpr ?_ | with_reducible refine Co_cont.mpr ?_ | with_reducible refine Co_retN.mpr ?_ | with_reducible refine Co_set' ?_ | with_reducible refine Co_own' ?_ | with_reducible refine Co_ret' ?_ | with_reducible refine Co_expr' ?_ | with_reducible refine Co_if' ?_ | with_reducible refine Co_frz' ?_ | with_reducible refine Co_app' ?_ | with_reducible refine Co_put' ?_ | with_reducible refine Co_aug' ?_ | with_reducible refine Co_asg' ?_)
  try simp only [Eo_C, Eo_V, Eo_B, Eo_bin, Eo_un, Eo_and, Eo_or, Eo_not, Eo_if, Eo_free, As_nil, As_cons, Eo_fn, Eo_call, As_seq, As_bor, As_rng1, Po_no, Po_E, Eo_sl, Eo_get1, dAdd_int, dSub_int, dLt_int, dLe_int, dGt_int, dGe_int, dNeg_int, dMax2_int, dMin2_int, dLen_lst, dLen_tup, dTuple_lst, dTuple_tup, dRev_lst, dAt_lst, dAt_tup, dAt_dic, dEq_int, dLst_nil, at_0, at_1, at_2, at_3, List.getElem?_cons_succ, List.getElem?_cons_zero, List.set_cons_succ, List.set_cons_zero, Option.some.injEq, Sl.v.injEq, Sl.o.injEq, D.int.injEq, D.bl.injEq, D.str.injEq, D.tup.injEq, D.lst.injEq, D.dic.injEq, reduceCtorEq, false_or, or_false, exists_eq_left', exists_eq_left, exists_eq', List.length_cons, List.length_nil, Nat.reduceAdd, true_and, and_true, decide_eq_true_eq, if_true, if_false, Bool.false_eq_true, Bool.not_true, Bool.not_false, Sq, Fb, wipeE]
  rw [Fo_of (known_runs (Nat.le_of_lt hl))]
  try simp only [Eo_C, Eo_V, Eo_B, Eo_bin, Eo_un, Eo_and, Eo_or, Eo_not, Eo_if, Eo_free, As_nil, As_cons, Eo_fn, Eo_call, As_seq, As_bor, As_rng1, Po_no, Po_E, Eo_sl, Eo_get1, dAdd_int, dSub_int, dLt_int, dLe_int, dGt_int, dGe_int, dNeg_int, dMax2_int, dMin2_int, dLen_lst, dLen_tup, dTuple_lst, dTuple_tup, dRev_lst, dAt_lst, dAt_tup, dAt_dic, dEq_int, dLst_nil, at_0, at_1, at_2, at_3, List.getElem?_cons_succ, List.getElem?_cons_zero, List.set_cons_succ, List.set_cons_zero, Option.some.injEq, Sl.v.injEq, Sl.o.injEq, D.int.injEq, D.bl.injEq, D.str.injEq, D.tup.injEq, D.lst.injEq, D.dic.injEq, reduceCtorEq, false_or, or_false, exists_eq_left', exists_eq_left, exists_eq', List.length_cons, List.length_nil, Nat.reduceAdd, true_and, and_true, decide_eq_true_eq, if_true, if_false, Bool.false_eq_true, Bool.not_true, Bool.not_false, Sq, Fb, wipeE]
  (first | with_reducible refine Co_seq.mpr ?_ | with_reducible refine Co_nil.mpr ?_ | with_reducible refine Co_brk.mpr ?_ | with_reducible refine Co_cont.mpr ?_ | with_reducible refine Co_retN.mpr ?_ | with_reducible refine Co_set' ?_ | with_reducible refine Co_own' ?_ | with_reducible refine Co_ret' ?_ | with_reducible refine Co_expr' ?_ | with_reducible refine Co_if' ?_ | with_reducible refine Co_frz' ?_ | with_reducible refine Co_app' ?_ | with_reducible refine Co_put' ?_ | with_reducible refine Co_aug' ?_ | with_reducible refine Co_asg' ?_)
  try simp only [Eo_C, Eo_V, Eo_B, Eo_bin, Eo_un, Eo_and, Eo_or, Eo_not, Eo_if, Eo_free, As_nil, As_cons, Eo_fn, Eo_call, As_seq, As_bor, As_rng1, Po_no, Po_E, Eo_sl, Eo_get1, dAdd_int, dSub_int, dLt_int, dLe_int, dGt_int, dGe_int, dNeg_int, dMax2_int, dMin2_int, dLen_lst, dLen_tup, dTuple_lst, dTuple_tup, dRev_lst, dAt_lst, dAt_tup, dAt_dic, dEq_int, dLst_nil, at_0, at_1, at_2, at_3, List.getElem?_cons_succ, List.getElem?_cons_zero, List.set_cons_succ, List.set_cons_zero, Option.some.injEq, Sl.v.injEq, Sl.o.injEq, D.int.injEq, D.bl.injEq, D.str.injEq, D.tup.injEq, D.lst.injEq, D.dic.injEq, reduceCtorEq, false_or, or_false, exists_eq_left', exists_eq_left, exists_eq', List.length_cons, List.length_nil, Nat.reduceAdd, true_and, and_true, decide_eq_true_eq, if_true, if_false, Bool.false_eq_true, Bool.not_true, Bool.not_false, Sq, Fb, wipeE]
  have kv : ∀ n ∈ sortI ns, valD (wordsD (upto es day)) (.inl n) = some (nD (said es n day)) := by
    intro n hn
    obtain ⟨e, he, hen⟩ := (k3 n).mp ((sortI_perm ns).mem_iff.mp hn)
    rw [words_val, ← last_said]
    cases h : lastNo (upto es day) n with
    | some x => rfl
    | none =>
      unfold lastNo at h
      have := List.find?_eq_none.mp h e (List.mem_reverse.mpr he)
      exact absurd (decide_eq_true hen) this
  refine lc_int (sortI ns) (has es day) (pairD es day) (fun PA p => ?_) (by omega) (fun n hn => ⟨_, rfl, ?_, fun _ => ?_⟩) ?_
  · try simp only [Eo_C, Eo_V, Eo_B, Eo_bin, Eo_un, Eo_and, Eo_or, Eo_not, Eo_if, Eo_free, As_nil, As_cons, Eo_fn, Eo_call, As_seq, As_bor, As_rng1, Po_no, Po_E, Eo_sl, Eo_get1, dAdd_int, dSub_int, dLt_int, dLe_int, dGt_int, dGe_int, dNeg_int, dMax2_int, dMin2_int, dLen_lst, dLen_tup, dTuple_lst, dTuple_tup, dRev_lst, dAt_lst, dAt_tup, dAt_dic, dEq_int, dLst_nil, at_0, at_1, at_2, at_3, List.getElem?_cons_succ, List.getElem?_cons_zero, List.set_cons_succ, List.set_cons_zero, Option.some.injEq, Sl.v.injEq, Sl.o.injEq, D.int.injEq, D.bl.injEq, D.str.injEq, D.tup.injEq, D.lst.injEq, D.dic.injEq, reduceCtorEq, false_or, or_false, exists_eq_left', exists_eq_left, exists_eq', List.length_cons, List.length_nil, Nat.reduceAdd, true_and, and_true, decide_eq_true_eq, if_true, if_false, Bool.false_eq_true, Bool.not_true, Bool.not_false, Sq, Fb, wipeE]
    refine ⟨.lst ((sortI ns).map D.int), ?_, _, .inl rfl, p⟩
    unfold dSortDI
    simp only [k1, k5, if_true]
  · try simp only [Eo_C, Eo_V, Eo_B, Eo_bin, Eo_un, Eo_and, Eo_or, Eo_not, Eo_if, Eo_free, As_nil, As_cons, Eo_fn, Eo_call, As_seq, As_bor, As_rng1, Po_no, Po_E, Eo_sl, Eo_get1, dAdd_int, dSub_int, dLt_int, dLe_int, dGt_int, dGe_int, dNeg_int, dMax2_int, dMin2_int, dLen_lst, dLen_tup, dTuple_lst, dTuple_tup, dRev_lst, dAt_lst, dAt_tup, dAt_dic, dEq_int, dLst_nil, at_0, at_1, at_2, at_3, List.getElem?_cons_succ, List.getElem?_cons_zero, List.set_cons_succ, List.set_cons_zero, Option.some.injEq, Sl.v.injEq, Sl.o.injEq, D.int.injEq, D.bl.injEq, D.str.injEq, D.tup.injEq, D.lst.injEq, D.dic.injEq, reduceCtorEq, false_or, or_false, exists_eq_left', exists_eq_left, exists_eq', List.length_cons, List.length_nil, Nat.reduceAdd, true_and, and_true, decide_eq_true_eq, if_true, if_false, Bool.false_eq_true, Bool.not_true, Bool.not_false, Sq, Fb, wipeE]
    rw [kv n hn]
    try simp only [Eo_C, Eo_V, Eo_B, Eo_bin, Eo_un, Eo_and, Eo_or, Eo_not, Eo_if, Eo_free, As_nil, As_cons, Eo_fn, Eo_call, As_seq, As_bor, As_rng1, Po_no, Po_E, Eo_sl, Eo_get1, dAdd_int, dSub_int, dLt_int, dLe_int, dGt_int, dGe_int, dNeg_int, dMax2_int, dMin2_int, dLen_lst, dLen_tup, dTuple_lst, dTuple_tup, dRev_lst, dAt_lst, dAt_tup, dAt_dic, dEq_int, dLst_nil, at_0, at_1, at_2, at_3, List.getElem?_cons_succ, List.getElem?_cons_zero, List.set_cons_succ, List.set_cons_zero, Option.some.injEq, Sl.v.injEq, Sl.o.injEq, D.int.injEq, D.bl.injEq, D.str.injEq, D.tup.injEq, D.lst.injEq, D.dic.injEq, reduceCtorEq, false_or, or_false, exists_eq_left', exists_eq_left, exists_eq', List.length_cons, List.length_nil, Nat.reduceAdd, true_and, and_true, decide_eq_true_eq, if_true, if_false, Bool.false_eq_true, Bool.not_true, Bool.not_false, Sq, Fb, wipeE]
    try simp only [En_d0, En_d1, En_d2, nD_isN, nD_notN, Option.some.injEq, exists_eq_left', dLe_int, dEq_int, D.bl.injEq]
    rfl
  · try simp only [Eo_C, Eo_V, Eo_B, Eo_bin, Eo_un, Eo_and, Eo_or, Eo_not, Eo_if, Eo_free, As_nil, As_cons, Eo_fn, Eo_call, As_seq, As_bor, As_rng1, Po_no, Po_E, Eo_sl, Eo_get1, dAdd_int, dSub_int, dLt_int, dLe_int, dGt_int, dGe_int, dNeg_int, dMax2_int, dMin2_int, dLen_lst, dLen_tup, dTuple_lst, dTuple_tup, dRev_lst, dAt_lst, dAt_tup, dAt_dic, dEq_int, dLst_nil, at_0, at_1, at_2, at_3, List.getElem?_cons_succ, List.getElem?_cons_zero, List.set_cons_succ, List.set_cons_zero, Option.some.injEq, Sl.v.injEq, Sl.o.injEq, D.int.injEq, D.bl.injEq, D.str.injEq, D.tup.injEq, D.lst.injEq, D.dic.injEq, reduceCtorEq, false_or, or_false, exists_eq_left', exists_eq_left, exists_eq', List.length_cons, List.length_nil, Nat.reduceAdd, true_and, and_true, decide_eq_true_eq, if_true, if_false, Bool.false_eq_true, Bool.not_true, Bool.not_false, Sq, Fb, wipeE]
    rw [kv n hn]
    try simp only [Eo_C, Eo_V, Eo_B, Eo_bin, Eo_un, Eo_and, Eo_or, Eo_not, Eo_if, Eo_free, As_nil, As_cons, Eo_fn, Eo_call, As_seq, As_bor, As_rng1, Po_no, Po_E, Eo_sl, Eo_get1, dAdd_int, dSub_int, dLt_int, dLe_int, dGt_int, dGe_int, dNeg_int, dMax2_int, dMin2_int, dLen_lst, dLen_tup, dTuple_lst, dTuple_tup, dRev_lst, dAt_lst, dAt_tup, dAt_dic, dEq_int, dLst_nil, at_0, at_1, at_2, at_3, List.getElem?_cons_succ, List.getElem?_cons_zero, List.set_cons_succ, List.set_cons_zero, Option.some.injEq, Sl.v.injEq, Sl.o.injEq, D.int.injEq, D.bl.injEq, D.str.injEq, D.tup.injEq, D.lst.injEq, D.dic.injEq, reduceCtorEq, false_or, or_false, exists_eq_left', exists_eq_left, exists_eq', List.length_cons, List.length_nil, Nat.reduceAdd, true_and, and_true, decide_eq_true_eq, if_true, if_false, Bool.false_eq_true, Bool.not_true, Bool.not_false, Sq, Fb, wipeE]
    exact ⟨_, dTup_of [.int n, nD (said es n day)] (by show 2 ≤ sizeLine; decide), rfl⟩
  · refine ⟨_, rfl, ?_⟩
    have e : (sortI ns).filter (has es day) = (nums es).filter (has es day) := by
      refine risen_uniq ((lt_of_le_nd (sortI_le ns) ((sortI_perm ns).nodup_iff.mpr k2)).filter _) ((setI_lt _).filter _) fun n => ?_
      rw [List.mem_filter, List.mem_filter]
      unfold nums
      rw [setI_mem, (sortI_perm ns).mem_iff, k3]
      constructor
      · rintro ⟨⟨e, he, r⟩, h⟩
        exact ⟨List.mem_map.mpr ⟨e, (List.mem_filter.mp he).1, r⟩, h⟩
      · rintro ⟨_, h⟩
        exact ⟨said_mem h, h⟩
    rw [e]
    exact p
def told (h : Int) : D → Bool
  | .tup [_, .tup (.int t :: _)] => decide (t ≤ h)
  | _ => false
theorem known_len (es : List En) (day : Int) : (known es day).length ≤ es.length := by
  unfold known
  rw [List.length_map]
  exact Nat.le_trans (List.length_filter_le _ _) (nums_len es)
theorem known_mem {es : List En} {day : Int} {d : D} (h : d ∈ known es day) : ∃ n nt, d = .tup [.int n, Nt.d nt] := by
  unfold known at h
  obtain ⟨n, hn, rfl⟩ := List.mem_map.mp h
  have := (List.mem_filter.mp hn).2
  unfold has at this
  unfold pairD
  cases e : said es n day with
  | none => rw [e] at this; cases this
  | some nt => exact ⟨n, nt, rfl⟩
theorem told_lc {es : List En} {day h : Int} {it : Es} {own : List Nat} {t : T} {tt el : E} {ρ : FL.Env} {st : DS} {P : D → DS → Prop} (hl : es.length < 64)
    (hi : ∀ PA : List D → DS → Prop, PA (known es day) st → As it ρ st PA)
    (hh : ∀ n nt, ∃ ρ1, t (.tup [.int n, Nt.d nt]) (wipeE ρ own) = some ρ1 ∧ (Eo tt ρ1 st fun x st2 => x = .bl (decide (nt.told ≤ h)) ∧ st2 = st) ∧ Eo el ρ1 st fun z st2 => z = .tup [.int n, Nt.d nt] ∧ st2 = st)
    (p : P (.lst ((known es day).filter (told h))) st) : Eo (eLc it own t tt el) ρ st P := by
  refine Eo_lc' (told h) (fun d => d) ?_
  refine hi _ ⟨Nat.le_trans (Nat.le_of_lt (Nat.lt_of_le_of_lt (known_len es day) hl)) (by decide), fun d hd => ?_, ?_⟩
  · obtain ⟨n, nt, rfl⟩ := known_mem hd
    obtain ⟨ρ1, h1, h2, h3⟩ := hh n nt
    exact ⟨ρ1, h1, h2, fun _ => h3⟩
  · rw [List.map_id']; exact p
theorem Nt_d1 (n : Nt) : n.d = .tup [.int n.told, .str n.work, .int n.first, .int n.last] := rfl
theorem told_runs {es : List En} {day h : Int} {st : DS} (hl : es.length < 64) : F_as_told [.tup (bk es), .int day, .int h] st = some (.ok (.tup ((known es day).filter (told h))), st) := by
  refine to_Fo fun P p => ?_
  unfold F_as_told
  (refine Fo_body.mpr ⟨rfl, ?_⟩; simp only [List.map_cons, List.map_nil, List.cons_append, List.nil_append, Nat.reduceSub, List.reduceReplicate])
  unfold G_as_told
  (first | with_reducible refine Co_seq.mpr ?_ | with_reducible refine Co_nil.mpr ?_ | with_reducible refine Co_brk.mpr ?_ | with_reducible refine Co_cont.mpr ?_ | with_reducible refine Co_retN.mpr ?_ | with_reducible refine Co_set' ?_ | with_reducible refine Co_own' ?_ | with_reducible refine Co_ret' ?_ | with_reducible refine Co_expr' ?_ | with_reducible refine Co_if' ?_ | with_reducible refine Co_frz' ?_ | with_reducible refine Co_app' ?_ | with_reducible refine Co_put' ?_ | with_reducible refine Co_aug' ?_ | with_reducible refine Co_asg' ?_)
  try simp only [Eo_C, Eo_V, Eo_B, Eo_bin, Eo_un, Eo_and, Eo_or, Eo_not, Eo_if, Eo_free, As_nil, As_cons, Eo_fn, Eo_call, As_seq, As_bor, As_rng1, Po_no, Po_E, Eo_sl, Eo_get1, dAdd_int, dSub_int, dLt_int, dLe_int, dGt_int, dGe_int, dNeg_int, dMax2_int, dMin2_int, dLen_lst, dLen_tup, dTuple_lst, dTuple_tup, dRev_lst, dAt_lst, dAt_tup, dAt_dic, dEq_int, dLst_nil, at_0, at_1, at_2, at_3, List.getElem?_cons_succ, List.getElem?_cons_zero, List.set_cons_succ, List.set_cons_zero, Option.some.injEq, Sl.v.injEq, Sl.o.injEq, D.int.injEq, D.bl.injEq, D.str.injEq, D.tup.injEq, D.lst.injEq, D.dic.injEq, reduceCtorEq, false_or, or_false, exists_eq_left', exists_eq_left, exists_eq', List.length_cons, List.length_nil, Nat.reduceAdd, true_and, and_true, decide_eq_true_eq, if_true, if_false, Bool.false_eq_true, Bool.not_true, Bool.not_false, Sq, Fb, wipeE]
  refine told_lc (es := es) (day := day) (h := h) hl (fun PA p => ?_) (fun n nt => ⟨_, rfl, ?_, ?_⟩) ?_
  · try simp only [Eo_C, Eo_V, Eo_B, Eo_bin, Eo_un, Eo_and, Eo_or, Eo_not, Eo_if, Eo_free, As_nil, As_cons, Eo_fn, Eo_call, As_seq, As_bor, As_rng1, Po_no, Po_E, Eo_sl, Eo_get1, dAdd_int, dSub_int, dLt_int, dLe_int, dGt_int, dGe_int, dNeg_int, dMax2_int, dMin2_int, dLen_lst, dLen_tup, dTuple_lst, dTuple_tup, dRev_lst, dAt_lst, dAt_tup, dAt_dic, dEq_int, dLst_nil, at_0, at_1, at_2, at_3, List.getElem?_cons_succ, List.getElem?_cons_zero, List.set_cons_succ, List.set_cons_zero, Option.some.injEq, Sl.v.injEq, Sl.o.injEq, D.int.injEq, D.bl.injEq, D.str.injEq, D.tup.injEq, D.lst.injEq, D.dic.injEq, reduceCtorEq, false_or, or_false, exists_eq_left', exists_eq_left, exists_eq', List.length_cons, List.length_nil, Nat.reduceAdd, true_and, and_true, decide_eq_true_eq, if_true, if_false, Bool.false_eq_true, Bool.not_true, Bool.not_false, Sq, Fb, wipeE]
    rw [Fo_of (entered_runs hl)]
    try simp only [Eo_C, Eo_V, Eo_B, Eo_bin, Eo_un, Eo_and, Eo_or, Eo_not, Eo_if, Eo_free, As_nil, As_cons, Eo_fn, Eo_call, As_seq, As_bor, As_rng1, Po_no, Po_E, Eo_sl, Eo_get1, dAdd_int, dSub_int, dLt_int, dLe_int, dGt_int, dGe_int, dNeg_int, dMax2_int, dMin2_int, dLen_lst, dLen_tup, dTuple_lst, dTuple_tup, dRev_lst, dAt_lst, dAt_tup, dAt_dic, dEq_int, dLst_nil, at_0, at_1, at_2, at_3, List.getElem?_cons_succ, List.getElem?_cons_zero, List.set_cons_succ, List.set_cons_zero, Option.some.injEq, Sl.v.injEq, Sl.o.injEq, D.int.injEq, D.bl.injEq, D.str.injEq, D.tup.injEq, D.lst.injEq, D.dic.injEq, reduceCtorEq, false_or, or_false, exists_eq_left', exists_eq_left, exists_eq', List.length_cons, List.length_nil, Nat.reduceAdd, true_and, and_true, decide_eq_true_eq, if_true, if_false, Bool.false_eq_true, Bool.not_true, Bool.not_false, Sq, Fb, wipeE]
    exact p
  · try simp only [Eo_C, Eo_V, Eo_B, Eo_bin, Eo_un, Eo_and, Eo_or, Eo_not, Eo_if, Eo_free, As_nil, As_cons, Eo_fn, Eo_call, As_seq, As_bor, As_rng1, Po_no, Po_E, Eo_sl, Eo_get1, dAdd_int, dSub_int, dLt_int, dLe_int, dGt_int, dGe_int, dNeg_int, dMax2_int, dMin2_int, dLen_lst, dLen_tup, dTuple_lst, dTuple_tup, dRev_lst, dAt_lst, dAt_tup, dAt_dic, dEq_int, dLst_nil, at_0, at_1, at_2, at_3, List.getElem?_cons_succ, List.getElem?_cons_zero, List.set_cons_succ, List.set_cons_zero, Option.some.injEq, Sl.v.injEq, Sl.o.injEq, D.int.injEq, D.bl.injEq, D.str.injEq, D.tup.injEq, D.lst.injEq, D.dic.injEq, reduceCtorEq, false_or, or_false, exists_eq_left', exists_eq_left, exists_eq', List.length_cons, List.length_nil, Nat.reduceAdd, true_and, and_true, decide_eq_true_eq, if_true, if_false, Bool.false_eq_true, Bool.not_true, Bool.not_false, Sq, Fb, wipeE]
    rw [Nt_d1]
    try simp only [Eo_C, Eo_V, Eo_B, Eo_bin, Eo_un, Eo_and, Eo_or, Eo_not, Eo_if, Eo_free, As_nil, As_cons, Eo_fn, Eo_call, As_seq, As_bor, As_rng1, Po_no, Po_E, Eo_sl, Eo_get1, dAdd_int, dSub_int, dLt_int, dLe_int, dGt_int, dGe_int, dNeg_int, dMax2_int, dMin2_int, dLen_lst, dLen_tup, dTuple_lst, dTuple_tup, dRev_lst, dAt_lst, dAt_tup, dAt_dic, dEq_int, dLst_nil, at_0, at_1, at_2, at_3, List.getElem?_cons_succ, List.getElem?_cons_zero, List.set_cons_succ, List.set_cons_zero, Option.some.injEq, Sl.v.injEq, Sl.o.injEq, D.int.injEq, D.bl.injEq, D.str.injEq, D.tup.injEq, D.lst.injEq, D.dic.injEq, reduceCtorEq, false_or, or_false, exists_eq_left', exists_eq_left, exists_eq', List.length_cons, List.length_nil, Nat.reduceAdd, true_and, and_true, decide_eq_true_eq, if_true, if_false, Bool.false_eq_true, Bool.not_true, Bool.not_false, Sq, Fb, wipeE]
  · try simp only [Eo_C, Eo_V, Eo_B, Eo_bin, Eo_un, Eo_and, Eo_or, Eo_not, Eo_if, Eo_free, As_nil, As_cons, Eo_fn, Eo_call, As_seq, As_bor, As_rng1, Po_no, Po_E, Eo_sl, Eo_get1, dAdd_int, dSub_int, dLt_int, dLe_int, dGt_int, dGe_int, dNeg_int, dMax2_int, dMin2_int, dLen_lst, dLen_tup, dTuple_lst, dTuple_tup, dRev_lst, dAt_lst, dAt_tup, dAt_dic, dEq_int, dLst_nil, at_0, at_1, at_2, at_3, List.getElem?_cons_succ, List.getElem?_cons_zero, List.set_cons_succ, List.set_cons_zero, Option.some.injEq, Sl.v.injEq, Sl.o.injEq, D.int.injEq, D.bl.injEq, D.str.injEq, D.tup.injEq, D.lst.injEq, D.dic.injEq, reduceCtorEq, false_or, or_false, exists_eq_left', exists_eq_left, exists_eq', List.length_cons, List.length_nil, Nat.reduceAdd, true_and, and_true, decide_eq_true_eq, if_true, if_false, Bool.false_eq_true, Bool.not_true, Bool.not_false, Sq, Fb, wipeE]
  · exact ⟨_, rfl, p⟩
/-! equality of notices -/
theorem nD_ok (o : Option Nt) : (nD o).eqOk = true := by cases o <;> rfl
def dif (a b : Option Nt) : Bool := !D.eqv (nD a) (nD b)
theorem dNe_n (a b : Option Nt) : dNe (nD a) (nD b) = some (.bl (dif a b)) := dNe_of (nD_ok a) (nD_ok b)
def amended (es : List En) (day later : Int) : List D := ((nums es).filter fun n => dif (said es n day) (said es n later)).map D.int
theorem corrected_runs {es : List En} {day later : Int} {st : DS} (hl : es.length < 64) : F_corrected [.tup (bk es), .int day, .int later] st = some (.ok (.tup (amended es day later)), st) := by
  refine to_Fo fun P p => ?_
  unfold F_corrected
  (refine Fo_body.mpr ⟨rfl, ?_⟩; simp only [List.map_cons, List.map_nil, List.cons_append, List.nil_append, Nat.reduceSub, List.reduceReplicate])
  unfold G_corrected
  (first | with_reducible refine Co_seq.mpr ?_ | with_reducible refine Co_nil.mpr ?_ | with_reducible refine Co_brk.mpr ?_ | with_reducible refine Co_cont.mpr ?_ | with_reducible refine Co_retN.mpr ?_ | with_reducible refine Co_set' ?_ | with_reducible refine Co_own' ?_ | with_reducible refine Co_ret' ?_ | with_reducible refine Co_expr' ?_ | with_reducible refine Co_if' ?_ | with_reducible refine Co_frz' ?_ | with_reducible refine Co_app' ?_ | with_reducible refine Co_put' ?_ | with_reducible refine Co_aug' ?_ | with_reducible refine Co_asg' ?_)
  (first | with_reducible refine Co_seq.mpr ?_ | with_reducible refine Co_nil.mpr ?_ | with_reducible refine Co_brk.mpr ?_ | with_reducible refine Co_cont.mpr ?_ | with_reducible refine Co_retN.mpr ?_ | with_reducible refine Co_set' ?_ | with_reducible refine Co_own' ?_ | with_reducible refine Co_ret' ?_ | with_reducible refine Co_expr' ?_ | with_reducible refine Co_if' ?_ | with_reducible refine Co_frz' ?_ | with_reducible refine Co_app' ?_ | with_reducible refine Co_put' ?_ | with_reducible refine Co_aug' ?_ | with_reducible refine Co_asg' ?_)
  try simp only [Eo_C, Eo_V, Eo_B, Eo_bin, Eo_un, Eo_and, Eo_or, Eo_not, Eo_if, Eo_free, As_nil, As_cons, Eo_fn, Eo_call, As_seq, As_bor, As_rng1, Po_no, Po_E, Eo_sl, Eo_get1, dAdd_int, dSub_int, dLt_int, dLe_int, dGt_int, dGe_int, dNeg_int, dMax2_int, dMin2_int, dLen_lst, dLen_tup, dTuple_lst, dTuple_tup, dRev_lst, dAt_lst, dAt_tup, dAt_dic, dEq_int, dLst_nil, at_0, at_1, at_2, at_3, List.getElem?_cons_succ, List.getElem?_cons_zero, List.set_cons_succ, List.set_cons_zero, Option.some.injEq, Sl.v.injEq, Sl.o.injEq, D.int.injEq, D.bl.injEq, D.str.injEq, D.tup.injEq, D.lst.injEq, D.dic.injEq, reduceCtorEq, false_or, or_false, exists_eq_left', exists_eq_left, exists_eq', List.length_cons, List.length_nil, Nat.reduceAdd, true_and, and_true, decide_eq_true_eq, if_true, if_false, Bool.false_eq_true, Bool.not_true, Bool.not_false, Sq, Fb, wipeE]
  rw [Fo_of (known_runs (Nat.le_of_lt hl))]
  try simp only [Eo_C, Eo_V, Eo_B, Eo_bin, Eo_un, Eo_and, Eo_or, Eo_not, Eo_if, Eo_free, As_nil, As_cons, Eo_fn, Eo_call, As_seq, As_bor, As_rng1, Po_no, Po_E, Eo_sl, Eo_get1, dAdd_int, dSub_int, dLt_int, dLe_int, dGt_int, dGe_int, dNeg_int, dMax2_int, dMin2_int, dLen_lst, dLen_tup, dTuple_lst, dTuple_tup, dRev_lst, dAt_lst, dAt_tup, dAt_dic, dEq_int, dLst_nil, at_0, at_1, at_2, at_3, List.getElem?_cons_succ, List.getElem?_cons_zero, List.set_cons_succ, List.set_cons_zero, Option.some.injEq, Sl.v.injEq, Sl.o.injEq, D.int.injEq, D.bl.injEq, D.str.injEq, D.tup.injEq, D.lst.injEq, D.dic.injEq, reduceCtorEq, false_or, or_false, exists_eq_left', exists_eq_left, exists_eq', List.length_cons, List.length_nil, Nat.reduceAdd, true_and, and_true, decide_eq_true_eq, if_true, if_false, Bool.false_eq_true, Bool.not_true, Bool.not_false, Sq, Fb, wipeE]
  (first | with_reducible refine Co_seq.mpr ?_ | with_reducible refine Co_nil.mpr ?_ | with_reducible refine Co_brk.mpr ?_ | with_reducible refine Co_cont.mpr ?_ | with_reducible refine Co_retN.mpr ?_ | with_reducible refine Co_set' ?_ | with_reducible refine Co_own' ?_ | with_reducible refine Co_ret' ?_ | with_reducible refine Co_expr' ?_ | with_reducible refine Co_if' ?_ | with_reducible refine Co_frz' ?_ | with_reducible refine Co_app' ?_ | with_reducible refine Co_put' ?_ | with_reducible refine Co_aug' ?_ | with_reducible refine Co_asg' ?_)
  (first | with_reducible refine Co_seq.mpr ?_ | with_reducible refine Co_nil.mpr ?_ | with_reducible refine Co_brk.mpr ?_ | with_reducible refine Co_cont.mpr ?_ | with_reducible refine Co_retN.mpr ?_ | with_reducible refine Co_set' ?_ | with_reducible refine Co_own' ?_ | with_reducible refine Co_ret' ?_ | with_reducible refine Co_expr' ?_ | with_reducible refine Co_if' ?_ | with_reducible refine Co_frz' ?_ | with_reducible refine Co_app' ?_ | with_reducible refine Co_put' ?_ | with_reducible refine Co_aug' ?_ | with_reducible refine Co_asg' ?_)
  try simp only [Eo_C, Eo_V, Eo_B, Eo_bin, Eo_un, Eo_and, Eo_or, Eo_not, Eo_if, Eo_free, As_nil, As_cons, Eo_fn, Eo_call, As_seq, As_bor, As_rng1, Po_no, Po_E, Eo_sl, Eo_get1, dAdd_int, dSub_int, dLt_int, dLe_int, dGt_int, dGe_int, dNeg_int, dMax2_int, dMin2_int, dLen_lst, dLen_tup, dTuple_lst, dTuple_tup, dRev_lst, dAt_lst, dAt_tup, dAt_dic, dEq_int, dLst_nil, at_0, at_1, at_2, at_3, List.getElem?_cons_succ, List.getElem?_cons_zero, List.set_cons_succ, List.set_cons_zero, Option.some.injEq, Sl.v.injEq, Sl.o.injEq, D.int.injEq, D.bl.injEq, D.str.injEq, D.tup.injEq, D.lst.injEq, D.dic.injEq, reduceCtorEq, false_or, or_false, exists_eq_left', exists_eq_left, exists_eq', List.length_cons, List.length_nil, Nat.reduceAdd, true_and, and_true, decide_eq_true_eq, if_true, if_false, Bool.false_eq_true, Bool.not_true, Bool.not_false, Sq, Fb, wipeE]
  rw [Fo_of (known_runs (Nat.le_of_lt hl))]
  try simp only [Eo_C, Eo_V, Eo_B, Eo_bin, Eo_un, Eo_and, Eo_or, Eo_not, Eo_if, Eo_free, As_nil, As_cons, Eo_fn, Eo_call, As_seq, As_bor, As_rng1, Po_no, Po_E, Eo_sl, Eo_get1, dAdd_int, dSub_int, dLt_int, dLe_int, dGt_int, dGe_int, dNeg_int, dMax2_int, dMin2_int, dLen_lst, dLen_tup, dTuple_lst, dTuple_tup, dRev_lst, dAt_lst, dAt_tup, dAt_dic, dEq_int, dLst_nil, at_0, at_1, at_2, at_3, List.getElem?_cons_succ, List.getElem?_cons_zero, List.set_cons_succ, List.set_cons_zero, Option.some.injEq, Sl.v.injEq, Sl.o.injEq, D.int.injEq, D.bl.injEq, D.str.injEq, D.tup.injEq, D.lst.injEq, D.dic.injEq, reduceCtorEq, false_or, or_false, exists_eq_left', exists_eq_left, exists_eq', List.length_cons, List.length_nil, Nat.reduceAdd, true_and, and_true, decide_eq_true_eq, if_true, if_false, Bool.false_eq_true, Bool.not_true, Bool.not_false, Sq, Fb, wipeE]
  (first | with_reducible refine Co_seq.mpr ?_ | with_reducible refine Co_nil.mpr ?_ | with_reducible refine Co_brk.mpr ?_ | with_reducible refine Co_cont.mpr ?_ | with_reducible refine Co_retN.mpr ?_ | with_reducible refine Co_set' ?_ | with_reducible refine Co_own' ?_ | with_reducible refine Co_ret' ?_ | with_reducible refine Co_expr' ?_ | with_reducible refine Co_if' ?_ | with_reducible refine Co_frz' ?_ | with_reducible refine Co_app' ?_ | with_reducible refine Co_put' ?_ | with_reducible refine Co_aug' ?_ | with_reducible refine Co_asg' ?_)
  try simp only [Eo_C, Eo_V, Eo_B, Eo_bin, Eo_un, Eo_and, Eo_or, Eo_not, Eo_if, Eo_free, As_nil, As_cons, Eo_fn, Eo_call, As_seq, As_bor, As_rng1, Po_no, Po_E, Eo_sl, Eo_get1, dAdd_int, dSub_int, dLt_int, dLe_int, dGt_int, dGe_int, dNeg_int, dMax2_int, dMin2_int, dLen_lst, dLen_tup, dTuple_lst, dTuple_tup, dRev_lst, dAt_lst, dAt_tup, dAt_dic, dEq_int, dLst_nil, at_0, at_1, at_2, at_3, List.getElem?_cons_succ, List.getElem?_cons_zero, List.set_cons_succ, List.set_cons_zero, Option.some.injEq, Sl.v.injEq, Sl.o.injEq, D.int.injEq, D.bl.injEq, D.str.injEq, D.tup.injEq, D.lst.injEq, D.dic.injEq, reduceCtorEq, false_or, or_false, exists_eq_left', exists_eq_left, exists_eq', List.length_cons, List.length_nil, Nat.reduceAdd, true_and, and_true, decide_eq_true_eq, if_true, if_false, Bool.false_eq_true, Bool.not_true, Bool.not_false, Sq, Fb, wipeE]
  refine lc_int (nums es) (fun n => dif (said es n day) (said es n later)) D.int (fun PA p => ?_) (Nat.le_trans (nums_len es) (by omega)) (fun n hn => ⟨_, rfl, ?_, fun _ => ?_⟩) ?_
  · try simp only [Eo_C, Eo_V, Eo_B, Eo_bin, Eo_un, Eo_and, Eo_or, Eo_not, Eo_if, Eo_free, As_nil, As_cons, Eo_fn, Eo_call, As_seq, As_bor, As_rng1, Po_no, Po_E, Eo_sl, Eo_get1, dAdd_int, dSub_int, dLt_int, dLe_int, dGt_int, dGe_int, dNeg_int, dMax2_int, dMin2_int, dLen_lst, dLen_tup, dTuple_lst, dTuple_tup, dRev_lst, dAt_lst, dAt_tup, dAt_dic, dEq_int, dLst_nil, at_0, at_1, at_2, at_3, List.getElem?_cons_succ, List.getElem?_cons_zero, List.set_cons_succ, List.set_cons_zero, Option.some.injEq, Sl.v.injEq, Sl.o.injEq, D.int.injEq, D.bl.injEq, D.str.injEq, D.tup.injEq, D.lst.injEq, D.dic.injEq, reduceCtorEq, false_or, or_false, exists_eq_left', exists_eq_left, exists_eq', List.length_cons, List.length_nil, Nat.reduceAdd, true_and, and_true, decide_eq_true_eq, if_true, if_false, Bool.false_eq_true, Bool.not_true, Bool.not_false, Sq, Fb, wipeE]
    rw [Fo_of (numbers_of_runs hl)]
    try simp only [Eo_C, Eo_V, Eo_B, Eo_bin, Eo_un, Eo_and, Eo_or, Eo_not, Eo_if, Eo_free, As_nil, As_cons, Eo_fn, Eo_call, As_seq, As_bor, As_rng1, Po_no, Po_E, Eo_sl, Eo_get1, dAdd_int, dSub_int, dLt_int, dLe_int, dGt_int, dGe_int, dNeg_int, dMax2_int, dMin2_int, dLen_lst, dLen_tup, dTuple_lst, dTuple_tup, dRev_lst, dAt_lst, dAt_tup, dAt_dic, dEq_int, dLst_nil, at_0, at_1, at_2, at_3, List.getElem?_cons_succ, List.getElem?_cons_zero, List.set_cons_succ, List.set_cons_zero, Option.some.injEq, Sl.v.injEq, Sl.o.injEq, D.int.injEq, D.bl.injEq, D.str.injEq, D.tup.injEq, D.lst.injEq, D.dic.injEq, reduceCtorEq, false_or, or_false, exists_eq_left', exists_eq_left, exists_eq', List.length_cons, List.length_nil, Nat.reduceAdd, true_and, and_true, decide_eq_true_eq, if_true, if_false, Bool.false_eq_true, Bool.not_true, Bool.not_false, Sq, Fb, wipeE]
    exact p
  · try simp only [Eo_C, Eo_V, Eo_B, Eo_bin, Eo_un, Eo_and, Eo_or, Eo_not, Eo_if, Eo_free, As_nil, As_cons, Eo_fn, Eo_call, As_seq, As_bor, As_rng1, Po_no, Po_E, Eo_sl, Eo_get1, dAdd_int, dSub_int, dLt_int, dLe_int, dGt_int, dGe_int, dNeg_int, dMax2_int, dMin2_int, dLen_lst, dLen_tup, dTuple_lst, dTuple_tup, dRev_lst, dAt_lst, dAt_tup, dAt_dic, dEq_int, dLst_nil, at_0, at_1, at_2, at_3, List.getElem?_cons_succ, List.getElem?_cons_zero, List.set_cons_succ, List.set_cons_zero, Option.some.injEq, Sl.v.injEq, Sl.o.injEq, D.int.injEq, D.bl.injEq, D.str.injEq, D.tup.injEq, D.lst.injEq, D.dic.injEq, reduceCtorEq, false_or, or_false, exists_eq_left', exists_eq_left, exists_eq', List.length_cons, List.length_nil, Nat.reduceAdd, true_and, and_true, decide_eq_true_eq, if_true, if_false, Bool.false_eq_true, Bool.not_true, Bool.not_false, Sq, Fb, wipeE]
    refine ⟨_, rfl, _, rfl, _, (by rw [words_said, words_said]; exact dNe_n _ _), rfl⟩
  · try simp only [Eo_C, Eo_V, Eo_B, Eo_bin, Eo_un, Eo_and, Eo_or, Eo_not, Eo_if, Eo_free, As_nil, As_cons, Eo_fn, Eo_call, As_seq, As_bor, As_rng1, Po_no, Po_E, Eo_sl, Eo_get1, dAdd_int, dSub_int, dLt_int, dLe_int, dGt_int, dGe_int, dNeg_int, dMax2_int, dMin2_int, dLen_lst, dLen_tup, dTuple_lst, dTuple_tup, dRev_lst, dAt_lst, dAt_tup, dAt_dic, dEq_int, dLst_nil, at_0, at_1, at_2, at_3, List.getElem?_cons_succ, List.getElem?_cons_zero, List.set_cons_succ, List.set_cons_zero, Option.some.injEq, Sl.v.injEq, Sl.o.injEq, D.int.injEq, D.bl.injEq, D.str.injEq, D.tup.injEq, D.lst.injEq, D.dic.injEq, reduceCtorEq, false_or, or_false, exists_eq_left', exists_eq_left, exists_eq', List.length_cons, List.length_nil, Nat.reduceAdd, true_and, and_true, decide_eq_true_eq, if_true, if_false, Bool.false_eq_true, Bool.not_true, Bool.not_false, Sq, Fb, wipeE]
  · exact ⟨_, rfl, p⟩
theorem law_known_runs {es : List En} {day : Int} {st : DS} (hl : es.length < 64) : F_law_known [.lst (bk es), .int day] st = some (.ok (.tup (known es day)), st) := by
  refine to_Fo fun P p => ?_
  unfold F_law_known
  (refine Fo_body.mpr ⟨rfl, ?_⟩; simp only [List.map_cons, List.map_nil, List.cons_append, List.nil_append, Nat.reduceSub, List.reduceReplicate])
  unfold G_law_known
  (first | with_reducible refine Co_seq.mpr ?_ | with_reducible refine Co_nil.mpr ?_ | with_reducible refine Co_brk.mpr ?_ | with_reducible refine Co_cont.mpr ?_ | with_reducible refine Co_retN.mpr ?_ | with_reducible refine Co_set' ?_ | with_reducible refine Co_own' ?_ | with_reducible refine Co_ret' ?_ | with_reducible refine Co_expr' ?_ | with_reducible refine Co_if' ?_ | with_reducible refine Co_frz' ?_ | with_reducible refine Co_app' ?_ | with_reducible refine Co_put' ?_ | with_reducible refine Co_aug' ?_ | with_reducible refine Co_asg' ?_)
  (first | with_reducible refine Co_seq.mpr ?_ | with_reducible refine Co_nil.mpr ?_ | with_reducible refine Co_brk.mpr ?_ | with_reducible refine Co_cont.mpr ?_ | with_reducible refine Co_retN.mpr ?_ | with_reducible refine Co_set' ?_ | with_reducible refine Co_own' ?_ | with_reducible refine Co_ret' ?_ | with_reducible refine Co_expr' ?_ | with_reducible refine Co_if' ?_ | with_reducible refine Co_frz' ?_ | with_reducible refine Co_app' ?_ | with_reducible refine Co_put' ?_ | with_reducible refine Co_aug' ?_ | with_reducible refine Co_asg' ?_)
  try simp only [Eo_C, Eo_V, Eo_B, Eo_bin, Eo_un, Eo_and, Eo_or, Eo_not, Eo_if, Eo_free, As_nil, As_cons, Eo_fn, Eo_call, As_seq, As_bor, As_rng1, Po_no, Po_E, Eo_sl, Eo_get1, dAdd_int, dSub_int, dLt_int, dLe_int, dGt_int, dGe_int, dNeg_int, dMax2_int, dMin2_int, dLen_lst, dLen_tup, dTuple_lst, dTuple_tup, dRev_lst, dAt_lst, dAt_tup, dAt_dic, dEq_int, dLst_nil, at_0, at_1, at_2, at_3, List.getElem?_cons_succ, List.getElem?_cons_zero, List.set_cons_succ, List.set_cons_zero, Option.some.injEq, Sl.v.injEq, Sl.o.injEq, D.int.injEq, D.bl.injEq, D.str.injEq, D.tup.injEq, D.lst.injEq, D.dic.injEq, reduceCtorEq, false_or, or_false, exists_eq_left', exists_eq_left, exists_eq', List.length_cons, List.length_nil, Nat.reduceAdd, true_and, and_true, decide_eq_true_eq, if_true, if_false, Bool.false_eq_true, Bool.not_true, Bool.not_false, Sq, Fb, wipeE]
  (first | with_reducible refine Co_seq.mpr ?_ | with_reducible refine Co_nil.mpr ?_ | with_reducible refine Co_brk.mpr ?_ | with_reducible refine Co_cont.mpr ?_ | with_reducible refine Co_retN.mpr ?_ | with_reducible refine Co_set' ?_ | with_reducible refine Co_own' ?_ | with_reducible refine Co_ret' ?_ | with_reducible refine Co_expr' ?_ | with_reducible refine Co_if' ?_ | with_reducible refine Co_frz' ?_ | with_reducible refine Co_app' ?_ | with_reducible refine Co_put' ?_ | with_reducible refine Co_aug' ?_ | with_reducible refine Co_asg' ?_)
  refine Co_for' (fun i ρ st' => st' = st ∧ ∃ a b, ρ = [.v (.lst (bk es)), .v (.int day), .o (.lst ((((nums es).take i).filter (has es day)).map (pairD es day))), a, b]) ?_
  try simp only [Eo_C, Eo_V, Eo_B, Eo_bin, Eo_un, Eo_and, Eo_or, Eo_not, Eo_if, Eo_free, As_nil, As_cons, Eo_fn, Eo_call, As_seq, As_bor, As_rng1, Po_no, Po_E, Eo_sl, Eo_get1, dAdd_int, dSub_int, dLt_int, dLe_int, dGt_int, dGe_int, dNeg_int, dMax2_int, dMin2_int, dLen_lst, dLen_tup, dTuple_lst, dTuple_tup, dRev_lst, dAt_lst, dAt_tup, dAt_dic, dEq_int, dLst_nil, at_0, at_1, at_2, at_3, List.getElem?_cons_succ, List.getElem?_cons_zero, List.set_cons_succ, List.set_cons_zero, Option.some.injEq, Sl.v.injEq, Sl.o.injEq, D.int.injEq, D.bl.injEq, D.str.injEq, D.tup.injEq, D.lst.injEq, D.dic.injEq, reduceCtorEq, false_or, or_false, exists_eq_left', exists_eq_left, exists_eq', List.length_cons, List.length_nil, Nat.reduceAdd, true_and, and_true, decide_eq_true_eq, if_true, if_false, Bool.false_eq_true, Bool.not_true, Bool.not_false, Sq, Fb, wipeE]
  rw [Fo_of (numbers_runs hl)]
  try simp only [Eo_C, Eo_V, Eo_B, Eo_bin, Eo_un, Eo_and, Eo_or, Eo_not, Eo_if, Eo_free, As_nil, As_cons, Eo_fn, Eo_call, As_seq, As_bor, As_rng1, Po_no, Po_E, Eo_sl, Eo_get1, dAdd_int, dSub_int, dLt_int, dLe_int, dGt_int, dGe_int, dNeg_int, dMax2_int, dMin2_int, dLen_lst, dLen_tup, dTuple_lst, dTuple_tup, dRev_lst, dAt_lst, dAt_tup, dAt_dic, dEq_int, dLst_nil, at_0, at_1, at_2, at_3, List.getElem?_cons_succ, List.getElem?_cons_zero, List.set_cons_succ, List.set_cons_zero, Option.some.injEq, Sl.v.injEq, Sl.o.injEq, D.int.injEq, D.bl.injEq, D.str.injEq, D.tup.injEq, D.lst.injEq, D.dic.injEq, reduceCtorEq, false_or, or_false, exists_eq_left', exists_eq_left, exists_eq', List.length_cons, List.length_nil, Nat.reduceAdd, true_and, and_true, decide_eq_true_eq, if_true, if_false, Bool.false_eq_true, Bool.not_true, Bool.not_false, Sq, Fb, wipeE]
  refine ⟨⟨_, _, rfl⟩, ?_, ?_⟩
  · rintro i d ρ st' hd ⟨rfl, a, b, rfl⟩
    rw [List.getElem?_map] at hd
    cases hn : (nums es)[i]? with
    | none => rw [hn] at hd; cases hd
    | some n =>
      rw [hn] at hd
      obtain rfl : D.int n = d := Option.some.inj hd
      refine ⟨_, rfl, ?_⟩
      have tk : (nums es).take (i + 1) = (nums es).take i ++ [n] := by rw [List.take_add_one, hn]; rfl
      (first | with_reducible refine Co_seq.mpr ?_ | with_reducible refine Co_nil.mpr ?_ | with_reducible refine Co_brk.mpr ?_ | with_reducible refine Co_cont.mpr ?_ | with_reducible refine Co_retN.mpr ?_ | with_reducible refine Co_set' ?_ | with_reducible refine Co_own' ?_ | with_reducible refine Co_ret' ?_ | with_reducible refine Co_expr' ?_ | with_reducible refine Co_if' ?_ | with_reducible refine Co_frz' ?_ | with_reducible refine Co_app' ?_ | with_reducible refine Co_put' ?_ | with_reducible refine Co_aug' ?_ | with_reducible refine Co_asg' ?_)
      (first | with_reducible refine Co_seq.mpr ?_ | with_reducible refine Co_nil.mpr ?_ | with_reducible refine Co_brk.mpr ?_ | with_reducible refine Co_cont.mpr ?_ | with_reducible refine Co_retN.mpr ?_ | with_reducible refine Co_set' ?_ | with_reducible refine Co_own' ?_ | with_reducible refine Co_ret' ?_ | with_reducible refine Co_expr' ?_ | with_reducible refine Co_if' ?_ | with_reducible refine Co_frz' ?_ | with_reducible refine Co_app' ?_ | with_reducible refine Co_put' ?_ | with_reducible refine Co_aug' ?_ | with_reducible refine Co_asg' ?_)
      try simp only [Eo_C, Eo_V, Eo_B, Eo_bin, Eo_un, Eo_and, Eo_or, Eo_not, Eo_if, Eo_free, As_nil, As_cons, Eo_fn, Eo_call, As_seq, As_bor, As_rng1, Po_no, Po_E, Eo_sl, Eo_get1, dAdd_int, dSub_int, dLt_int, dLe_int, dGt_int, dGe_int, dNeg_int, dMax2_int, dMin2_int, dLen_lst, dLen_tup, dTuple_lst, dTuple_tup, dRev_lst, dAt_lst, dAt_tup, dAt_dic, dEq_int, dLst_nil, at_0, at_1, at_2, at_3, List.getElem?_cons_succ, List.getElem?_cons_zero, List.set_cons_succ, List.set_cons_zero, Option.some.injEq, Sl.v.injEq, Sl.o.injEq, D.int.injEq, D.bl.injEq, D.str.injEq, D.tup.injEq, D.lst.injEq, D.dic.injEq, reduceCtorEq, false_or, or_false, exists_eq_left', exists_eq_left, exists_eq', List.length_cons, List.length_nil, Nat.reduceAdd, true_and, and_true, decide_eq_true_eq, if_true, if_false, Bool.false_eq_true, Bool.not_true, Bool.not_false, Sq, Fb, wipeE]
      rw [Fo_of said_runs]
      try simp only [Eo_C, Eo_V, Eo_B, Eo_bin, Eo_un, Eo_and, Eo_or, Eo_not, Eo_if, Eo_free, As_nil, As_cons, Eo_fn, Eo_call, As_seq, As_bor, As_rng1, Po_no, Po_E, Eo_sl, Eo_get1, dAdd_int, dSub_int, dLt_int, dLe_int, dGt_int, dGe_int, dNeg_int, dMax2_int, dMin2_int, dLen_lst, dLen_tup, dTuple_lst, dTuple_tup, dRev_lst, dAt_lst, dAt_tup, dAt_dic, dEq_int, dLst_nil, at_0, at_1, at_2, at_3, List.getElem?_cons_succ, List.getElem?_cons_zero, List.set_cons_succ, List.set_cons_zero, Option.some.injEq, Sl.v.injEq, Sl.o.injEq, D.int.injEq, D.bl.injEq, D.str.injEq, D.tup.injEq, D.lst.injEq, D.dic.injEq, reduceCtorEq, false_or, or_false, exists_eq_left', exists_eq_left, exists_eq', List.length_cons, List.length_nil, Nat.reduceAdd, true_and, and_true, decide_eq_true_eq, if_true, if_false, Bool.false_eq_true, Bool.not_true, Bool.not_false, Sq, Fb, wipeE]
      (first | with_reducible refine Co_seq.mpr ?_ | with_reducible refine Co_nil.mpr ?_ | with_reducible refine Co_brk.mpr ?_ | with_reducible refine Co_cont.mpr ?_ | with_reducible refine Co_retN.mpr ?_ | with_reducible refine Co_set' ?_ | with_reducible refine Co_own' ?_ | with_reducible refine Co_ret' ?_ | with_reducible refine Co_expr' ?_ | with_reducible refine Co_if' ?_ | with_reducible refine Co_frz' ?_ | with_reducible refine Co_app' ?_ | with_reducible refine Co_put' ?_ | with_reducible refine Co_aug' ?_ | with_reducible refine Co_asg' ?_)
      try simp only [Eo_C, Eo_V, Eo_B, Eo_bin, Eo_un, Eo_and, Eo_or, Eo_not, Eo_if, Eo_free, As_nil, As_cons, Eo_fn, Eo_call, As_seq, As_bor, As_rng1, Po_no, Po_E, Eo_sl, Eo_get1, dAdd_int, dSub_int, dLt_int, dLe_int, dGt_int, dGe_int, dNeg_int, dMax2_int, dMin2_int, dLen_lst, dLen_tup, dTuple_lst, dTuple_tup, dRev_lst, dAt_lst, dAt_tup, dAt_dic, dEq_int, dLst_nil, at_0, at_1, at_2, at_3, List.getElem?_cons_succ, List.getElem?_cons_zero, List.set_cons_succ, List.set_cons_zero, Option.some.injEq, Sl.v.injEq, Sl.o.injEq, D.int.injEq, D.bl.injEq, D.str.injEq, D.tup.injEq, D.lst.injEq, D.dic.injEq, reduceCtorEq, false_or, or_false, exists_eq_left', exists_eq_left, exists_eq', List.length_cons, List.length_nil, Nat.reduceAdd, true_and, and_true, decide_eq_true_eq, if_true, if_false, Bool.false_eq_true, Bool.not_true, Bool.not_false, Sq, Fb, wipeE]
      try simp only [En_d0, En_d1, En_d2, nD_isN, nD_notN, Option.some.injEq, exists_eq_left', dLe_int, dEq_int, D.bl.injEq]
      refine iteD (fun h => ?_) (fun h => ?_)
      · (first | with_reducible refine Co_seq.mpr ?_ | with_reducible refine Co_nil.mpr ?_ | with_reducible refine Co_brk.mpr ?_ | with_reducible refine Co_cont.mpr ?_ | with_reducible refine Co_retN.mpr ?_ | with_reducible refine Co_set' ?_ | with_reducible refine Co_own' ?_ | with_reducible refine Co_ret' ?_ | with_reducible refine Co_expr' ?_ | with_reducible refine Co_if' ?_ | with_reducible refine Co_frz' ?_ | with_reducible refine Co_app' ?_ | with_reducible refine Co_put' ?_ | with_reducible refine Co_aug' ?_ | with_reducible refine Co_asg' ?_)
        try simp only [Eo_C, Eo_V, Eo_B, Eo_bin, Eo_un, Eo_and, Eo_or, Eo_not, Eo_if, Eo_free, As_nil, As_cons, Eo_fn, Eo_call, As_seq, As_bor, As_rng1, Po_no, Po_E, Eo_sl, Eo_get1, dAdd_int, dSub_int, dLt_int, dLe_int, dGt_int, dGe_int, dNeg_int, dMax2_int, dMin2_int, dLen_lst, dLen_tup, dTuple_lst, dTuple_tup, dRev_lst, dAt_lst, dAt_tup, dAt_dic, dEq_int, dLst_nil, at_0, at_1, at_2, at_3, List.getElem?_cons_succ, List.getElem?_cons_zero, List.set_cons_succ, List.set_cons_zero, Option.some.injEq, Sl.v.injEq, Sl.o.injEq, D.int.injEq, D.bl.injEq, D.str.injEq, D.tup.injEq, D.lst.injEq, D.dic.injEq, reduceCtorEq, false_or, or_false, exists_eq_left', exists_eq_left, exists_eq', List.length_cons, List.length_nil, Nat.reduceAdd, true_and, and_true, decide_eq_true_eq, if_true, if_false, Bool.false_eq_true, Bool.not_true, Bool.not_false, Sq, Fb, wipeE]
        have e2 : (((nums es).take (i + 1)).filter (has es day)).map (pairD es day) = (((nums es).take i).filter (has es day)).map (pairD es day) ++ [.tup [.int n, nD (said es n day)]] := by
          rw [tk, List.filter_append, List.filter_cons_of_pos (by exact h), List.map_append]
          rfl
        rw [e2]
        refine ⟨_, dTup_of [.int n, nD (said es n day)] (by show 2 ≤ sizeLine; decide), Nat.lt_of_le_of_lt (m := 64) ?_ (by decide), _, _, rfl⟩
        rw [List.length_map]
        exact Nat.le_trans (List.length_filter_le _ _) (by rw [List.length_take]; have := nums_len es; omega)
      · (first | with_reducible refine Co_seq.mpr ?_ | with_reducible refine Co_nil.mpr ?_ | with_reducible refine Co_brk.mpr ?_ | with_reducible refine Co_cont.mpr ?_ | with_reducible refine Co_retN.mpr ?_ | with_reducible refine Co_set' ?_ | with_reducible refine Co_own' ?_ | with_reducible refine Co_ret' ?_ | with_reducible refine Co_expr' ?_ | with_reducible refine Co_if' ?_ | with_reducible refine Co_frz' ?_ | with_reducible refine Co_app' ?_ | with_reducible refine Co_put' ?_ | with_reducible refine Co_aug' ?_ | with_reducible refine Co_asg' ?_)
        have e2 : (((nums es).take (i + 1)).filter (has es day)) = (((nums es).take i).filter (has es day)) := by
          rw [tk, List.filter_append, List.filter_cons_of_neg (by exact h), List.filter_nil, List.append_nil]
        rw [e2]
        exact ⟨rfl, _, _, rfl⟩
  · rintro ρ st' ⟨rfl, a, b, rfl⟩
    rw [List.length_map, List.take_length]
    (first | with_reducible refine Co_seq.mpr ?_ | with_reducible refine Co_nil.mpr ?_ | with_reducible refine Co_brk.mpr ?_ | with_reducible refine Co_cont.mpr ?_ | with_reducible refine Co_retN.mpr ?_ | with_reducible refine Co_set' ?_ | with_reducible refine Co_own' ?_ | with_reducible refine Co_ret' ?_ | with_reducible refine Co_expr' ?_ | with_reducible refine Co_if' ?_ | with_reducible refine Co_frz' ?_ | with_reducible refine Co_app' ?_ | with_reducible refine Co_put' ?_ | with_reducible refine Co_aug' ?_ | with_reducible refine Co_asg' ?_)
    try simp only [Eo_C, Eo_V, Eo_B, Eo_bin, Eo_un, Eo_and, Eo_or, Eo_not, Eo_if, Eo_free, As_nil, As_cons, Eo_fn, Eo_call, As_seq, As_bor, As_rng1, Po_no, Po_E, Eo_sl, Eo_get1, dAdd_int, dSub_int, dLt_int, dLe_int, dGt_int, dGe_int, dNeg_int, dMax2_int, dMin2_int, dLen_lst, dLen_tup, dTuple_lst, dTuple_tup, dRev_lst, dAt_lst, dAt_tup, dAt_dic, dEq_int, dLst_nil, at_0, at_1, at_2, at_3, List.getElem?_cons_succ, List.getElem?_cons_zero, List.set_cons_succ, List.set_cons_zero, Option.some.injEq, Sl.v.injEq, Sl.o.injEq, D.int.injEq, D.bl.injEq, D.str.injEq, D.tup.injEq, D.lst.injEq, D.dic.injEq, reduceCtorEq, false_or, or_false, exists_eq_left', exists_eq_left, exists_eq', List.length_cons, List.length_nil, Nat.reduceAdd, true_and, and_true, decide_eq_true_eq, if_true, if_false, Bool.false_eq_true, Bool.not_true, Bool.not_false, Sq, Fb, wipeE]
    exact p
theorem law_corrected_runs {es : List En} {day later : Int} {st : DS} (hl : es.length < 64) : F_law_corrected [.lst (bk es), .int day, .int later] st = some (.ok (.tup (amended es day later)), st) := by
  refine to_Fo fun P p => ?_
  unfold F_law_corrected
  (refine Fo_body.mpr ⟨rfl, ?_⟩; simp only [List.map_cons, List.map_nil, List.cons_append, List.nil_append, Nat.reduceSub, List.reduceReplicate])
  unfold G_law_corrected
  (first | with_reducible refine Co_seq.mpr ?_ | with_reducible refine Co_nil.mpr ?_ | with_reducible refine Co_brk.mpr ?_ | with_reducible refine Co_cont.mpr ?_ | with_reducible refine Co_retN.mpr ?_ | with_reducible refine Co_set' ?_ | with_reducible refine Co_own' ?_ | with_reducible refine Co_ret' ?_ | with_reducible refine Co_expr' ?_ | with_reducible refine Co_if' ?_ | with_reducible refine Co_frz' ?_ | with_reducible refine Co_app' ?_ | with_reducible refine Co_put' ?_ | with_reducible refine Co_aug' ?_ | with_reducible refine Co_asg' ?_)
  (first | with_reducible refine Co_seq.mpr ?_ | with_reducible refine Co_nil.mpr ?_ | with_reducible refine Co_brk.mpr ?_ | with_reducible refine Co_cont.mpr ?_ | with_reducible refine Co_retN.mpr ?_ | with_reducible refine Co_set' ?_ | with_reducible refine Co_own' ?_ | with_reducible refine Co_ret' ?_ | with_reducible refine Co_expr' ?_ | with_reducible refine Co_if' ?_ | with_reducible refine Co_frz' ?_ | with_reducible refine Co_app' ?_ | with_reducible refine Co_put' ?_ | with_reducible refine Co_aug' ?_ | with_reducible refine Co_asg' ?_)
  try simp only [Eo_C, Eo_V, Eo_B, Eo_bin, Eo_un, Eo_and, Eo_or, Eo_not, Eo_if, Eo_free, As_nil, As_cons, Eo_fn, Eo_call, As_seq, As_bor, As_rng1, Po_no, Po_E, Eo_sl, Eo_get1, dAdd_int, dSub_int, dLt_int, dLe_int, dGt_int, dGe_int, dNeg_int, dMax2_int, dMin2_int, dLen_lst, dLen_tup, dTuple_lst, dTuple_tup, dRev_lst, dAt_lst, dAt_tup, dAt_dic, dEq_int, dLst_nil, at_0, at_1, at_2, at_3, List.getElem?_cons_succ, List.getElem?_cons_zero, List.set_cons_succ, List.set_cons_zero, Option.some.injEq, Sl.v.injEq, Sl.o.injEq, D.int.injEq, D.bl.injEq, D.str.injEq, D.tup.injEq, D.lst.injEq, D.dic.injEq, reduceCtorEq, false_or, or_false, exists_eq_left', exists_eq_left, exists_eq', List.length_cons, List.length_nil, Nat.reduceAdd, true_and, and_true, decide_eq_true_eq, if_true, if_false, Bool.false_eq_true, Bool.not_true, Bool.not_false, Sq, Fb, wipeE]
  (first | with_reducible refine Co_seq.mpr ?_ | with_reducible refine Co_nil.mpr ?_ | with_reducible refine Co_brk.mpr ?_ | with_reducible refine Co_cont.mpr ?_ | with_reducible refine Co_retN.mpr ?_ | with_reducible refine Co_set' ?_ | with_reducible refine Co_own' ?_ | with_reducible refine Co_ret' ?_ | with_reducible refine Co_expr' ?_ | with_reducible refine Co_if' ?_ | with_reducible refine Co_frz' ?_ | with_reducible refine Co_app' ?_ | with_reducible refine Co_put' ?_ | with_reducible refine Co_aug' ?_ | with_reducible refine Co_asg' ?_)
  refine Co_for' (fun i ρ st' => st' = st ∧ ∃ a, ρ = [.v (.lst (bk es)), .v (.int day), .v (.int later), .o (.lst ((((nums es).take i).filter fun n => dif (said es n day) (said es n later)).map D.int)), a]) ?_
  try simp only [Eo_C, Eo_V, Eo_B, Eo_bin, Eo_un, Eo_and, Eo_or, Eo_not, Eo_if, Eo_free, As_nil, As_cons, Eo_fn, Eo_call, As_seq, As_bor, As_rng1, Po_no, Po_E, Eo_sl, Eo_get1, dAdd_int, dSub_int, dLt_int, dLe_int, dGt_int, dGe_int, dNeg_int, dMax2_int, dMin2_int, dLen_lst, dLen_tup, dTuple_lst, dTuple_tup, dRev_lst, dAt_lst, dAt_tup, dAt_dic, dEq_int, dLst_nil, at_0, at_1, at_2, at_3, List.getElem?_cons_succ, List.getElem?_cons_zero, List.set_cons_succ, List.set_cons_zero, Option.some.injEq, Sl.v.injEq, Sl.o.injEq, D.int.injEq, D.bl.injEq, D.str.injEq, D.tup.injEq, D.lst.injEq, D.dic.injEq, reduceCtorEq, false_or, or_false, exists_eq_left', exists_eq_left, exists_eq', List.length_cons, List.length_nil, Nat.reduceAdd, true_and, and_true, decide_eq_true_eq, if_true, if_false, Bool.false_eq_true, Bool.not_true, Bool.not_false, Sq, Fb, wipeE]
  rw [Fo_of (numbers_runs hl)]
  try simp only [Eo_C, Eo_V, Eo_B, Eo_bin, Eo_un, Eo_and, Eo_or, Eo_not, Eo_if, Eo_free, As_nil, As_cons, Eo_fn, Eo_call, As_seq, As_bor, As_rng1, Po_no, Po_E, Eo_sl, Eo_get1, dAdd_int, dSub_int, dLt_int, dLe_int, dGt_int, dGe_int, dNeg_int, dMax2_int, dMin2_int, dLen_lst, dLen_tup, dTuple_lst, dTuple_tup, dRev_lst, dAt_lst, dAt_tup, dAt_dic, dEq_int, dLst_nil, at_0, at_1, at_2, at_3, List.getElem?_cons_succ, List.getElem?_cons_zero, List.set_cons_succ, List.set_cons_zero, Option.some.injEq, Sl.v.injEq, Sl.o.injEq, D.int.injEq, D.bl.injEq, D.str.injEq, D.tup.injEq, D.lst.injEq, D.dic.injEq, reduceCtorEq, false_or, or_false, exists_eq_left', exists_eq_left, exists_eq', List.length_cons, List.length_nil, Nat.reduceAdd, true_and, and_true, decide_eq_true_eq, if_true, if_false, Bool.false_eq_true, Bool.not_true, Bool.not_false, Sq, Fb, wipeE]
  refine ⟨⟨_, rfl⟩, ?_, ?_⟩
  · rintro i d ρ st' hd ⟨rfl, a, rfl⟩
    rw [List.getElem?_map] at hd
    cases hn : (nums es)[i]? with
    | none => rw [hn] at hd; cases hd
    | some n =>
      rw [hn] at hd
      obtain rfl : D.int n = d := Option.some.inj hd
      refine ⟨_, rfl, ?_⟩
      have tk : (nums es).take (i + 1) = (nums es).take i ++ [n] := by rw [List.take_add_one, hn]; rfl
      (first | with_reducible refine Co_seq.mpr ?_ | with_reducible refine Co_nil.mpr ?_ | with_reducible refine Co_brk.mpr ?_ | with_reducible refine Co_cont.mpr ?_ | with_reducible refine Co_retN.mpr ?_ | with_reducible refine Co_set' ?_ | with_reducible refine Co_own' ?_ | with_reducible refine Co_ret' ?_ | with_reducible refine Co_expr' ?_ | with_reducible refine Co_if' ?_ | with_reducible refine Co_frz' ?_ | with_reducible refine Co_app' ?_ | with_reducible refine Co_put' ?_ | with_reducible refine Co_aug' ?_ | with_reducible refine Co_asg' ?_)
      try simp only [Eo_C, Eo_V, Eo_B, Eo_bin, Eo_un, Eo_and, Eo_or, Eo_not, Eo_if, Eo_free, As_nil, As_cons, Eo_fn, Eo_call, As_seq, As_bor, As_rng1, Po_no, Po_E, Eo_sl, Eo_get1, dAdd_int, dSub_int, dLt_int, dLe_int, dGt_int, dGe_int, dNeg_int, dMax2_int, dMin2_int, dLen_lst, dLen_tup, dTuple_lst, dTuple_tup, dRev_lst, dAt_lst, dAt_tup, dAt_dic, dEq_int, dLst_nil, at_0, at_1, at_2, at_3, List.getElem?_cons_succ, List.getElem?_cons_zero, List.set_cons_succ, List.set_cons_zero, Option.some.injEq, Sl.v.injEq, Sl.o.injEq, D.int.injEq, D.bl.injEq, D.str.injEq, D.tup.injEq, D.lst.injEq, D.dic.injEq, reduceCtorEq, false_or, or_false, exists_eq_left', exists_eq_left, exists_eq', List.length_cons, List.length_nil, Nat.reduceAdd, true_and, and_true, decide_eq_true_eq, if_true, if_false, Bool.false_eq_true, Bool.not_true, Bool.not_false, Sq, Fb, wipeE]
      rw [Fo_of said_runs]
      try simp only [Eo_C, Eo_V, Eo_B, Eo_bin, Eo_un, Eo_and, Eo_or, Eo_not, Eo_if, Eo_free, As_nil, As_cons, Eo_fn, Eo_call, As_seq, As_bor, As_rng1, Po_no, Po_E, Eo_sl, Eo_get1, dAdd_int, dSub_int, dLt_int, dLe_int, dGt_int, dGe_int, dNeg_int, dMax2_int, dMin2_int, dLen_lst, dLen_tup, dTuple_lst, dTuple_tup, dRev_lst, dAt_lst, dAt_tup, dAt_dic, dEq_int, dLst_nil, at_0, at_1, at_2, at_3, List.getElem?_cons_succ, List.getElem?_cons_zero, List.set_cons_succ, List.set_cons_zero, Option.some.injEq, Sl.v.injEq, Sl.o.injEq, D.int.injEq, D.bl.injEq, D.str.injEq, D.tup.injEq, D.lst.injEq, D.dic.injEq, reduceCtorEq, false_or, or_false, exists_eq_left', exists_eq_left, exists_eq', List.length_cons, List.length_nil, Nat.reduceAdd, true_and, and_true, decide_eq_true_eq, if_true, if_false, Bool.false_eq_true, Bool.not_true, Bool.not_false, Sq, Fb, wipeE]
      rw [Fo_of said_runs]
      refine ⟨_, dNe_n _ _, _, rfl, ?_⟩
      refine iteD (fun h => ?_) (fun h => ?_)
      · (first | with_reducible refine Co_seq.mpr ?_ | with_reducible refine Co_nil.mpr ?_ | with_reducible refine Co_brk.mpr ?_ | with_reducible refine Co_cont.mpr ?_ | with_reducible refine Co_retN.mpr ?_ | with_reducible refine Co_set' ?_ | with_reducible refine Co_own' ?_ | with_reducible refine Co_ret' ?_ | with_reducible refine Co_expr' ?_ | with_reducible refine Co_if' ?_ | with_reducible refine Co_frz' ?_ | with_reducible refine Co_app' ?_ | with_reducible refine Co_put' ?_ | with_reducible refine Co_aug' ?_ | with_reducible refine Co_asg' ?_)
        try simp only [Eo_C, Eo_V, Eo_B, Eo_bin, Eo_un, Eo_and, Eo_or, Eo_not, Eo_if, Eo_free, As_nil, As_cons, Eo_fn, Eo_call, As_seq, As_bor, As_rng1, Po_no, Po_E, Eo_sl, Eo_get1, dAdd_int, dSub_int, dLt_int, dLe_int, dGt_int, dGe_int, dNeg_int, dMax2_int, dMin2_int, dLen_lst, dLen_tup, dTuple_lst, dTuple_tup, dRev_lst, dAt_lst, dAt_tup, dAt_dic, dEq_int, dLst_nil, at_0, at_1, at_2, at_3, List.getElem?_cons_succ, List.getElem?_cons_zero, List.set_cons_succ, List.set_cons_zero, Option.some.injEq, Sl.v.injEq, Sl.o.injEq, D.int.injEq, D.bl.injEq, D.str.injEq, D.tup.injEq, D.lst.injEq, D.dic.injEq, reduceCtorEq, false_or, or_false, exists_eq_left', exists_eq_left, exists_eq', List.length_cons, List.length_nil, Nat.reduceAdd, true_and, and_true, decide_eq_true_eq, if_true, if_false, Bool.false_eq_true, Bool.not_true, Bool.not_false, Sq, Fb, wipeE]
        have e2 : (((nums es).take (i + 1)).filter fun n => dif (said es n day) (said es n later)).map D.int = (((nums es).take i).filter fun n => dif (said es n day) (said es n later)).map D.int ++ [.int n] := by
          rw [tk, List.filter_append, List.filter_cons_of_pos (by exact h), List.map_append]
          rfl
        rw [e2]
        refine ⟨Nat.lt_of_le_of_lt (m := 64) ?_ (by decide), _, rfl⟩
        rw [List.length_map]
        exact Nat.le_trans (List.length_filter_le _ _) (by rw [List.length_take]; have := nums_len es; omega)
      · (first | with_reducible refine Co_seq.mpr ?_ | with_reducible refine Co_nil.mpr ?_ | with_reducible refine Co_brk.mpr ?_ | with_reducible refine Co_cont.mpr ?_ | with_reducible refine Co_retN.mpr ?_ | with_reducible refine Co_set' ?_ | with_reducible refine Co_own' ?_ | with_reducible refine Co_ret' ?_ | with_reducible refine Co_expr' ?_ | with_reducible refine Co_if' ?_ | with_reducible refine Co_frz' ?_ | with_reducible refine Co_app' ?_ | with_reducible refine Co_put' ?_ | with_reducible refine Co_aug' ?_ | with_reducible refine Co_asg' ?_)
        have e2 : (((nums es).take (i + 1)).filter fun n => dif (said es n day) (said es n later)) = (((nums es).take i).filter fun n => dif (said es n day) (said es n later)) := by
          rw [tk, List.filter_append, List.filter_cons_of_neg (by exact h), List.filter_nil, List.append_nil]
        rw [e2]
        exact ⟨rfl, _, rfl⟩
  · rintro ρ st' ⟨rfl, a, rfl⟩
    rw [List.length_map, List.take_length]
    (first | with_reducible refine Co_seq.mpr ?_ | with_reducible refine Co_nil.mpr ?_ | with_reducible refine Co_brk.mpr ?_ | with_reducible refine Co_cont.mpr ?_ | with_reducible refine Co_retN.mpr ?_ | with_reducible refine Co_set' ?_ | with_reducible refine Co_own' ?_ | with_reducible refine Co_ret' ?_ | with_reducible refine Co_expr' ?_ | with_reducible refine Co_if' ?_ | with_reducible refine Co_frz' ?_ | with_reducible refine Co_app' ?_ | with_reducible refine Co_put' ?_ | with_reducible refine Co_aug' ?_ | with_reducible refine Co_asg' ?_)
    try simp only [Eo_C, Eo_V, Eo_B, Eo_bin, Eo_un, Eo_and, Eo_or, Eo_not, Eo_if, Eo_free, As_nil, As_cons, Eo_fn, Eo_call, As_seq, As_bor, As_rng1, Po_no, Po_E, Eo_sl, Eo_get1, dAdd_int, dSub_int, dLt_int, dLe_int, dGt_int, dGe_int, dNeg_int, dMax2_int, dMin2_int, dLen_lst, dLen_tup, dTuple_lst, dTuple_tup, dRev_lst, dAt_lst, dAt_tup, dAt_dic, dEq_int, dLst_nil, at_0, at_1, at_2, at_3, List.getElem?_cons_succ, List.getElem?_cons_zero, List.set_cons_succ, List.set_cons_zero, Option.some.injEq, Sl.v.injEq, Sl.o.injEq, D.int.injEq, D.bl.injEq, D.str.injEq, D.tup.injEq, D.lst.injEq, D.dic.injEq, reduceCtorEq, false_or, or_false, exists_eq_left', exists_eq_left, exists_eq', List.length_cons, List.length_nil, Nat.reduceAdd, true_and, and_true, decide_eq_true_eq, if_true, if_false, Bool.false_eq_true, Bool.not_true, Bool.not_false, Sq, Fb, wipeE]
    exact p
/-! ### histories -/
def prD (e : En) : D := .tup [.int e.day, nD e.no]
theorem prD1 (e : En) : dAt (prD e) (.int 1) = some (nD e.no) := dAt_tup _ _
def under (es : List En) (n : Int) : List En := es.filter fun e => decide (e.num = n)
theorem entries_runs {es : List En} {n : Int} {st : DS} (hl : es.length < 64) : F_entries_of [.tup (bk es), .int n] st = some (.ok (.tup ((under es n).map prD)), st) := by
  refine to_Fo fun P p => ?_
  unfold F_entries_of
  (refine Fo_body.mpr ⟨rfl, ?_⟩; simp only [List.map_cons, List.map_nil, List.cons_append, List.nil_append, Nat.reduceSub, List.reduceReplicate])
  unfold G_entries_of
  (first | with_reducible refine Co_seq.mpr ?_ | with_reducible refine Co_nil.mpr ?_ | with_reducible refine Co_brk.mpr ?_ | with_reducible refine Co_cont.mpr ?_ | with_reducible refine Co_retN.mpr ?_ | with_reducible refine Co_set' ?_ | with_reducible refine Co_own' ?_ | with_reducible refine Co_ret' ?_ | with_reducible refine Co_expr' ?_ | with_reducible refine Co_if' ?_ | with_reducible refine Co_frz' ?_ | with_reducible refine Co_app' ?_ | with_reducible refine Co_put' ?_ | with_reducible refine Co_aug' ?_ | with_reducible refine Co_asg' ?_)
  try simp only [Eo_C, Eo_V, Eo_B, Eo_bin, Eo_un, Eo_and, Eo_or, Eo_not, Eo_if, Eo_free, As_nil, As_cons, Eo_fn, Eo_call, As_seq, As_bor, As_rng1, Po_no, Po_E, Eo_sl, Eo_get1, dAdd_int, dSub_int, dLt_int, dLe_int, dGt_int, dGe_int, dNeg_int, dMax2_int, dMin2_int, dLen_lst, dLen_tup, dTuple_lst, dTuple_tup, dRev_lst, dAt_lst, dAt_tup, dAt_dic, dEq_int, dLst_nil, at_0, at_1, at_2, at_3, List.getElem?_cons_succ, List.getElem?_cons_zero, List.set_cons_succ, List.set_cons_zero, Option.some.injEq, Sl.v.injEq, Sl.o.injEq, D.int.injEq, D.bl.injEq, D.str.injEq, D.tup.injEq, D.lst.injEq, D.dic.injEq, reduceCtorEq, false_or, or_false, exists_eq_left', exists_eq_left, exists_eq', List.length_cons, List.length_nil, Nat.reduceAdd, true_and, and_true, decide_eq_true_eq, if_true, if_false, Bool.false_eq_true, Bool.not_true, Bool.not_false, Sq, Fb, wipeE]
  refine lc_bk es (fun e => decide (e.num = n)) prD (fun PA p => by simp only [Eo_C, Eo_V, Eo_B, Eo_bin, Eo_un, Eo_and, Eo_or, Eo_not, Eo_if, Eo_free, As_nil, As_cons, Eo_fn, Eo_call, As_seq, As_bor, As_rng1, Po_no, Po_E, Eo_sl, Eo_get1, dAdd_int, dSub_int, dLt_int, dLe_int, dGt_int, dGe_int, dNeg_int, dMax2_int, dMin2_int, dLen_lst, dLen_tup, dTuple_lst, dTuple_tup, dRev_lst, dAt_lst, dAt_tup, dAt_dic, dEq_int, dLst_nil, at_0, at_1, at_2, at_3, List.getElem?_cons_succ, List.getElem?_cons_zero, List.set_cons_succ, List.set_cons_zero, Option.some.injEq, Sl.v.injEq, Sl.o.injEq, D.int.injEq, D.bl.injEq, D.str.injEq, D.tup.injEq, D.lst.injEq, D.dic.injEq, reduceCtorEq, false_or, or_false, exists_eq_left', exists_eq_left, exists_eq', List.length_cons, List.length_nil, Nat.reduceAdd, true_and, and_true, decide_eq_true_eq, if_true, if_false, Bool.false_eq_true, Bool.not_true, Bool.not_false, Sq, Fb, wipeE]; exact p) (Nat.le_of_lt hl) (fun e he => ⟨_, rfl, ?_, fun _ => ?_⟩) ?_
  · try simp only [Eo_C, Eo_V, Eo_B, Eo_bin, Eo_un, Eo_and, Eo_or, Eo_not, Eo_if, Eo_free, As_nil, As_cons, Eo_fn, Eo_call, As_seq, As_bor, As_rng1, Po_no, Po_E, Eo_sl, Eo_get1, dAdd_int, dSub_int, dLt_int, dLe_int, dGt_int, dGe_int, dNeg_int, dMax2_int, dMin2_int, dLen_lst, dLen_tup, dTuple_lst, dTuple_tup, dRev_lst, dAt_lst, dAt_tup, dAt_dic, dEq_int, dLst_nil, at_0, at_1, at_2, at_3, List.getElem?_cons_succ, List.getElem?_cons_zero, List.set_cons_succ, List.set_cons_zero, Option.some.injEq, Sl.v.injEq, Sl.o.injEq, D.int.injEq, D.bl.injEq, D.str.injEq, D.tup.injEq, D.lst.injEq, D.dic.injEq, reduceCtorEq, false_or, or_false, exists_eq_left', exists_eq_left, exists_eq', List.length_cons, List.length_nil, Nat.reduceAdd, true_and, and_true, decide_eq_true_eq, if_true, if_false, Bool.false_eq_true, Bool.not_true, Bool.not_false, Sq, Fb, wipeE]
    try simp only [En_d0, En_d1, En_d2, nD_isN, nD_notN, Option.some.injEq, exists_eq_left', dLe_int, dEq_int, D.bl.injEq]
  · try simp only [Eo_C, Eo_V, Eo_B, Eo_bin, Eo_un, Eo_and, Eo_or, Eo_not, Eo_if, Eo_free, As_nil, As_cons, Eo_fn, Eo_call, As_seq, As_bor, As_rng1, Po_no, Po_E, Eo_sl, Eo_get1, dAdd_int, dSub_int, dLt_int, dLe_int, dGt_int, dGe_int, dNeg_int, dMax2_int, dMin2_int, dLen_lst, dLen_tup, dTuple_lst, dTuple_tup, dRev_lst, dAt_lst, dAt_tup, dAt_dic, dEq_int, dLst_nil, at_0, at_1, at_2, at_3, List.getElem?_cons_succ, List.getElem?_cons_zero, List.set_cons_succ, List.set_cons_zero, Option.some.injEq, Sl.v.injEq, Sl.o.injEq, D.int.injEq, D.bl.injEq, D.str.injEq, D.tup.injEq, D.lst.injEq, D.dic.injEq, reduceCtorEq, false_or, or_false, exists_eq_left', exists_eq_left, exists_eq', List.length_cons, List.length_nil, Nat.reduceAdd, true_and, and_true, decide_eq_true_eq, if_true, if_false, Bool.false_eq_true, Bool.not_true, Bool.not_false, Sq, Fb, wipeE]
    try simp only [En_d0, En_d1, En_d2, nD_isN, nD_notN, Option.some.injEq, exists_eq_left', dLe_int, dEq_int, D.bl.injEq]
    exact ⟨_, dTup_of [.int e.day, nD e.no] (by show 2 ≤ sizeLine; decide), rfl⟩
  · exact ⟨_, rfl, p⟩
def more (l : List En) (i : Nat) : Bool := decide (i = 0) || match l[i]?, l[i - 1]? with
  | some a, some b => dif a.no b.no
  | _, _ => false
theorem says_runs {l : List En} {i : Nat} {st : DS} (hi : i < l.length) : F_says_more [.tup (l.map prD), .int (i : Int)] st = some (.ok (.bl (more l i)), st) := by
  refine to_Fo fun P p => ?_
  unfold F_says_more
  (refine Fo_body.mpr ⟨rfl, ?_⟩; simp only [List.map_cons, List.map_nil, List.cons_append, List.nil_append, Nat.reduceSub, List.reduceReplicate])
  unfold G_says_more
  (first | with_reducible refine Co_seq.mpr ?_ | with_reducible refine Co_nil.mpr ?_ | with_reducible refine Co_brk.mpr ?_ | with_reducible refine Co_cont.mpr ?_ | with_reducible refine Co_retN.mpr ?_ | with_reducible refine Co_set' ?_ | with_reducible refine Co_own' ?_ | with_reducible refine Co_ret' ?_ | with_reducible refine Co_expr' ?_ | with_reducible refine Co_if' ?_ | with_reducible refine Co_frz' ?_ | with_reducible refine Co_app' ?_ | with_reducible refine Co_put' ?_ | with_reducible refine Co_aug' ?_ | with_reducible refine Co_asg' ?_)
  try simp only [Eo_C, Eo_V, Eo_B, Eo_bin, Eo_un, Eo_and, Eo_or, Eo_not, Eo_if, Eo_free, As_nil, As_cons, Eo_fn, Eo_call, As_seq, As_bor, As_rng1, Po_no, Po_E, Eo_sl, Eo_get1, dAdd_int, dSub_int, dLt_int, dLe_int, dGt_int, dGe_int, dNeg_int, dMax2_int, dMin2_int, dLen_lst, dLen_tup, dTuple_lst, dTuple_tup, dRev_lst, dAt_lst, dAt_tup, dAt_dic, dEq_int, dLst_nil, at_0, at_1, at_2, at_3, List.getElem?_cons_succ, List.getElem?_cons_zero, List.set_cons_succ, List.set_cons_zero, Option.some.injEq, Sl.v.injEq, Sl.o.injEq, D.int.injEq, D.bl.injEq, D.str.injEq, D.tup.injEq, D.lst.injEq, D.dic.injEq, reduceCtorEq, false_or, or_false, exists_eq_left', exists_eq_left, exists_eq', List.length_cons, List.length_nil, Nat.reduceAdd, true_and, and_true, decide_eq_true_eq, if_true, if_false, Bool.false_eq_true, Bool.not_true, Bool.not_false, Sq, Fb, wipeE]
  refine iteD (fun h => ?_) (fun h => ?_)
  · have : more l i = true := by unfold more; have : i = 0 := by omega
                                 rw [decide_eq_true this]; rfl
    rw [this] at p
    exact p
  · have h0 : i ≠ 0 := fun e => h (by omega)
    have hj : i - 1 < l.length := by omega
    have a1 : atI (l.map prD) (i : Int) = some (prD l[i]) := atI_nat (by rw [List.getElem?_map, List.getElem?_eq_getElem hi]; rfl)
    have a2 : atI (l.map prD) ((i : Int) - 1) = some (prD l[i - 1]) := by
      have e : (i : Int) - 1 = ((i - 1 : Nat) : Int) := by omega
      rw [e]
      exact atI_nat (by rw [List.getElem?_map, List.getElem?_eq_getElem hj]; rfl)
    have e : more l i = dif l[i].no l[i - 1].no := by
      unfold more
      rw [decide_eq_false h0, List.getElem?_eq_getElem hi, List.getElem?_eq_getElem hj]; rfl
    rw [e] at p
    simp only [a1, a2, prD1, Option.some.injEq, exists_eq_left', dNe_n]
    exact p
def hix (l : List En) : List En := ((List.range l.length).filter (more l)).filterMap fun i => l[i]?
theorem dif_false {a b : Option Nt} (h : dif a b = false) : a = b := by
  unfold dif at h
  have h' : D.eqv (nD a) (nD b) = true := by simpa using h
  cases a with
  | none =>
    cases b with
    | none => rfl
    | some y => unfold D.eqv nD Nt.d D.py PyData.eqv at h'; cases h'
  | some x =>
    cases b with
    | none => unfold D.eqv nD Nt.d D.py PyData.eqv at h'; cases h'
    | some y =>
      obtain ⟨a1, a2, a3, a4⟩ := x
      obtain ⟨b1, b2, b3, b4⟩ := y
      simp [D.eqv, nD, Nt.d, D.py, D.pyAll, PyData.eqv, PyData.eqvAll] at h'
      obtain ⟨rfl, rfl, rfl, rfl⟩ := h'
      rfl
theorem more_app {l : List En} {e : En} {i : Nat} (h : i < l.length) : more (l ++ [e]) i = more l i := by
  unfold more
  rw [List.getElem?_append_left h, List.getElem?_append_left (by omega)]
theorem fm_congr {α β : Type} {f g : α → Option β} : ∀ {l : List α}, (∀ x ∈ l, f x = g x) → l.filterMap f = l.filterMap g
  | [], _ => rfl
  | a :: l, h => by
    rw [List.filterMap_cons, List.filterMap_cons, h a List.mem_cons_self, fm_congr fun x hx => h x (List.mem_cons_of_mem _ hx)]
theorem hix_snoc (l : List En) (e : En) : hix (l ++ [e]) = hix l ++ (if more (l ++ [e]) l.length = true then [e] else []) := by
  unfold hix
  rw [List.length_append, List.length_singleton, List.range_succ, List.filter_append, List.filterMap_append]
  congr 1
  · have e1 : (List.range l.length).filter (more (l ++ [e])) = (List.range l.length).filter (more l) := List.filter_congr fun i hi => more_app (List.mem_range.mp hi)
    rw [e1]
    refine fm_congr fun i hi => ?_
    have := List.mem_range.mp (List.mem_filter.mp hi).1
    rw [List.getElem?_append_left this]
  · by_cases h : more (l ++ [e]) l.length = true
    · rw [if_pos h, List.filter_cons_of_pos h]
      simp
    · rw [if_neg h, List.filter_cons_of_neg h]
      rfl
theorem hix_last (l : List En) : (hix l).getLast?.map En.no = l.getLast?.map En.no := by
  refine rev_ind (p := fun l => (hix l).getLast?.map En.no = l.getLast?.map En.no) rfl (fun l e ih => ?_) l
  rw [hix_snoc, List.getLast?_concat]
  by_cases h : more (l ++ [e]) l.length = true
  · rw [if_pos h, List.getLast?_concat]
  · rw [if_neg h, List.append_nil, ih]
    unfold more at h
    rw [Bool.or_eq_true, not_or] at h
    obtain ⟨h1, h2⟩ := h
    have hl : l.length ≠ 0 := fun e => h1 (decide_eq_true e)
    have e1 : (l ++ [e])[l.length]? = some e := by simp
    have e2 : (l ++ [e])[l.length - 1]? = l.getLast? := by
      rw [List.getElem?_append_left (by omega), List.getLast?_eq_getElem?]
    rw [e1, e2] at h2
    cases hL : l.getLast? with
    | none => rw [List.getLast?_eq_none_iff] at hL; rw [hL] at hl; exact absurd rfl hl
    | some x =>
      rw [hL] at h2
      have := dif_false (by simpa using h2)
      simp [this]
theorem rng_len {c : Nat → Bool} {n : Nat} : ((rangeD 0 n).filter fun d => match d with | .int i => c i.toNat | _ => false) = ((List.range n).filter c).map fun k : Nat => D.int k := by
  unfold rangeD
  rw [List.filter_map]
  have e1 : (fun k : Nat => D.int (0 + (k : Int))) = fun k : Nat => D.int (k : Int) := by funext k; rw [Int.zero_add]
  rw [e1]
  congr 1
theorem history_runs {es : List En} {n : Int} {st : DS} (hl : es.length < 64) : F_history [.tup (bk es), .int n] st = some (.ok (.tup ((hix (under es n)).map prD)), st) := by
  refine to_Fo fun P p => ?_
  have hu : (under es n).length < 64 := Nat.lt_of_le_of_lt (List.length_filter_le _ _) hl
  unfold F_history
  (refine Fo_body.mpr ⟨rfl, ?_⟩; simp only [List.map_cons, List.map_nil, List.cons_append, List.nil_append, Nat.reduceSub, List.reduceReplicate])
  unfold G_history
  (first | with_reducible refine Co_seq.mpr ?_ | with_reducible refine Co_nil.mpr ?_ | with_reducible refine Co_brk.mpr ?_ | with_reducible refine Co_cont.mpr ?_ | with_reducible refine Co_retN.mpr ?_ | with_reducible refine Co_set' ?_ | with_reducible refine Co_own' ?_ | with_reducible refine Co_ret' ?_ | with_reducible refine Co_expr' ?_ | with_reducible refine Co_if' ?_ | with_reducible refine Co_frz' ?_ | with_reducible refine Co_app' ?_ | with_reducible refine Co_put' ?_ | with_reducible refine Co_aug' ?_ | with_reducible refine Co_asg' ?_)
  (first | with_reducible refine Co_seq.mpr ?_ | with_reducible refine Co_nil.mpr ?_ | with_reducible refine Co_brk.mpr ?_ | with_reducible refine Co_cont.mpr ?_ | with_reducible refine Co_retN.mpr ?_ | with_reducible refine Co_set' ?_ | with_reducible refine Co_own' ?_ | with_reducible refine Co_ret' ?_ | with_reducible refine Co_expr' ?_ | with_reducible refine Co_if' ?_ | with_reducible refine Co_frz' ?_ | with_reducible refine Co_app' ?_ | with_reducible refine Co_put' ?_ | with_reducible refine Co_aug' ?_ | with_reducible refine Co_asg' ?_)
  try simp only [Eo_C, Eo_V, Eo_B, Eo_bin, Eo_un, Eo_and, Eo_or, Eo_not, Eo_if, Eo_free, As_nil, As_cons, Eo_fn, Eo_call, As_seq, As_bor, As_rng1, Po_no, Po_E, Eo_sl, Eo_get1, dAdd_int, dSub_int, dLt_int, dLe_int, dGt_int, dGe_int, dNeg_int, dMax2_int, dMin2_int, dLen_lst, dLen_tup, dTuple_lst, dTuple_tup, dRev_lst, dAt_lst, dAt_tup, dAt_dic, dEq_int, dLst_nil, at_0, at_1, at_2, at_3, List.getElem?_cons_succ, List.getElem?_cons_zero, List.set_cons_succ, List.set_cons_zero, Option.some.injEq, Sl.v.injEq, Sl.o.injEq, D.int.injEq, D.bl.injEq, D.str.injEq, D.tup.injEq, D.lst.injEq, D.dic.injEq, reduceCtorEq, false_or, or_false, exists_eq_left', exists_eq_left, exists_eq', List.length_cons, List.length_nil, Nat.reduceAdd, true_and, and_true, decide_eq_true_eq, if_true, if_false, Bool.false_eq_true, Bool.not_true, Bool.not_false, Sq, Fb, wipeE]
  rw [Fo_of (entries_runs hl)]
  try simp only [Eo_C, Eo_V, Eo_B, Eo_bin, Eo_un, Eo_and, Eo_or, Eo_not, Eo_if, Eo_free, As_nil, As_cons, Eo_fn, Eo_call, As_seq, As_bor, As_rng1, Po_no, Po_E, Eo_sl, Eo_get1, dAdd_int, dSub_int, dLt_int, dLe_int, dGt_int, dGe_int, dNeg_int, dMax2_int, dMin2_int, dLen_lst, dLen_tup, dTuple_lst, dTuple_tup, dRev_lst, dAt_lst, dAt_tup, dAt_dic, dEq_int, dLst_nil, at_0, at_1, at_2, at_3, List.getElem?_cons_succ, List.getElem?_cons_zero, List.set_cons_succ, List.set_cons_zero, Option.some.injEq, Sl.v.injEq, Sl.o.injEq, D.int.injEq, D.bl.injEq, D.str.injEq, D.tup.injEq, D.lst.injEq, D.dic.injEq, reduceCtorEq, false_or, or_false, exists_eq_left', exists_eq_left, exists_eq', List.length_cons, List.length_nil, Nat.reduceAdd, true_and, and_true, decide_eq_true_eq, if_true, if_false, Bool.false_eq_true, Bool.not_true, Bool.not_false, Sq, Fb, wipeE]
  (first | with_reducible refine Co_seq.mpr ?_ | with_reducible refine Co_nil.mpr ?_ | with_reducible refine Co_brk.mpr ?_ | with_reducible refine Co_cont.mpr ?_ | with_reducible refine Co_retN.mpr ?_ | with_reducible refine Co_set' ?_ | with_reducible refine Co_own' ?_ | with_reducible refine Co_ret' ?_ | with_reducible refine Co_expr' ?_ | with_reducible refine Co_if' ?_ | with_reducible refine Co_frz' ?_ | with_reducible refine Co_app' ?_ | with_reducible refine Co_put' ?_ | with_reducible refine Co_aug' ?_ | with_reducible refine Co_asg' ?_)
  try simp only [Eo_C, Eo_V, Eo_B, Eo_bin, Eo_un, Eo_and, Eo_or, Eo_not, Eo_if, Eo_free, As_nil, As_cons, Eo_fn, Eo_call, As_seq, As_bor, As_rng1, Po_no, Po_E, Eo_sl, Eo_get1, dAdd_int, dSub_int, dLt_int, dLe_int, dGt_int, dGe_int, dNeg_int, dMax2_int, dMin2_int, dLen_lst, dLen_tup, dTuple_lst, dTuple_tup, dRev_lst, dAt_lst, dAt_tup, dAt_dic, dEq_int, dLst_nil, at_0, at_1, at_2, at_3, List.getElem?_cons_succ, List.getElem?_cons_zero, List.set_cons_succ, List.set_cons_zero, Option.some.injEq, Sl.v.injEq, Sl.o.injEq, D.int.injEq, D.bl.injEq, D.str.injEq, D.tup.injEq, D.lst.injEq, D.dic.injEq, reduceCtorEq, false_or, or_false, exists_eq_left', exists_eq_left, exists_eq', List.length_cons, List.length_nil, Nat.reduceAdd, true_and, and_true, decide_eq_true_eq, if_true, if_false, Bool.false_eq_true, Bool.not_true, Bool.not_false, Sq, Fb, wipeE]
  refine Eo_lc' (fun d => match d with | .int i => more (under es n) i.toNat | _ => false) (fun d => match d with | .int i => ((under es n).map prD).getD i.toNat .non | _ => .non) ?_
  try simp only [Eo_C, Eo_V, Eo_B, Eo_bin, Eo_un, Eo_and, Eo_or, Eo_not, Eo_if, Eo_free, As_nil, As_cons, Eo_fn, Eo_call, As_seq, As_bor, As_rng1, Po_no, Po_E, Eo_sl, Eo_get1, dAdd_int, dSub_int, dLt_int, dLe_int, dGt_int, dGe_int, dNeg_int, dMax2_int, dMin2_int, dLen_lst, dLen_tup, dTuple_lst, dTuple_tup, dRev_lst, dAt_lst, dAt_tup, dAt_dic, dEq_int, dLst_nil, at_0, at_1, at_2, at_3, List.getElem?_cons_succ, List.getElem?_cons_zero, List.set_cons_succ, List.set_cons_zero, Option.some.injEq, Sl.v.injEq, Sl.o.injEq, D.int.injEq, D.bl.injEq, D.str.injEq, D.tup.injEq, D.lst.injEq, D.dic.injEq, reduceCtorEq, false_or, or_false, exists_eq_left', exists_eq_left, exists_eq', List.length_cons, List.length_nil, Nat.reduceAdd, true_and, and_true, decide_eq_true_eq, if_true, if_false, Bool.false_eq_true, Bool.not_true, Bool.not_false, Sq, Fb, wipeE]
  rw [List.length_map]
  refine ⟨⟨by omega, by omega⟩, ?_, fun d hd => ?_, ?_⟩
  · unfold rangeD
    rw [List.length_map, List.length_range]
    exact Nat.le_trans (by omega : ((under es n).length : Int).toNat ≤ 64) (by decide)
  · unfold rangeD at hd
    obtain ⟨k, hk, rfl⟩ := List.mem_map.mp hd
    have hk' : k < (under es n).length := by have := List.mem_range.mp hk; omega
    rw [Int.zero_add]
    refine ⟨_, rfl, ?_, fun _ => ?_⟩
    · try simp only [Eo_C, Eo_V, Eo_B, Eo_bin, Eo_un, Eo_and, Eo_or, Eo_not, Eo_if, Eo_free, As_nil, As_cons, Eo_fn, Eo_call, As_seq, As_bor, As_rng1, Po_no, Po_E, Eo_sl, Eo_get1, dAdd_int, dSub_int, dLt_int, dLe_int, dGt_int, dGe_int, dNeg_int, dMax2_int, dMin2_int, dLen_lst, dLen_tup, dTuple_lst, dTuple_tup, dRev_lst, dAt_lst, dAt_tup, dAt_dic, dEq_int, dLst_nil, at_0, at_1, at_2, at_3, List.getElem?_cons_succ, List.getElem?_cons_zero, List.set_cons_succ, List.set_cons_zero, Option.some.injEq, Sl.v.injEq, Sl.o.injEq, D.int.injEq, D.bl.injEq, D.str.injEq, D.tup.injEq, D.lst.injEq, D.dic.injEq, reduceCtorEq, false_or, or_false, exists_eq_left', exists_eq_left, exists_eq', List.length_cons, List.length_nil, Nat.reduceAdd, true_and, and_true, decide_eq_true_eq, if_true, if_false, Bool.false_eq_true, Bool.not_true, Bool.not_false, Sq, Fb, wipeE]
      rw [Fo_of (says_runs hk')]
      refine ⟨?_, rfl⟩
      rw [Int.toNat_natCast]
    · try simp only [Eo_C, Eo_V, Eo_B, Eo_bin, Eo_un, Eo_and, Eo_or, Eo_not, Eo_if, Eo_free, As_nil, As_cons, Eo_fn, Eo_call, As_seq, As_bor, As_rng1, Po_no, Po_E, Eo_sl, Eo_get1, dAdd_int, dSub_int, dLt_int, dLe_int, dGt_int, dGe_int, dNeg_int, dMax2_int, dMin2_int, dLen_lst, dLen_tup, dTuple_lst, dTuple_tup, dRev_lst, dAt_lst, dAt_tup, dAt_dic, dEq_int, dLst_nil, at_0, at_1, at_2, at_3, List.getElem?_cons_succ, List.getElem?_cons_zero, List.set_cons_succ, List.set_cons_zero, Option.some.injEq, Sl.v.injEq, Sl.o.injEq, D.int.injEq, D.bl.injEq, D.str.injEq, D.tup.injEq, D.lst.injEq, D.dic.injEq, reduceCtorEq, false_or, or_false, exists_eq_left', exists_eq_left, exists_eq', List.length_cons, List.length_nil, Nat.reduceAdd, true_and, and_true, decide_eq_true_eq, if_true, if_false, Bool.false_eq_true, Bool.not_true, Bool.not_false, Sq, Fb, wipeE]
      have a1 : atI ((under es n).map prD) (k : Int) = some (prD (under es n)[k]) := atI_nat (by rw [List.getElem?_map, List.getElem?_eq_getElem hk']; rfl)
      rw [a1]
      try simp only [Eo_C, Eo_V, Eo_B, Eo_bin, Eo_un, Eo_and, Eo_or, Eo_not, Eo_if, Eo_free, As_nil, As_cons, Eo_fn, Eo_call, As_seq, As_bor, As_rng1, Po_no, Po_E, Eo_sl, Eo_get1, dAdd_int, dSub_int, dLt_int, dLe_int, dGt_int, dGe_int, dNeg_int, dMax2_int, dMin2_int, dLen_lst, dLen_tup, dTuple_lst, dTuple_tup, dRev_lst, dAt_lst, dAt_tup, dAt_dic, dEq_int, dLst_nil, at_0, at_1, at_2, at_3, List.getElem?_cons_succ, List.getElem?_cons_zero, List.set_cons_succ, List.set_cons_zero, Option.some.injEq, Sl.v.injEq, Sl.o.injEq, D.int.injEq, D.bl.injEq, D.str.injEq, D.tup.injEq, D.lst.injEq, D.dic.injEq, reduceCtorEq, false_or, or_false, exists_eq_left', exists_eq_left, exists_eq', List.length_cons, List.length_nil, Nat.reduceAdd, true_and, and_true, decide_eq_true_eq, if_true, if_false, Bool.false_eq_true, Bool.not_true, Bool.not_false, Sq, Fb, wipeE]
      rw [Int.toNat_natCast]
      simp [hk']
  · rw [rng_len, Int.toNat_natCast, List.map_map]
    have e : ∀ is : List Nat, (∀ i ∈ is, i < (under es n).length) → is.map ((fun d => match d with | .int i => ((under es n).map prD).getD i.toNat .non | _ => .non) ∘ fun k : Nat => D.int k) = (is.filterMap fun i => (under es n)[i]?).map prD := by
      intro is
      induction is with
      | nil => intro _; rfl
      | cons i is ih =>
        intro h
        have hi := h i List.mem_cons_self
        rw [List.map_cons, ih (fun j hj => h j (List.mem_cons_of_mem _ hj)), List.filterMap_cons, List.getElem?_eq_getElem hi]
        simp [hi]
    rw [e _ (fun i hi => List.mem_range.mp (List.mem_filter.mp hi).1)]
    exact p
theorem law_history_runs {es : List En} {n : Int} {st : DS} (hl : es.length < 64) : F_law_history [.lst (bk es), .int n] st = some (.ok (.tup ((hix (under es n)).map prD)), st) := by
  refine to_Fo fun P p => ?_
  unfold F_law_history
  (refine Fo_body.mpr ⟨rfl, ?_⟩; simp only [List.map_cons, List.map_nil, List.cons_append, List.nil_append, Nat.reduceSub, List.reduceReplicate])
  unfold G_law_history
  (first | with_reducible refine Co_seq.mpr ?_ | with_reducible refine Co_nil.mpr ?_ | with_reducible refine Co_brk.mpr ?_ | with_reducible refine Co_cont.mpr ?_ | with_reducible refine Co_retN.mpr ?_ | with_reducible refine Co_set' ?_ | with_reducible refine Co_own' ?_ | with_reducible refine Co_ret' ?_ | with_reducible refine Co_expr' ?_ | with_reducible refine Co_if' ?_ | with_reducible refine Co_frz' ?_ | with_reducible refine Co_app' ?_ | with_reducible refine Co_put' ?_ | with_reducible refine Co_aug' ?_ | with_reducible refine Co_asg' ?_)
  (first | with_reducible refine Co_seq.mpr ?_ | with_reducible refine Co_nil.mpr ?_ | with_reducible refine Co_brk.mpr ?_ | with_reducible refine Co_cont.mpr ?_ | with_reducible refine Co_retN.mpr ?_ | with_reducible refine Co_set' ?_ | with_reducible refine Co_own' ?_ | with_reducible refine Co_ret' ?_ | with_reducible refine Co_expr' ?_ | with_reducible refine Co_if' ?_ | with_reducible refine Co_frz' ?_ | with_reducible refine Co_app' ?_ | with_reducible refine Co_put' ?_ | with_reducible refine Co_aug' ?_ | with_reducible refine Co_asg' ?_)
  try simp only [Eo_C, Eo_V, Eo_B, Eo_bin, Eo_un, Eo_and, Eo_or, Eo_not, Eo_if, Eo_free, As_nil, As_cons, Eo_fn, Eo_call, As_seq, As_bor, As_rng1, Po_no, Po_E, Eo_sl, Eo_get1, dAdd_int, dSub_int, dLt_int, dLe_int, dGt_int, dGe_int, dNeg_int, dMax2_int, dMin2_int, dLen_lst, dLen_tup, dTuple_lst, dTuple_tup, dRev_lst, dAt_lst, dAt_tup, dAt_dic, dEq_int, dLst_nil, at_0, at_1, at_2, at_3, List.getElem?_cons_succ, List.getElem?_cons_zero, List.set_cons_succ, List.set_cons_zero, Option.some.injEq, Sl.v.injEq, Sl.o.injEq, D.int.injEq, D.bl.injEq, D.str.injEq, D.tup.injEq, D.lst.injEq, D.dic.injEq, reduceCtorEq, false_or, or_false, exists_eq_left', exists_eq_left, exists_eq', List.length_cons, List.length_nil, Nat.reduceAdd, true_and, and_true, decide_eq_true_eq, if_true, if_false, Bool.false_eq_true, Bool.not_true, Bool.not_false, Sq, Fb, wipeE]
  (first | with_reducible refine Co_seq.mpr ?_ | with_reducible refine Co_nil.mpr ?_ | with_reducible refine Co_brk.mpr ?_ | with_reducible refine Co_cont.mpr ?_ | with_reducible refine Co_retN.mpr ?_ | with_reducible refine Co_set' ?_ | with_reducible refine Co_own' ?_ | with_reducible refine Co_ret' ?_ | with_reducible refine Co_expr' ?_ | with_reducible refine Co_if' ?_ | with_reducible refine Co_frz' ?_ | with_reducible refine Co_app' ?_ | with_reducible refine Co_put' ?_ | with_reducible refine Co_aug' ?_ | with_reducible refine Co_asg' ?_)
  refine Co_for' (fun i ρ st' => st' = st ∧ ∃ a, ρ = [.v (.lst (bk es)), .v (.int n), .o (.lst ((hix (under (es.take i) n)).map prD)), a]) ?_
  try simp only [Eo_C, Eo_V, Eo_B, Eo_bin, Eo_un, Eo_and, Eo_or, Eo_not, Eo_if, Eo_free, As_nil, As_cons, Eo_fn, Eo_call, As_seq, As_bor, As_rng1, Po_no, Po_E, Eo_sl, Eo_get1, dAdd_int, dSub_int, dLt_int, dLe_int, dGt_int, dGe_int, dNeg_int, dMax2_int, dMin2_int, dLen_lst, dLen_tup, dTuple_lst, dTuple_tup, dRev_lst, dAt_lst, dAt_tup, dAt_dic, dEq_int, dLst_nil, at_0, at_1, at_2, at_3, List.getElem?_cons_succ, List.getElem?_cons_zero, List.set_cons_succ, List.set_cons_zero, Option.some.injEq, Sl.v.injEq, Sl.o.injEq, D.int.injEq, D.bl.injEq, D.str.injEq, D.tup.injEq, D.lst.injEq, D.dic.injEq, reduceCtorEq, false_or, or_false, exists_eq_left', exists_eq_left, exists_eq', List.length_cons, List.length_nil, Nat.reduceAdd, true_and, and_true, decide_eq_true_eq, if_true, if_false, Bool.false_eq_true, Bool.not_true, Bool.not_false, Sq, Fb, wipeE]
  refine ⟨⟨_, rfl⟩, ?_, ?_⟩
  · rintro i d ρ st' hd ⟨rfl, a, rfl⟩
    obtain ⟨e, he, rfl⟩ := bk_get hd
    refine ⟨_, rfl, ?_⟩
    have tk : es.take (i + 1) = es.take i ++ [e] := by rw [List.take_add_one, he]; rfl
    have hs : (hix (under (es.take i) n)).length < 64 := by
      refine Nat.lt_of_le_of_lt (List.length_filterMap_le _ _) (Nat.lt_of_le_of_lt (List.length_filter_le _ _) ?_)
      rw [List.length_range]
      refine Nat.lt_of_le_of_lt (List.length_filter_le _ _) ?_
      rw [List.length_take]; omega
    (first | with_reducible refine Co_seq.mpr ?_ | with_reducible refine Co_nil.mpr ?_ | with_reducible refine Co_brk.mpr ?_ | with_reducible refine Co_cont.mpr ?_ | with_reducible refine Co_retN.mpr ?_ | with_reducible refine Co_set' ?_ | with_reducible refine Co_own' ?_ | with_reducible refine Co_ret' ?_ | with_reducible refine Co_expr' ?_ | with_reducible refine Co_if' ?_ | with_reducible refine Co_frz' ?_ | with_reducible refine Co_app' ?_ | with_reducible refine Co_put' ?_ | with_reducible refine Co_aug' ?_ | with_reducible refine Co_asg' ?_)
    try simp only [Eo_C, Eo_V, Eo_B, Eo_bin, Eo_un, Eo_and, Eo_or, Eo_not, Eo_if, Eo_free, As_nil, As_cons, Eo_fn, Eo_call, As_seq, As_bor, As_rng1, Po_no, Po_E, Eo_sl, Eo_get1, dAdd_int, dSub_int, dLt_int, dLe_int, dGt_int, dGe_int, dNeg_int, dMax2_int, dMin2_int, dLen_lst, dLen_tup, dTuple_lst, dTuple_tup, dRev_lst, dAt_lst, dAt_tup, dAt_dic, dEq_int, dLst_nil, at_0, at_1, at_2, at_3, List.getElem?_cons_succ, List.getElem?_cons_zero, List.set_cons_succ, List.set_cons_zero, Option.some.injEq, Sl.v.injEq, Sl.o.injEq, D.int.injEq, D.bl.injEq, D.str.injEq, D.tup.injEq, D.lst.injEq, D.dic.injEq, reduceCtorEq, false_or, or_false, exists_eq_left', exists_eq_left, exists_eq', List.length_cons, List.length_nil, Nat.reduceAdd, true_and, and_true, decide_eq_true_eq, if_true, if_false, Bool.false_eq_true, Bool.not_true, Bool.not_false, Sq, Fb, wipeE]
    try simp only [En_d0, En_d1, En_d2, nD_isN, nD_notN, Option.some.injEq, exists_eq_left', dLe_int, dEq_int, D.bl.injEq]
    refine iteD (fun h => ?_) (fun h => ?_)
    · have hu : under (es.take (i + 1)) n = under (es.take i) n ++ [e] := by
        unfold under
        rw [tk, List.filter_append, List.filter_cons_of_pos (by simpa using h)]; rfl
      have add : more (under (es.take i) n ++ [e]) (under (es.take i) n).length = true → Co (cAppend 2 (eFn dTup (eCons (eBin dAt (eV 3) (eC (.int 0))) (eCons (eBin dAt (eV 3) (eC (.int 2))) eNil))))
          [.v (.lst (bk es)), .v (.int n), .o (.lst ((hix (under (es.take i) n)).map prD)), .v e.d] st' fun fl ρ2 st2 => match fl with
          | .nx => st2 = st' ∧ ∃ a, ρ2 = [.v (.lst (bk es)), .v (.int n), .o (.lst ((hix (under (es.take (i + 1)) n)).map prD)), a]
          | .ct => st2 = st' ∧ ∃ a, ρ2 = [.v (.lst (bk es)), .v (.int n), .o (.lst ((hix (under (es.take (i + 1)) n)).map prD)), a]
          | .bk => Co (cRet (eFn dTuple (eCons (eB 2) eNil))) ρ2 st2 (Fb P)
          | .rt d => P d st2
          | .ex x => False := by
        intro hm
        refine Co_app' ?_
        try simp only [Eo_C, Eo_V, Eo_B, Eo_bin, Eo_un, Eo_and, Eo_or, Eo_not, Eo_if, Eo_free, As_nil, As_cons, Eo_fn, Eo_call, As_seq, As_bor, As_rng1, Po_no, Po_E, Eo_sl, Eo_get1, dAdd_int, dSub_int, dLt_int, dLe_int, dGt_int, dGe_int, dNeg_int, dMax2_int, dMin2_int, dLen_lst, dLen_tup, dTuple_lst, dTuple_tup, dRev_lst, dAt_lst, dAt_tup, dAt_dic, dEq_int, dLst_nil, at_0, at_1, at_2, at_3, List.getElem?_cons_succ, List.getElem?_cons_zero, List.set_cons_succ, List.set_cons_zero, Option.some.injEq, Sl.v.injEq, Sl.o.injEq, D.int.injEq, D.bl.injEq, D.str.injEq, D.tup.injEq, D.lst.injEq, D.dic.injEq, reduceCtorEq, false_or, or_false, exists_eq_left', exists_eq_left, exists_eq', List.length_cons, List.length_nil, Nat.reduceAdd, true_and, and_true, decide_eq_true_eq, if_true, if_false, Bool.false_eq_true, Bool.not_true, Bool.not_false, Sq, Fb, wipeE]
        try simp only [En_d0, En_d1, En_d2, nD_isN, nD_notN, Option.some.injEq, exists_eq_left', dLe_int, dEq_int, D.bl.injEq]
        rw [hu, hix_snoc, if_pos hm, List.map_append]
        refine ⟨_, dTup_of [.int e.day, nD e.no] (by show 2 ≤ sizeLine; decide), ?_, _, rfl⟩
        rw [List.length_map]
        exact Nat.lt_trans hs (by decide)
      have hlast := hix_last (under (es.take i) n)
      try simp only [Eo_C, Eo_V, Eo_B, Eo_bin, Eo_un, Eo_and, Eo_or, Eo_not, Eo_if, Eo_free, As_nil, As_cons, Eo_fn, Eo_call, As_seq, As_bor, As_rng1, Po_no, Po_E, Eo_sl, Eo_get1, dAdd_int, dSub_int, dLt_int, dLe_int, dGt_int, dGe_int, dNeg_int, dMax2_int, dMin2_int, dLen_lst, dLen_tup, dTuple_lst, dTuple_tup, dRev_lst, dAt_lst, dAt_tup, dAt_dic, dEq_int, dLst_nil, at_0, at_1, at_2, at_3, List.getElem?_cons_succ, List.getElem?_cons_zero, List.set_cons_succ, List.set_cons_zero, Option.some.injEq, Sl.v.injEq, Sl.o.injEq, D.int.injEq, D.bl.injEq, D.str.injEq, D.tup.injEq, D.lst.injEq, D.dic.injEq, reduceCtorEq, false_or, or_false, exists_eq_left', exists_eq_left, exists_eq', List.length_cons, List.length_nil, Nat.reduceAdd, true_and, and_true, decide_eq_true_eq, if_true, if_false, Bool.false_eq_true, Bool.not_true, Bool.not_false, Sq, Fb, wipeE]
      refine iteD (fun h2 => ?_) (fun h2 => ?_)
      · refine add ?_
        have e1 : hix (under (es.take i) n) = [] := by
          rw [List.length_map] at h2
          exact List.eq_nil_of_length_eq_zero (by omega)
        have e2 : under (es.take i) n = [] := by
          rw [e1] at hlast
          cases hL : (under (es.take i) n).getLast? with
          | none => exact List.getLast?_eq_none_iff.mp hL
          | some x => rw [hL] at hlast; cases hlast
        rw [e2]; rfl
      · have hne : hix (under (es.take i) n) ≠ [] := fun e => h2 (by rw [e]; rfl)
        have hne2 : (hix (under (es.take i) n)).map prD ≠ [] := fun e => hne (List.map_eq_nil_iff.mp e)
        rw [at_last hne2]
        have gl : ((hix (under (es.take i) n)).map prD).getLast hne2 = prD ((hix (under (es.take i) n)).getLast hne) := List.getLast_map _
        rw [gl]
        rw [List.getLast?_eq_some_getLast hne] at hlast
        cases hL : (under (es.take i) n).getLast? with
        | none => rw [hL] at hlast; cases hlast
        | some x =>
          rw [hL] at hlast
          have hx : ((hix (under (es.take i) n)).getLast hne).no = x.no := Option.some.inj hlast
          simp only [prD1, En_d2, Option.some.injEq, exists_eq_left', hx, dNe_n, D.bl.injEq]
          have hm : more (under (es.take i) n ++ [e]) (under (es.take i) n).length = dif e.no x.no := by
            unfold more
            have e1 : (under (es.take i) n ++ [e])[(under (es.take i) n).length]? = some e := by simp
            have hu0 : (under (es.take i) n).length ≠ 0 := fun z => by
              rw [List.eq_nil_of_length_eq_zero z] at hL; cases hL
            have e2 : (under (es.take i) n ++ [e])[(under (es.take i) n).length - 1]? = some x := by
              rw [List.getElem?_append_left (by omega), ← List.getLast?_eq_getElem?]; exact hL
            rw [e1, e2, decide_eq_false hu0]; rfl
          have sym : dif x.no e.no = dif e.no x.no := by
            cases h1 : dif x.no e.no with
            | false =>
              have q := dif_false h1
              rw [q] at h1 ⊢
              exact h1.symm
            | true =>
              cases h3 : dif e.no x.no with
              | true => rfl
              | false =>
                have q := dif_false h3
                rw [q] at h1 h3
                rw [h1] at h3
                cases h3
          refine iteD (fun h3 => add (by rw [hm, ← sym]; exact h3)) (fun h3 => ?_)
          (first | with_reducible refine Co_seq.mpr ?_ | with_reducible refine Co_nil.mpr ?_ | with_reducible refine Co_brk.mpr ?_ | with_reducible refine Co_cont.mpr ?_ | with_reducible refine Co_retN.mpr ?_ | with_reducible refine Co_set' ?_ | with_reducible refine Co_own' ?_ | with_reducible refine Co_ret' ?_ | with_reducible refine Co_expr' ?_ | with_reducible refine Co_if' ?_ | with_reducible refine Co_frz' ?_ | with_reducible refine Co_app' ?_ | with_reducible refine Co_put' ?_ | with_reducible refine Co_aug' ?_ | with_reducible refine Co_asg' ?_)
          refine ⟨rfl, ?_⟩
          rw [hu, hix_snoc, if_neg (by rw [hm, ← sym]; exact h3), List.append_nil]
          exact ⟨_, rfl⟩
    · (first | with_reducible refine Co_seq.mpr ?_ | with_reducible refine Co_nil.mpr ?_ | with_reducible refine Co_brk.mpr ?_ | with_reducible refine Co_cont.mpr ?_ | with_reducible refine Co_retN.mpr ?_ | with_reducible refine Co_set' ?_ | with_reducible refine Co_own' ?_ | with_reducible refine Co_ret' ?_ | with_reducible refine Co_expr' ?_ | with_reducible refine Co_if' ?_ | with_reducible refine Co_frz' ?_ | with_reducible refine Co_app' ?_ | with_reducible refine Co_put' ?_ | with_reducible refine Co_aug' ?_ | with_reducible refine Co_asg' ?_)
      have hu : under (es.take (i + 1)) n = under (es.take i) n := by
        unfold under
        rw [tk, List.filter_append, List.filter_cons_of_neg (by simpa using h), List.filter_nil, List.append_nil]
      rw [hu]
      exact ⟨rfl, _, rfl⟩
  · rintro ρ st' ⟨rfl, a, rfl⟩
    rw [bk_len, List.take_length]
    (first | with_reducible refine Co_seq.mpr ?_ | with_reducible refine Co_nil.mpr ?_ | with_reducible refine Co_brk.mpr ?_ | with_reducible refine Co_cont.mpr ?_ | with_reducible refine Co_retN.mpr ?_ | with_reducible refine Co_set' ?_ | with_reducible refine Co_own' ?_ | with_reducible refine Co_ret' ?_ | with_reducible refine Co_expr' ?_ | with_reducible refine Co_if' ?_ | with_reducible refine Co_frz' ?_ | with_reducible refine Co_app' ?_ | with_reducible refine Co_put' ?_ | with_reducible refine Co_aug' ?_ | with_reducible refine Co_asg' ?_)
    try simp only [Eo_C, Eo_V, Eo_B, Eo_bin, Eo_un, Eo_and, Eo_or, Eo_not, Eo_if, Eo_free, As_nil, As_cons, Eo_fn, Eo_call, As_seq, As_bor, As_rng1, Po_no, Po_E, Eo_sl, Eo_get1, dAdd_int, dSub_int, dLt_int, dLe_int, dGt_int, dGe_int, dNeg_int, dMax2_int, dMin2_int, dLen_lst, dLen_tup, dTuple_lst, dTuple_tup, dRev_lst, dAt_lst, dAt_tup, dAt_dic, dEq_int, dLst_nil, at_0, at_1, at_2, at_3, List.getElem?_cons_succ, List.getElem?_cons_zero, List.set_cons_succ, List.set_cons_zero, Option.some.injEq, Sl.v.injEq, Sl.o.injEq, D.int.injEq, D.bl.injEq, D.str.injEq, D.tup.injEq, D.lst.injEq, D.dic.injEq, reduceCtorEq, false_or, or_false, exists_eq_left', exists_eq_left, exists_eq', List.length_cons, List.length_nil, Nat.reduceAdd, true_and, and_true, decide_eq_true_eq, if_true, if_false, Bool.false_eq_true, Bool.not_true, Bool.not_false, Sq, Fb, wipeE]
    exact p
/-! ### _law_same -/
theorem isi_of {a T : String} {b : Bool} {d : D} (h1 : d.ty = some a) (h2 : kitB a T = some b) : dIsi T d = some (.bl b) := by
  unfold dIsi
  rw [h1]
  show (kitB a T).map D.bl = _
  rw [h2]; rfl
theorem is_int_runs {i : Int} {st : DS} : F_law_is_int [.int i] st = some (.ok (.bl true), st) := by
  refine to_Fo fun P p => ?_
  unfold F_law_is_int
  (refine Fo_body.mpr ⟨rfl, ?_⟩; simp only [List.map_cons, List.map_nil, List.cons_append, List.nil_append, Nat.reduceSub, List.reduceReplicate])
  unfold G_law_is_int
  (first | with_reducible refine Co_seq.mpr ?_ | with_reducible refine Co_nil.mpr ?_ | with_reducible refine Co_brk.mpr ?_ | with_reducible refine Co_cont.mpr ?_ | with_reducible refine Co_retN.mpr ?_ | with_reducible refine Co_set' ?_ | with_reducible refine Co_own' ?_ | with_reducible refine Co_ret' ?_ | with_reducible refine Co_expr' ?_ | with_reducible refine Co_if' ?_ | with_reducible refine Co_frz' ?_ | with_reducible refine Co_app' ?_ | with_reducible refine Co_put' ?_ | with_reducible refine Co_aug' ?_ | with_reducible refine Co_asg' ?_)
  try simp only [Eo_C, Eo_V, Eo_B, Eo_bin, Eo_un, Eo_and, Eo_or, Eo_not, Eo_if, Eo_free, As_nil, As_cons, Eo_fn, Eo_call, As_seq, As_bor, As_rng1, Po_no, Po_E, Eo_sl, Eo_get1, dAdd_int, dSub_int, dLt_int, dLe_int, dGt_int, dGe_int, dNeg_int, dMax2_int, dMin2_int, dLen_lst, dLen_tup, dTuple_lst, dTuple_tup, dRev_lst, dAt_lst, dAt_tup, dAt_dic, dEq_int, dLst_nil, at_0, at_1, at_2, at_3, List.getElem?_cons_succ, List.getElem?_cons_zero, List.set_cons_succ, List.set_cons_zero, Option.some.injEq, Sl.v.injEq, Sl.o.injEq, D.int.injEq, D.bl.injEq, D.str.injEq, D.tup.injEq, D.lst.injEq, D.dic.injEq, reduceCtorEq, false_or, or_false, exists_eq_left', exists_eq_left, exists_eq', List.length_cons, List.length_nil, Nat.reduceAdd, true_and, and_true, decide_eq_true_eq, if_true, if_false, Bool.false_eq_true, Bool.not_true, Bool.not_false, Sq, Fb, wipeE]
  refine ⟨_, isi_of (a := "int") rfl (by decide +kernel : kitB "int" "int" = some true), _, rfl, ?_⟩
  rw [if_pos rfl]
  refine ⟨_, isi_of (a := "int") rfl (by decide +kernel : kitB "int" "bool" = some false), _, rfl, ?_⟩
  exact p
theorem plain_atom {d : D} {a : String} {n : Nat} {k : Int} {st : DS} (h1 : d.ty = some a) (h2 : kitB a "tuple" = some false) (h3 : (dIsN d .non = some (.bl true)) ∨ (dIsN d .non = some (.bl false) ∧ dIsi "str" d = some (.bl true)) ∨ (dIsN d .non = some (.bl false) ∧ dIsi "str" d = some (.bl false) ∧ ∃ i, d = .int i)) : F_law_plain (n + 1) [d, .int k] st = some (.ok (.bl true), st) := by
  refine to_Fo fun P p => ?_
  unfold F_law_plain
  (refine Fo_body.mpr ⟨rfl, ?_⟩; simp only [List.map_cons, List.map_nil, List.cons_append, List.nil_append, Nat.reduceSub, List.reduceReplicate])
  unfold G_law_plain
  (first | with_reducible refine Co_seq.mpr ?_ | with_reducible refine Co_nil.mpr ?_ | with_reducible refine Co_brk.mpr ?_ | with_reducible refine Co_cont.mpr ?_ | with_reducible refine Co_retN.mpr ?_ | with_reducible refine Co_set' ?_ | with_reducible refine Co_own' ?_ | with_reducible refine Co_ret' ?_ | with_reducible refine Co_expr' ?_ | with_reducible refine Co_if' ?_ | with_reducible refine Co_frz' ?_ | with_reducible refine Co_app' ?_ | with_reducible refine Co_put' ?_ | with_reducible refine Co_aug' ?_ | with_reducible refine Co_asg' ?_)
  (first | with_reducible refine Co_seq.mpr ?_ | with_reducible refine Co_nil.mpr ?_ | with_reducible refine Co_brk.mpr ?_ | with_reducible refine Co_cont.mpr ?_ | with_reducible refine Co_retN.mpr ?_ | with_reducible refine Co_set' ?_ | with_reducible refine Co_own' ?_ | with_reducible refine Co_ret' ?_ | with_reducible refine Co_expr' ?_ | with_reducible refine Co_if' ?_ | with_reducible refine Co_frz' ?_ | with_reducible refine Co_app' ?_ | with_reducible refine Co_put' ?_ | with_reducible refine Co_aug' ?_ | with_reducible refine Co_asg' ?_)
  try simp only [Eo_C, Eo_V, Eo_B, Eo_bin, Eo_un, Eo_and, Eo_or, Eo_not, Eo_if, Eo_free, As_nil, As_cons, Eo_fn, Eo_call, As_seq, As_bor, As_rng1, Po_no, Po_E, Eo_sl, Eo_get1, dAdd_int, dSub_int, dLt_int, dLe_int, dGt_int, dGe_int, dNeg_int, dMax2_int, dMin2_int, dLen_lst, dLen_tup, dTuple_lst, dTuple_tup, dRev_lst, dAt_lst, dAt_tup, dAt_dic, dEq_int, dLst_nil, at_0, at_1, at_2, at_3, List.getElem?_cons_succ, List.getElem?_cons_zero, List.set_cons_succ, List.set_cons_zero, Option.some.injEq, Sl.v.injEq, Sl.o.injEq, D.int.injEq, D.bl.injEq, D.str.injEq, D.tup.injEq, D.lst.injEq, D.dic.injEq, reduceCtorEq, false_or, or_false, exists_eq_left', exists_eq_left, exists_eq', List.length_cons, List.length_nil, Nat.reduceAdd, true_and, and_true, decide_eq_true_eq, if_true, if_false, Bool.false_eq_true, Bool.not_true, Bool.not_false, Sq, Fb, wipeE]
  refine ⟨_, isi_of h1 h2, _, rfl, ?_⟩
  rw [if_neg (by decide)]
  (first | with_reducible refine Co_seq.mpr ?_ | with_reducible refine Co_nil.mpr ?_ | with_reducible refine Co_brk.mpr ?_ | with_reducible refine Co_cont.mpr ?_ | with_reducible refine Co_retN.mpr ?_ | with_reducible refine Co_set' ?_ | with_reducible refine Co_own' ?_ | with_reducible refine Co_ret' ?_ | with_reducible refine Co_expr' ?_ | with_reducible refine Co_if' ?_ | with_reducible refine Co_frz' ?_ | with_reducible refine Co_app' ?_ | with_reducible refine Co_put' ?_ | with_reducible refine Co_aug' ?_ | with_reducible refine Co_asg' ?_)
  try simp only [Eo_C, Eo_V, Eo_B, Eo_bin, Eo_un, Eo_and, Eo_or, Eo_not, Eo_if, Eo_free, As_nil, As_cons, Eo_fn, Eo_call, As_seq, As_bor, As_rng1, Po_no, Po_E, Eo_sl, Eo_get1, dAdd_int, dSub_int, dLt_int, dLe_int, dGt_int, dGe_int, dNeg_int, dMax2_int, dMin2_int, dLen_lst, dLen_tup, dTuple_lst, dTuple_tup, dRev_lst, dAt_lst, dAt_tup, dAt_dic, dEq_int, dLst_nil, at_0, at_1, at_2, at_3, List.getElem?_cons_succ, List.getElem?_cons_zero, List.set_cons_succ, List.set_cons_zero, Option.some.injEq, Sl.v.injEq, Sl.o.injEq, D.int.injEq, D.bl.injEq, D.str.injEq, D.tup.injEq, D.lst.injEq, D.dic.injEq, reduceCtorEq, false_or, or_false, exists_eq_left', exists_eq_left, exists_eq', List.length_cons, List.length_nil, Nat.reduceAdd, true_and, and_true, decide_eq_true_eq, if_true, if_false, Bool.false_eq_true, Bool.not_true, Bool.not_false, Sq, Fb, wipeE]
  (first | with_reducible refine Co_seq.mpr ?_ | with_reducible refine Co_nil.mpr ?_ | with_reducible refine Co_brk.mpr ?_ | with_reducible refine Co_cont.mpr ?_ | with_reducible refine Co_retN.mpr ?_ | with_reducible refine Co_set' ?_ | with_reducible refine Co_own' ?_ | with_reducible refine Co_ret' ?_ | with_reducible refine Co_expr' ?_ | with_reducible refine Co_if' ?_ | with_reducible refine Co_frz' ?_ | with_reducible refine Co_app' ?_ | with_reducible refine Co_put' ?_ | with_reducible refine Co_aug' ?_ | with_reducible refine Co_asg' ?_)
  try simp only [Eo_C, Eo_V, Eo_B, Eo_bin, Eo_un, Eo_and, Eo_or, Eo_not, Eo_if, Eo_free, As_nil, As_cons, Eo_fn, Eo_call, As_seq, As_bor, As_rng1, Po_no, Po_E, Eo_sl, Eo_get1, dAdd_int, dSub_int, dLt_int, dLe_int, dGt_int, dGe_int, dNeg_int, dMax2_int, dMin2_int, dLen_lst, dLen_tup, dTuple_lst, dTuple_tup, dRev_lst, dAt_lst, dAt_tup, dAt_dic, dEq_int, dLst_nil, at_0, at_1, at_2, at_3, List.getElem?_cons_succ, List.getElem?_cons_zero, List.set_cons_succ, List.set_cons_zero, Option.some.injEq, Sl.v.injEq, Sl.o.injEq, D.int.injEq, D.bl.injEq, D.str.injEq, D.tup.injEq, D.lst.injEq, D.dic.injEq, reduceCtorEq, false_or, or_false, exists_eq_left', exists_eq_left, exists_eq', List.length_cons, List.length_nil, Nat.reduceAdd, true_and, and_true, decide_eq_true_eq, if_true, if_false, Bool.false_eq_true, Bool.not_true, Bool.not_false, Sq, Fb, wipeE]
  rcases h3 with h3 | ⟨h3, h4⟩ | ⟨h3, h4, i, rfl⟩
  · rw [h3]
    try simp only [Eo_C, Eo_V, Eo_B, Eo_bin, Eo_un, Eo_and, Eo_or, Eo_not, Eo_if, Eo_free, As_nil, As_cons, Eo_fn, Eo_call, As_seq, As_bor, As_rng1, Po_no, Po_E, Eo_sl, Eo_get1, dAdd_int, dSub_int, dLt_int, dLe_int, dGt_int, dGe_int, dNeg_int, dMax2_int, dMin2_int, dLen_lst, dLen_tup, dTuple_lst, dTuple_tup, dRev_lst, dAt_lst, dAt_tup, dAt_dic, dEq_int, dLst_nil, at_0, at_1, at_2, at_3, List.getElem?_cons_succ, List.getElem?_cons_zero, List.set_cons_succ, List.set_cons_zero, Option.some.injEq, Sl.v.injEq, Sl.o.injEq, D.int.injEq, D.bl.injEq, D.str.injEq, D.tup.injEq, D.lst.injEq, D.dic.injEq, reduceCtorEq, false_or, or_false, exists_eq_left', exists_eq_left, exists_eq', List.length_cons, List.length_nil, Nat.reduceAdd, true_and, and_true, decide_eq_true_eq, if_true, if_false, Bool.false_eq_true, Bool.not_true, Bool.not_false, Sq, Fb, wipeE]
    exact p
  · rw [h3]
    try simp only [Eo_C, Eo_V, Eo_B, Eo_bin, Eo_un, Eo_and, Eo_or, Eo_not, Eo_if, Eo_free, As_nil, As_cons, Eo_fn, Eo_call, As_seq, As_bor, As_rng1, Po_no, Po_E, Eo_sl, Eo_get1, dAdd_int, dSub_int, dLt_int, dLe_int, dGt_int, dGe_int, dNeg_int, dMax2_int, dMin2_int, dLen_lst, dLen_tup, dTuple_lst, dTuple_tup, dRev_lst, dAt_lst, dAt_tup, dAt_dic, dEq_int, dLst_nil, at_0, at_1, at_2, at_3, List.getElem?_cons_succ, List.getElem?_cons_zero, List.set_cons_succ, List.set_cons_zero, Option.some.injEq, Sl.v.injEq, Sl.o.injEq, D.int.injEq, D.bl.injEq, D.str.injEq, D.tup.injEq, D.lst.injEq, D.dic.injEq, reduceCtorEq, false_or, or_false, exists_eq_left', exists_eq_left, exists_eq', List.length_cons, List.length_nil, Nat.reduceAdd, true_and, and_true, decide_eq_true_eq, if_true, if_false, Bool.false_eq_true, Bool.not_true, Bool.not_false, Sq, Fb, wipeE]
    rw [h4]
    try simp only [Eo_C, Eo_V, Eo_B, Eo_bin, Eo_un, Eo_and, Eo_or, Eo_not, Eo_if, Eo_free, As_nil, As_cons, Eo_fn, Eo_call, As_seq, As_bor, As_rng1, Po_no, Po_E, Eo_sl, Eo_get1, dAdd_int, dSub_int, dLt_int, dLe_int, dGt_int, dGe_int, dNeg_int, dMax2_int, dMin2_int, dLen_lst, dLen_tup, dTuple_lst, dTuple_tup, dRev_lst, dAt_lst, dAt_tup, dAt_dic, dEq_int, dLst_nil, at_0, at_1, at_2, at_3, List.getElem?_cons_succ, List.getElem?_cons_zero, List.set_cons_succ, List.set_cons_zero, Option.some.injEq, Sl.v.injEq, Sl.o.injEq, D.int.injEq, D.bl.injEq, D.str.injEq, D.tup.injEq, D.lst.injEq, D.dic.injEq, reduceCtorEq, false_or, or_false, exists_eq_left', exists_eq_left, exists_eq', List.length_cons, List.length_nil, Nat.reduceAdd, true_and, and_true, decide_eq_true_eq, if_true, if_false, Bool.false_eq_true, Bool.not_true, Bool.not_false, Sq, Fb, wipeE]
    exact p
  · rw [h3]
    try simp only [Eo_C, Eo_V, Eo_B, Eo_bin, Eo_un, Eo_and, Eo_or, Eo_not, Eo_if, Eo_free, As_nil, As_cons, Eo_fn, Eo_call, As_seq, As_bor, As_rng1, Po_no, Po_E, Eo_sl, Eo_get1, dAdd_int, dSub_int, dLt_int, dLe_int, dGt_int, dGe_int, dNeg_int, dMax2_int, dMin2_int, dLen_lst, dLen_tup, dTuple_lst, dTuple_tup, dRev_lst, dAt_lst, dAt_tup, dAt_dic, dEq_int, dLst_nil, at_0, at_1, at_2, at_3, List.getElem?_cons_succ, List.getElem?_cons_zero, List.set_cons_succ, List.set_cons_zero, Option.some.injEq, Sl.v.injEq, Sl.o.injEq, D.int.injEq, D.bl.injEq, D.str.injEq, D.tup.injEq, D.lst.injEq, D.dic.injEq, reduceCtorEq, false_or, or_false, exists_eq_left', exists_eq_left, exists_eq', List.length_cons, List.length_nil, Nat.reduceAdd, true_and, and_true, decide_eq_true_eq, if_true, if_false, Bool.false_eq_true, Bool.not_true, Bool.not_false, Sq, Fb, wipeE]
    rw [h4]
    try simp only [Eo_C, Eo_V, Eo_B, Eo_bin, Eo_un, Eo_and, Eo_or, Eo_not, Eo_if, Eo_free, As_nil, As_cons, Eo_fn, Eo_call, As_seq, As_bor, As_rng1, Po_no, Po_E, Eo_sl, Eo_get1, dAdd_int, dSub_int, dLt_int, dLe_int, dGt_int, dGe_int, dNeg_int, dMax2_int, dMin2_int, dLen_lst, dLen_tup, dTuple_lst, dTuple_tup, dRev_lst, dAt_lst, dAt_tup, dAt_dic, dEq_int, dLst_nil, at_0, at_1, at_2, at_3, List.getElem?_cons_succ, List.getElem?_cons_zero, List.set_cons_succ, List.set_cons_zero, Option.some.injEq, Sl.v.injEq, Sl.o.injEq, D.int.injEq, D.bl.injEq, D.str.injEq, D.tup.injEq, D.lst.injEq, D.dic.injEq, reduceCtorEq, false_or, or_false, exists_eq_left', exists_eq_left, exists_eq', List.length_cons, List.length_nil, Nat.reduceAdd, true_and, and_true, decide_eq_true_eq, if_true, if_false, Bool.false_eq_true, Bool.not_true, Bool.not_false, Sq, Fb, wipeE]
    rw [Fo_of is_int_runs]
    exact p
theorem plain_int {n : Nat} {i k : Int} {st : DS} : F_law_plain (n + 1) [.int i, .int k] st = some (.ok (.bl true), st) :=
  plain_atom (a := "int") rfl (by decide +kernel) (.inr (.inr ⟨rfl, isi_of (a := "int") rfl (by decide +kernel), i, rfl⟩))
theorem plain_str {n : Nat} {x : Str} {k : Int} {st : DS} : F_law_plain (n + 1) [.str x, .int k] st = some (.ok (.bl true), st) :=
  plain_atom (a := "str") rfl (by decide +kernel) (.inr (.inl ⟨rfl, isi_of (a := "str") rfl (by decide +kernel)⟩))
theorem plain_non {n : Nat} {k : Int} {st : DS} : F_law_plain (n + 1) [.non, .int k] st = some (.ok (.bl true), st) :=
  plain_atom (a := "NoneType") rfl (by decide +kernel) (.inl rfl)
theorem plain_tup {ds : List D} {n : Nat} {k : Int} {st : DS} (hk : 0 < k) (hl : ds.length ≤ sizeLine) (h : ∀ d ∈ ds, F_law_plain n [d, .int (k - 1)] st = some (.ok (.bl true), st)) : F_law_plain (n + 1) [.tup ds, .int k] st = some (.ok (.bl true), st) := by
  refine to_Fo fun P p => ?_
  unfold F_law_plain
  (refine Fo_body.mpr ⟨rfl, ?_⟩; simp only [List.map_cons, List.map_nil, List.cons_append, List.nil_append, Nat.reduceSub, List.reduceReplicate])
  unfold G_law_plain
  (first | with_reducible refine Co_seq.mpr ?_ | with_reducible refine Co_nil.mpr ?_ | with_reducible refine Co_brk.mpr ?_ | with_reducible refine Co_cont.mpr ?_ | with_reducible refine Co_retN.mpr ?_ | with_reducible refine Co_set' ?_ | with_reducible refine Co_own' ?_ | with_reducible refine Co_ret' ?_ | with_reducible refine Co_expr' ?_ | with_reducible refine Co_if' ?_ | with_reducible refine Co_frz' ?_ | with_reducible refine Co_app' ?_ | with_reducible refine Co_put' ?_ | with_reducible refine Co_aug' ?_ | with_reducible refine Co_asg' ?_)
  (first | with_reducible refine Co_seq.mpr ?_ | with_reducible refine Co_nil.mpr ?_ | with_reducible refine Co_brk.mpr ?_ | with_reducible refine Co_cont.mpr ?_ | with_reducible refine Co_retN.mpr ?_ | with_reducible refine Co_set' ?_ | with_reducible refine Co_own' ?_ | with_reducible refine Co_ret' ?_ | with_reducible refine Co_expr' ?_ | with_reducible refine Co_if' ?_ | with_reducible refine Co_frz' ?_ | with_reducible refine Co_app' ?_ | with_reducible refine Co_put' ?_ | with_reducible refine Co_aug' ?_ | with_reducible refine Co_asg' ?_)
  try simp only [Eo_C, Eo_V, Eo_B, Eo_bin, Eo_un, Eo_and, Eo_or, Eo_not, Eo_if, Eo_free, As_nil, As_cons, Eo_fn, Eo_call, As_seq, As_bor, As_rng1, Po_no, Po_E, Eo_sl, Eo_get1, dAdd_int, dSub_int, dLt_int, dLe_int, dGt_int, dGe_int, dNeg_int, dMax2_int, dMin2_int, dLen_lst, dLen_tup, dTuple_lst, dTuple_tup, dRev_lst, dAt_lst, dAt_tup, dAt_dic, dEq_int, dLst_nil, at_0, at_1, at_2, at_3, List.getElem?_cons_succ, List.getElem?_cons_zero, List.set_cons_succ, List.set_cons_zero, Option.some.injEq, Sl.v.injEq, Sl.o.injEq, D.int.injEq, D.bl.injEq, D.str.injEq, D.tup.injEq, D.lst.injEq, D.dic.injEq, reduceCtorEq, false_or, or_false, exists_eq_left', exists_eq_left, exists_eq', List.length_cons, List.length_nil, Nat.reduceAdd, true_and, and_true, decide_eq_true_eq, if_true, if_false, Bool.false_eq_true, Bool.not_true, Bool.not_false, Sq, Fb, wipeE]
  refine ⟨_, isi_of (a := "tuple") rfl (by decide +kernel : kitB "tuple" "tuple" = some true), _, rfl, ?_⟩
  rw [if_pos rfl]
  (first | with_reducible refine Co_seq.mpr ?_ | with_reducible refine Co_nil.mpr ?_ | with_reducible refine Co_brk.mpr ?_ | with_reducible refine Co_cont.mpr ?_ | with_reducible refine Co_retN.mpr ?_ | with_reducible refine Co_set' ?_ | with_reducible refine Co_own' ?_ | with_reducible refine Co_ret' ?_ | with_reducible refine Co_expr' ?_ | with_reducible refine Co_if' ?_ | with_reducible refine Co_frz' ?_ | with_reducible refine Co_app' ?_ | with_reducible refine Co_put' ?_ | with_reducible refine Co_aug' ?_ | with_reducible refine Co_asg' ?_)
  try simp only [Eo_C, Eo_V, Eo_B, Eo_bin, Eo_un, Eo_and, Eo_or, Eo_not, Eo_if, Eo_free, As_nil, As_cons, Eo_fn, Eo_call, As_seq, As_bor, As_rng1, Po_no, Po_E, Eo_sl, Eo_get1, dAdd_int, dSub_int, dLt_int, dLe_int, dGt_int, dGe_int, dNeg_int, dMax2_int, dMin2_int, dLen_lst, dLen_tup, dTuple_lst, dTuple_tup, dRev_lst, dAt_lst, dAt_tup, dAt_dic, dEq_int, dLst_nil, at_0, at_1, at_2, at_3, List.getElem?_cons_succ, List.getElem?_cons_zero, List.set_cons_succ, List.set_cons_zero, Option.some.injEq, Sl.v.injEq, Sl.o.injEq, D.int.injEq, D.bl.injEq, D.str.injEq, D.tup.injEq, D.lst.injEq, D.dic.injEq, reduceCtorEq, false_or, or_false, exists_eq_left', exists_eq_left, exists_eq', List.length_cons, List.length_nil, Nat.reduceAdd, true_and, and_true, decide_eq_true_eq, if_true, if_false, Bool.false_eq_true, Bool.not_true, Bool.not_false, Sq, Fb, wipeE]
  rw [if_pos hk]
  refine Eo_lc' (fun _ => true) (fun _ => .bl true) ?_
  try simp only [Eo_C, Eo_V, Eo_B, Eo_bin, Eo_un, Eo_and, Eo_or, Eo_not, Eo_if, Eo_free, As_nil, As_cons, Eo_fn, Eo_call, As_seq, As_bor, As_rng1, Po_no, Po_E, Eo_sl, Eo_get1, dAdd_int, dSub_int, dLt_int, dLe_int, dGt_int, dGe_int, dNeg_int, dMax2_int, dMin2_int, dLen_lst, dLen_tup, dTuple_lst, dTuple_tup, dRev_lst, dAt_lst, dAt_tup, dAt_dic, dEq_int, dLst_nil, at_0, at_1, at_2, at_3, List.getElem?_cons_succ, List.getElem?_cons_zero, List.set_cons_succ, List.set_cons_zero, Option.some.injEq, Sl.v.injEq, Sl.o.injEq, D.int.injEq, D.bl.injEq, D.str.injEq, D.tup.injEq, D.lst.injEq, D.dic.injEq, reduceCtorEq, false_or, or_false, exists_eq_left', exists_eq_left, exists_eq', List.length_cons, List.length_nil, Nat.reduceAdd, true_and, and_true, decide_eq_true_eq, if_true, if_false, Bool.false_eq_true, Bool.not_true, Bool.not_false, Sq, Fb, wipeE]
  refine ⟨hl, fun d hd => ⟨_, rfl, fun _ => ?_⟩, ?_⟩
  · try simp only [Eo_C, Eo_V, Eo_B, Eo_bin, Eo_un, Eo_and, Eo_or, Eo_not, Eo_if, Eo_free, As_nil, As_cons, Eo_fn, Eo_call, As_seq, As_bor, As_rng1, Po_no, Po_E, Eo_sl, Eo_get1, dAdd_int, dSub_int, dLt_int, dLe_int, dGt_int, dGe_int, dNeg_int, dMax2_int, dMin2_int, dLen_lst, dLen_tup, dTuple_lst, dTuple_tup, dRev_lst, dAt_lst, dAt_tup, dAt_dic, dEq_int, dLst_nil, at_0, at_1, at_2, at_3, List.getElem?_cons_succ, List.getElem?_cons_zero, List.set_cons_succ, List.set_cons_zero, Option.some.injEq, Sl.v.injEq, Sl.o.injEq, D.int.injEq, D.bl.injEq, D.str.injEq, D.tup.injEq, D.lst.injEq, D.dic.injEq, reduceCtorEq, false_or, or_false, exists_eq_left', exists_eq_left, exists_eq', List.length_cons, List.length_nil, Nat.reduceAdd, true_and, and_true, decide_eq_true_eq, if_true, if_false, Bool.false_eq_true, Bool.not_true, Bool.not_false, Sq, Fb, wipeE]
    rw [Fo_of (h d hd)]
    exact ⟨rfl, rfl⟩
  · refine ⟨_, ?_, p⟩
    have e : ((ds.filter fun _ => true).map fun _ => D.bl true) = (ds.filter fun _ => true).map (D.bl ∘ fun _ => true) := rfl
    rw [e, ← List.map_map]
    unfold dAll
    simp only [bls_map]
    have e2 : (((ds.filter fun _ => true).map fun _ => true).all _root_.id) = true := by
      rw [List.all_eq_true]
      intro b hb
      obtain ⟨_, _, rfl⟩ := List.mem_map.mp hb
      rfl
    show some (D.bl _) = _
    rw [e2]
theorem plain_nD {n : Nat} {o : Option Nt} {k : Int} {st : DS} (hk : 0 < k) : F_law_plain (n + 2) [nD o, .int k] st = some (.ok (.bl true), st) := by
  cases o with
  | none => exact plain_non
  | some x =>
    refine plain_tup hk (by show 4 ≤ sizeLine; decide) fun d hd => ?_
    simp only [List.mem_cons, List.not_mem_nil, or_false] at hd
    rcases hd with rfl | rfl | rfl | rfl
    · exact plain_int
    · exact plain_str
    · exact plain_int
    · exact plain_int
theorem plain_pair {n : Nat} {i : Int} {o : Option Nt} {k : Int} {st : DS} (hk : 1 < k) : F_law_plain (n + 3) [.tup [.int i, nD o], .int k] st = some (.ok (.bl true), st) := by
  refine plain_tup (by omega) (by show 2 ≤ sizeLine; decide) fun d hd => ?_
  simp only [List.mem_cons, List.not_mem_nil, or_false] at hd
  rcases hd with rfl | rfl
  · exact plain_int
  · exact plain_nD (by omega)
/-- flat enough -/
def Dk (k : Nat) (d : D) : Prop := d.dat = true ∧ d.py.depth ≤ k
theorem Dk_all {k : Nat} : ∀ {ds : List D}, (∀ d ∈ ds, Dk k d) → D.datAll ds = true ∧ PyData.depthAll (D.pyAll ds) ≤ k
  | [], _ => ⟨by unfold D.datAll; rfl, by unfold D.pyAll PyData.depthAll; exact Nat.zero_le _⟩
  | d :: ds, h => by
    obtain ⟨h1, h2⟩ := h d List.mem_cons_self
    obtain ⟨h3, h4⟩ := Dk_all fun x hx => h x (List.mem_cons_of_mem _ hx)
    unfold D.datAll D.pyAll PyData.depthAll
    exact ⟨by rw [h1, h3]; rfl, Nat.max_le.mpr ⟨h2, h4⟩⟩
theorem Dk_tup {k : Nat} {ds : List D} (h : ∀ d ∈ ds, Dk k d) : Dk (k + 1) (.tup ds) := by
  obtain ⟨h1, h2⟩ := Dk_all h
  unfold Dk D.dat D.py PyData.depth
  exact ⟨h1, by omega⟩
theorem Dk_ok {k : Nat} {d : D} (h : Dk k d) (hk : k ≤ 64) : d.eqOk = true := by
  unfold D.eqOk
  rw [h.1, decide_eq_true (Nat.le_trans h.2 hk)]; rfl
theorem Dk_int {k : Nat} {i : Int} : Dk k (.int i) := ⟨rfl, by unfold D.py PyData.depth; exact Nat.zero_le _⟩
theorem Dk_str {k : Nat} {i : Str} : Dk k (.str i) := ⟨rfl, by unfold D.py PyData.depth; exact Nat.zero_le _⟩
theorem Dk_non {k : Nat} : Dk k .non := ⟨rfl, by unfold D.py PyData.depth; exact Nat.zero_le _⟩
theorem Dk_nD {k : Nat} (o : Option Nt) : Dk (k + 1) (nD o) := by
  cases o with
  | none => exact Dk_non
  | some x =>
    refine Dk_tup fun d hd => ?_
    simp only [List.mem_cons, List.not_mem_nil, or_false] at hd
    rcases hd with rfl | rfl | rfl | rfl
    · exact Dk_int
    · exact Dk_str
    · exact Dk_int
    · exact Dk_int
theorem Dk_pair {k : Nat} {i : Int} {o : Option Nt} : Dk (k + 2) (.tup [.int i, nD o]) := by
  refine Dk_tup fun d hd => ?_
  simp only [List.mem_cons, List.not_mem_nil, or_false] at hd
  rcases hd with rfl | rfl
  · exact Dk_int
  · exact Dk_nD o
theorem same_runs {d : D} {k : Nat} {st : DS} (h1 : Dk k d) (hk : k ≤ 64) (h2 : F_law_plain 5 [d, .int 3] st = some (.ok (.bl true), st)) : F_law_same [d, d] st = some (.ok (.bl true), st) := by
  refine to_Fo fun P p => ?_
  unfold F_law_same
  (refine Fo_body.mpr ⟨rfl, ?_⟩; simp only [List.map_cons, List.map_nil, List.cons_append, List.nil_append, Nat.reduceSub, List.reduceReplicate])
  unfold G_law_same
  (first | with_reducible refine Co_seq.mpr ?_ | with_reducible refine Co_nil.mpr ?_ | with_reducible refine Co_brk.mpr ?_ | with_reducible refine Co_cont.mpr ?_ | with_reducible refine Co_retN.mpr ?_ | with_reducible refine Co_set' ?_ | with_reducible refine Co_own' ?_ | with_reducible refine Co_ret' ?_ | with_reducible refine Co_expr' ?_ | with_reducible refine Co_if' ?_ | with_reducible refine Co_frz' ?_ | with_reducible refine Co_app' ?_ | with_reducible refine Co_put' ?_ | with_reducible refine Co_aug' ?_ | with_reducible refine Co_asg' ?_)
  try simp only [Eo_C, Eo_V, Eo_B, Eo_bin, Eo_un, Eo_and, Eo_or, Eo_not, Eo_if, Eo_free, As_nil, As_cons, Eo_fn, Eo_call, As_seq, As_bor, As_rng1, Po_no, Po_E, Eo_sl, Eo_get1, dAdd_int, dSub_int, dLt_int, dLe_int, dGt_int, dGe_int, dNeg_int, dMax2_int, dMin2_int, dLen_lst, dLen_tup, dTuple_lst, dTuple_tup, dRev_lst, dAt_lst, dAt_tup, dAt_dic, dEq_int, dLst_nil, at_0, at_1, at_2, at_3, List.getElem?_cons_succ, List.getElem?_cons_zero, List.set_cons_succ, List.set_cons_zero, Option.some.injEq, Sl.v.injEq, Sl.o.injEq, D.int.injEq, D.bl.injEq, D.str.injEq, D.tup.injEq, D.lst.injEq, D.dic.injEq, reduceCtorEq, false_or, or_false, exists_eq_left', exists_eq_left, exists_eq', List.length_cons, List.length_nil, Nat.reduceAdd, true_and, and_true, decide_eq_true_eq, if_true, if_false, Bool.false_eq_true, Bool.not_true, Bool.not_false, Sq, Fb, wipeE]
  rw [dEq_of (Dk_ok h1 hk) (Dk_ok h1 hk), eqv_refl d h1.1]
  try simp only [Eo_C, Eo_V, Eo_B, Eo_bin, Eo_un, Eo_and, Eo_or, Eo_not, Eo_if, Eo_free, As_nil, As_cons, Eo_fn, Eo_call, As_seq, As_bor, As_rng1, Po_no, Po_E, Eo_sl, Eo_get1, dAdd_int, dSub_int, dLt_int, dLe_int, dGt_int, dGe_int, dNeg_int, dMax2_int, dMin2_int, dLen_lst, dLen_tup, dTuple_lst, dTuple_tup, dRev_lst, dAt_lst, dAt_tup, dAt_dic, dEq_int, dLst_nil, at_0, at_1, at_2, at_3, List.getElem?_cons_succ, List.getElem?_cons_zero, List.set_cons_succ, List.set_cons_zero, Option.some.injEq, Sl.v.injEq, Sl.o.injEq, D.int.injEq, D.bl.injEq, D.str.injEq, D.tup.injEq, D.lst.injEq, D.dic.injEq, reduceCtorEq, false_or, or_false, exists_eq_left', exists_eq_left, exists_eq', List.length_cons, List.length_nil, Nat.reduceAdd, true_and, and_true, decide_eq_true_eq, if_true, if_false, Bool.false_eq_true, Bool.not_true, Bool.not_false, Sq, Fb, wipeE]
  rw [Fo_of h2]
  exact p
/-- a tuple of pairs -/
theorem same_pairs {ds : List D} {st : DS} (hl : ds.length ≤ sizeLine) (h : ∀ d ∈ ds, ∃ i o, d = .tup [.int i, nD o]) : F_law_same [.tup ds, .tup ds] st = some (.ok (.bl true), st) := by
  refine same_runs (k := 3) (Dk_tup fun d hd => ?_) (by decide) (plain_tup (by decide) hl fun d hd => ?_)
  · obtain ⟨i, o, rfl⟩ := h d hd
    exact Dk_pair
  · obtain ⟨i, o, rfl⟩ := h d hd
    exact plain_pair (by decide)
theorem same_ints {ns : List Int} {st : DS} (hl : ns.length ≤ sizeLine) : F_law_same [.tup (ns.map D.int), .tup (ns.map D.int)] st = some (.ok (.bl true), st) := by
  refine same_runs (k := 3) (Dk_tup fun d hd => ?_) (by decide) (plain_tup (by decide) (by rw [List.length_map]; exact hl) fun d hd => ?_)
  · obtain ⟨i, _, rfl⟩ := List.mem_map.mp hd
    exact Dk_int
  · obtain ⟨i, _, rfl⟩ := List.mem_map.mp hd
    exact plain_int
theorem days_runs {es : List En} {day later heard : Int} {st : DS} (hl : es.length < 64) : F_law_days_right [.lst (bk es), .int day, .int later, .int heard] st = some (.ok (.bl true), st) := by
  refine to_Fo fun P p => ?_
  have big : ∀ {n : Nat}, n < 64 → n ≤ sizeLine := fun h => Nat.le_trans (Nat.le_of_lt h) (by decide)
  have kl : (known es day).length < 64 := Nat.lt_of_le_of_lt (known_len es day) hl
  have kp : ∀ d ∈ known es day, ∃ i o, d = .tup [.int i, nD o] := fun d hd => by
    obtain ⟨n, nt, rfl⟩ := known_mem hd
    exact ⟨n, some nt, rfl⟩
  unfold F_law_days_right
  (refine Fo_body.mpr ⟨rfl, ?_⟩; simp only [List.map_cons, List.map_nil, List.cons_append, List.nil_append, Nat.reduceSub, List.reduceReplicate])
  unfold G_law_days_right
  (first | with_reducible refine Co_seq.mpr ?_ | with_reducible refine Co_nil.mpr ?_ | with_reducible refine Co_brk.mpr ?_ | with_reducible refine Co_cont.mpr ?_ | with_reducible refine Co_retN.mpr ?_ | with_reducible refine Co_set' ?_ | with_reducible refine Co_own' ?_ | with_reducible refine Co_ret' ?_ | with_reducible refine Co_expr' ?_ | with_reducible refine Co_if' ?_ | with_reducible refine Co_frz' ?_ | with_reducible refine Co_app' ?_ | with_reducible refine Co_put' ?_ | with_reducible refine Co_aug' ?_ | with_reducible refine Co_asg' ?_)
  (first | with_reducible refine Co_seq.mpr ?_ | with_reducible refine Co_nil.mpr ?_ | with_reducible refine Co_brk.mpr ?_ | with_reducible refine Co_cont.mpr ?_ | with_reducible refine Co_retN.mpr ?_ | with_reducible refine Co_set' ?_ | with_reducible refine Co_own' ?_ | with_reducible refine Co_ret' ?_ | with_reducible refine Co_expr' ?_ | with_reducible refine Co_if' ?_ | with_reducible refine Co_frz' ?_ | with_reducible refine Co_app' ?_ | with_reducible refine Co_put' ?_ | with_reducible refine Co_aug' ?_ | with_reducible refine Co_asg' ?_)
  try simp only [Eo_C, Eo_V, Eo_B, Eo_bin, Eo_un, Eo_and, Eo_or, Eo_not, Eo_if, Eo_free, As_nil, As_cons, Eo_fn, Eo_call, As_seq, As_bor, As_rng1, Po_no, Po_E, Eo_sl, Eo_get1, dAdd_int, dSub_int, dLt_int, dLe_int, dGt_int, dGe_int, dNeg_int, dMax2_int, dMin2_int, dLen_lst, dLen_tup, dTuple_lst, dTuple_tup, dRev_lst, dAt_lst, dAt_tup, dAt_dic, dEq_int, dLst_nil, at_0, at_1, at_2, at_3, List.getElem?_cons_succ, List.getElem?_cons_zero, List.set_cons_succ, List.set_cons_zero, Option.some.injEq, Sl.v.injEq, Sl.o.injEq, D.int.injEq, D.bl.injEq, D.str.injEq, D.tup.injEq, D.lst.injEq, D.dic.injEq, reduceCtorEq, false_or, or_false, exists_eq_left', exists_eq_left, exists_eq', List.length_cons, List.length_nil, Nat.reduceAdd, true_and, and_true, decide_eq_true_eq, if_true, if_false, Bool.false_eq_true, Bool.not_true, Bool.not_false, Sq, Fb, wipeE]
  rw [Fo_of (law_known_runs hl)]
  try simp only [Eo_C, Eo_V, Eo_B, Eo_bin, Eo_un, Eo_and, Eo_or, Eo_not, Eo_if, Eo_free, As_nil, As_cons, Eo_fn, Eo_call, As_seq, As_bor, As_rng1, Po_no, Po_E, Eo_sl, Eo_get1, dAdd_int, dSub_int, dLt_int, dLe_int, dGt_int, dGe_int, dNeg_int, dMax2_int, dMin2_int, dLen_lst, dLen_tup, dTuple_lst, dTuple_tup, dRev_lst, dAt_lst, dAt_tup, dAt_dic, dEq_int, dLst_nil, at_0, at_1, at_2, at_3, List.getElem?_cons_succ, List.getElem?_cons_zero, List.set_cons_succ, List.set_cons_zero, Option.some.injEq, Sl.v.injEq, Sl.o.injEq, D.int.injEq, D.bl.injEq, D.str.injEq, D.tup.injEq, D.lst.injEq, D.dic.injEq, reduceCtorEq, false_or, or_false, exists_eq_left', exists_eq_left, exists_eq', List.length_cons, List.length_nil, Nat.reduceAdd, true_and, and_true, decide_eq_true_eq, if_true, if_false, Bool.false_eq_true, Bool.not_true, Bool.not_false, Sq, Fb, wipeE]
  (first | with_reducible refine Co_seq.mpr ?_ | with_reducible refine Co_nil.mpr ?_ | with_reducible refine Co_brk.mpr ?_ | with_reducible refine Co_cont.mpr ?_ | with_reducible refine Co_retN.mpr ?_ | with_reducible refine Co_set' ?_ | with_reducible refine Co_own' ?_ | with_reducible refine Co_ret' ?_ | with_reducible refine Co_expr' ?_ | with_reducible refine Co_if' ?_ | with_reducible refine Co_frz' ?_ | with_reducible refine Co_app' ?_ | with_reducible refine Co_put' ?_ | with_reducible refine Co_aug' ?_ | with_reducible refine Co_asg' ?_)
  (first | with_reducible refine Co_seq.mpr ?_ | with_reducible refine Co_nil.mpr ?_ | with_reducible refine Co_brk.mpr ?_ | with_reducible refine Co_cont.mpr ?_ | with_reducible refine Co_retN.mpr ?_ | with_reducible refine Co_set' ?_ | with_reducible refine Co_own' ?_ | with_reducible refine Co_ret' ?_ | with_reducible refine Co_expr' ?_ | with_reducible refine Co_if' ?_ | with_reducible refine Co_frz' ?_ | with_reducible refine Co_app' ?_ | with_reducible refine Co_put' ?_ | with_reducible refine Co_aug' ?_ | with_reducible refine Co_asg' ?_)
  try simp only [Eo_C, Eo_V, Eo_B, Eo_bin, Eo_un, Eo_and, Eo_or, Eo_not, Eo_if, Eo_free, As_nil, As_cons, Eo_fn, Eo_call, As_seq, As_bor, As_rng1, Po_no, Po_E, Eo_sl, Eo_get1, dAdd_int, dSub_int, dLt_int, dLe_int, dGt_int, dGe_int, dNeg_int, dMax2_int, dMin2_int, dLen_lst, dLen_tup, dTuple_lst, dTuple_tup, dRev_lst, dAt_lst, dAt_tup, dAt_dic, dEq_int, dLst_nil, at_0, at_1, at_2, at_3, List.getElem?_cons_succ, List.getElem?_cons_zero, List.set_cons_succ, List.set_cons_zero, Option.some.injEq, Sl.v.injEq, Sl.o.injEq, D.int.injEq, D.bl.injEq, D.str.injEq, D.tup.injEq, D.lst.injEq, D.dic.injEq, reduceCtorEq, false_or, or_false, exists_eq_left', exists_eq_left, exists_eq', List.length_cons, List.length_nil, Nat.reduceAdd, true_and, and_true, decide_eq_true_eq, if_true, if_false, Bool.false_eq_true, Bool.not_true, Bool.not_false, Sq, Fb, wipeE]
  refine told_lc (es := es) (day := day) (h := heard) hl (fun PA p => ?_) (fun n nt => ⟨_, rfl, ?_, ?_⟩) ?_
  · try simp only [Eo_C, Eo_V, Eo_B, Eo_bin, Eo_un, Eo_and, Eo_or, Eo_not, Eo_if, Eo_free, As_nil, As_cons, Eo_fn, Eo_call, As_seq, As_bor, As_rng1, Po_no, Po_E, Eo_sl, Eo_get1, dAdd_int, dSub_int, dLt_int, dLe_int, dGt_int, dGe_int, dNeg_int, dMax2_int, dMin2_int, dLen_lst, dLen_tup, dTuple_lst, dTuple_tup, dRev_lst, dAt_lst, dAt_tup, dAt_dic, dEq_int, dLst_nil, at_0, at_1, at_2, at_3, List.getElem?_cons_succ, List.getElem?_cons_zero, List.set_cons_succ, List.set_cons_zero, Option.some.injEq, Sl.v.injEq, Sl.o.injEq, D.int.injEq, D.bl.injEq, D.str.injEq, D.tup.injEq, D.lst.injEq, D.dic.injEq, reduceCtorEq, false_or, or_false, exists_eq_left', exists_eq_left, exists_eq', List.length_cons, List.length_nil, Nat.reduceAdd, true_and, and_true, decide_eq_true_eq, if_true, if_false, Bool.false_eq_true, Bool.not_true, Bool.not_false, Sq, Fb, wipeE]
    exact p
  · try simp only [Eo_C, Eo_V, Eo_B, Eo_bin, Eo_un, Eo_and, Eo_or, Eo_not, Eo_if, Eo_free, As_nil, As_cons, Eo_fn, Eo_call, As_seq, As_bor, As_rng1, Po_no, Po_E, Eo_sl, Eo_get1, dAdd_int, dSub_int, dLt_int, dLe_int, dGt_int, dGe_int, dNeg_int, dMax2_int, dMin2_int, dLen_lst, dLen_tup, dTuple_lst, dTuple_tup, dRev_lst, dAt_lst, dAt_tup, dAt_dic, dEq_int, dLst_nil, at_0, at_1, at_2, at_3, List.getElem?_cons_succ, List.getElem?_cons_zero, List.set_cons_succ, List.set_cons_zero, Option.some.injEq, Sl.v.injEq, Sl.o.injEq, D.int.injEq, D.bl.injEq, D.str.injEq, D.tup.injEq, D.lst.injEq, D.dic.injEq, reduceCtorEq, false_or, or_false, exists_eq_left', exists_eq_left, exists_eq', List.length_cons, List.length_nil, Nat.reduceAdd, true_and, and_true, decide_eq_true_eq, if_true, if_false, Bool.false_eq_true, Bool.not_true, Bool.not_false, Sq, Fb, wipeE]
    rw [Nt_d1]
    try simp only [Eo_C, Eo_V, Eo_B, Eo_bin, Eo_un, Eo_and, Eo_or, Eo_not, Eo_if, Eo_free, As_nil, As_cons, Eo_fn, Eo_call, As_seq, As_bor, As_rng1, Po_no, Po_E, Eo_sl, Eo_get1, dAdd_int, dSub_int, dLt_int, dLe_int, dGt_int, dGe_int, dNeg_int, dMax2_int, dMin2_int, dLen_lst, dLen_tup, dTuple_lst, dTuple_tup, dRev_lst, dAt_lst, dAt_tup, dAt_dic, dEq_int, dLst_nil, at_0, at_1, at_2, at_3, List.getElem?_cons_succ, List.getElem?_cons_zero, List.set_cons_succ, List.set_cons_zero, Option.some.injEq, Sl.v.injEq, Sl.o.injEq, D.int.injEq, D.bl.injEq, D.str.injEq, D.tup.injEq, D.lst.injEq, D.dic.injEq, reduceCtorEq, false_or, or_false, exists_eq_left', exists_eq_left, exists_eq', List.length_cons, List.length_nil, Nat.reduceAdd, true_and, and_true, decide_eq_true_eq, if_true, if_false, Bool.false_eq_true, Bool.not_true, Bool.not_false, Sq, Fb, wipeE]
  · try simp only [Eo_C, Eo_V, Eo_B, Eo_bin, Eo_un, Eo_and, Eo_or, Eo_not, Eo_if, Eo_free, As_nil, As_cons, Eo_fn, Eo_call, As_seq, As_bor, As_rng1, Po_no, Po_E, Eo_sl, Eo_get1, dAdd_int, dSub_int, dLt_int, dLe_int, dGt_int, dGe_int, dNeg_int, dMax2_int, dMin2_int, dLen_lst, dLen_tup, dTuple_lst, dTuple_tup, dRev_lst, dAt_lst, dAt_tup, dAt_dic, dEq_int, dLst_nil, at_0, at_1, at_2, at_3, List.getElem?_cons_succ, List.getElem?_cons_zero, List.set_cons_succ, List.set_cons_zero, Option.some.injEq, Sl.v.injEq, Sl.o.injEq, D.int.injEq, D.bl.injEq, D.str.injEq, D.tup.injEq, D.lst.injEq, D.dic.injEq, reduceCtorEq, false_or, or_false, exists_eq_left', exists_eq_left, exists_eq', List.length_cons, List.length_nil, Nat.reduceAdd, true_and, and_true, decide_eq_true_eq, if_true, if_false, Bool.false_eq_true, Bool.not_true, Bool.not_false, Sq, Fb, wipeE]
  refine ⟨_, rfl, ?_⟩
  try simp only [Eo_C, Eo_V, Eo_B, Eo_bin, Eo_un, Eo_and, Eo_or, Eo_not, Eo_if, Eo_free, As_nil, As_cons, Eo_fn, Eo_call, As_seq, As_bor, As_rng1, Po_no, Po_E, Eo_sl, Eo_get1, dAdd_int, dSub_int, dLt_int, dLe_int, dGt_int, dGe_int, dNeg_int, dMax2_int, dMin2_int, dLen_lst, dLen_tup, dTuple_lst, dTuple_tup, dRev_lst, dAt_lst, dAt_tup, dAt_dic, dEq_int, dLst_nil, at_0, at_1, at_2, at_3, List.getElem?_cons_succ, List.getElem?_cons_zero, List.set_cons_succ, List.set_cons_zero, Option.some.injEq, Sl.v.injEq, Sl.o.injEq, D.int.injEq, D.bl.injEq, D.str.injEq, D.tup.injEq, D.lst.injEq, D.dic.injEq, reduceCtorEq, false_or, or_false, exists_eq_left', exists_eq_left, exists_eq', List.length_cons, List.length_nil, Nat.reduceAdd, true_and, and_true, decide_eq_true_eq, if_true, if_false, Bool.false_eq_true, Bool.not_true, Bool.not_false, Sq, Fb, wipeE]
  (first | with_reducible refine Co_seq.mpr ?_ | with_reducible refine Co_nil.mpr ?_ | with_reducible refine Co_brk.mpr ?_ | with_reducible refine Co_cont.mpr ?_ | with_reducible refine Co_retN.mpr ?_ | with_reducible refine Co_set' ?_ | with_reducible refine Co_own' ?_ | with_reducible refine Co_ret' ?_ | with_reducible refine Co_expr' ?_ | with_reducible refine Co_if' ?_ | with_reducible refine Co_frz' ?_ | with_reducible refine Co_app' ?_ | with_reducible refine Co_put' ?_ | with_reducible refine Co_aug' ?_ | with_reducible refine Co_asg' ?_)
  (first | with_reducible refine Co_seq.mpr ?_ | with_reducible refine Co_nil.mpr ?_ | with_reducible refine Co_brk.mpr ?_ | with_reducible refine Co_cont.mpr ?_ | with_reducible refine Co_retN.mpr ?_ | with_reducible refine Co_set' ?_ | with_reducible refine Co_own' ?_ | with_reducible refine Co_ret' ?_ | with_reducible refine Co_expr' ?_ | with_reducible refine Co_if' ?_ | with_reducible refine Co_frz' ?_ | with_reducible refine Co_app' ?_ | with_reducible refine Co_put' ?_ | with_reducible refine Co_aug' ?_ | with_reducible refine Co_asg' ?_)
  try simp only [Eo_C, Eo_V, Eo_B, Eo_bin, Eo_un, Eo_and, Eo_or, Eo_not, Eo_if, Eo_free, As_nil, As_cons, Eo_fn, Eo_call, As_seq, As_bor, As_rng1, Po_no, Po_E, Eo_sl, Eo_get1, dAdd_int, dSub_int, dLt_int, dLe_int, dGt_int, dGe_int, dNeg_int, dMax2_int, dMin2_int, dLen_lst, dLen_tup, dTuple_lst, dTuple_tup, dRev_lst, dAt_lst, dAt_tup, dAt_dic, dEq_int, dLst_nil, at_0, at_1, at_2, at_3, List.getElem?_cons_succ, List.getElem?_cons_zero, List.set_cons_succ, List.set_cons_zero, Option.some.injEq, Sl.v.injEq, Sl.o.injEq, D.int.injEq, D.bl.injEq, D.str.injEq, D.tup.injEq, D.lst.injEq, D.dic.injEq, reduceCtorEq, false_or, or_false, exists_eq_left', exists_eq_left, exists_eq', List.length_cons, List.length_nil, Nat.reduceAdd, true_and, and_true, decide_eq_true_eq, if_true, if_false, Bool.false_eq_true, Bool.not_true, Bool.not_false, Sq, Fb, wipeE]
  rw [Fo_of (entered_runs hl)]
  try simp only [Eo_C, Eo_V, Eo_B, Eo_bin, Eo_un, Eo_and, Eo_or, Eo_not, Eo_if, Eo_free, As_nil, As_cons, Eo_fn, Eo_call, As_seq, As_bor, As_rng1, Po_no, Po_E, Eo_sl, Eo_get1, dAdd_int, dSub_int, dLt_int, dLe_int, dGt_int, dGe_int, dNeg_int, dMax2_int, dMin2_int, dLen_lst, dLen_tup, dTuple_lst, dTuple_tup, dRev_lst, dAt_lst, dAt_tup, dAt_dic, dEq_int, dLst_nil, at_0, at_1, at_2, at_3, List.getElem?_cons_succ, List.getElem?_cons_zero, List.set_cons_succ, List.set_cons_zero, Option.some.injEq, Sl.v.injEq, Sl.o.injEq, D.int.injEq, D.bl.injEq, D.str.injEq, D.tup.injEq, D.lst.injEq, D.dic.injEq, reduceCtorEq, false_or, or_false, exists_eq_left', exists_eq_left, exists_eq', List.length_cons, List.length_nil, Nat.reduceAdd, true_and, and_true, decide_eq_true_eq, if_true, if_false, Bool.false_eq_true, Bool.not_true, Bool.not_false, Sq, Fb, wipeE]
  rw [Fo_of (same_pairs (big kl) kp)]
  refine ⟨_, rfl, ?_⟩
  rw [if_neg (by decide)]
  (first | with_reducible refine Co_seq.mpr ?_ | with_reducible refine Co_nil.mpr ?_ | with_reducible refine Co_brk.mpr ?_ | with_reducible refine Co_cont.mpr ?_ | with_reducible refine Co_retN.mpr ?_ | with_reducible refine Co_set' ?_ | with_reducible refine Co_own' ?_ | with_reducible refine Co_ret' ?_ | with_reducible refine Co_expr' ?_ | with_reducible refine Co_if' ?_ | with_reducible refine Co_frz' ?_ | with_reducible refine Co_app' ?_ | with_reducible refine Co_put' ?_ | with_reducible refine Co_aug' ?_ | with_reducible refine Co_asg' ?_)
  try simp only [Eo_C, Eo_V, Eo_B, Eo_bin, Eo_un, Eo_and, Eo_or, Eo_not, Eo_if, Eo_free, As_nil, As_cons, Eo_fn, Eo_call, As_seq, As_bor, As_rng1, Po_no, Po_E, Eo_sl, Eo_get1, dAdd_int, dSub_int, dLt_int, dLe_int, dGt_int, dGe_int, dNeg_int, dMax2_int, dMin2_int, dLen_lst, dLen_tup, dTuple_lst, dTuple_tup, dRev_lst, dAt_lst, dAt_tup, dAt_dic, dEq_int, dLst_nil, at_0, at_1, at_2, at_3, List.getElem?_cons_succ, List.getElem?_cons_zero, List.set_cons_succ, List.set_cons_zero, Option.some.injEq, Sl.v.injEq, Sl.o.injEq, D.int.injEq, D.bl.injEq, D.str.injEq, D.tup.injEq, D.lst.injEq, D.dic.injEq, reduceCtorEq, false_or, or_false, exists_eq_left', exists_eq_left, exists_eq', List.length_cons, List.length_nil, Nat.reduceAdd, true_and, and_true, decide_eq_true_eq, if_true, if_false, Bool.false_eq_true, Bool.not_true, Bool.not_false, Sq, Fb, wipeE]
  (first | with_reducible refine Co_seq.mpr ?_ | with_reducible refine Co_nil.mpr ?_ | with_reducible refine Co_brk.mpr ?_ | with_reducible refine Co_cont.mpr ?_ | with_reducible refine Co_retN.mpr ?_ | with_reducible refine Co_set' ?_ | with_reducible refine Co_own' ?_ | with_reducible refine Co_ret' ?_ | with_reducible refine Co_expr' ?_ | with_reducible refine Co_if' ?_ | with_reducible refine Co_frz' ?_ | with_reducible refine Co_app' ?_ | with_reducible refine Co_put' ?_ | with_reducible refine Co_aug' ?_ | with_reducible refine Co_asg' ?_)
  (first | with_reducible refine Co_seq.mpr ?_ | with_reducible refine Co_nil.mpr ?_ | with_reducible refine Co_brk.mpr ?_ | with_reducible refine Co_cont.mpr ?_ | with_reducible refine Co_retN.mpr ?_ | with_reducible refine Co_set' ?_ | with_reducible refine Co_own' ?_ | with_reducible refine Co_ret' ?_ | with_reducible refine Co_expr' ?_ | with_reducible refine Co_if' ?_ | with_reducible refine Co_frz' ?_ | with_reducible refine Co_app' ?_ | with_reducible refine Co_put' ?_ | with_reducible refine Co_aug' ?_ | with_reducible refine Co_asg' ?_)
  try simp only [Eo_C, Eo_V, Eo_B, Eo_bin, Eo_un, Eo_and, Eo_or, Eo_not, Eo_if, Eo_free, As_nil, As_cons, Eo_fn, Eo_call, As_seq, As_bor, As_rng1, Po_no, Po_E, Eo_sl, Eo_get1, dAdd_int, dSub_int, dLt_int, dLe_int, dGt_int, dGe_int, dNeg_int, dMax2_int, dMin2_int, dLen_lst, dLen_tup, dTuple_lst, dTuple_tup, dRev_lst, dAt_lst, dAt_tup, dAt_dic, dEq_int, dLst_nil, at_0, at_1, at_2, at_3, List.getElem?_cons_succ, List.getElem?_cons_zero, List.set_cons_succ, List.set_cons_zero, Option.some.injEq, Sl.v.injEq, Sl.o.injEq, D.int.injEq, D.bl.injEq, D.str.injEq, D.tup.injEq, D.lst.injEq, D.dic.injEq, reduceCtorEq, false_or, or_false, exists_eq_left', exists_eq_left, exists_eq', List.length_cons, List.length_nil, Nat.reduceAdd, true_and, and_true, decide_eq_true_eq, if_true, if_false, Bool.false_eq_true, Bool.not_true, Bool.not_false, Sq, Fb, wipeE]
  rw [Fo_of (told_runs hl)]
  try simp only [Eo_C, Eo_V, Eo_B, Eo_bin, Eo_un, Eo_and, Eo_or, Eo_not, Eo_if, Eo_free, As_nil, As_cons, Eo_fn, Eo_call, As_seq, As_bor, As_rng1, Po_no, Po_E, Eo_sl, Eo_get1, dAdd_int, dSub_int, dLt_int, dLe_int, dGt_int, dGe_int, dNeg_int, dMax2_int, dMin2_int, dLen_lst, dLen_tup, dTuple_lst, dTuple_tup, dRev_lst, dAt_lst, dAt_tup, dAt_dic, dEq_int, dLst_nil, at_0, at_1, at_2, at_3, List.getElem?_cons_succ, List.getElem?_cons_zero, List.set_cons_succ, List.set_cons_zero, Option.some.injEq, Sl.v.injEq, Sl.o.injEq, D.int.injEq, D.bl.injEq, D.str.injEq, D.tup.injEq, D.lst.injEq, D.dic.injEq, reduceCtorEq, false_or, or_false, exists_eq_left', exists_eq_left, exists_eq', List.length_cons, List.length_nil, Nat.reduceAdd, true_and, and_true, decide_eq_true_eq, if_true, if_false, Bool.false_eq_true, Bool.not_true, Bool.not_false, Sq, Fb, wipeE]
  rw [Fo_of (same_pairs (big (Nat.lt_of_le_of_lt (List.length_filter_le _ _) kl)) fun d hd => kp d (List.mem_filter.mp hd).1)]
  refine ⟨_, rfl, ?_⟩
  rw [if_neg (by decide)]
  (first | with_reducible refine Co_seq.mpr ?_ | with_reducible refine Co_nil.mpr ?_ | with_reducible refine Co_brk.mpr ?_ | with_reducible refine Co_cont.mpr ?_ | with_reducible refine Co_retN.mpr ?_ | with_reducible refine Co_set' ?_ | with_reducible refine Co_own' ?_ | with_reducible refine Co_ret' ?_ | with_reducible refine Co_expr' ?_ | with_reducible refine Co_if' ?_ | with_reducible refine Co_frz' ?_ | with_reducible refine Co_app' ?_ | with_reducible refine Co_put' ?_ | with_reducible refine Co_aug' ?_ | with_reducible refine Co_asg' ?_)
  try simp only [Eo_C, Eo_V, Eo_B, Eo_bin, Eo_un, Eo_and, Eo_or, Eo_not, Eo_if, Eo_free, As_nil, As_cons, Eo_fn, Eo_call, As_seq, As_bor, As_rng1, Po_no, Po_E, Eo_sl, Eo_get1, dAdd_int, dSub_int, dLt_int, dLe_int, dGt_int, dGe_int, dNeg_int, dMax2_int, dMin2_int, dLen_lst, dLen_tup, dTuple_lst, dTuple_tup, dRev_lst, dAt_lst, dAt_tup, dAt_dic, dEq_int, dLst_nil, at_0, at_1, at_2, at_3, List.getElem?_cons_succ, List.getElem?_cons_zero, List.set_cons_succ, List.set_cons_zero, Option.some.injEq, Sl.v.injEq, Sl.o.injEq, D.int.injEq, D.bl.injEq, D.str.injEq, D.tup.injEq, D.lst.injEq, D.dic.injEq, reduceCtorEq, false_or, or_false, exists_eq_left', exists_eq_left, exists_eq', List.length_cons, List.length_nil, Nat.reduceAdd, true_and, and_true, decide_eq_true_eq, if_true, if_false, Bool.false_eq_true, Bool.not_true, Bool.not_false, Sq, Fb, wipeE]
  (first | with_reducible refine Co_seq.mpr ?_ | with_reducible refine Co_nil.mpr ?_ | with_reducible refine Co_brk.mpr ?_ | with_reducible refine Co_cont.mpr ?_ | with_reducible refine Co_retN.mpr ?_ | with_reducible refine Co_set' ?_ | with_reducible refine Co_own' ?_ | with_reducible refine Co_ret' ?_ | with_reducible refine Co_expr' ?_ | with_reducible refine Co_if' ?_ | with_reducible refine Co_frz' ?_ | with_reducible refine Co_app' ?_ | with_reducible refine Co_put' ?_ | with_reducible refine Co_aug' ?_ | with_reducible refine Co_asg' ?_)
  try simp only [Eo_C, Eo_V, Eo_B, Eo_bin, Eo_un, Eo_and, Eo_or, Eo_not, Eo_if, Eo_free, As_nil, As_cons, Eo_fn, Eo_call, As_seq, As_bor, As_rng1, Po_no, Po_E, Eo_sl, Eo_get1, dAdd_int, dSub_int, dLt_int, dLe_int, dGt_int, dGe_int, dNeg_int, dMax2_int, dMin2_int, dLen_lst, dLen_tup, dTuple_lst, dTuple_tup, dRev_lst, dAt_lst, dAt_tup, dAt_dic, dEq_int, dLst_nil, at_0, at_1, at_2, at_3, List.getElem?_cons_succ, List.getElem?_cons_zero, List.set_cons_succ, List.set_cons_zero, Option.some.injEq, Sl.v.injEq, Sl.o.injEq, D.int.injEq, D.bl.injEq, D.str.injEq, D.tup.injEq, D.lst.injEq, D.dic.injEq, reduceCtorEq, false_or, or_false, exists_eq_left', exists_eq_left, exists_eq', List.length_cons, List.length_nil, Nat.reduceAdd, true_and, and_true, decide_eq_true_eq, if_true, if_false, Bool.false_eq_true, Bool.not_true, Bool.not_false, Sq, Fb, wipeE]
  rw [Fo_of (corrected_runs hl)]
  try simp only [Eo_C, Eo_V, Eo_B, Eo_bin, Eo_un, Eo_and, Eo_or, Eo_not, Eo_if, Eo_free, As_nil, As_cons, Eo_fn, Eo_call, As_seq, As_bor, As_rng1, Po_no, Po_E, Eo_sl, Eo_get1, dAdd_int, dSub_int, dLt_int, dLe_int, dGt_int, dGe_int, dNeg_int, dMax2_int, dMin2_int, dLen_lst, dLen_tup, dTuple_lst, dTuple_tup, dRev_lst, dAt_lst, dAt_tup, dAt_dic, dEq_int, dLst_nil, at_0, at_1, at_2, at_3, List.getElem?_cons_succ, List.getElem?_cons_zero, List.set_cons_succ, List.set_cons_zero, Option.some.injEq, Sl.v.injEq, Sl.o.injEq, D.int.injEq, D.bl.injEq, D.str.injEq, D.tup.injEq, D.lst.injEq, D.dic.injEq, reduceCtorEq, false_or, or_false, exists_eq_left', exists_eq_left, exists_eq', List.length_cons, List.length_nil, Nat.reduceAdd, true_and, and_true, decide_eq_true_eq, if_true, if_false, Bool.false_eq_true, Bool.not_true, Bool.not_false, Sq, Fb, wipeE]
  rw [Fo_of (law_corrected_runs hl)]
  unfold amended
  rw [Fo_of (same_ints (big (Nat.lt_of_le_of_lt (List.length_filter_le _ _) (Nat.lt_of_le_of_lt (nums_len es) hl))))]
  exact p
theorem cutD_map {α β : Type} (f : α → β) (l : List α) (i j : Option Int) : cutD (l.map f) i j = (cutD l i j).map f := by
  unfold cutD
  rw [List.length_map, ← List.map_drop, ← List.map_take]
theorem cutD_len {α : Type} (l : List α) (i j : Option Int) : (cutD l i j).length ≤ l.length := by
  unfold cutD
  rw [List.length_take, List.length_drop]
  omega
theorem histories_runs {es : List En} {st : DS} (hl : es.length < 64) : F_law_histories_right [.lst (bk es)] st = some (.ok (.bl true), st) := by
  refine to_Fo fun P p => ?_
  have nl := Nat.lt_of_le_of_lt (nums_len es) hl
  unfold F_law_histories_right
  (refine Fo_body.mpr ⟨rfl, ?_⟩; simp only [List.map_cons, List.map_nil, List.cons_append, List.nil_append, Nat.reduceSub, List.reduceReplicate])
  unfold G_law_histories_right
  (first | with_reducible refine Co_seq.mpr ?_ | with_reducible refine Co_nil.mpr ?_ | with_reducible refine Co_brk.mpr ?_ | with_reducible refine Co_cont.mpr ?_ | with_reducible refine Co_retN.mpr ?_ | with_reducible refine Co_set' ?_ | with_reducible refine Co_own' ?_ | with_reducible refine Co_ret' ?_ | with_reducible refine Co_expr' ?_ | with_reducible refine Co_if' ?_ | with_reducible refine Co_frz' ?_ | with_reducible refine Co_app' ?_ | with_reducible refine Co_put' ?_ | with_reducible refine Co_aug' ?_ | with_reducible refine Co_asg' ?_)
  (first | with_reducible refine Co_seq.mpr ?_ | with_reducible refine Co_nil.mpr ?_ | with_reducible refine Co_brk.mpr ?_ | with_reducible refine Co_cont.mpr ?_ | with_reducible refine Co_retN.mpr ?_ | with_reducible refine Co_set' ?_ | with_reducible refine Co_own' ?_ | with_reducible refine Co_ret' ?_ | with_reducible refine Co_expr' ?_ | with_reducible refine Co_if' ?_ | with_reducible refine Co_frz' ?_ | with_reducible refine Co_app' ?_ | with_reducible refine Co_put' ?_ | with_reducible refine Co_aug' ?_ | with_reducible refine Co_asg' ?_)
  try simp only [Eo_C, Eo_V, Eo_B, Eo_bin, Eo_un, Eo_and, Eo_or, Eo_not, Eo_if, Eo_free, As_nil, As_cons, Eo_fn, Eo_call, As_seq, As_bor, As_rng1, Po_no, Po_E, Eo_sl, Eo_get1, dAdd_int, dSub_int, dLt_int, dLe_int, dGt_int, dGe_int, dNeg_int, dMax2_int, dMin2_int, dLen_lst, dLen_tup, dTuple_lst, dTuple_tup, dRev_lst, dAt_lst, dAt_tup, dAt_dic, dEq_int, dLst_nil, at_0, at_1, at_2, at_3, List.getElem?_cons_succ, List.getElem?_cons_zero, List.set_cons_succ, List.set_cons_zero, Option.some.injEq, Sl.v.injEq, Sl.o.injEq, D.int.injEq, D.bl.injEq, D.str.injEq, D.tup.injEq, D.lst.injEq, D.dic.injEq, reduceCtorEq, false_or, or_false, exists_eq_left', exists_eq_left, exists_eq', List.length_cons, List.length_nil, Nat.reduceAdd, true_and, and_true, decide_eq_true_eq, if_true, if_false, Bool.false_eq_true, Bool.not_true, Bool.not_false, Sq, Fb, wipeE]
  rw [Fo_of (numbers_runs hl)]
  try simp only [Eo_C, Eo_V, Eo_B, Eo_bin, Eo_un, Eo_and, Eo_or, Eo_not, Eo_if, Eo_free, As_nil, As_cons, Eo_fn, Eo_call, As_seq, As_bor, As_rng1, Po_no, Po_E, Eo_sl, Eo_get1, dAdd_int, dSub_int, dLt_int, dLe_int, dGt_int, dGe_int, dNeg_int, dMax2_int, dMin2_int, dLen_lst, dLen_tup, dTuple_lst, dTuple_tup, dRev_lst, dAt_lst, dAt_tup, dAt_dic, dEq_int, dLst_nil, at_0, at_1, at_2, at_3, List.getElem?_cons_succ, List.getElem?_cons_zero, List.set_cons_succ, List.set_cons_zero, Option.some.injEq, Sl.v.injEq, Sl.o.injEq, D.int.injEq, D.bl.injEq, D.str.injEq, D.tup.injEq, D.lst.injEq, D.dic.injEq, reduceCtorEq, false_or, or_false, exists_eq_left', exists_eq_left, exists_eq', List.length_cons, List.length_nil, Nat.reduceAdd, true_and, and_true, decide_eq_true_eq, if_true, if_false, Bool.false_eq_true, Bool.not_true, Bool.not_false, Sq, Fb, wipeE]
  (first | with_reducible refine Co_seq.mpr ?_ | with_reducible refine Co_nil.mpr ?_ | with_reducible refine Co_brk.mpr ?_ | with_reducible refine Co_cont.mpr ?_ | with_reducible refine Co_retN.mpr ?_ | with_reducible refine Co_set' ?_ | with_reducible refine Co_own' ?_ | with_reducible refine Co_ret' ?_ | with_reducible refine Co_expr' ?_ | with_reducible refine Co_if' ?_ | with_reducible refine Co_frz' ?_ | with_reducible refine Co_app' ?_ | with_reducible refine Co_put' ?_ | with_reducible refine Co_aug' ?_ | with_reducible refine Co_asg' ?_)
  (first | with_reducible refine Co_seq.mpr ?_ | with_reducible refine Co_nil.mpr ?_ | with_reducible refine Co_brk.mpr ?_ | with_reducible refine Co_cont.mpr ?_ | with_reducible refine Co_retN.mpr ?_ | with_reducible refine Co_set' ?_ | with_reducible refine Co_own' ?_ | with_reducible refine Co_ret' ?_ | with_reducible refine Co_expr' ?_ | with_reducible refine Co_if' ?_ | with_reducible refine Co_frz' ?_ | with_reducible refine Co_app' ?_ | with_reducible refine Co_put' ?_ | with_reducible refine Co_aug' ?_ | with_reducible refine Co_asg' ?_)
  refine lc_int ((List.range 100).map fun k : Nat => (0 + (k : Int))) (fun k => !(((nums es).map D.int).any fun z => D.eqv z (.int k))) D.int (fun PA p => ?_) (by rw [List.length_map, List.length_range]; decide) (fun n hn => ⟨_, rfl, ?_, fun _ => ?_⟩) ?_
  · try simp only [Eo_C, Eo_V, Eo_B, Eo_bin, Eo_un, Eo_and, Eo_or, Eo_not, Eo_if, Eo_free, As_nil, As_cons, Eo_fn, Eo_call, As_seq, As_bor, As_rng1, Po_no, Po_E, Eo_sl, Eo_get1, dAdd_int, dSub_int, dLt_int, dLe_int, dGt_int, dGe_int, dNeg_int, dMax2_int, dMin2_int, dLen_lst, dLen_tup, dTuple_lst, dTuple_tup, dRev_lst, dAt_lst, dAt_tup, dAt_dic, dEq_int, dLst_nil, at_0, at_1, at_2, at_3, List.getElem?_cons_succ, List.getElem?_cons_zero, List.set_cons_succ, List.set_cons_zero, Option.some.injEq, Sl.v.injEq, Sl.o.injEq, D.int.injEq, D.bl.injEq, D.str.injEq, D.tup.injEq, D.lst.injEq, D.dic.injEq, reduceCtorEq, false_or, or_false, exists_eq_left', exists_eq_left, exists_eq', List.length_cons, List.length_nil, Nat.reduceAdd, true_and, and_true, decide_eq_true_eq, if_true, if_false, Bool.false_eq_true, Bool.not_true, Bool.not_false, Sq, Fb, wipeE]
    refine ⟨by decide, ?_⟩
    rw [List.map_map] at p
    exact p
  · try simp only [Eo_C, Eo_V, Eo_B, Eo_bin, Eo_un, Eo_and, Eo_or, Eo_not, Eo_if, Eo_free, As_nil, As_cons, Eo_fn, Eo_call, As_seq, As_bor, As_rng1, Po_no, Po_E, Eo_sl, Eo_get1, dAdd_int, dSub_int, dLt_int, dLe_int, dGt_int, dGe_int, dNeg_int, dMax2_int, dMin2_int, dLen_lst, dLen_tup, dTuple_lst, dTuple_tup, dRev_lst, dAt_lst, dAt_tup, dAt_dic, dEq_int, dLst_nil, at_0, at_1, at_2, at_3, List.getElem?_cons_succ, List.getElem?_cons_zero, List.set_cons_succ, List.set_cons_zero, Option.some.injEq, Sl.v.injEq, Sl.o.injEq, D.int.injEq, D.bl.injEq, D.str.injEq, D.tup.injEq, D.lst.injEq, D.dic.injEq, reduceCtorEq, false_or, or_false, exists_eq_left', exists_eq_left, exists_eq', List.length_cons, List.length_nil, Nat.reduceAdd, true_and, and_true, decide_eq_true_eq, if_true, if_false, Bool.false_eq_true, Bool.not_true, Bool.not_false, Sq, Fb, wipeE]
    have fl : ((D.int n).flat && ((nums es).map D.int).all D.flat) = true := by
      rw [Bool.and_eq_true, List.all_eq_true]
      refine ⟨rfl, fun d hd => ?_⟩
      obtain ⟨_, _, rfl⟩ := List.mem_map.mp hd
      rfl
    refine ⟨_, ?_, rfl⟩
    unfold dNotIn dOr dInDic dInSeq
    simp only [fl, if_true]
  · try simp only [Eo_C, Eo_V, Eo_B, Eo_bin, Eo_un, Eo_and, Eo_or, Eo_not, Eo_if, Eo_free, As_nil, As_cons, Eo_fn, Eo_call, As_seq, As_bor, As_rng1, Po_no, Po_E, Eo_sl, Eo_get1, dAdd_int, dSub_int, dLt_int, dLe_int, dGt_int, dGe_int, dNeg_int, dMax2_int, dMin2_int, dLen_lst, dLen_tup, dTuple_lst, dTuple_tup, dRev_lst, dAt_lst, dAt_tup, dAt_dic, dEq_int, dLst_nil, at_0, at_1, at_2, at_3, List.getElem?_cons_succ, List.getElem?_cons_zero, List.set_cons_succ, List.set_cons_zero, Option.some.injEq, Sl.v.injEq, Sl.o.injEq, D.int.injEq, D.bl.injEq, D.str.injEq, D.tup.injEq, D.lst.injEq, D.dic.injEq, reduceCtorEq, false_or, or_false, exists_eq_left', exists_eq_left, exists_eq', List.length_cons, List.length_nil, Nat.reduceAdd, true_and, and_true, decide_eq_true_eq, if_true, if_false, Bool.false_eq_true, Bool.not_true, Bool.not_false, Sq, Fb, wipeE]
  generalize hsp : ((List.range 100).map fun k : Nat => (0 + (k : Int))).filter (fun k => !(((nums es).map D.int).any fun z => D.eqv z (.int k))) = sp
  have spl : sp.length ≤ 100 := by
    rw [← hsp]
    refine Nat.le_trans (List.length_filter_le _ _) ?_
    rw [List.length_map, List.length_range]
    exact Nat.le_refl _
  try simp only [Eo_C, Eo_V, Eo_B, Eo_bin, Eo_un, Eo_and, Eo_or, Eo_not, Eo_if, Eo_free, As_nil, As_cons, Eo_fn, Eo_call, As_seq, As_bor, As_rng1, Po_no, Po_E, Eo_sl, Eo_get1, dAdd_int, dSub_int, dLt_int, dLe_int, dGt_int, dGe_int, dNeg_int, dMax2_int, dMin2_int, dLen_lst, dLen_tup, dTuple_lst, dTuple_tup, dRev_lst, dAt_lst, dAt_tup, dAt_dic, dEq_int, dLst_nil, at_0, at_1, at_2, at_3, List.getElem?_cons_succ, List.getElem?_cons_zero, List.set_cons_succ, List.set_cons_zero, Option.some.injEq, Sl.v.injEq, Sl.o.injEq, D.int.injEq, D.bl.injEq, D.str.injEq, D.tup.injEq, D.lst.injEq, D.dic.injEq, reduceCtorEq, false_or, or_false, exists_eq_left', exists_eq_left, exists_eq', List.length_cons, List.length_nil, Nat.reduceAdd, true_and, and_true, decide_eq_true_eq, if_true, if_false, Bool.false_eq_true, Bool.not_true, Bool.not_false, Sq, Fb, wipeE]
  (first | with_reducible refine Co_seq.mpr ?_ | with_reducible refine Co_nil.mpr ?_ | with_reducible refine Co_brk.mpr ?_ | with_reducible refine Co_cont.mpr ?_ | with_reducible refine Co_retN.mpr ?_ | with_reducible refine Co_set' ?_ | with_reducible refine Co_own' ?_ | with_reducible refine Co_ret' ?_ | with_reducible refine Co_expr' ?_ | with_reducible refine Co_if' ?_ | with_reducible refine Co_frz' ?_ | with_reducible refine Co_app' ?_ | with_reducible refine Co_put' ?_ | with_reducible refine Co_aug' ?_ | with_reducible refine Co_asg' ?_)
  have a1 : ∀ i j, dSl (.lst (sp.map D.int)) i j = some (.lst ((cutD sp i j).map D.int)) := fun i j => by
    rw [← cutD_map]; rfl
  refine Co_for' (fun i ρ st' => st' = st ∧ ∃ a b c, ρ = [.v (.lst (bk es)), a, b, c]) ?_
  try simp only [Eo_C, Eo_V, Eo_B, Eo_bin, Eo_un, Eo_and, Eo_or, Eo_not, Eo_if, Eo_free, As_nil, As_cons, Eo_fn, Eo_call, As_seq, As_bor, As_rng1, Po_no, Po_E, Eo_sl, Eo_get1, dAdd_int, dSub_int, dLt_int, dLe_int, dGt_int, dGe_int, dNeg_int, dMax2_int, dMin2_int, dLen_lst, dLen_tup, dTuple_lst, dTuple_tup, dRev_lst, dAt_lst, dAt_tup, dAt_dic, dEq_int, dLst_nil, at_0, at_1, at_2, at_3, List.getElem?_cons_succ, List.getElem?_cons_zero, List.set_cons_succ, List.set_cons_zero, Option.some.injEq, Sl.v.injEq, Sl.o.injEq, D.int.injEq, D.bl.injEq, D.str.injEq, D.tup.injEq, D.lst.injEq, D.dic.injEq, reduceCtorEq, false_or, or_false, exists_eq_left', exists_eq_left, exists_eq', List.length_cons, List.length_nil, Nat.reduceAdd, true_and, and_true, decide_eq_true_eq, if_true, if_false, Bool.false_eq_true, Bool.not_true, Bool.not_false, Sq, Fb, wipeE]
  refine ⟨_, a1 _ _, _, dAdd_lst _ _ ?_, ?_⟩
  · rw [List.length_map, List.length_map]
    have := cutD_len sp none (some 1)
    exact Nat.le_trans (by omega : _ ≤ 200) (by decide)
  refine ⟨_, a1 _ _, _, dAdd_lst _ _ ?_, _, .inl rfl, ⟨_, _, _, rfl⟩, ?_, ?_⟩
  · rw [List.length_append, List.length_map, List.length_map, List.length_map]
    have := cutD_len sp none (some 1)
    have := cutD_len sp (some (-1)) none
    exact Nat.le_trans (by omega : _ ≤ 300) (by decide)
  · rintro i d ρ st' hd ⟨rfl, a, b, c, rfl⟩
    have hm := List.mem_of_getElem? hd
    rw [← List.map_append, ← List.map_append] at hm
    obtain ⟨n, hn, rfl⟩ := List.mem_map.mp hm
    refine ⟨_, rfl, ?_⟩
    (first | with_reducible refine Co_seq.mpr ?_ | with_reducible refine Co_nil.mpr ?_ | with_reducible refine Co_brk.mpr ?_ | with_reducible refine Co_cont.mpr ?_ | with_reducible refine Co_retN.mpr ?_ | with_reducible refine Co_set' ?_ | with_reducible refine Co_own' ?_ | with_reducible refine Co_ret' ?_ | with_reducible refine Co_expr' ?_ | with_reducible refine Co_if' ?_ | with_reducible refine Co_frz' ?_ | with_reducible refine Co_app' ?_ | with_reducible refine Co_put' ?_ | with_reducible refine Co_aug' ?_ | with_reducible refine Co_asg' ?_)
    try simp only [Eo_C, Eo_V, Eo_B, Eo_bin, Eo_un, Eo_and, Eo_or, Eo_not, Eo_if, Eo_free, As_nil, As_cons, Eo_fn, Eo_call, As_seq, As_bor, As_rng1, Po_no, Po_E, Eo_sl, Eo_get1, dAdd_int, dSub_int, dLt_int, dLe_int, dGt_int, dGe_int, dNeg_int, dMax2_int, dMin2_int, dLen_lst, dLen_tup, dTuple_lst, dTuple_tup, dRev_lst, dAt_lst, dAt_tup, dAt_dic, dEq_int, dLst_nil, at_0, at_1, at_2, at_3, List.getElem?_cons_succ, List.getElem?_cons_zero, List.set_cons_succ, List.set_cons_zero, Option.some.injEq, Sl.v.injEq, Sl.o.injEq, D.int.injEq, D.bl.injEq, D.str.injEq, D.tup.injEq, D.lst.injEq, D.dic.injEq, reduceCtorEq, false_or, or_false, exists_eq_left', exists_eq_left, exists_eq', List.length_cons, List.length_nil, Nat.reduceAdd, true_and, and_true, decide_eq_true_eq, if_true, if_false, Bool.false_eq_true, Bool.not_true, Bool.not_false, Sq, Fb, wipeE]
    rw [Fo_of (history_runs hl)]
    try simp only [Eo_C, Eo_V, Eo_B, Eo_bin, Eo_un, Eo_and, Eo_or, Eo_not, Eo_if, Eo_free, As_nil, As_cons, Eo_fn, Eo_call, As_seq, As_bor, As_rng1, Po_no, Po_E, Eo_sl, Eo_get1, dAdd_int, dSub_int, dLt_int, dLe_int, dGt_int, dGe_int, dNeg_int, dMax2_int, dMin2_int, dLen_lst, dLen_tup, dTuple_lst, dTuple_tup, dRev_lst, dAt_lst, dAt_tup, dAt_dic, dEq_int, dLst_nil, at_0, at_1, at_2, at_3, List.getElem?_cons_succ, List.getElem?_cons_zero, List.set_cons_succ, List.set_cons_zero, Option.some.injEq, Sl.v.injEq, Sl.o.injEq, D.int.injEq, D.bl.injEq, D.str.injEq, D.tup.injEq, D.lst.injEq, D.dic.injEq, reduceCtorEq, false_or, or_false, exists_eq_left', exists_eq_left, exists_eq', List.length_cons, List.length_nil, Nat.reduceAdd, true_and, and_true, decide_eq_true_eq, if_true, if_false, Bool.false_eq_true, Bool.not_true, Bool.not_false, Sq, Fb, wipeE]
    rw [Fo_of (law_history_runs hl)]
    try simp only [Eo_C, Eo_V, Eo_B, Eo_bin, Eo_un, Eo_and, Eo_or, Eo_not, Eo_if, Eo_free, As_nil, As_cons, Eo_fn, Eo_call, As_seq, As_bor, As_rng1, Po_no, Po_E, Eo_sl, Eo_get1, dAdd_int, dSub_int, dLt_int, dLe_int, dGt_int, dGe_int, dNeg_int, dMax2_int, dMin2_int, dLen_lst, dLen_tup, dTuple_lst, dTuple_tup, dRev_lst, dAt_lst, dAt_tup, dAt_dic, dEq_int, dLst_nil, at_0, at_1, at_2, at_3, List.getElem?_cons_succ, List.getElem?_cons_zero, List.set_cons_succ, List.set_cons_zero, Option.some.injEq, Sl.v.injEq, Sl.o.injEq, D.int.injEq, D.bl.injEq, D.str.injEq, D.tup.injEq, D.lst.injEq, D.dic.injEq, reduceCtorEq, false_or, or_false, exists_eq_left', exists_eq_left, exists_eq', List.length_cons, List.length_nil, Nat.reduceAdd, true_and, and_true, decide_eq_true_eq, if_true, if_false, Bool.false_eq_true, Bool.not_true, Bool.not_false, Sq, Fb, wipeE]
    have pl : ((hix (under es n)).map prD).length ≤ sizeLine := by
      rw [List.length_map]
      refine Nat.le_trans (List.length_filterMap_le _ _) (Nat.le_trans (List.length_filter_le _ _) ?_)
      rw [List.length_range]
      exact Nat.le_trans (List.length_filter_le _ _) (Nat.le_trans (Nat.le_of_lt hl) (by decide))
    rw [Fo_of (same_pairs pl fun d hd => by
      obtain ⟨e, _, rfl⟩ := List.mem_map.mp hd
      exact ⟨e.day, e.no, rfl⟩)]
    refine ⟨_, rfl, ?_⟩
    rw [if_neg (by decide)]
    (first | with_reducible refine Co_seq.mpr ?_ | with_reducible refine Co_nil.mpr ?_ | with_reducible refine Co_brk.mpr ?_ | with_reducible refine Co_cont.mpr ?_ | with_reducible refine Co_retN.mpr ?_ | with_reducible refine Co_set' ?_ | with_reducible refine Co_own' ?_ | with_reducible refine Co_ret' ?_ | with_reducible refine Co_expr' ?_ | with_reducible refine Co_if' ?_ | with_reducible refine Co_frz' ?_ | with_reducible refine Co_app' ?_ | with_reducible refine Co_put' ?_ | with_reducible refine Co_aug' ?_ | with_reducible refine Co_asg' ?_)
    exact ⟨rfl, _, _, _, rfl⟩
  · rintro ρ st' ⟨rfl, a, b, c, rfl⟩
    (first | with_reducible refine Co_seq.mpr ?_ | with_reducible refine Co_nil.mpr ?_ | with_reducible refine Co_brk.mpr ?_ | with_reducible refine Co_cont.mpr ?_ | with_reducible refine Co_retN.mpr ?_ | with_reducible refine Co_set' ?_ | with_reducible refine Co_own' ?_ | with_reducible refine Co_ret' ?_ | with_reducible refine Co_expr' ?_ | with_reducible refine Co_if' ?_ | with_reducible refine Co_frz' ?_ | with_reducible refine Co_app' ?_ | with_reducible refine Co_put' ?_ | with_reducible refine Co_aug' ?_ | with_reducible refine Co_asg' ?_)
    try simp only [Eo_C, Eo_V, Eo_B, Eo_bin, Eo_un, Eo_and, Eo_or, Eo_not, Eo_if, Eo_free, As_nil, As_cons, Eo_fn, Eo_call, As_seq, As_bor, As_rng1, Po_no, Po_E, Eo_sl, Eo_get1, dAdd_int, dSub_int, dLt_int, dLe_int, dGt_int, dGe_int, dNeg_int, dMax2_int, dMin2_int, dLen_lst, dLen_tup, dTuple_lst, dTuple_tup, dRev_lst, dAt_lst, dAt_tup, dAt_dic, dEq_int, dLst_nil, at_0, at_1, at_2, at_3, List.getElem?_cons_succ, List.getElem?_cons_zero, List.set_cons_succ, List.set_cons_zero, Option.some.injEq, Sl.v.injEq, Sl.o.injEq, D.int.injEq, D.bl.injEq, D.str.injEq, D.tup.injEq, D.lst.injEq, D.dic.injEq, reduceCtorEq, false_or, or_false, exists_eq_left', exists_eq_left, exists_eq', List.length_cons, List.length_nil, Nat.reduceAdd, true_and, and_true, decide_eq_true_eq, if_true, if_false, Bool.false_eq_true, Bool.not_true, Bool.not_false, Sq, Fb, wipeE]
    exact p
/-! ### the drawing -/
theorem dEq_i (i j : Int) : dEq (.int i) (.int j) = some (.bl (decide (i = j))) := dEq_int i j
theorem letter_at {i : Int} (h0 : 0 ≤ i) (h1 : i < 26) : ∃ c : Str, dAt (.str "abcdefghijklmnopqrstuvwxyz") (.int i) = some (.str c) ∧ c.length ≤ 1 := by
  obtain ⟨j, rfl⟩ := Int.eq_ofNat_of_zero_le h0
  have hj : j < 26 := by omega
  have key : ∀ j : Fin 26, ∃ c : Nat, dAt (.str "abcdefghijklmnopqrstuvwxyz") (.int ((j.val : Nat) : Int)) = some (.str ⟨#[c]⟩) := by
    intro j
    have : ∀ j : Fin 26, ((atI ("abcdefghijklmnopqrstuvwxyz" : Str).cps.toList ((j.val : Nat) : Int)).isSome) = true := by decide +kernel
    obtain ⟨c, hc⟩ := Option.isSome_iff_exists.mp (this j)
    refine ⟨c, ?_⟩
    unfold dAt dIx dOr dIxL dIxT dIxS
    have hl : ("abcdefghijklmnopqrstuvwxyz" : Str).length ≤ sizeLine := by decide +kernel
    simp only [hl, if_true, hc]
  obtain ⟨c, hc⟩ := key ⟨j, hj⟩
  exact ⟨_, hc, Nat.le_refl 1⟩
theorem dMul_small {i j : Int} (h0 : -(2 ^ 64) < i) (h1 : i < 2 ^ 64) : dMul (.int i) (.int j) = some (.int (i * j)) := by
  have h : cMul i j = true := by
    unfold cMul
    rw [decide_eq_true h0, decide_eq_true h1]
    rfl
  unfold dMul dI
  simp only [h, if_true]
def strsOf (ws : List Str) : List D := ws.map D.str
theorem names_runs {m : Int} {st : DS} {P : D → DS → Prop} (h0 : 1 ≤ m) (h1 : m ≤ 3) (k : ∀ (ws : List Str), ws ≠ [] → ws.length ≤ 3 → ∀ st', P (.lst (strsOf ws)) st') : Fo F_law_names [.dst, .int m] st P := by
  have hmx : (if m > 1 then m else 1) = m := by split <;> omega
  obtain ⟨q, hq0, hq1, hq2⟩ : ∃ q : Int, dDiv (.int 26) (.int m) = some (.int q) ∧ 0 < q ∧ ∀ k : Int, 0 ≤ k → k < m → 0 ≤ k * q ∧ k * q + q ≤ 26 := by
    have : m = 1 ∨ m = 2 ∨ m = 3 := by omega
    rcases this with rfl | rfl | rfl
    · exact ⟨26, rfl, by decide, fun k a b => by omega⟩
    · exact ⟨13, rfl, by decide, fun k a b => by omega⟩
    · exact ⟨8, rfl, by decide, fun k a b => by omega⟩
  have hq3 : q < 1073741824 := by have := hq2 0 (by omega) (by omega); omega
  unfold F_law_names
  (refine Fo_body.mpr ⟨rfl, ?_⟩; simp only [List.map_cons, List.map_nil, List.cons_append, List.nil_append, Nat.reduceSub, List.reduceReplicate])
  unfold G_law_names
  (first | with_reducible refine Co_seq.mpr ?_ | with_reducible refine Co_nil.mpr ?_ | with_reducible refine Co_brk.mpr ?_ | with_reducible refine Co_cont.mpr ?_ | with_reducible refine Co_retN.mpr ?_ | with_reducible refine Co_set' ?_ | with_reducible refine Co_own' ?_ | with_reducible refine Co_ret' ?_ | with_reducible refine Co_expr' ?_ | with_reducible refine Co_if' ?_ | with_reducible refine Co_frz' ?_ | with_reducible refine Co_app' ?_ | with_reducible refine Co_put' ?_ | with_reducible refine Co_aug' ?_ | with_reducible refine Co_asg' ?_)
  (first | with_reducible refine Co_seq.mpr ?_ | with_reducible refine Co_nil.mpr ?_ | with_reducible refine Co_brk.mpr ?_ | with_reducible refine Co_cont.mpr ?_ | with_reducible refine Co_retN.mpr ?_ | with_reducible refine Co_set' ?_ | with_reducible refine Co_own' ?_ | with_reducible refine Co_ret' ?_ | with_reducible refine Co_expr' ?_ | with_reducible refine Co_if' ?_ | with_reducible refine Co_frz' ?_ | with_reducible refine Co_app' ?_ | with_reducible refine Co_put' ?_ | with_reducible refine Co_aug' ?_ | with_reducible refine Co_asg' ?_)
  try simp only [Eo_C, Eo_V, Eo_B, Eo_bin, Eo_un, Eo_and, Eo_or, Eo_not, Eo_if, Eo_free, As_nil, As_cons, Eo_fn, Eo_call, As_seq, As_bor, As_rng1, Po_no, Po_E, Eo_sl, Eo_get1, dAdd_int, dSub_int, dLt_int, dLe_int, dGt_int, dGe_int, dNeg_int, dMax2_int, dMin2_int, dLen_lst, dLen_tup, dTuple_lst, dTuple_tup, dRev_lst, dAt_lst, dAt_tup, dAt_dic, dEq_int, dLst_nil, at_0, at_1, at_2, at_3, List.getElem?_cons_succ, List.getElem?_cons_zero, List.set_cons_succ, List.set_cons_zero, Option.some.injEq, Sl.v.injEq, Sl.o.injEq, D.int.injEq, D.bl.injEq, D.str.injEq, D.tup.injEq, D.lst.injEq, D.dic.injEq, reduceCtorEq, false_or, or_false, exists_eq_left', exists_eq_left, exists_eq', List.length_cons, List.length_nil, Nat.reduceAdd, true_and, and_true, decide_eq_true_eq, if_true, if_false, Bool.false_eq_true, Bool.not_true, Bool.not_false, Sq, Fb, wipeE]
  (first | with_reducible refine Co_seq.mpr ?_ | with_reducible refine Co_nil.mpr ?_ | with_reducible refine Co_brk.mpr ?_ | with_reducible refine Co_cont.mpr ?_ | with_reducible refine Co_retN.mpr ?_ | with_reducible refine Co_set' ?_ | with_reducible refine Co_own' ?_ | with_reducible refine Co_ret' ?_ | with_reducible refine Co_expr' ?_ | with_reducible refine Co_if' ?_ | with_reducible refine Co_frz' ?_ | with_reducible refine Co_app' ?_ | with_reducible refine Co_put' ?_ | with_reducible refine Co_aug' ?_ | with_reducible refine Co_asg' ?_)
  (first | with_reducible refine Co_seq.mpr ?_ | with_reducible refine Co_nil.mpr ?_ | with_reducible refine Co_brk.mpr ?_ | with_reducible refine Co_cont.mpr ?_ | with_reducible refine Co_retN.mpr ?_ | with_reducible refine Co_set' ?_ | with_reducible refine Co_own' ?_ | with_reducible refine Co_ret' ?_ | with_reducible refine Co_expr' ?_ | with_reducible refine Co_if' ?_ | with_reducible refine Co_frz' ?_ | with_reducible refine Co_app' ?_ | with_reducible refine Co_put' ?_ | with_reducible refine Co_aug' ?_ | with_reducible refine Co_asg' ?_)
  try simp only [Eo_C, Eo_V, Eo_B, Eo_bin, Eo_un, Eo_and, Eo_or, Eo_not, Eo_if, Eo_free, As_nil, As_cons, Eo_fn, Eo_call, As_seq, As_bor, As_rng1, Po_no, Po_E, Eo_sl, Eo_get1, dAdd_int, dSub_int, dLt_int, dLe_int, dGt_int, dGe_int, dNeg_int, dMax2_int, dMin2_int, dLen_lst, dLen_tup, dTuple_lst, dTuple_tup, dRev_lst, dAt_lst, dAt_tup, dAt_dic, dEq_int, dLst_nil, at_0, at_1, at_2, at_3, List.getElem?_cons_succ, List.getElem?_cons_zero, List.set_cons_succ, List.set_cons_zero, Option.some.injEq, Sl.v.injEq, Sl.o.injEq, D.int.injEq, D.bl.injEq, D.str.injEq, D.tup.injEq, D.lst.injEq, D.dic.injEq, reduceCtorEq, false_or, or_false, exists_eq_left', exists_eq_left, exists_eq', List.length_cons, List.length_nil, Nat.reduceAdd, true_and, and_true, decide_eq_true_eq, if_true, if_false, Bool.false_eq_true, Bool.not_true, Bool.not_false, Sq, Fb, wipeE]
  refine ⟨_, dLst_of _ (by show 7 ≤ sizeLine; decide), ?_⟩
  (first | with_reducible refine Co_seq.mpr ?_ | with_reducible refine Co_nil.mpr ?_ | with_reducible refine Co_brk.mpr ?_ | with_reducible refine Co_cont.mpr ?_ | with_reducible refine Co_retN.mpr ?_ | with_reducible refine Co_set' ?_ | with_reducible refine Co_own' ?_ | with_reducible refine Co_ret' ?_ | with_reducible refine Co_expr' ?_ | with_reducible refine Co_if' ?_ | with_reducible refine Co_frz' ?_ | with_reducible refine Co_app' ?_ | with_reducible refine Co_put' ?_ | with_reducible refine Co_aug' ?_ | with_reducible refine Co_asg' ?_)
  (first | with_reducible refine Co_seq.mpr ?_ | with_reducible refine Co_nil.mpr ?_ | with_reducible refine Co_brk.mpr ?_ | with_reducible refine Co_cont.mpr ?_ | with_reducible refine Co_retN.mpr ?_ | with_reducible refine Co_set' ?_ | with_reducible refine Co_own' ?_ | with_reducible refine Co_ret' ?_ | with_reducible refine Co_expr' ?_ | with_reducible refine Co_if' ?_ | with_reducible refine Co_frz' ?_ | with_reducible refine Co_app' ?_ | with_reducible refine Co_put' ?_ | with_reducible refine Co_aug' ?_ | with_reducible refine Co_asg' ?_)
  try simp only [Eo_C, Eo_V, Eo_B, Eo_bin, Eo_un, Eo_and, Eo_or, Eo_not, Eo_if, Eo_free, As_nil, As_cons, Eo_fn, Eo_call, As_seq, As_bor, As_rng1, Po_no, Po_E, Eo_sl, Eo_get1, dAdd_int, dSub_int, dLt_int, dLe_int, dGt_int, dGe_int, dNeg_int, dMax2_int, dMin2_int, dLen_lst, dLen_tup, dTuple_lst, dTuple_tup, dRev_lst, dAt_lst, dAt_tup, dAt_dic, dEq_int, dLst_nil, at_0, at_1, at_2, at_3, List.getElem?_cons_succ, List.getElem?_cons_zero, List.set_cons_succ, List.set_cons_zero, Option.some.injEq, Sl.v.injEq, Sl.o.injEq, D.int.injEq, D.bl.injEq, D.str.injEq, D.tup.injEq, D.lst.injEq, D.dic.injEq, reduceCtorEq, false_or, or_false, exists_eq_left', exists_eq_left, exists_eq', List.length_cons, List.length_nil, Nat.reduceAdd, true_and, and_true, decide_eq_true_eq, if_true, if_false, Bool.false_eq_true, Bool.not_true, Bool.not_false, Sq, Fb, wipeE]
  rw [hmx, hq0]
  try simp only [Eo_C, Eo_V, Eo_B, Eo_bin, Eo_un, Eo_and, Eo_or, Eo_not, Eo_if, Eo_free, As_nil, As_cons, Eo_fn, Eo_call, As_seq, As_bor, As_rng1, Po_no, Po_E, Eo_sl, Eo_get1, dAdd_int, dSub_int, dLt_int, dLe_int, dGt_int, dGe_int, dNeg_int, dMax2_int, dMin2_int, dLen_lst, dLen_tup, dTuple_lst, dTuple_tup, dRev_lst, dAt_lst, dAt_tup, dAt_dic, dEq_int, dLst_nil, at_0, at_1, at_2, at_3, List.getElem?_cons_succ, List.getElem?_cons_zero, List.set_cons_succ, List.set_cons_zero, Option.some.injEq, Sl.v.injEq, Sl.o.injEq, D.int.injEq, D.bl.injEq, D.str.injEq, D.tup.injEq, D.lst.injEq, D.dic.injEq, reduceCtorEq, false_or, or_false, exists_eq_left', exists_eq_left, exists_eq', List.length_cons, List.length_nil, Nat.reduceAdd, true_and, and_true, decide_eq_true_eq, if_true, if_false, Bool.false_eq_true, Bool.not_true, Bool.not_false, Sq, Fb, wipeE]
  (first | with_reducible refine Co_seq.mpr ?_ | with_reducible refine Co_nil.mpr ?_ | with_reducible refine Co_brk.mpr ?_ | with_reducible refine Co_cont.mpr ?_ | with_reducible refine Co_retN.mpr ?_ | with_reducible refine Co_set' ?_ | with_reducible refine Co_own' ?_ | with_reducible refine Co_ret' ?_ | with_reducible refine Co_expr' ?_ | with_reducible refine Co_if' ?_ | with_reducible refine Co_frz' ?_ | with_reducible refine Co_app' ?_ | with_reducible refine Co_put' ?_ | with_reducible refine Co_aug' ?_ | with_reducible refine Co_asg' ?_)
  (first | with_reducible refine Co_seq.mpr ?_ | with_reducible refine Co_nil.mpr ?_ | with_reducible refine Co_brk.mpr ?_ | with_reducible refine Co_cont.mpr ?_ | with_reducible refine Co_retN.mpr ?_ | with_reducible refine Co_set' ?_ | with_reducible refine Co_own' ?_ | with_reducible refine Co_ret' ?_ | with_reducible refine Co_expr' ?_ | with_reducible refine Co_if' ?_ | with_reducible refine Co_frz' ?_ | with_reducible refine Co_app' ?_ | with_reducible refine Co_put' ?_ | with_reducible refine Co_aug' ?_ | with_reducible refine Co_asg' ?_)
  try simp only [Eo_C, Eo_V, Eo_B, Eo_bin, Eo_un, Eo_and, Eo_or, Eo_not, Eo_if, Eo_free, As_nil, As_cons, Eo_fn, Eo_call, As_seq, As_bor, As_rng1, Po_no, Po_E, Eo_sl, Eo_get1, dAdd_int, dSub_int, dLt_int, dLe_int, dGt_int, dGe_int, dNeg_int, dMax2_int, dMin2_int, dLen_lst, dLen_tup, dTuple_lst, dTuple_tup, dRev_lst, dAt_lst, dAt_tup, dAt_dic, dEq_int, dLst_nil, at_0, at_1, at_2, at_3, List.getElem?_cons_succ, List.getElem?_cons_zero, List.set_cons_succ, List.set_cons_zero, Option.some.injEq, Sl.v.injEq, Sl.o.injEq, D.int.injEq, D.bl.injEq, D.str.injEq, D.tup.injEq, D.lst.injEq, D.dic.injEq, reduceCtorEq, false_or, or_false, exists_eq_left', exists_eq_left, exists_eq', List.length_cons, List.length_nil, Nat.reduceAdd, true_and, and_true, decide_eq_true_eq, if_true, if_false, Bool.false_eq_true, Bool.not_true, Bool.not_false, Sq, Fb, wipeE]
  (first | with_reducible refine Co_seq.mpr ?_ | with_reducible refine Co_nil.mpr ?_ | with_reducible refine Co_brk.mpr ?_ | with_reducible refine Co_cont.mpr ?_ | with_reducible refine Co_retN.mpr ?_ | with_reducible refine Co_set' ?_ | with_reducible refine Co_own' ?_ | with_reducible refine Co_ret' ?_ | with_reducible refine Co_expr' ?_ | with_reducible refine Co_if' ?_ | with_reducible refine Co_frz' ?_ | with_reducible refine Co_app' ?_ | with_reducible refine Co_put' ?_ | with_reducible refine Co_aug' ?_ | with_reducible refine Co_asg' ?_)
  refine Co_for' (fun i ρ st' => ∃ ws a, ws.length = i ∧ ρ = [.v .dst, .v (.int m), .v (.str "abcdefghijklmnopqrstuvwxyz"), .v (.lst [.str "", .str "", .str "0", .str "b", .str "z9", .str "long3", .str "a1b2c3d"]), .v (.int q), .o (.lst (strsOf ws)), a]) ?_
  try simp only [Eo_C, Eo_V, Eo_B, Eo_bin, Eo_un, Eo_and, Eo_or, Eo_not, Eo_if, Eo_free, As_nil, As_cons, Eo_fn, Eo_call, As_seq, As_bor, As_rng1, Po_no, Po_E, Eo_sl, Eo_get1, dAdd_int, dSub_int, dLt_int, dLe_int, dGt_int, dGe_int, dNeg_int, dMax2_int, dMin2_int, dLen_lst, dLen_tup, dTuple_lst, dTuple_tup, dRev_lst, dAt_lst, dAt_tup, dAt_dic, dEq_int, dLst_nil, at_0, at_1, at_2, at_3, List.getElem?_cons_succ, List.getElem?_cons_zero, List.set_cons_succ, List.set_cons_zero, Option.some.injEq, Sl.v.injEq, Sl.o.injEq, D.int.injEq, D.bl.injEq, D.str.injEq, D.tup.injEq, D.lst.injEq, D.dic.injEq, reduceCtorEq, false_or, or_false, exists_eq_left', exists_eq_left, exists_eq', List.length_cons, List.length_nil, Nat.reduceAdd, true_and, and_true, decide_eq_true_eq, if_true, if_false, Bool.false_eq_true, Bool.not_true, Bool.not_false, Sq, Fb, wipeE]
  have hr : (rangeD 0 m.toNat).length = m.toNat := by unfold rangeD; rw [List.length_map, List.length_range]
  refine ⟨⟨by omega, by omega⟩, ⟨[], _, rfl, rfl⟩, ?_, ?_⟩
  · rintro i d ρ st' hd ⟨ws, a, hw, rfl⟩
    have hm := List.mem_of_getElem? hd
    unfold rangeD at hm
    obtain ⟨j, hj, rfl⟩ := List.mem_map.mp hm
    rw [List.mem_range] at hj
    have hi : i < m.toNat := by rw [← hr]; exact (List.getElem?_eq_some_iff.mp hd).1
    refine ⟨_, rfl, ?_⟩
    obtain ⟨b0, b1⟩ := hq2 (0 + (j : Int)) (by omega) (by omega)
    have hmul : dMul (.int (0 + (j : Int))) (.int q) = some (.int ((0 + (j : Int)) * q)) := by
      refine dMul_small ?_ ?_
      · have : (0 : Int) < 2 ^ 64 := by decide
        omega
      · have : (1073741824 : Int) < 2 ^ 64 := by decide
        omega
    (first | with_reducible refine Co_seq.mpr ?_ | with_reducible refine Co_nil.mpr ?_ | with_reducible refine Co_brk.mpr ?_ | with_reducible refine Co_cont.mpr ?_ | with_reducible refine Co_retN.mpr ?_ | with_reducible refine Co_set' ?_ | with_reducible refine Co_own' ?_ | with_reducible refine Co_ret' ?_ | with_reducible refine Co_expr' ?_ | with_reducible refine Co_if' ?_ | with_reducible refine Co_frz' ?_ | with_reducible refine Co_app' ?_ | with_reducible refine Co_put' ?_ | with_reducible refine Co_aug' ?_ | with_reducible refine Co_asg' ?_)
    try simp only [Eo_C, Eo_V, Eo_B, Eo_bin, Eo_un, Eo_and, Eo_or, Eo_not, Eo_if, Eo_free, As_nil, As_cons, Eo_fn, Eo_call, As_seq, As_bor, As_rng1, Po_no, Po_E, Eo_sl, Eo_get1, dAdd_int, dSub_int, dLt_int, dLe_int, dGt_int, dGe_int, dNeg_int, dMax2_int, dMin2_int, dLen_lst, dLen_tup, dTuple_lst, dTuple_tup, dRev_lst, dAt_lst, dAt_tup, dAt_dic, dEq_int, dLst_nil, at_0, at_1, at_2, at_3, List.getElem?_cons_succ, List.getElem?_cons_zero, List.set_cons_succ, List.set_cons_zero, Option.some.injEq, Sl.v.injEq, Sl.o.injEq, D.int.injEq, D.bl.injEq, D.str.injEq, D.tup.injEq, D.lst.injEq, D.dic.injEq, reduceCtorEq, false_or, or_false, exists_eq_left', exists_eq_left, exists_eq', List.length_cons, List.length_nil, Nat.reduceAdd, true_and, and_true, decide_eq_true_eq, if_true, if_false, Bool.false_eq_true, Bool.not_true, Bool.not_false, Sq, Fb, wipeE]
    simp only [hmul, Option.some.injEq, exists_eq_left']
    refine Fo_draw hq1 hq3 fun x st2 x0 x1 => ?_
    try simp only [Eo_C, Eo_V, Eo_B, Eo_bin, Eo_un, Eo_and, Eo_or, Eo_not, Eo_if, Eo_free, As_nil, As_cons, Eo_fn, Eo_call, As_seq, As_bor, As_rng1, Po_no, Po_E, Eo_sl, Eo_get1, dAdd_int, dSub_int, dLt_int, dLe_int, dGt_int, dGe_int, dNeg_int, dMax2_int, dMin2_int, dLen_lst, dLen_tup, dTuple_lst, dTuple_tup, dRev_lst, dAt_lst, dAt_tup, dAt_dic, dEq_int, dLst_nil, at_0, at_1, at_2, at_3, List.getElem?_cons_succ, List.getElem?_cons_zero, List.set_cons_succ, List.set_cons_zero, Option.some.injEq, Sl.v.injEq, Sl.o.injEq, D.int.injEq, D.bl.injEq, D.str.injEq, D.tup.injEq, D.lst.injEq, D.dic.injEq, reduceCtorEq, false_or, or_false, exists_eq_left', exists_eq_left, exists_eq', List.length_cons, List.length_nil, Nat.reduceAdd, true_and, and_true, decide_eq_true_eq, if_true, if_false, Bool.false_eq_true, Bool.not_true, Bool.not_false, Sq, Fb, wipeE]
    obtain ⟨c, hc, hcl⟩ := letter_at (i := (0 + (j : Int)) * q + x) (by omega) (by omega)
    rw [hc]
    try simp only [Eo_C, Eo_V, Eo_B, Eo_bin, Eo_un, Eo_and, Eo_or, Eo_not, Eo_if, Eo_free, As_nil, As_cons, Eo_fn, Eo_call, As_seq, As_bor, As_rng1, Po_no, Po_E, Eo_sl, Eo_get1, dAdd_int, dSub_int, dLt_int, dLe_int, dGt_int, dGe_int, dNeg_int, dMax2_int, dMin2_int, dLen_lst, dLen_tup, dTuple_lst, dTuple_tup, dRev_lst, dAt_lst, dAt_tup, dAt_dic, dEq_int, dLst_nil, at_0, at_1, at_2, at_3, List.getElem?_cons_succ, List.getElem?_cons_zero, List.set_cons_succ, List.set_cons_zero, Option.some.injEq, Sl.v.injEq, Sl.o.injEq, D.int.injEq, D.bl.injEq, D.str.injEq, D.tup.injEq, D.lst.injEq, D.dic.injEq, reduceCtorEq, false_or, or_false, exists_eq_left', exists_eq_left, exists_eq', List.length_cons, List.length_nil, Nat.reduceAdd, true_and, and_true, decide_eq_true_eq, if_true, if_false, Bool.false_eq_true, Bool.not_true, Bool.not_false, Sq, Fb, wipeE]
    refine pick_runs (by decide) (by decide) fun y hy st3 => ?_
    simp only [List.mem_cons, List.not_mem_nil, or_false] at hy
    have fin : ∀ t : Str, t.length ≤ 10 → ∃ z, dAdd (.str c) (.str t) = some z ∧ (strsOf ws).length < sizeLine ∧ ∃ (ws' : List Str) (a : Sl), ws'.length = i + 1 ∧ [Sl.v .dst, .v (.int m), .v (.str "abcdefghijklmnopqrstuvwxyz"), .v (.lst [.str "", .str "", .str "0", .str "b", .str "z9", .str "long3", .str "a1b2c3d"]), .v (.int q), .o (.lst (strsOf ws ++ [z])), .v (.int (0 + (j : Int)))] = [Sl.v .dst, .v (.int m), .v (.str "abcdefghijklmnopqrstuvwxyz"), .v (.lst [.str "", .str "", .str "0", .str "b", .str "z9", .str "long3", .str "a1b2c3d"]), .v (.int q), .o (.lst (strsOf ws')), a] := by
      intro t ht
      have e2 : strsOf (ws ++ [c ++ t]) = strsOf ws ++ [.str (c ++ t)] := by unfold strsOf; rw [List.map_append]; rfl
      refine ⟨_, dAdd_str _ _ (Nat.le_trans (by omega : c.length + t.length ≤ 11) (by decide)), ?_, ws ++ [c ++ t], .v (.int (0 + (j : Int))), by rw [List.length_append, hw]; rfl, by rw [e2]⟩
      unfold strsOf; rw [List.length_map, hw]; exact Nat.lt_of_lt_of_le (by omega : i < 3) (by decide)
    rcases hy with rfl | rfl | rfl | rfl | rfl | rfl | rfl <;> exact fin _ (by decide +kernel)
  · rintro ρ st' ⟨ws, a, hw, rfl⟩
    rw [hr] at hw
    (first | with_reducible refine Co_seq.mpr ?_ | with_reducible refine Co_nil.mpr ?_ | with_reducible refine Co_brk.mpr ?_ | with_reducible refine Co_cont.mpr ?_ | with_reducible refine Co_retN.mpr ?_ | with_reducible refine Co_set' ?_ | with_reducible refine Co_own' ?_ | with_reducible refine Co_ret' ?_ | with_reducible refine Co_expr' ?_ | with_reducible refine Co_if' ?_ | with_reducible refine Co_frz' ?_ | with_reducible refine Co_app' ?_ | with_reducible refine Co_put' ?_ | with_reducible refine Co_aug' ?_ | with_reducible refine Co_asg' ?_)
    try simp only [Eo_C, Eo_V, Eo_B, Eo_bin, Eo_un, Eo_and, Eo_or, Eo_not, Eo_if, Eo_free, As_nil, As_cons, Eo_fn, Eo_call, As_seq, As_bor, As_rng1, Po_no, Po_E, Eo_sl, Eo_get1, dAdd_int, dSub_int, dLt_int, dLe_int, dGt_int, dGe_int, dNeg_int, dMax2_int, dMin2_int, dLen_lst, dLen_tup, dTuple_lst, dTuple_tup, dRev_lst, dAt_lst, dAt_tup, dAt_dic, dEq_int, dLst_nil, at_0, at_1, at_2, at_3, List.getElem?_cons_succ, List.getElem?_cons_zero, List.set_cons_succ, List.set_cons_zero, Option.some.injEq, Sl.v.injEq, Sl.o.injEq, D.int.injEq, D.bl.injEq, D.str.injEq, D.tup.injEq, D.lst.injEq, D.dic.injEq, reduceCtorEq, false_or, or_false, exists_eq_left', exists_eq_left, exists_eq', List.length_cons, List.length_nil, Nat.reduceAdd, true_and, and_true, decide_eq_true_eq, if_true, if_false, Bool.false_eq_true, Bool.not_true, Bool.not_false, Sq, Fb, wipeE]
    refine k ws (fun e => ?_) (by omega) st'
    rw [e] at hw
    have : m.toNat = 0 := hw.symm
    omega
theorem pool_runs {st : DS} {P : D → DS → Prop} (k : ∀ (ns : List Int), ns ≠ [] → ns.length ≤ 4 → ∀ st', P (.lst (ns.map D.int)) st') : Fo F_law_pool [.dst] st P := by
  unfold F_law_pool
  (refine Fo_body.mpr ⟨rfl, ?_⟩; simp only [List.map_cons, List.map_nil, List.cons_append, List.nil_append, Nat.reduceSub, List.reduceReplicate])
  unfold G_law_pool
  (first | with_reducible refine Co_seq.mpr ?_ | with_reducible refine Co_nil.mpr ?_ | with_reducible refine Co_brk.mpr ?_ | with_reducible refine Co_cont.mpr ?_ | with_reducible refine Co_retN.mpr ?_ | with_reducible refine Co_set' ?_ | with_reducible refine Co_own' ?_ | with_reducible refine Co_ret' ?_ | with_reducible refine Co_expr' ?_ | with_reducible refine Co_if' ?_ | with_reducible refine Co_frz' ?_ | with_reducible refine Co_app' ?_ | with_reducible refine Co_put' ?_ | with_reducible refine Co_aug' ?_ | with_reducible refine Co_asg' ?_)
  (first | with_reducible refine Co_seq.mpr ?_ | with_reducible refine Co_nil.mpr ?_ | with_reducible refine Co_brk.mpr ?_ | with_reducible refine Co_cont.mpr ?_ | with_reducible refine Co_retN.mpr ?_ | with_reducible refine Co_set' ?_ | with_reducible refine Co_own' ?_ | with_reducible refine Co_ret' ?_ | with_reducible refine Co_expr' ?_ | with_reducible refine Co_if' ?_ | with_reducible refine Co_frz' ?_ | with_reducible refine Co_app' ?_ | with_reducible refine Co_put' ?_ | with_reducible refine Co_aug' ?_ | with_reducible refine Co_asg' ?_)
  try simp only [Eo_C, Eo_V, Eo_B, Eo_bin, Eo_un, Eo_and, Eo_or, Eo_not, Eo_if, Eo_free, As_nil, As_cons, Eo_fn, Eo_call, As_seq, As_bor, As_rng1, Po_no, Po_E, Eo_sl, Eo_get1, dAdd_int, dSub_int, dLt_int, dLe_int, dGt_int, dGe_int, dNeg_int, dMax2_int, dMin2_int, dLen_lst, dLen_tup, dTuple_lst, dTuple_tup, dRev_lst, dAt_lst, dAt_tup, dAt_dic, dEq_int, dLst_nil, at_0, at_1, at_2, at_3, List.getElem?_cons_succ, List.getElem?_cons_zero, List.set_cons_succ, List.set_cons_zero, Option.some.injEq, Sl.v.injEq, Sl.o.injEq, D.int.injEq, D.bl.injEq, D.str.injEq, D.tup.injEq, D.lst.injEq, D.dic.injEq, reduceCtorEq, false_or, or_false, exists_eq_left', exists_eq_left, exists_eq', List.length_cons, List.length_nil, Nat.reduceAdd, true_and, and_true, decide_eq_true_eq, if_true, if_false, Bool.false_eq_true, Bool.not_true, Bool.not_false, Sq, Fb, wipeE]
  (first | with_reducible refine Co_seq.mpr ?_ | with_reducible refine Co_nil.mpr ?_ | with_reducible refine Co_brk.mpr ?_ | with_reducible refine Co_cont.mpr ?_ | with_reducible refine Co_retN.mpr ?_ | with_reducible refine Co_set' ?_ | with_reducible refine Co_own' ?_ | with_reducible refine Co_ret' ?_ | with_reducible refine Co_expr' ?_ | with_reducible refine Co_if' ?_ | with_reducible refine Co_frz' ?_ | with_reducible refine Co_app' ?_ | with_reducible refine Co_put' ?_ | with_reducible refine Co_aug' ?_ | with_reducible refine Co_asg' ?_)
  refine Co_for' (fun i ρ st' => ∃ (ns : List Int) (a : Sl), ns.length = i ∧ i ≤ 4 ∧ ρ = [.v .dst, .o (.lst (ns.map D.int)), a]) ?_
  try simp only [Eo_C, Eo_V, Eo_B, Eo_bin, Eo_un, Eo_and, Eo_or, Eo_not, Eo_if, Eo_free, As_nil, As_cons, Eo_fn, Eo_call, As_seq, As_bor, As_rng1, Po_no, Po_E, Eo_sl, Eo_get1, dAdd_int, dSub_int, dLt_int, dLe_int, dGt_int, dGe_int, dNeg_int, dMax2_int, dMin2_int, dLen_lst, dLen_tup, dTuple_lst, dTuple_tup, dRev_lst, dAt_lst, dAt_tup, dAt_dic, dEq_int, dLst_nil, at_0, at_1, at_2, at_3, List.getElem?_cons_succ, List.getElem?_cons_zero, List.set_cons_succ, List.set_cons_zero, Option.some.injEq, Sl.v.injEq, Sl.o.injEq, D.int.injEq, D.bl.injEq, D.str.injEq, D.tup.injEq, D.lst.injEq, D.dic.injEq, reduceCtorEq, false_or, or_false, exists_eq_left', exists_eq_left, exists_eq', List.length_cons, List.length_nil, Nat.reduceAdd, true_and, and_true, decide_eq_true_eq, if_true, if_false, Bool.false_eq_true, Bool.not_true, Bool.not_false, Sq, Fb, wipeE]
  refine Fo_draw (by decide) (by decide) fun m st1 m0 m1 => ?_
  try simp only [Eo_C, Eo_V, Eo_B, Eo_bin, Eo_un, Eo_and, Eo_or, Eo_not, Eo_if, Eo_free, As_nil, As_cons, Eo_fn, Eo_call, As_seq, As_bor, As_rng1, Po_no, Po_E, Eo_sl, Eo_get1, dAdd_int, dSub_int, dLt_int, dLe_int, dGt_int, dGe_int, dNeg_int, dMax2_int, dMin2_int, dLen_lst, dLen_tup, dTuple_lst, dTuple_tup, dRev_lst, dAt_lst, dAt_tup, dAt_dic, dEq_int, dLst_nil, at_0, at_1, at_2, at_3, List.getElem?_cons_succ, List.getElem?_cons_zero, List.set_cons_succ, List.set_cons_zero, Option.some.injEq, Sl.v.injEq, Sl.o.injEq, D.int.injEq, D.bl.injEq, D.str.injEq, D.tup.injEq, D.lst.injEq, D.dic.injEq, reduceCtorEq, false_or, or_false, exists_eq_left', exists_eq_left, exists_eq', List.length_cons, List.length_nil, Nat.reduceAdd, true_and, and_true, decide_eq_true_eq, if_true, if_false, Bool.false_eq_true, Bool.not_true, Bool.not_false, Sq, Fb, wipeE]
  have hr : (rangeD 0 (1 + m).toNat).length = (1 + m).toNat := by unfold rangeD; rw [List.length_map, List.length_range]
  refine ⟨⟨by omega, by omega⟩, ⟨[], _, rfl, by decide, rfl⟩, ?_, ?_⟩
  · rintro i d ρ st' hd ⟨ns, a, hw, hi4, rfl⟩
    have hi : i < (1 + m).toNat := by rw [← hr]; exact (List.getElem?_eq_some_iff.mp hd).1
    refine ⟨_, rfl, ?_⟩
    have fin : ∀ (t : Int) (st2 : DS), (ns.map D.int).length < sizeLine ∧ ∃ (ns' : List Int) (a : Sl), ns'.length = i + 1 ∧ i + 1 ≤ 4 ∧ [Sl.v .dst, .o (.lst (ns.map D.int ++ [.int t])), .v d] = [Sl.v .dst, .o (.lst (ns'.map D.int)), a] := by
      intro t st2
      have e2 : (ns ++ [t]).map D.int = ns.map D.int ++ [.int t] := by rw [List.map_append]; rfl
      refine ⟨?_, ns ++ [t], .v d, by rw [List.length_append, hw]; rfl, by omega, by rw [e2]⟩
      rw [List.length_map, hw]
      exact Nat.lt_of_le_of_lt hi4 (by decide)
    (first | with_reducible refine Co_seq.mpr ?_ | with_reducible refine Co_nil.mpr ?_ | with_reducible refine Co_brk.mpr ?_ | with_reducible refine Co_cont.mpr ?_ | with_reducible refine Co_retN.mpr ?_ | with_reducible refine Co_set' ?_ | with_reducible refine Co_own' ?_ | with_reducible refine Co_ret' ?_ | with_reducible refine Co_expr' ?_ | with_reducible refine Co_if' ?_ | with_reducible refine Co_frz' ?_ | with_reducible refine Co_app' ?_ | with_reducible refine Co_put' ?_ | with_reducible refine Co_aug' ?_ | with_reducible refine Co_asg' ?_)
    try simp only [Eo_C, Eo_V, Eo_B, Eo_bin, Eo_un, Eo_and, Eo_or, Eo_not, Eo_if, Eo_free, As_nil, As_cons, Eo_fn, Eo_call, As_seq, As_bor, As_rng1, Po_no, Po_E, Eo_sl, Eo_get1, dAdd_int, dSub_int, dLt_int, dLe_int, dGt_int, dGe_int, dNeg_int, dMax2_int, dMin2_int, dLen_lst, dLen_tup, dTuple_lst, dTuple_tup, dRev_lst, dAt_lst, dAt_tup, dAt_dic, dEq_int, dLst_nil, at_0, at_1, at_2, at_3, List.getElem?_cons_succ, List.getElem?_cons_zero, List.set_cons_succ, List.set_cons_zero, Option.some.injEq, Sl.v.injEq, Sl.o.injEq, D.int.injEq, D.bl.injEq, D.str.injEq, D.tup.injEq, D.lst.injEq, D.dic.injEq, reduceCtorEq, false_or, or_false, exists_eq_left', exists_eq_left, exists_eq', List.length_cons, List.length_nil, Nat.reduceAdd, true_and, and_true, decide_eq_true_eq, if_true, if_false, Bool.false_eq_true, Bool.not_true, Bool.not_false, Sq, Fb, wipeE]
    refine Fo_draw (by decide) (by decide) fun x st2 x0 x1 => ?_
    try simp only [Eo_C, Eo_V, Eo_B, Eo_bin, Eo_un, Eo_and, Eo_or, Eo_not, Eo_if, Eo_free, As_nil, As_cons, Eo_fn, Eo_call, As_seq, As_bor, As_rng1, Po_no, Po_E, Eo_sl, Eo_get1, dAdd_int, dSub_int, dLt_int, dLe_int, dGt_int, dGe_int, dNeg_int, dMax2_int, dMin2_int, dLen_lst, dLen_tup, dTuple_lst, dTuple_tup, dRev_lst, dAt_lst, dAt_tup, dAt_dic, dEq_int, dLst_nil, at_0, at_1, at_2, at_3, List.getElem?_cons_succ, List.getElem?_cons_zero, List.set_cons_succ, List.set_cons_zero, Option.some.injEq, Sl.v.injEq, Sl.o.injEq, D.int.injEq, D.bl.injEq, D.str.injEq, D.tup.injEq, D.lst.injEq, D.dic.injEq, reduceCtorEq, false_or, or_false, exists_eq_left', exists_eq_left, exists_eq', List.length_cons, List.length_nil, Nat.reduceAdd, true_and, and_true, decide_eq_true_eq, if_true, if_false, Bool.false_eq_true, Bool.not_true, Bool.not_false, Sq, Fb, wipeE]
    refine iteD (fun h => ?_) (fun h => ?_)
    · try simp only [Eo_C, Eo_V, Eo_B, Eo_bin, Eo_un, Eo_and, Eo_or, Eo_not, Eo_if, Eo_free, As_nil, As_cons, Eo_fn, Eo_call, As_seq, As_bor, As_rng1, Po_no, Po_E, Eo_sl, Eo_get1, dAdd_int, dSub_int, dLt_int, dLe_int, dGt_int, dGe_int, dNeg_int, dMax2_int, dMin2_int, dLen_lst, dLen_tup, dTuple_lst, dTuple_tup, dRev_lst, dAt_lst, dAt_tup, dAt_dic, dEq_int, dLst_nil, at_0, at_1, at_2, at_3, List.getElem?_cons_succ, List.getElem?_cons_zero, List.set_cons_succ, List.set_cons_zero, Option.some.injEq, Sl.v.injEq, Sl.o.injEq, D.int.injEq, D.bl.injEq, D.str.injEq, D.tup.injEq, D.lst.injEq, D.dic.injEq, reduceCtorEq, false_or, or_false, exists_eq_left', exists_eq_left, exists_eq', List.length_cons, List.length_nil, Nat.reduceAdd, true_and, and_true, decide_eq_true_eq, if_true, if_false, Bool.false_eq_true, Bool.not_true, Bool.not_false, Sq, Fb, wipeE]
      refine ⟨_, dLst_of _ (by show 4 ≤ sizeLine; decide), ?_⟩
      refine pick_runs (by decide) (by decide) fun y hy st3 => ?_
      simp only [List.mem_cons, List.not_mem_nil, or_false] at hy
      rcases hy with rfl | rfl | rfl | rfl <;> exact fin _ st3
    · try simp only [Eo_C, Eo_V, Eo_B, Eo_bin, Eo_un, Eo_and, Eo_or, Eo_not, Eo_if, Eo_free, As_nil, As_cons, Eo_fn, Eo_call, As_seq, As_bor, As_rng1, Po_no, Po_E, Eo_sl, Eo_get1, dAdd_int, dSub_int, dLt_int, dLe_int, dGt_int, dGe_int, dNeg_int, dMax2_int, dMin2_int, dLen_lst, dLen_tup, dTuple_lst, dTuple_tup, dRev_lst, dAt_lst, dAt_tup, dAt_dic, dEq_int, dLst_nil, at_0, at_1, at_2, at_3, List.getElem?_cons_succ, List.getElem?_cons_zero, List.set_cons_succ, List.set_cons_zero, Option.some.injEq, Sl.v.injEq, Sl.o.injEq, D.int.injEq, D.bl.injEq, D.str.injEq, D.tup.injEq, D.lst.injEq, D.dic.injEq, reduceCtorEq, false_or, or_false, exists_eq_left', exists_eq_left, exists_eq', List.length_cons, List.length_nil, Nat.reduceAdd, true_and, and_true, decide_eq_true_eq, if_true, if_false, Bool.false_eq_true, Bool.not_true, Bool.not_false, Sq, Fb, wipeE]
      refine Fo_draw (by decide) (by decide) fun y st3 y0 y1 => ?_
      exact fin _ st3
  · rintro ρ st' ⟨ns, a, hw, h4, rfl⟩
    rw [hr] at hw h4
    (first | with_reducible refine Co_seq.mpr ?_ | with_reducible refine Co_nil.mpr ?_ | with_reducible refine Co_brk.mpr ?_ | with_reducible refine Co_cont.mpr ?_ | with_reducible refine Co_retN.mpr ?_ | with_reducible refine Co_set' ?_ | with_reducible refine Co_own' ?_ | with_reducible refine Co_ret' ?_ | with_reducible refine Co_expr' ?_ | with_reducible refine Co_if' ?_ | with_reducible refine Co_frz' ?_ | with_reducible refine Co_app' ?_ | with_reducible refine Co_put' ?_ | with_reducible refine Co_aug' ?_ | with_reducible refine Co_asg' ?_)
    try simp only [Eo_C, Eo_V, Eo_B, Eo_bin, Eo_un, Eo_and, Eo_or, Eo_not, Eo_if, Eo_free, As_nil, As_cons, Eo_fn, Eo_call, As_seq, As_bor, As_rng1, Po_no, Po_E, Eo_sl, Eo_get1, dAdd_int, dSub_int, dLt_int, dLe_int, dGt_int, dGe_int, dNeg_int, dMax2_int, dMin2_int, dLen_lst, dLen_tup, dTuple_lst, dTuple_tup, dRev_lst, dAt_lst, dAt_tup, dAt_dic, dEq_int, dLst_nil, at_0, at_1, at_2, at_3, List.getElem?_cons_succ, List.getElem?_cons_zero, List.set_cons_succ, List.set_cons_zero, Option.some.injEq, Sl.v.injEq, Sl.o.injEq, D.int.injEq, D.bl.injEq, D.str.injEq, D.tup.injEq, D.lst.injEq, D.dic.injEq, reduceCtorEq, false_or, or_false, exists_eq_left', exists_eq_left, exists_eq', List.length_cons, List.length_nil, Nat.reduceAdd, true_and, and_true, decide_eq_true_eq, if_true, if_false, Bool.false_eq_true, Bool.not_true, Bool.not_false, Sq, Fb, wipeE]
    refine k ns (fun e => ?_) (by omega) st'
    rw [e] at hw
    have : (1 + m).toNat = 0 := hw.symm
    omega
theorem notice_runs {w : Str} {day : Int} {st : DS} {P : D → DS → Prop} (k : ∀ (nt : Nt), ∀ st', P nt.d st') : Fo F_law_notice [.dst, .str w, .int day] st P := by
  unfold F_law_notice
  (refine Fo_body.mpr ⟨rfl, ?_⟩; simp only [List.map_cons, List.map_nil, List.cons_append, List.nil_append, Nat.reduceSub, List.reduceReplicate])
  unfold G_law_notice
  have s1 : ∀ (st : DS) (Q : D → DS → Prop) (ρ : FL.Env), ρ[0]? = some (.v .dst) → (∀ (i : Int) st', Q (.int i) st') → Eo (eIf (eCall 2 F_law_rare (eCons (eV 0) (eCons (eC (.int 17)) eNil))) (eC (.int 999)) (eCall 2 F_law_draw (eCons (eV 0) (eCons (eC (.int 5)) eNil)))) ρ st Q := by
    intro st Q ρ hρ hq
    try simp only [Eo_C, Eo_V, Eo_B, Eo_bin, Eo_un, Eo_and, Eo_or, Eo_not, Eo_if, Eo_free, As_nil, As_cons, Eo_fn, Eo_call, As_seq, As_bor, As_rng1, Po_no, Po_E, Eo_sl, Eo_get1, dAdd_int, dSub_int, dLt_int, dLe_int, dGt_int, dGe_int, dNeg_int, dMax2_int, dMin2_int, dLen_lst, dLen_tup, dTuple_lst, dTuple_tup, dRev_lst, dAt_lst, dAt_tup, dAt_dic, dEq_int, dLst_nil, at_0, at_1, at_2, at_3, List.getElem?_cons_succ, List.getElem?_cons_zero, List.set_cons_succ, List.set_cons_zero, Option.some.injEq, Sl.v.injEq, Sl.o.injEq, D.int.injEq, D.bl.injEq, D.str.injEq, D.tup.injEq, D.lst.injEq, D.dic.injEq, reduceCtorEq, false_or, or_false, exists_eq_left', exists_eq_left, exists_eq', List.length_cons, List.length_nil, Nat.reduceAdd, true_and, and_true, decide_eq_true_eq, if_true, if_false, Bool.false_eq_true, Bool.not_true, Bool.not_false, Sq, Fb, wipeE]
    rw [hρ]
    try simp only [Eo_C, Eo_V, Eo_B, Eo_bin, Eo_un, Eo_and, Eo_or, Eo_not, Eo_if, Eo_free, As_nil, As_cons, Eo_fn, Eo_call, As_seq, As_bor, As_rng1, Po_no, Po_E, Eo_sl, Eo_get1, dAdd_int, dSub_int, dLt_int, dLe_int, dGt_int, dGe_int, dNeg_int, dMax2_int, dMin2_int, dLen_lst, dLen_tup, dTuple_lst, dTuple_tup, dRev_lst, dAt_lst, dAt_tup, dAt_dic, dEq_int, dLst_nil, at_0, at_1, at_2, at_3, List.getElem?_cons_succ, List.getElem?_cons_zero, List.set_cons_succ, List.set_cons_zero, Option.some.injEq, Sl.v.injEq, Sl.o.injEq, D.int.injEq, D.bl.injEq, D.str.injEq, D.tup.injEq, D.lst.injEq, D.dic.injEq, reduceCtorEq, false_or, or_false, exists_eq_left', exists_eq_left, exists_eq', List.length_cons, List.length_nil, Nat.reduceAdd, true_and, and_true, decide_eq_true_eq, if_true, if_false, Bool.false_eq_true, Bool.not_true, Bool.not_false, Sq, Fb, wipeE]
    refine rare_runs (by decide) (by decide) fun b st' => ?_
    refine ⟨_, rfl, ?_⟩
    refine iteD (fun _ => hq _ _) (fun _ => ?_)
    exact Fo_draw (by decide) (by decide) fun x st2 _ _ => hq _ _
  (first | with_reducible refine Co_seq.mpr ?_ | with_reducible refine Co_nil.mpr ?_ | with_reducible refine Co_brk.mpr ?_ | with_reducible refine Co_cont.mpr ?_ | with_reducible refine Co_retN.mpr ?_ | with_reducible refine Co_set' ?_ | with_reducible refine Co_own' ?_ | with_reducible refine Co_ret' ?_ | with_reducible refine Co_expr' ?_ | with_reducible refine Co_if' ?_ | with_reducible refine Co_frz' ?_ | with_reducible refine Co_app' ?_ | with_reducible refine Co_put' ?_ | with_reducible refine Co_aug' ?_ | with_reducible refine Co_asg' ?_)
  (first | with_reducible refine Co_seq.mpr ?_ | with_reducible refine Co_nil.mpr ?_ | with_reducible refine Co_brk.mpr ?_ | with_reducible refine Co_cont.mpr ?_ | with_reducible refine Co_retN.mpr ?_ | with_reducible refine Co_set' ?_ | with_reducible refine Co_own' ?_ | with_reducible refine Co_ret' ?_ | with_reducible refine Co_expr' ?_ | with_reducible refine Co_if' ?_ | with_reducible refine Co_frz' ?_ | with_reducible refine Co_app' ?_ | with_reducible refine Co_put' ?_ | with_reducible refine Co_aug' ?_ | with_reducible refine Co_asg' ?_)
  refine s1 _ _ _ rfl fun a st1 => ?_
  try simp only [Eo_C, Eo_V, Eo_B, Eo_bin, Eo_un, Eo_and, Eo_or, Eo_not, Eo_if, Eo_free, As_nil, As_cons, Eo_fn, Eo_call, As_seq, As_bor, As_rng1, Po_no, Po_E, Eo_sl, Eo_get1, dAdd_int, dSub_int, dLt_int, dLe_int, dGt_int, dGe_int, dNeg_int, dMax2_int, dMin2_int, dLen_lst, dLen_tup, dTuple_lst, dTuple_tup, dRev_lst, dAt_lst, dAt_tup, dAt_dic, dEq_int, dLst_nil, at_0, at_1, at_2, at_3, List.getElem?_cons_succ, List.getElem?_cons_zero, List.set_cons_succ, List.set_cons_zero, Option.some.injEq, Sl.v.injEq, Sl.o.injEq, D.int.injEq, D.bl.injEq, D.str.injEq, D.tup.injEq, D.lst.injEq, D.dic.injEq, reduceCtorEq, false_or, or_false, exists_eq_left', exists_eq_left, exists_eq', List.length_cons, List.length_nil, Nat.reduceAdd, true_and, and_true, decide_eq_true_eq, if_true, if_false, Bool.false_eq_true, Bool.not_true, Bool.not_false, Sq, Fb, wipeE]
  (first | with_reducible refine Co_seq.mpr ?_ | with_reducible refine Co_nil.mpr ?_ | with_reducible refine Co_brk.mpr ?_ | with_reducible refine Co_cont.mpr ?_ | with_reducible refine Co_retN.mpr ?_ | with_reducible refine Co_set' ?_ | with_reducible refine Co_own' ?_ | with_reducible refine Co_ret' ?_ | with_reducible refine Co_expr' ?_ | with_reducible refine Co_if' ?_ | with_reducible refine Co_frz' ?_ | with_reducible refine Co_app' ?_ | with_reducible refine Co_put' ?_ | with_reducible refine Co_aug' ?_ | with_reducible refine Co_asg' ?_)
  (first | with_reducible refine Co_seq.mpr ?_ | with_reducible refine Co_nil.mpr ?_ | with_reducible refine Co_brk.mpr ?_ | with_reducible refine Co_cont.mpr ?_ | with_reducible refine Co_retN.mpr ?_ | with_reducible refine Co_set' ?_ | with_reducible refine Co_own' ?_ | with_reducible refine Co_ret' ?_ | with_reducible refine Co_expr' ?_ | with_reducible refine Co_if' ?_ | with_reducible refine Co_frz' ?_ | with_reducible refine Co_app' ?_ | with_reducible refine Co_put' ?_ | with_reducible refine Co_aug' ?_ | with_reducible refine Co_asg' ?_)
  try simp only [Eo_C, Eo_V, Eo_B, Eo_bin, Eo_un, Eo_and, Eo_or, Eo_not, Eo_if, Eo_free, As_nil, As_cons, Eo_fn, Eo_call, As_seq, As_bor, As_rng1, Po_no, Po_E, Eo_sl, Eo_get1, dAdd_int, dSub_int, dLt_int, dLe_int, dGt_int, dGe_int, dNeg_int, dMax2_int, dMin2_int, dLen_lst, dLen_tup, dTuple_lst, dTuple_tup, dRev_lst, dAt_lst, dAt_tup, dAt_dic, dEq_int, dLst_nil, at_0, at_1, at_2, at_3, List.getElem?_cons_succ, List.getElem?_cons_zero, List.set_cons_succ, List.set_cons_zero, Option.some.injEq, Sl.v.injEq, Sl.o.injEq, D.int.injEq, D.bl.injEq, D.str.injEq, D.tup.injEq, D.lst.injEq, D.dic.injEq, reduceCtorEq, false_or, or_false, exists_eq_left', exists_eq_left, exists_eq', List.length_cons, List.length_nil, Nat.reduceAdd, true_and, and_true, decide_eq_true_eq, if_true, if_false, Bool.false_eq_true, Bool.not_true, Bool.not_false, Sq, Fb, wipeE]
  refine rare_runs (by decide) (by decide) fun b st2 => ?_
  refine ⟨_, rfl, ?_⟩
  have s2 : ∀ (l : Int) (st : DS), Co (cSeq (cSet 5 (eIf (eCall 2 F_law_rare (eCons (eV 0) (eCons (eC (.int 7)) eNil))) (eC (.int 0)) (eFn dMax2 (eCons (eC (.int 0)) (eCons (eBin dSub (eV 2) (eCall 2 F_law_draw (eCons (eV 0) (eCons (eC (.int 7)) eNil)))) eNil)))))
      (cRet (eFn dTup (eCons (eV 5) (eCons (eV 1) (eCons (eV 3) (eCons (eV 4) eNil))))))) [.v .dst, .v (.str w), .v (.int day), .v (.int a), .v (.int l), .no] st (Fb P) := by
    intro l st
    have s3 : ∀ (t : Int) (st : DS), Co (cRet (eFn dTup (eCons (eV 5) (eCons (eV 1) (eCons (eV 3) (eCons (eV 4) eNil)))))) [.v .dst, .v (.str w), .v (.int day), .v (.int a), .v (.int l), .v (.int t)] st (Fb P) := by
      intro t st
      (first | with_reducible refine Co_seq.mpr ?_ | with_reducible refine Co_nil.mpr ?_ | with_reducible refine Co_brk.mpr ?_ | with_reducible refine Co_cont.mpr ?_ | with_reducible refine Co_retN.mpr ?_ | with_reducible refine Co_set' ?_ | with_reducible refine Co_own' ?_ | with_reducible refine Co_ret' ?_ | with_reducible refine Co_expr' ?_ | with_reducible refine Co_if' ?_ | with_reducible refine Co_frz' ?_ | with_reducible refine Co_app' ?_ | with_reducible refine Co_put' ?_ | with_reducible refine Co_aug' ?_ | with_reducible refine Co_asg' ?_)
      try simp only [Eo_C, Eo_V, Eo_B, Eo_bin, Eo_un, Eo_and, Eo_or, Eo_not, Eo_if, Eo_free, As_nil, As_cons, Eo_fn, Eo_call, As_seq, As_bor, As_rng1, Po_no, Po_E, Eo_sl, Eo_get1, dAdd_int, dSub_int, dLt_int, dLe_int, dGt_int, dGe_int, dNeg_int, dMax2_int, dMin2_int, dLen_lst, dLen_tup, dTuple_lst, dTuple_tup, dRev_lst, dAt_lst, dAt_tup, dAt_dic, dEq_int, dLst_nil, at_0, at_1, at_2, at_3, List.getElem?_cons_succ, List.getElem?_cons_zero, List.set_cons_succ, List.set_cons_zero, Option.some.injEq, Sl.v.injEq, Sl.o.injEq, D.int.injEq, D.bl.injEq, D.str.injEq, D.tup.injEq, D.lst.injEq, D.dic.injEq, reduceCtorEq, false_or, or_false, exists_eq_left', exists_eq_left, exists_eq', List.length_cons, List.length_nil, Nat.reduceAdd, true_and, and_true, decide_eq_true_eq, if_true, if_false, Bool.false_eq_true, Bool.not_true, Bool.not_false, Sq, Fb, wipeE]
      exact ⟨_, dTup_of _ (by show 4 ≤ sizeLine; decide), k ⟨t, w, a, l⟩ st⟩
    (first | with_reducible refine Co_seq.mpr ?_ | with_reducible refine Co_nil.mpr ?_ | with_reducible refine Co_brk.mpr ?_ | with_reducible refine Co_cont.mpr ?_ | with_reducible refine Co_retN.mpr ?_ | with_reducible refine Co_set' ?_ | with_reducible refine Co_own' ?_ | with_reducible refine Co_ret' ?_ | with_reducible refine Co_expr' ?_ | with_reducible refine Co_if' ?_ | with_reducible refine Co_frz' ?_ | with_reducible refine Co_app' ?_ | with_reducible refine Co_put' ?_ | with_reducible refine Co_aug' ?_ | with_reducible refine Co_asg' ?_)
    (first | with_reducible refine Co_seq.mpr ?_ | with_reducible refine Co_nil.mpr ?_ | with_reducible refine Co_brk.mpr ?_ | with_reducible refine Co_cont.mpr ?_ | with_reducible refine Co_retN.mpr ?_ | with_reducible refine Co_set' ?_ | with_reducible refine Co_own' ?_ | with_reducible refine Co_ret' ?_ | with_reducible refine Co_expr' ?_ | with_reducible refine Co_if' ?_ | with_reducible refine Co_frz' ?_ | with_reducible refine Co_app' ?_ | with_reducible refine Co_put' ?_ | with_reducible refine Co_aug' ?_ | with_reducible refine Co_asg' ?_)
    try simp only [Eo_C, Eo_V, Eo_B, Eo_bin, Eo_un, Eo_and, Eo_or, Eo_not, Eo_if, Eo_free, As_nil, As_cons, Eo_fn, Eo_call, As_seq, As_bor, As_rng1, Po_no, Po_E, Eo_sl, Eo_get1, dAdd_int, dSub_int, dLt_int, dLe_int, dGt_int, dGe_int, dNeg_int, dMax2_int, dMin2_int, dLen_lst, dLen_tup, dTuple_lst, dTuple_tup, dRev_lst, dAt_lst, dAt_tup, dAt_dic, dEq_int, dLst_nil, at_0, at_1, at_2, at_3, List.getElem?_cons_succ, List.getElem?_cons_zero, List.set_cons_succ, List.set_cons_zero, Option.some.injEq, Sl.v.injEq, Sl.o.injEq, D.int.injEq, D.bl.injEq, D.str.injEq, D.tup.injEq, D.lst.injEq, D.dic.injEq, reduceCtorEq, false_or, or_false, exists_eq_left', exists_eq_left, exists_eq', List.length_cons, List.length_nil, Nat.reduceAdd, true_and, and_true, decide_eq_true_eq, if_true, if_false, Bool.false_eq_true, Bool.not_true, Bool.not_false, Sq, Fb, wipeE]
    refine rare_runs (by decide) (by decide) fun b st2 => ?_
    refine ⟨_, rfl, ?_⟩
    refine iteD (fun _ => s3 _ _) (fun _ => ?_)
    refine Fo_draw (by decide) (by decide) fun x st2 _ _ => ?_
    try simp only [Eo_C, Eo_V, Eo_B, Eo_bin, Eo_un, Eo_and, Eo_or, Eo_not, Eo_if, Eo_free, As_nil, As_cons, Eo_fn, Eo_call, As_seq, As_bor, As_rng1, Po_no, Po_E, Eo_sl, Eo_get1, dAdd_int, dSub_int, dLt_int, dLe_int, dGt_int, dGe_int, dNeg_int, dMax2_int, dMin2_int, dLen_lst, dLen_tup, dTuple_lst, dTuple_tup, dRev_lst, dAt_lst, dAt_tup, dAt_dic, dEq_int, dLst_nil, at_0, at_1, at_2, at_3, List.getElem?_cons_succ, List.getElem?_cons_zero, List.set_cons_succ, List.set_cons_zero, Option.some.injEq, Sl.v.injEq, Sl.o.injEq, D.int.injEq, D.bl.injEq, D.str.injEq, D.tup.injEq, D.lst.injEq, D.dic.injEq, reduceCtorEq, false_or, or_false, exists_eq_left', exists_eq_left, exists_eq', List.length_cons, List.length_nil, Nat.reduceAdd, true_and, and_true, decide_eq_true_eq, if_true, if_false, Bool.false_eq_true, Bool.not_true, Bool.not_false, Sq, Fb, wipeE]
    exact s3 _ _
  refine iteD (fun _ => s2 _ _) (fun _ => ?_)
  refine Fo_draw (by decide) (by decide) fun x st2 _ _ => ?_
  try simp only [Eo_C, Eo_V, Eo_B, Eo_bin, Eo_un, Eo_and, Eo_or, Eo_not, Eo_if, Eo_free, As_nil, As_cons, Eo_fn, Eo_call, As_seq, As_bor, As_rng1, Po_no, Po_E, Eo_sl, Eo_get1, dAdd_int, dSub_int, dLt_int, dLe_int, dGt_int, dGe_int, dNeg_int, dMax2_int, dMin2_int, dLen_lst, dLen_tup, dTuple_lst, dTuple_tup, dRev_lst, dAt_lst, dAt_tup, dAt_dic, dEq_int, dLst_nil, at_0, at_1, at_2, at_3, List.getElem?_cons_succ, List.getElem?_cons_zero, List.set_cons_succ, List.set_cons_zero, Option.some.injEq, Sl.v.injEq, Sl.o.injEq, D.int.injEq, D.bl.injEq, D.str.injEq, D.tup.injEq, D.lst.injEq, D.dic.injEq, reduceCtorEq, false_or, or_false, exists_eq_left', exists_eq_left, exists_eq', List.length_cons, List.length_nil, Nat.reduceAdd, true_and, and_true, decide_eq_true_eq, if_true, if_false, Bool.false_eq_true, Bool.not_true, Bool.not_false, Sq, Fb, wipeE]
  exact s2 _ _
theorem next_runs {ws : List Str} {es : List En} {n day : Int} {st : DS} {P : D → DS → Prop} (hw : ws ≠ []) (hw3 : ws.length ≤ 3) (hl : es.length < 64) (k : ∀ (o : Option Nt), ∀ st', P (nD o) st') : Fo F_law_next [.dst, .lst (strsOf ws), .lst (bk es), .int n, .int day] st P := by
  unfold F_law_next
  (refine Fo_body.mpr ⟨rfl, ?_⟩; simp only [List.map_cons, List.map_nil, List.cons_append, List.nil_append, Nat.reduceSub, List.reduceReplicate])
  unfold G_law_next
  (first | with_reducible refine Co_seq.mpr ?_ | with_reducible refine Co_nil.mpr ?_ | with_reducible refine Co_brk.mpr ?_ | with_reducible refine Co_cont.mpr ?_ | with_reducible refine Co_retN.mpr ?_ | with_reducible refine Co_set' ?_ | with_reducible refine Co_own' ?_ | with_reducible refine Co_ret' ?_ | with_reducible refine Co_expr' ?_ | with_reducible refine Co_if' ?_ | with_reducible refine Co_frz' ?_ | with_reducible refine Co_app' ?_ | with_reducible refine Co_put' ?_ | with_reducible refine Co_aug' ?_ | with_reducible refine Co_asg' ?_)
  (first | with_reducible refine Co_seq.mpr ?_ | with_reducible refine Co_nil.mpr ?_ | with_reducible refine Co_brk.mpr ?_ | with_reducible refine Co_cont.mpr ?_ | with_reducible refine Co_retN.mpr ?_ | with_reducible refine Co_set' ?_ | with_reducible refine Co_own' ?_ | with_reducible refine Co_ret' ?_ | with_reducible refine Co_expr' ?_ | with_reducible refine Co_if' ?_ | with_reducible refine Co_frz' ?_ | with_reducible refine Co_app' ?_ | with_reducible refine Co_put' ?_ | with_reducible refine Co_aug' ?_ | with_reducible refine Co_asg' ?_)
  try simp only [Eo_C, Eo_V, Eo_B, Eo_bin, Eo_un, Eo_and, Eo_or, Eo_not, Eo_if, Eo_free, As_nil, As_cons, Eo_fn, Eo_call, As_seq, As_bor, As_rng1, Po_no, Po_E, Eo_sl, Eo_get1, dAdd_int, dSub_int, dLt_int, dLe_int, dGt_int, dGe_int, dNeg_int, dMax2_int, dMin2_int, dLen_lst, dLen_tup, dTuple_lst, dTuple_tup, dRev_lst, dAt_lst, dAt_tup, dAt_dic, dEq_int, dLst_nil, at_0, at_1, at_2, at_3, List.getElem?_cons_succ, List.getElem?_cons_zero, List.set_cons_succ, List.set_cons_zero, Option.some.injEq, Sl.v.injEq, Sl.o.injEq, D.int.injEq, D.bl.injEq, D.str.injEq, D.tup.injEq, D.lst.injEq, D.dic.injEq, reduceCtorEq, false_or, or_false, exists_eq_left', exists_eq_left, exists_eq', List.length_cons, List.length_nil, Nat.reduceAdd, true_and, and_true, decide_eq_true_eq, if_true, if_false, Bool.false_eq_true, Bool.not_true, Bool.not_false, Sq, Fb, wipeE]
  rw [Fo_of said_runs]
  try simp only [Eo_C, Eo_V, Eo_B, Eo_bin, Eo_un, Eo_and, Eo_or, Eo_not, Eo_if, Eo_free, As_nil, As_cons, Eo_fn, Eo_call, As_seq, As_bor, As_rng1, Po_no, Po_E, Eo_sl, Eo_get1, dAdd_int, dSub_int, dLt_int, dLe_int, dGt_int, dGe_int, dNeg_int, dMax2_int, dMin2_int, dLen_lst, dLen_tup, dTuple_lst, dTuple_tup, dRev_lst, dAt_lst, dAt_tup, dAt_dic, dEq_int, dLst_nil, at_0, at_1, at_2, at_3, List.getElem?_cons_succ, List.getElem?_cons_zero, List.set_cons_succ, List.set_cons_zero, Option.some.injEq, Sl.v.injEq, Sl.o.injEq, D.int.injEq, D.bl.injEq, D.str.injEq, D.tup.injEq, D.lst.injEq, D.dic.injEq, reduceCtorEq, false_or, or_false, exists_eq_left', exists_eq_left, exists_eq', List.length_cons, List.length_nil, Nat.reduceAdd, true_and, and_true, decide_eq_true_eq, if_true, if_false, Bool.false_eq_true, Bool.not_true, Bool.not_false, Sq, Fb, wipeE]
  generalize said es n day = o
  have hw0 : 0 < (strsOf ws).length := by unfold strsOf; rw [List.length_map]; exact List.length_pos_iff.mpr hw
  have hwb : (strsOf ws).length < 1073741824 := by unfold strsOf; rw [List.length_map]; omega
  have sA : ∀ (st : DS) (R : C), Co (cSeq (cSet 6 (eLc (iSeq (eV 2)) [7] (tName 7) (eAnd (eBin dEq (eBin dAt (eV 7) (eC (.int 1))) (eV 3)) (eBin dNotN (eBin dAt (eV 7) (eC (.int 2))) (eC .non))) (eBin dAt (eV 7) (eC (.int 2)))))
      (cSeq (cIf (eAnd (eBin dGt (eFn dLen (eCons (eV 6) eNil)) (eC (.int 0))) (eBin dEq (eCall 2 F_law_draw (eCons (eV 0) (eCons (eC (.int 2)) eNil))) (eC (.int 1)))) (cRet (eCall 2 F_law_pick (eCons (eV 0) (eCons (eV 6) eNil)))) cNil)
      (cRet (eCall 3 F_law_notice (eCons (eV 0) (eCons (eCall 2 F_law_pick (eCons (eV 0) (eCons (eV 1) eNil))) (eCons (eV 4) eNil)))))))
      [.v .dst, .v (.lst (strsOf ws)), .v (.lst (bk es)), .v (.int n), .v (.int day), .v (nD o), .no, .no] st (Sq R (Fb P)) := by
    intro st R
    (first | with_reducible refine Co_seq.mpr ?_ | with_reducible refine Co_nil.mpr ?_ | with_reducible refine Co_brk.mpr ?_ | with_reducible refine Co_cont.mpr ?_ | with_reducible refine Co_retN.mpr ?_ | with_reducible refine Co_set' ?_ | with_reducible refine Co_own' ?_ | with_reducible refine Co_ret' ?_ | with_reducible refine Co_expr' ?_ | with_reducible refine Co_if' ?_ | with_reducible refine Co_frz' ?_ | with_reducible refine Co_app' ?_ | with_reducible refine Co_put' ?_ | with_reducible refine Co_aug' ?_ | with_reducible refine Co_asg' ?_)
    (first | with_reducible refine Co_seq.mpr ?_ | with_reducible refine Co_nil.mpr ?_ | with_reducible refine Co_brk.mpr ?_ | with_reducible refine Co_cont.mpr ?_ | with_reducible refine Co_retN.mpr ?_ | with_reducible refine Co_set' ?_ | with_reducible refine Co_own' ?_ | with_reducible refine Co_ret' ?_ | with_reducible refine Co_expr' ?_ | with_reducible refine Co_if' ?_ | with_reducible refine Co_frz' ?_ | with_reducible refine Co_app' ?_ | with_reducible refine Co_put' ?_ | with_reducible refine Co_aug' ?_ | with_reducible refine Co_asg' ?_)
    refine lc_bk es (fun e => decide (e.num = n) && e.no.isSome) (fun e => nD e.no) (fun PA p => by simp only [Eo_C, Eo_V, Eo_B, Eo_bin, Eo_un, Eo_and, Eo_or, Eo_not, Eo_if, Eo_free, As_nil, As_cons, Eo_fn, Eo_call, As_seq, As_bor, As_rng1, Po_no, Po_E, Eo_sl, Eo_get1, dAdd_int, dSub_int, dLt_int, dLe_int, dGt_int, dGe_int, dNeg_int, dMax2_int, dMin2_int, dLen_lst, dLen_tup, dTuple_lst, dTuple_tup, dRev_lst, dAt_lst, dAt_tup, dAt_dic, dEq_int, dLst_nil, at_0, at_1, at_2, at_3, List.getElem?_cons_succ, List.getElem?_cons_zero, List.set_cons_succ, List.set_cons_zero, Option.some.injEq, Sl.v.injEq, Sl.o.injEq, D.int.injEq, D.bl.injEq, D.str.injEq, D.tup.injEq, D.lst.injEq, D.dic.injEq, reduceCtorEq, false_or, or_false, exists_eq_left', exists_eq_left, exists_eq', List.length_cons, List.length_nil, Nat.reduceAdd, true_and, and_true, decide_eq_true_eq, if_true, if_false, Bool.false_eq_true, Bool.not_true, Bool.not_false, Sq, Fb, wipeE]; exact p) (Nat.le_of_lt hl) (fun e he => ⟨_, rfl, ?_, fun _ => ?_⟩) ?_
    · try simp only [Eo_C, Eo_V, Eo_B, Eo_bin, Eo_un, Eo_and, Eo_or, Eo_not, Eo_if, Eo_free, As_nil, As_cons, Eo_fn, Eo_call, As_seq, As_bor, As_rng1, Po_no, Po_E, Eo_sl, Eo_get1, dAdd_int, dSub_int, dLt_int, dLe_int, dGt_int, dGe_int, dNeg_int, dMax2_int, dMin2_int, dLen_lst, dLen_tup, dTuple_lst, dTuple_tup, dRev_lst, dAt_lst, dAt_tup, dAt_dic, dEq_int, dLst_nil, at_0, at_1, at_2, at_3, List.getElem?_cons_succ, List.getElem?_cons_zero, List.set_cons_succ, List.set_cons_zero, Option.some.injEq, Sl.v.injEq, Sl.o.injEq, D.int.injEq, D.bl.injEq, D.str.injEq, D.tup.injEq, D.lst.injEq, D.dic.injEq, reduceCtorEq, false_or, or_false, exists_eq_left', exists_eq_left, exists_eq', List.length_cons, List.length_nil, Nat.reduceAdd, true_and, and_true, decide_eq_true_eq, if_true, if_false, Bool.false_eq_true, Bool.not_true, Bool.not_false, Sq, Fb, wipeE]
      try simp only [En_d0, En_d1, En_d2, nD_isN, nD_notN, Option.some.injEq, exists_eq_left', dLe_int, dEq_int, D.bl.injEq]
      refine iteD (fun h => ?_) (fun h => ?_)
      · rw [h, Bool.true_and]
      · rw [Bool.eq_false_iff.mpr h, Bool.false_and]
    · try simp only [Eo_C, Eo_V, Eo_B, Eo_bin, Eo_un, Eo_and, Eo_or, Eo_not, Eo_if, Eo_free, As_nil, As_cons, Eo_fn, Eo_call, As_seq, As_bor, As_rng1, Po_no, Po_E, Eo_sl, Eo_get1, dAdd_int, dSub_int, dLt_int, dLe_int, dGt_int, dGe_int, dNeg_int, dMax2_int, dMin2_int, dLen_lst, dLen_tup, dTuple_lst, dTuple_tup, dRev_lst, dAt_lst, dAt_tup, dAt_dic, dEq_int, dLst_nil, at_0, at_1, at_2, at_3, List.getElem?_cons_succ, List.getElem?_cons_zero, List.set_cons_succ, List.set_cons_zero, Option.some.injEq, Sl.v.injEq, Sl.o.injEq, D.int.injEq, D.bl.injEq, D.str.injEq, D.tup.injEq, D.lst.injEq, D.dic.injEq, reduceCtorEq, false_or, or_false, exists_eq_left', exists_eq_left, exists_eq', List.length_cons, List.length_nil, Nat.reduceAdd, true_and, and_true, decide_eq_true_eq, if_true, if_false, Bool.false_eq_true, Bool.not_true, Bool.not_false, Sq, Fb, wipeE]
      try simp only [En_d0, En_d1, En_d2, nD_isN, nD_notN, Option.some.injEq, exists_eq_left', dLe_int, dEq_int, D.bl.injEq]
    try simp only [Eo_C, Eo_V, Eo_B, Eo_bin, Eo_un, Eo_and, Eo_or, Eo_not, Eo_if, Eo_free, As_nil, As_cons, Eo_fn, Eo_call, As_seq, As_bor, As_rng1, Po_no, Po_E, Eo_sl, Eo_get1, dAdd_int, dSub_int, dLt_int, dLe_int, dGt_int, dGe_int, dNeg_int, dMax2_int, dMin2_int, dLen_lst, dLen_tup, dTuple_lst, dTuple_tup, dRev_lst, dAt_lst, dAt_tup, dAt_dic, dEq_int, dLst_nil, at_0, at_1, at_2, at_3, List.getElem?_cons_succ, List.getElem?_cons_zero, List.set_cons_succ, List.set_cons_zero, Option.some.injEq, Sl.v.injEq, Sl.o.injEq, D.int.injEq, D.bl.injEq, D.str.injEq, D.tup.injEq, D.lst.injEq, D.dic.injEq, reduceCtorEq, false_or, or_false, exists_eq_left', exists_eq_left, exists_eq', List.length_cons, List.length_nil, Nat.reduceAdd, true_and, and_true, decide_eq_true_eq, if_true, if_false, Bool.false_eq_true, Bool.not_true, Bool.not_false, Sq, Fb, wipeE]
    have new : ∀ (L : D) (st : DS), Co (cRet (eCall 3 F_law_notice (eCons (eV 0) (eCons (eCall 2 F_law_pick (eCons (eV 0) (eCons (eV 1) eNil))) (eCons (eV 4) eNil))))) [.v .dst, .v (.lst (strsOf ws)), .v (.lst (bk es)), .v (.int n), .v (.int day), .v (nD o), .v L, .no] st (Sq R (Fb P)) := by
      intro L st
      (first | with_reducible refine Co_seq.mpr ?_ | with_reducible refine Co_nil.mpr ?_ | with_reducible refine Co_brk.mpr ?_ | with_reducible refine Co_cont.mpr ?_ | with_reducible refine Co_retN.mpr ?_ | with_reducible refine Co_set' ?_ | with_reducible refine Co_own' ?_ | with_reducible refine Co_ret' ?_ | with_reducible refine Co_expr' ?_ | with_reducible refine Co_if' ?_ | with_reducible refine Co_frz' ?_ | with_reducible refine Co_app' ?_ | with_reducible refine Co_put' ?_ | with_reducible refine Co_aug' ?_ | with_reducible refine Co_asg' ?_)
      try simp only [Eo_C, Eo_V, Eo_B, Eo_bin, Eo_un, Eo_and, Eo_or, Eo_not, Eo_if, Eo_free, As_nil, As_cons, Eo_fn, Eo_call, As_seq, As_bor, As_rng1, Po_no, Po_E, Eo_sl, Eo_get1, dAdd_int, dSub_int, dLt_int, dLe_int, dGt_int, dGe_int, dNeg_int, dMax2_int, dMin2_int, dLen_lst, dLen_tup, dTuple_lst, dTuple_tup, dRev_lst, dAt_lst, dAt_tup, dAt_dic, dEq_int, dLst_nil, at_0, at_1, at_2, at_3, List.getElem?_cons_succ, List.getElem?_cons_zero, List.set_cons_succ, List.set_cons_zero, Option.some.injEq, Sl.v.injEq, Sl.o.injEq, D.int.injEq, D.bl.injEq, D.str.injEq, D.tup.injEq, D.lst.injEq, D.dic.injEq, reduceCtorEq, false_or, or_false, exists_eq_left', exists_eq_left, exists_eq', List.length_cons, List.length_nil, Nat.reduceAdd, true_and, and_true, decide_eq_true_eq, if_true, if_false, Bool.false_eq_true, Bool.not_true, Bool.not_false, Sq, Fb, wipeE]
      refine pick_runs hw0 hwb fun x hx st1 => ?_
      obtain ⟨w, _, rfl⟩ := List.mem_map.mp hx
      try simp only [Eo_C, Eo_V, Eo_B, Eo_bin, Eo_un, Eo_and, Eo_or, Eo_not, Eo_if, Eo_free, As_nil, As_cons, Eo_fn, Eo_call, As_seq, As_bor, As_rng1, Po_no, Po_E, Eo_sl, Eo_get1, dAdd_int, dSub_int, dLt_int, dLe_int, dGt_int, dGe_int, dNeg_int, dMax2_int, dMin2_int, dLen_lst, dLen_tup, dTuple_lst, dTuple_tup, dRev_lst, dAt_lst, dAt_tup, dAt_dic, dEq_int, dLst_nil, at_0, at_1, at_2, at_3, List.getElem?_cons_succ, List.getElem?_cons_zero, List.set_cons_succ, List.set_cons_zero, Option.some.injEq, Sl.v.injEq, Sl.o.injEq, D.int.injEq, D.bl.injEq, D.str.injEq, D.tup.injEq, D.lst.injEq, D.dic.injEq, reduceCtorEq, false_or, or_false, exists_eq_left', exists_eq_left, exists_eq', List.length_cons, List.length_nil, Nat.reduceAdd, true_and, and_true, decide_eq_true_eq, if_true, if_false, Bool.false_eq_true, Bool.not_true, Bool.not_false, Sq, Fb, wipeE]
      exact notice_runs fun nt st2 => k (some nt) st2
    (first | with_reducible refine Co_seq.mpr ?_ | with_reducible refine Co_nil.mpr ?_ | with_reducible refine Co_brk.mpr ?_ | with_reducible refine Co_cont.mpr ?_ | with_reducible refine Co_retN.mpr ?_ | with_reducible refine Co_set' ?_ | with_reducible refine Co_own' ?_ | with_reducible refine Co_ret' ?_ | with_reducible refine Co_expr' ?_ | with_reducible refine Co_if' ?_ | with_reducible refine Co_frz' ?_ | with_reducible refine Co_app' ?_ | with_reducible refine Co_put' ?_ | with_reducible refine Co_aug' ?_ | with_reducible refine Co_asg' ?_)
    (first | with_reducible refine Co_seq.mpr ?_ | with_reducible refine Co_nil.mpr ?_ | with_reducible refine Co_brk.mpr ?_ | with_reducible refine Co_cont.mpr ?_ | with_reducible refine Co_retN.mpr ?_ | with_reducible refine Co_set' ?_ | with_reducible refine Co_own' ?_ | with_reducible refine Co_ret' ?_ | with_reducible refine Co_expr' ?_ | with_reducible refine Co_if' ?_ | with_reducible refine Co_frz' ?_ | with_reducible refine Co_app' ?_ | with_reducible refine Co_put' ?_ | with_reducible refine Co_aug' ?_ | with_reducible refine Co_asg' ?_)
    try simp only [Eo_C, Eo_V, Eo_B, Eo_bin, Eo_un, Eo_and, Eo_or, Eo_not, Eo_if, Eo_free, As_nil, As_cons, Eo_fn, Eo_call, As_seq, As_bor, As_rng1, Po_no, Po_E, Eo_sl, Eo_get1, dAdd_int, dSub_int, dLt_int, dLe_int, dGt_int, dGe_int, dNeg_int, dMax2_int, dMin2_int, dLen_lst, dLen_tup, dTuple_lst, dTuple_tup, dRev_lst, dAt_lst, dAt_tup, dAt_dic, dEq_int, dLst_nil, at_0, at_1, at_2, at_3, List.getElem?_cons_succ, List.getElem?_cons_zero, List.set_cons_succ, List.set_cons_zero, Option.some.injEq, Sl.v.injEq, Sl.o.injEq, D.int.injEq, D.bl.injEq, D.str.injEq, D.tup.injEq, D.lst.injEq, D.dic.injEq, reduceCtorEq, false_or, or_false, exists_eq_left', exists_eq_left, exists_eq', List.length_cons, List.length_nil, Nat.reduceAdd, true_and, and_true, decide_eq_true_eq, if_true, if_false, Bool.false_eq_true, Bool.not_true, Bool.not_false, Sq, Fb, wipeE]
    refine iteD (fun h => ?_) (fun h => ?_)
    · try simp only [Eo_C, Eo_V, Eo_B, Eo_bin, Eo_un, Eo_and, Eo_or, Eo_not, Eo_if, Eo_free, As_nil, As_cons, Eo_fn, Eo_call, As_seq, As_bor, As_rng1, Po_no, Po_E, Eo_sl, Eo_get1, dAdd_int, dSub_int, dLt_int, dLe_int, dGt_int, dGe_int, dNeg_int, dMax2_int, dMin2_int, dLen_lst, dLen_tup, dTuple_lst, dTuple_tup, dRev_lst, dAt_lst, dAt_tup, dAt_dic, dEq_int, dLst_nil, at_0, at_1, at_2, at_3, List.getElem?_cons_succ, List.getElem?_cons_zero, List.set_cons_succ, List.set_cons_zero, Option.some.injEq, Sl.v.injEq, Sl.o.injEq, D.int.injEq, D.bl.injEq, D.str.injEq, D.tup.injEq, D.lst.injEq, D.dic.injEq, reduceCtorEq, false_or, or_false, exists_eq_left', exists_eq_left, exists_eq', List.length_cons, List.length_nil, Nat.reduceAdd, true_and, and_true, decide_eq_true_eq, if_true, if_false, Bool.false_eq_true, Bool.not_true, Bool.not_false, Sq, Fb, wipeE]
      refine Fo_draw (by decide) (by decide) fun x st2 x0 x1 => ?_
      try simp only [Eo_C, Eo_V, Eo_B, Eo_bin, Eo_un, Eo_and, Eo_or, Eo_not, Eo_if, Eo_free, As_nil, As_cons, Eo_fn, Eo_call, As_seq, As_bor, As_rng1, Po_no, Po_E, Eo_sl, Eo_get1, dAdd_int, dSub_int, dLt_int, dLe_int, dGt_int, dGe_int, dNeg_int, dMax2_int, dMin2_int, dLen_lst, dLen_tup, dTuple_lst, dTuple_tup, dRev_lst, dAt_lst, dAt_tup, dAt_dic, dEq_int, dLst_nil, at_0, at_1, at_2, at_3, List.getElem?_cons_succ, List.getElem?_cons_zero, List.set_cons_succ, List.set_cons_zero, Option.some.injEq, Sl.v.injEq, Sl.o.injEq, D.int.injEq, D.bl.injEq, D.str.injEq, D.tup.injEq, D.lst.injEq, D.dic.injEq, reduceCtorEq, false_or, or_false, exists_eq_left', exists_eq_left, exists_eq', List.length_cons, List.length_nil, Nat.reduceAdd, true_and, and_true, decide_eq_true_eq, if_true, if_false, Bool.false_eq_true, Bool.not_true, Bool.not_false, Sq, Fb, wipeE]
      refine iteD (fun h2 => ?_) (fun h2 => ?_)
      · (first | with_reducible refine Co_seq.mpr ?_ | with_reducible refine Co_nil.mpr ?_ | with_reducible refine Co_brk.mpr ?_ | with_reducible refine Co_cont.mpr ?_ | with_reducible refine Co_retN.mpr ?_ | with_reducible refine Co_set' ?_ | with_reducible refine Co_own' ?_ | with_reducible refine Co_ret' ?_ | with_reducible refine Co_expr' ?_ | with_reducible refine Co_if' ?_ | with_reducible refine Co_frz' ?_ | with_reducible refine Co_app' ?_ | with_reducible refine Co_put' ?_ | with_reducible refine Co_aug' ?_ | with_reducible refine Co_asg' ?_)
        try simp only [Eo_C, Eo_V, Eo_B, Eo_bin, Eo_un, Eo_and, Eo_or, Eo_not, Eo_if, Eo_free, As_nil, As_cons, Eo_fn, Eo_call, As_seq, As_bor, As_rng1, Po_no, Po_E, Eo_sl, Eo_get1, dAdd_int, dSub_int, dLt_int, dLe_int, dGt_int, dGe_int, dNeg_int, dMax2_int, dMin2_int, dLen_lst, dLen_tup, dTuple_lst, dTuple_tup, dRev_lst, dAt_lst, dAt_tup, dAt_dic, dEq_int, dLst_nil, at_0, at_1, at_2, at_3, List.getElem?_cons_succ, List.getElem?_cons_zero, List.set_cons_succ, List.set_cons_zero, Option.some.injEq, Sl.v.injEq, Sl.o.injEq, D.int.injEq, D.bl.injEq, D.str.injEq, D.tup.injEq, D.lst.injEq, D.dic.injEq, reduceCtorEq, false_or, or_false, exists_eq_left', exists_eq_left, exists_eq', List.length_cons, List.length_nil, Nat.reduceAdd, true_and, and_true, decide_eq_true_eq, if_true, if_false, Bool.false_eq_true, Bool.not_true, Bool.not_false, Sq, Fb, wipeE]
        refine pick_runs (by omega) ?_ fun x hx st3 => ?_
        · rw [List.length_map]
          exact Nat.lt_of_le_of_lt (List.length_filter_le _ _) (by omega)
        · obtain ⟨e, _, rfl⟩ := List.mem_map.mp hx
          exact k _ _
      · (first | with_reducible refine Co_seq.mpr ?_ | with_reducible refine Co_nil.mpr ?_ | with_reducible refine Co_brk.mpr ?_ | with_reducible refine Co_cont.mpr ?_ | with_reducible refine Co_retN.mpr ?_ | with_reducible refine Co_set' ?_ | with_reducible refine Co_own' ?_ | with_reducible refine Co_ret' ?_ | with_reducible refine Co_expr' ?_ | with_reducible refine Co_if' ?_ | with_reducible refine Co_frz' ?_ | with_reducible refine Co_app' ?_ | with_reducible refine Co_put' ?_ | with_reducible refine Co_aug' ?_ | with_reducible refine Co_asg' ?_)
        try simp only [Eo_C, Eo_V, Eo_B, Eo_bin, Eo_un, Eo_and, Eo_or, Eo_not, Eo_if, Eo_free, As_nil, As_cons, Eo_fn, Eo_call, As_seq, As_bor, As_rng1, Po_no, Po_E, Eo_sl, Eo_get1, dAdd_int, dSub_int, dLt_int, dLe_int, dGt_int, dGe_int, dNeg_int, dMax2_int, dMin2_int, dLen_lst, dLen_tup, dTuple_lst, dTuple_tup, dRev_lst, dAt_lst, dAt_tup, dAt_dic, dEq_int, dLst_nil, at_0, at_1, at_2, at_3, List.getElem?_cons_succ, List.getElem?_cons_zero, List.set_cons_succ, List.set_cons_zero, Option.some.injEq, Sl.v.injEq, Sl.o.injEq, D.int.injEq, D.bl.injEq, D.str.injEq, D.tup.injEq, D.lst.injEq, D.dic.injEq, reduceCtorEq, false_or, or_false, exists_eq_left', exists_eq_left, exists_eq', List.length_cons, List.length_nil, Nat.reduceAdd, true_and, and_true, decide_eq_true_eq, if_true, if_false, Bool.false_eq_true, Bool.not_true, Bool.not_false, Sq, Fb, wipeE]
        exact new _ _
    · (first | with_reducible refine Co_seq.mpr ?_ | with_reducible refine Co_nil.mpr ?_ | with_reducible refine Co_brk.mpr ?_ | with_reducible refine Co_cont.mpr ?_ | with_reducible refine Co_retN.mpr ?_ | with_reducible refine Co_set' ?_ | with_reducible refine Co_own' ?_ | with_reducible refine Co_ret' ?_ | with_reducible refine Co_expr' ?_ | with_reducible refine Co_if' ?_ | with_reducible refine Co_frz' ?_ | with_reducible refine Co_app' ?_ | with_reducible refine Co_put' ?_ | with_reducible refine Co_aug' ?_ | with_reducible refine Co_asg' ?_)
      try simp only [Eo_C, Eo_V, Eo_B, Eo_bin, Eo_un, Eo_and, Eo_or, Eo_not, Eo_if, Eo_free, As_nil, As_cons, Eo_fn, Eo_call, As_seq, As_bor, As_rng1, Po_no, Po_E, Eo_sl, Eo_get1, dAdd_int, dSub_int, dLt_int, dLe_int, dGt_int, dGe_int, dNeg_int, dMax2_int, dMin2_int, dLen_lst, dLen_tup, dTuple_lst, dTuple_tup, dRev_lst, dAt_lst, dAt_tup, dAt_dic, dEq_int, dLst_nil, at_0, at_1, at_2, at_3, List.getElem?_cons_succ, List.getElem?_cons_zero, List.set_cons_succ, List.set_cons_zero, Option.some.injEq, Sl.v.injEq, Sl.o.injEq, D.int.injEq, D.bl.injEq, D.str.injEq, D.tup.injEq, D.lst.injEq, D.dic.injEq, reduceCtorEq, false_or, or_false, exists_eq_left', exists_eq_left, exists_eq', List.length_cons, List.length_nil, Nat.reduceAdd, true_and, and_true, decide_eq_true_eq, if_true, if_false, Bool.false_eq_true, Bool.not_true, Bool.not_false, Sq, Fb, wipeE]
      exact new _ _
  have sB : ∀ (st : DS), Co (cSeq (cIf (eBin dEq (eCall 2 F_law_draw (eCons (eV 0) (eCons (eC (.int 3)) eNil))) (eC (.int 1))) (cRet (eV 5)) cNil) (cRet (eC .non)))
      [.v .dst, .v (.lst (strsOf ws)), .v (.lst (bk es)), .v (.int n), .v (.int day), .v (nD o), .no, .no] st (Fb P) := by
    intro st
    (first | with_reducible refine Co_seq.mpr ?_ | with_reducible refine Co_nil.mpr ?_ | with_reducible refine Co_brk.mpr ?_ | with_reducible refine Co_cont.mpr ?_ | with_reducible refine Co_retN.mpr ?_ | with_reducible refine Co_set' ?_ | with_reducible refine Co_own' ?_ | with_reducible refine Co_ret' ?_ | with_reducible refine Co_expr' ?_ | with_reducible refine Co_if' ?_ | with_reducible refine Co_frz' ?_ | with_reducible refine Co_app' ?_ | with_reducible refine Co_put' ?_ | with_reducible refine Co_aug' ?_ | with_reducible refine Co_asg' ?_)
    (first | with_reducible refine Co_seq.mpr ?_ | with_reducible refine Co_nil.mpr ?_ | with_reducible refine Co_brk.mpr ?_ | with_reducible refine Co_cont.mpr ?_ | with_reducible refine Co_retN.mpr ?_ | with_reducible refine Co_set' ?_ | with_reducible refine Co_own' ?_ | with_reducible refine Co_ret' ?_ | with_reducible refine Co_expr' ?_ | with_reducible refine Co_if' ?_ | with_reducible refine Co_frz' ?_ | with_reducible refine Co_app' ?_ | with_reducible refine Co_put' ?_ | with_reducible refine Co_aug' ?_ | with_reducible refine Co_asg' ?_)
    try simp only [Eo_C, Eo_V, Eo_B, Eo_bin, Eo_un, Eo_and, Eo_or, Eo_not, Eo_if, Eo_free, As_nil, As_cons, Eo_fn, Eo_call, As_seq, As_bor, As_rng1, Po_no, Po_E, Eo_sl, Eo_get1, dAdd_int, dSub_int, dLt_int, dLe_int, dGt_int, dGe_int, dNeg_int, dMax2_int, dMin2_int, dLen_lst, dLen_tup, dTuple_lst, dTuple_tup, dRev_lst, dAt_lst, dAt_tup, dAt_dic, dEq_int, dLst_nil, at_0, at_1, at_2, at_3, List.getElem?_cons_succ, List.getElem?_cons_zero, List.set_cons_succ, List.set_cons_zero, Option.some.injEq, Sl.v.injEq, Sl.o.injEq, D.int.injEq, D.bl.injEq, D.str.injEq, D.tup.injEq, D.lst.injEq, D.dic.injEq, reduceCtorEq, false_or, or_false, exists_eq_left', exists_eq_left, exists_eq', List.length_cons, List.length_nil, Nat.reduceAdd, true_and, and_true, decide_eq_true_eq, if_true, if_false, Bool.false_eq_true, Bool.not_true, Bool.not_false, Sq, Fb, wipeE]
    refine Fo_draw (by decide) (by decide) fun x st2 x0 x1 => ?_
    try simp only [Eo_C, Eo_V, Eo_B, Eo_bin, Eo_un, Eo_and, Eo_or, Eo_not, Eo_if, Eo_free, As_nil, As_cons, Eo_fn, Eo_call, As_seq, As_bor, As_rng1, Po_no, Po_E, Eo_sl, Eo_get1, dAdd_int, dSub_int, dLt_int, dLe_int, dGt_int, dGe_int, dNeg_int, dMax2_int, dMin2_int, dLen_lst, dLen_tup, dTuple_lst, dTuple_tup, dRev_lst, dAt_lst, dAt_tup, dAt_dic, dEq_int, dLst_nil, at_0, at_1, at_2, at_3, List.getElem?_cons_succ, List.getElem?_cons_zero, List.set_cons_succ, List.set_cons_zero, Option.some.injEq, Sl.v.injEq, Sl.o.injEq, D.int.injEq, D.bl.injEq, D.str.injEq, D.tup.injEq, D.lst.injEq, D.dic.injEq, reduceCtorEq, false_or, or_false, exists_eq_left', exists_eq_left, exists_eq', List.length_cons, List.length_nil, Nat.reduceAdd, true_and, and_true, decide_eq_true_eq, if_true, if_false, Bool.false_eq_true, Bool.not_true, Bool.not_false, Sq, Fb, wipeE]
    refine iteD (fun h2 => ?_) (fun h2 => ?_)
    · (first | with_reducible refine Co_seq.mpr ?_ | with_reducible refine Co_nil.mpr ?_ | with_reducible refine Co_brk.mpr ?_ | with_reducible refine Co_cont.mpr ?_ | with_reducible refine Co_retN.mpr ?_ | with_reducible refine Co_set' ?_ | with_reducible refine Co_own' ?_ | with_reducible refine Co_ret' ?_ | with_reducible refine Co_expr' ?_ | with_reducible refine Co_if' ?_ | with_reducible refine Co_frz' ?_ | with_reducible refine Co_app' ?_ | with_reducible refine Co_put' ?_ | with_reducible refine Co_aug' ?_ | with_reducible refine Co_asg' ?_)
      try simp only [Eo_C, Eo_V, Eo_B, Eo_bin, Eo_un, Eo_and, Eo_or, Eo_not, Eo_if, Eo_free, As_nil, As_cons, Eo_fn, Eo_call, As_seq, As_bor, As_rng1, Po_no, Po_E, Eo_sl, Eo_get1, dAdd_int, dSub_int, dLt_int, dLe_int, dGt_int, dGe_int, dNeg_int, dMax2_int, dMin2_int, dLen_lst, dLen_tup, dTuple_lst, dTuple_tup, dRev_lst, dAt_lst, dAt_tup, dAt_dic, dEq_int, dLst_nil, at_0, at_1, at_2, at_3, List.getElem?_cons_succ, List.getElem?_cons_zero, List.set_cons_succ, List.set_cons_zero, Option.some.injEq, Sl.v.injEq, Sl.o.injEq, D.int.injEq, D.bl.injEq, D.str.injEq, D.tup.injEq, D.lst.injEq, D.dic.injEq, reduceCtorEq, false_or, or_false, exists_eq_left', exists_eq_left, exists_eq', List.length_cons, List.length_nil, Nat.reduceAdd, true_and, and_true, decide_eq_true_eq, if_true, if_false, Bool.false_eq_true, Bool.not_true, Bool.not_false, Sq, Fb, wipeE]
      exact k _ _
    · (first | with_reducible refine Co_seq.mpr ?_ | with_reducible refine Co_nil.mpr ?_ | with_reducible refine Co_brk.mpr ?_ | with_reducible refine Co_cont.mpr ?_ | with_reducible refine Co_retN.mpr ?_ | with_reducible refine Co_set' ?_ | with_reducible refine Co_own' ?_ | with_reducible refine Co_ret' ?_ | with_reducible refine Co_expr' ?_ | with_reducible refine Co_if' ?_ | with_reducible refine Co_frz' ?_ | with_reducible refine Co_app' ?_ | with_reducible refine Co_put' ?_ | with_reducible refine Co_aug' ?_ | with_reducible refine Co_asg' ?_)
      try simp only [Eo_C, Eo_V, Eo_B, Eo_bin, Eo_un, Eo_and, Eo_or, Eo_not, Eo_if, Eo_free, As_nil, As_cons, Eo_fn, Eo_call, As_seq, As_bor, As_rng1, Po_no, Po_E, Eo_sl, Eo_get1, dAdd_int, dSub_int, dLt_int, dLe_int, dGt_int, dGe_int, dNeg_int, dMax2_int, dMin2_int, dLen_lst, dLen_tup, dTuple_lst, dTuple_tup, dRev_lst, dAt_lst, dAt_tup, dAt_dic, dEq_int, dLst_nil, at_0, at_1, at_2, at_3, List.getElem?_cons_succ, List.getElem?_cons_zero, List.set_cons_succ, List.set_cons_zero, Option.some.injEq, Sl.v.injEq, Sl.o.injEq, D.int.injEq, D.bl.injEq, D.str.injEq, D.tup.injEq, D.lst.injEq, D.dic.injEq, reduceCtorEq, false_or, or_false, exists_eq_left', exists_eq_left, exists_eq', List.length_cons, List.length_nil, Nat.reduceAdd, true_and, and_true, decide_eq_true_eq, if_true, if_false, Bool.false_eq_true, Bool.not_true, Bool.not_false, Sq, Fb, wipeE]
      (first | with_reducible refine Co_seq.mpr ?_ | with_reducible refine Co_nil.mpr ?_ | with_reducible refine Co_brk.mpr ?_ | with_reducible refine Co_cont.mpr ?_ | with_reducible refine Co_retN.mpr ?_ | with_reducible refine Co_set' ?_ | with_reducible refine Co_own' ?_ | with_reducible refine Co_ret' ?_ | with_reducible refine Co_expr' ?_ | with_reducible refine Co_if' ?_ | with_reducible refine Co_frz' ?_ | with_reducible refine Co_app' ?_ | with_reducible refine Co_put' ?_ | with_reducible refine Co_aug' ?_ | with_reducible refine Co_asg' ?_)
      try simp only [Eo_C, Eo_V, Eo_B, Eo_bin, Eo_un, Eo_and, Eo_or, Eo_not, Eo_if, Eo_free, As_nil, As_cons, Eo_fn, Eo_call, As_seq, As_bor, As_rng1, Po_no, Po_E, Eo_sl, Eo_get1, dAdd_int, dSub_int, dLt_int, dLe_int, dGt_int, dGe_int, dNeg_int, dMax2_int, dMin2_int, dLen_lst, dLen_tup, dTuple_lst, dTuple_tup, dRev_lst, dAt_lst, dAt_tup, dAt_dic, dEq_int, dLst_nil, at_0, at_1, at_2, at_3, List.getElem?_cons_succ, List.getElem?_cons_zero, List.set_cons_succ, List.set_cons_zero, Option.some.injEq, Sl.v.injEq, Sl.o.injEq, D.int.injEq, D.bl.injEq, D.str.injEq, D.tup.injEq, D.lst.injEq, D.dic.injEq, reduceCtorEq, false_or, or_false, exists_eq_left', exists_eq_left, exists_eq', List.length_cons, List.length_nil, Nat.reduceAdd, true_and, and_true, decide_eq_true_eq, if_true, if_false, Bool.false_eq_true, Bool.not_true, Bool.not_false, Sq, Fb, wipeE]
      exact k none _
  (first | with_reducible refine Co_seq.mpr ?_ | with_reducible refine Co_nil.mpr ?_ | with_reducible refine Co_brk.mpr ?_ | with_reducible refine Co_cont.mpr ?_ | with_reducible refine Co_retN.mpr ?_ | with_reducible refine Co_set' ?_ | with_reducible refine Co_own' ?_ | with_reducible refine Co_ret' ?_ | with_reducible refine Co_expr' ?_ | with_reducible refine Co_if' ?_ | with_reducible refine Co_frz' ?_ | with_reducible refine Co_app' ?_ | with_reducible refine Co_put' ?_ | with_reducible refine Co_aug' ?_ | with_reducible refine Co_asg' ?_)
  (first | with_reducible refine Co_seq.mpr ?_ | with_reducible refine Co_nil.mpr ?_ | with_reducible refine Co_brk.mpr ?_ | with_reducible refine Co_cont.mpr ?_ | with_reducible refine Co_retN.mpr ?_ | with_reducible refine Co_set' ?_ | with_reducible refine Co_own' ?_ | with_reducible refine Co_ret' ?_ | with_reducible refine Co_expr' ?_ | with_reducible refine Co_if' ?_ | with_reducible refine Co_frz' ?_ | with_reducible refine Co_app' ?_ | with_reducible refine Co_put' ?_ | with_reducible refine Co_aug' ?_ | with_reducible refine Co_asg' ?_)
  try simp only [Eo_C, Eo_V, Eo_B, Eo_bin, Eo_un, Eo_and, Eo_or, Eo_not, Eo_if, Eo_free, As_nil, As_cons, Eo_fn, Eo_call, As_seq, As_bor, As_rng1, Po_no, Po_E, Eo_sl, Eo_get1, dAdd_int, dSub_int, dLt_int, dLe_int, dGt_int, dGe_int, dNeg_int, dMax2_int, dMin2_int, dLen_lst, dLen_tup, dTuple_lst, dTuple_tup, dRev_lst, dAt_lst, dAt_tup, dAt_dic, dEq_int, dLst_nil, at_0, at_1, at_2, at_3, List.getElem?_cons_succ, List.getElem?_cons_zero, List.set_cons_succ, List.set_cons_zero, Option.some.injEq, Sl.v.injEq, Sl.o.injEq, D.int.injEq, D.bl.injEq, D.str.injEq, D.tup.injEq, D.lst.injEq, D.dic.injEq, reduceCtorEq, false_or, or_false, exists_eq_left', exists_eq_left, exists_eq', List.length_cons, List.length_nil, Nat.reduceAdd, true_and, and_true, decide_eq_true_eq, if_true, if_false, Bool.false_eq_true, Bool.not_true, Bool.not_false, Sq, Fb, wipeE]
  try simp only [En_d0, En_d1, En_d2, nD_isN, nD_notN, Option.some.injEq, exists_eq_left', dLe_int, dEq_int, D.bl.injEq]
  refine iteD (fun h => ?_) (fun h => ?_)
  · exact sA _ _
  · refine Fo_draw (by decide) (by decide) fun x st2 x0 x1 => ?_
    try simp only [Eo_C, Eo_V, Eo_B, Eo_bin, Eo_un, Eo_and, Eo_or, Eo_not, Eo_if, Eo_free, As_nil, As_cons, Eo_fn, Eo_call, As_seq, As_bor, As_rng1, Po_no, Po_E, Eo_sl, Eo_get1, dAdd_int, dSub_int, dLt_int, dLe_int, dGt_int, dGe_int, dNeg_int, dMax2_int, dMin2_int, dLen_lst, dLen_tup, dTuple_lst, dTuple_tup, dRev_lst, dAt_lst, dAt_tup, dAt_dic, dEq_int, dLst_nil, at_0, at_1, at_2, at_3, List.getElem?_cons_succ, List.getElem?_cons_zero, List.set_cons_succ, List.set_cons_zero, Option.some.injEq, Sl.v.injEq, Sl.o.injEq, D.int.injEq, D.bl.injEq, D.str.injEq, D.tup.injEq, D.lst.injEq, D.dic.injEq, reduceCtorEq, false_or, or_false, exists_eq_left', exists_eq_left, exists_eq', List.length_cons, List.length_nil, Nat.reduceAdd, true_and, and_true, decide_eq_true_eq, if_true, if_false, Bool.false_eq_true, Bool.not_true, Bool.not_false, Sq, Fb, wipeE]
    refine iteD (fun h2 => sA _ _) (fun h2 => ?_)
    (first | with_reducible refine Co_seq.mpr ?_ | with_reducible refine Co_nil.mpr ?_ | with_reducible refine Co_brk.mpr ?_ | with_reducible refine Co_cont.mpr ?_ | with_reducible refine Co_retN.mpr ?_ | with_reducible refine Co_set' ?_ | with_reducible refine Co_own' ?_ | with_reducible refine Co_ret' ?_ | with_reducible refine Co_expr' ?_ | with_reducible refine Co_if' ?_ | with_reducible refine Co_frz' ?_ | with_reducible refine Co_app' ?_ | with_reducible refine Co_put' ?_ | with_reducible refine Co_aug' ?_ | with_reducible refine Co_asg' ?_)
    try simp only [Eo_C, Eo_V, Eo_B, Eo_bin, Eo_un, Eo_and, Eo_or, Eo_not, Eo_if, Eo_free, As_nil, As_cons, Eo_fn, Eo_call, As_seq, As_bor, As_rng1, Po_no, Po_E, Eo_sl, Eo_get1, dAdd_int, dSub_int, dLt_int, dLe_int, dGt_int, dGe_int, dNeg_int, dMax2_int, dMin2_int, dLen_lst, dLen_tup, dTuple_lst, dTuple_tup, dRev_lst, dAt_lst, dAt_tup, dAt_dic, dEq_int, dLst_nil, at_0, at_1, at_2, at_3, List.getElem?_cons_succ, List.getElem?_cons_zero, List.set_cons_succ, List.set_cons_zero, Option.some.injEq, Sl.v.injEq, Sl.o.injEq, D.int.injEq, D.bl.injEq, D.str.injEq, D.tup.injEq, D.lst.injEq, D.dic.injEq, reduceCtorEq, false_or, or_false, exists_eq_left', exists_eq_left, exists_eq', List.length_cons, List.length_nil, Nat.reduceAdd, true_and, and_true, decide_eq_true_eq, if_true, if_false, Bool.false_eq_true, Bool.not_true, Bool.not_false, Sq, Fb, wipeE]
    exact sB _
theorem book_runs {ws : List Str} {ns : List Int} {m : Int} {st : DS} {P : D → DS → Prop} (hw : ws ≠ []) (hw3 : ws.length ≤ 3) (hn : ns ≠ []) (hn4 : ns.length ≤ 4) (h0 : 0 ≤ m) (h1 : m ≤ 40)
    (k : ∀ (es : List En), es.length = m.toNat → ∀ st', P (.lst (bk es)) st') : Fo F_law_book [.dst, .lst (strsOf ws), .lst (ns.map D.int), .int m] st P := by
  unfold F_law_book
  (refine Fo_body.mpr ⟨rfl, ?_⟩; simp only [List.map_cons, List.map_nil, List.cons_append, List.nil_append, Nat.reduceSub, List.reduceReplicate])
  unfold G_law_book
  (first | with_reducible refine Co_seq.mpr ?_ | with_reducible refine Co_nil.mpr ?_ | with_reducible refine Co_brk.mpr ?_ | with_reducible refine Co_cont.mpr ?_ | with_reducible refine Co_retN.mpr ?_ | with_reducible refine Co_set' ?_ | with_reducible refine Co_own' ?_ | with_reducible refine Co_ret' ?_ | with_reducible refine Co_expr' ?_ | with_reducible refine Co_if' ?_ | with_reducible refine Co_frz' ?_ | with_reducible refine Co_app' ?_ | with_reducible refine Co_put' ?_ | with_reducible refine Co_aug' ?_ | with_reducible refine Co_asg' ?_)
  (first | with_reducible refine Co_seq.mpr ?_ | with_reducible refine Co_nil.mpr ?_ | with_reducible refine Co_brk.mpr ?_ | with_reducible refine Co_cont.mpr ?_ | with_reducible refine Co_retN.mpr ?_ | with_reducible refine Co_set' ?_ | with_reducible refine Co_own' ?_ | with_reducible refine Co_ret' ?_ | with_reducible refine Co_expr' ?_ | with_reducible refine Co_if' ?_ | with_reducible refine Co_frz' ?_ | with_reducible refine Co_app' ?_ | with_reducible refine Co_put' ?_ | with_reducible refine Co_aug' ?_ | with_reducible refine Co_asg' ?_)
  try simp only [Eo_C, Eo_V, Eo_B, Eo_bin, Eo_un, Eo_and, Eo_or, Eo_not, Eo_if, Eo_free, As_nil, As_cons, Eo_fn, Eo_call, As_seq, As_bor, As_rng1, Po_no, Po_E, Eo_sl, Eo_get1, dAdd_int, dSub_int, dLt_int, dLe_int, dGt_int, dGe_int, dNeg_int, dMax2_int, dMin2_int, dLen_lst, dLen_tup, dTuple_lst, dTuple_tup, dRev_lst, dAt_lst, dAt_tup, dAt_dic, dEq_int, dLst_nil, at_0, at_1, at_2, at_3, List.getElem?_cons_succ, List.getElem?_cons_zero, List.set_cons_succ, List.set_cons_zero, Option.some.injEq, Sl.v.injEq, Sl.o.injEq, D.int.injEq, D.bl.injEq, D.str.injEq, D.tup.injEq, D.lst.injEq, D.dic.injEq, reduceCtorEq, false_or, or_false, exists_eq_left', exists_eq_left, exists_eq', List.length_cons, List.length_nil, Nat.reduceAdd, true_and, and_true, decide_eq_true_eq, if_true, if_false, Bool.false_eq_true, Bool.not_true, Bool.not_false, Sq, Fb, wipeE]
  refine Fo_draw (by decide) (by decide) fun d0 st1 _ _ => ?_
  try simp only [Eo_C, Eo_V, Eo_B, Eo_bin, Eo_un, Eo_and, Eo_or, Eo_not, Eo_if, Eo_free, As_nil, As_cons, Eo_fn, Eo_call, As_seq, As_bor, As_rng1, Po_no, Po_E, Eo_sl, Eo_get1, dAdd_int, dSub_int, dLt_int, dLe_int, dGt_int, dGe_int, dNeg_int, dMax2_int, dMin2_int, dLen_lst, dLen_tup, dTuple_lst, dTuple_tup, dRev_lst, dAt_lst, dAt_tup, dAt_dic, dEq_int, dLst_nil, at_0, at_1, at_2, at_3, List.getElem?_cons_succ, List.getElem?_cons_zero, List.set_cons_succ, List.set_cons_zero, Option.some.injEq, Sl.v.injEq, Sl.o.injEq, D.int.injEq, D.bl.injEq, D.str.injEq, D.tup.injEq, D.lst.injEq, D.dic.injEq, reduceCtorEq, false_or, or_false, exists_eq_left', exists_eq_left, exists_eq', List.length_cons, List.length_nil, Nat.reduceAdd, true_and, and_true, decide_eq_true_eq, if_true, if_false, Bool.false_eq_true, Bool.not_true, Bool.not_false, Sq, Fb, wipeE]
  (first | with_reducible refine Co_seq.mpr ?_ | with_reducible refine Co_nil.mpr ?_ | with_reducible refine Co_brk.mpr ?_ | with_reducible refine Co_cont.mpr ?_ | with_reducible refine Co_retN.mpr ?_ | with_reducible refine Co_set' ?_ | with_reducible refine Co_own' ?_ | with_reducible refine Co_ret' ?_ | with_reducible refine Co_expr' ?_ | with_reducible refine Co_if' ?_ | with_reducible refine Co_frz' ?_ | with_reducible refine Co_app' ?_ | with_reducible refine Co_put' ?_ | with_reducible refine Co_aug' ?_ | with_reducible refine Co_asg' ?_)
  (first | with_reducible refine Co_seq.mpr ?_ | with_reducible refine Co_nil.mpr ?_ | with_reducible refine Co_brk.mpr ?_ | with_reducible refine Co_cont.mpr ?_ | with_reducible refine Co_retN.mpr ?_ | with_reducible refine Co_set' ?_ | with_reducible refine Co_own' ?_ | with_reducible refine Co_ret' ?_ | with_reducible refine Co_expr' ?_ | with_reducible refine Co_if' ?_ | with_reducible refine Co_frz' ?_ | with_reducible refine Co_app' ?_ | with_reducible refine Co_put' ?_ | with_reducible refine Co_aug' ?_ | with_reducible refine Co_asg' ?_)
  try simp only [Eo_C, Eo_V, Eo_B, Eo_bin, Eo_un, Eo_and, Eo_or, Eo_not, Eo_if, Eo_free, As_nil, As_cons, Eo_fn, Eo_call, As_seq, As_bor, As_rng1, Po_no, Po_E, Eo_sl, Eo_get1, dAdd_int, dSub_int, dLt_int, dLe_int, dGt_int, dGe_int, dNeg_int, dMax2_int, dMin2_int, dLen_lst, dLen_tup, dTuple_lst, dTuple_tup, dRev_lst, dAt_lst, dAt_tup, dAt_dic, dEq_int, dLst_nil, at_0, at_1, at_2, at_3, List.getElem?_cons_succ, List.getElem?_cons_zero, List.set_cons_succ, List.set_cons_zero, Option.some.injEq, Sl.v.injEq, Sl.o.injEq, D.int.injEq, D.bl.injEq, D.str.injEq, D.tup.injEq, D.lst.injEq, D.dic.injEq, reduceCtorEq, false_or, or_false, exists_eq_left', exists_eq_left, exists_eq', List.length_cons, List.length_nil, Nat.reduceAdd, true_and, and_true, decide_eq_true_eq, if_true, if_false, Bool.false_eq_true, Bool.not_true, Bool.not_false, Sq, Fb, wipeE]
  (first | with_reducible refine Co_seq.mpr ?_ | with_reducible refine Co_nil.mpr ?_ | with_reducible refine Co_brk.mpr ?_ | with_reducible refine Co_cont.mpr ?_ | with_reducible refine Co_retN.mpr ?_ | with_reducible refine Co_set' ?_ | with_reducible refine Co_own' ?_ | with_reducible refine Co_ret' ?_ | with_reducible refine Co_expr' ?_ | with_reducible refine Co_if' ?_ | with_reducible refine Co_frz' ?_ | with_reducible refine Co_app' ?_ | with_reducible refine Co_put' ?_ | with_reducible refine Co_aug' ?_ | with_reducible refine Co_asg' ?_)
  refine Co_for' (fun i ρ st' => ∃ (es : List En) (day : Int) (a b : Sl), es.length = i ∧ ρ = [.v .dst, .v (.lst (strsOf ws)), .v (.lst (ns.map D.int)), .v (.int m), .v (.int day), .o (.lst (bk es)), a, b]) ?_
  try simp only [Eo_C, Eo_V, Eo_B, Eo_bin, Eo_un, Eo_and, Eo_or, Eo_not, Eo_if, Eo_free, As_nil, As_cons, Eo_fn, Eo_call, As_seq, As_bor, As_rng1, Po_no, Po_E, Eo_sl, Eo_get1, dAdd_int, dSub_int, dLt_int, dLe_int, dGt_int, dGe_int, dNeg_int, dMax2_int, dMin2_int, dLen_lst, dLen_tup, dTuple_lst, dTuple_tup, dRev_lst, dAt_lst, dAt_tup, dAt_dic, dEq_int, dLst_nil, at_0, at_1, at_2, at_3, List.getElem?_cons_succ, List.getElem?_cons_zero, List.set_cons_succ, List.set_cons_zero, Option.some.injEq, Sl.v.injEq, Sl.o.injEq, D.int.injEq, D.bl.injEq, D.str.injEq, D.tup.injEq, D.lst.injEq, D.dic.injEq, reduceCtorEq, false_or, or_false, exists_eq_left', exists_eq_left, exists_eq', List.length_cons, List.length_nil, Nat.reduceAdd, true_and, and_true, decide_eq_true_eq, if_true, if_false, Bool.false_eq_true, Bool.not_true, Bool.not_false, Sq, Fb, wipeE]
  have hr : (rangeD 0 m.toNat).length = m.toNat := by unfold rangeD; rw [List.length_map, List.length_range]
  refine ⟨⟨by omega, by omega⟩, ⟨[], _, _, _, rfl, rfl⟩, ?_, ?_⟩
  · rintro i d ρ st' hd ⟨es, day, a, b, hes, rfl⟩
    have hi : i < m.toNat := by rw [← hr]; exact (List.getElem?_eq_some_iff.mp hd).1
    refine ⟨_, rfl, ?_⟩
    have rest : ∀ (day : Int) (st : DS), Co (cSeq (cSet 7 (eCall 2 F_law_pick (eCons (eV 0) (eCons (eV 2) eNil))))
        (cAppend 5 (eFree (eFn dTup (eCons (eV 4) (eCons (eV 7) (eCons (eCall 5 F_law_next (eCons (eV 0) (eCons (eV 1) (eCons (eB 5) (eCons (eV 7) (eCons (eV 4) eNil)))))) eNil)))))))
        [.v .dst, .v (.lst (strsOf ws)), .v (.lst (ns.map D.int)), .v (.int m), .v (.int day), .o (.lst (bk es)), .v d, b] st fun fl ρ2 st2 => match fl with
          | .nx => ∃ (es : List En) (day : Int) (a b : Sl), es.length = i + 1 ∧ ρ2 = [.v .dst, .v (.lst (strsOf ws)), .v (.lst (ns.map D.int)), .v (.int m), .v (.int day), .o (.lst (bk es)), a, b]
          | .ct => ∃ (es : List En) (day : Int) (a b : Sl), es.length = i + 1 ∧ ρ2 = [.v .dst, .v (.lst (strsOf ws)), .v (.lst (ns.map D.int)), .v (.int m), .v (.int day), .o (.lst (bk es)), a, b]
          | .bk => Co (cRet (eB 5)) ρ2 st2 (Fb P)
          | .rt d => P d st2
          | .ex x => False := by
      intro day st
      (first | with_reducible refine Co_seq.mpr ?_ | with_reducible refine Co_nil.mpr ?_ | with_reducible refine Co_brk.mpr ?_ | with_reducible refine Co_cont.mpr ?_ | with_reducible refine Co_retN.mpr ?_ | with_reducible refine Co_set' ?_ | with_reducible refine Co_own' ?_ | with_reducible refine Co_ret' ?_ | with_reducible refine Co_expr' ?_ | with_reducible refine Co_if' ?_ | with_reducible refine Co_frz' ?_ | with_reducible refine Co_app' ?_ | with_reducible refine Co_put' ?_ | with_reducible refine Co_aug' ?_ | with_reducible refine Co_asg' ?_)
      (first | with_reducible refine Co_seq.mpr ?_ | with_reducible refine Co_nil.mpr ?_ | with_reducible refine Co_brk.mpr ?_ | with_reducible refine Co_cont.mpr ?_ | with_reducible refine Co_retN.mpr ?_ | with_reducible refine Co_set' ?_ | with_reducible refine Co_own' ?_ | with_reducible refine Co_ret' ?_ | with_reducible refine Co_expr' ?_ | with_reducible refine Co_if' ?_ | with_reducible refine Co_frz' ?_ | with_reducible refine Co_app' ?_ | with_reducible refine Co_put' ?_ | with_reducible refine Co_aug' ?_ | with_reducible refine Co_asg' ?_)
      try simp only [Eo_C, Eo_V, Eo_B, Eo_bin, Eo_un, Eo_and, Eo_or, Eo_not, Eo_if, Eo_free, As_nil, As_cons, Eo_fn, Eo_call, As_seq, As_bor, As_rng1, Po_no, Po_E, Eo_sl, Eo_get1, dAdd_int, dSub_int, dLt_int, dLe_int, dGt_int, dGe_int, dNeg_int, dMax2_int, dMin2_int, dLen_lst, dLen_tup, dTuple_lst, dTuple_tup, dRev_lst, dAt_lst, dAt_tup, dAt_dic, dEq_int, dLst_nil, at_0, at_1, at_2, at_3, List.getElem?_cons_succ, List.getElem?_cons_zero, List.set_cons_succ, List.set_cons_zero, Option.some.injEq, Sl.v.injEq, Sl.o.injEq, D.int.injEq, D.bl.injEq, D.str.injEq, D.tup.injEq, D.lst.injEq, D.dic.injEq, reduceCtorEq, false_or, or_false, exists_eq_left', exists_eq_left, exists_eq', List.length_cons, List.length_nil, Nat.reduceAdd, true_and, and_true, decide_eq_true_eq, if_true, if_false, Bool.false_eq_true, Bool.not_true, Bool.not_false, Sq, Fb, wipeE]
      refine pick_runs (by rw [List.length_map]; exact List.length_pos_iff.mpr hn) (by rw [List.length_map]; omega) fun x hx st1 => ?_
      obtain ⟨n, _, rfl⟩ := List.mem_map.mp hx
      (first | with_reducible refine Co_seq.mpr ?_ | with_reducible refine Co_nil.mpr ?_ | with_reducible refine Co_brk.mpr ?_ | with_reducible refine Co_cont.mpr ?_ | with_reducible refine Co_retN.mpr ?_ | with_reducible refine Co_set' ?_ | with_reducible refine Co_own' ?_ | with_reducible refine Co_ret' ?_ | with_reducible refine Co_expr' ?_ | with_reducible refine Co_if' ?_ | with_reducible refine Co_frz' ?_ | with_reducible refine Co_app' ?_ | with_reducible refine Co_put' ?_ | with_reducible refine Co_aug' ?_ | with_reducible refine Co_asg' ?_)
      try simp only [Eo_C, Eo_V, Eo_B, Eo_bin, Eo_un, Eo_and, Eo_or, Eo_not, Eo_if, Eo_free, As_nil, As_cons, Eo_fn, Eo_call, As_seq, As_bor, As_rng1, Po_no, Po_E, Eo_sl, Eo_get1, dAdd_int, dSub_int, dLt_int, dLe_int, dGt_int, dGe_int, dNeg_int, dMax2_int, dMin2_int, dLen_lst, dLen_tup, dTuple_lst, dTuple_tup, dRev_lst, dAt_lst, dAt_tup, dAt_dic, dEq_int, dLst_nil, at_0, at_1, at_2, at_3, List.getElem?_cons_succ, List.getElem?_cons_zero, List.set_cons_succ, List.set_cons_zero, Option.some.injEq, Sl.v.injEq, Sl.o.injEq, D.int.injEq, D.bl.injEq, D.str.injEq, D.tup.injEq, D.lst.injEq, D.dic.injEq, reduceCtorEq, false_or, or_false, exists_eq_left', exists_eq_left, exists_eq', List.length_cons, List.length_nil, Nat.reduceAdd, true_and, and_true, decide_eq_true_eq, if_true, if_false, Bool.false_eq_true, Bool.not_true, Bool.not_false, Sq, Fb, wipeE]
      refine next_runs hw hw3 (by omega) fun o st2 => ?_
      have e2 : bk (es ++ [⟨day, n, o⟩]) = bk es ++ [En.d ⟨day, n, o⟩] := by unfold bk; rw [List.map_append]; rfl
      refine ⟨_, dTup_of _ (by show 3 ≤ sizeLine; decide), En_free ⟨day, n, o⟩, ?_, es ++ [⟨day, n, o⟩], day, .v d, .v (.int n), by rw [List.length_append, hes]; rfl, by rw [e2]; rfl⟩
      rw [bk_len]
      exact Nat.lt_of_lt_of_le (by omega : es.length < 64) (by decide)
    (first | with_reducible refine Co_seq.mpr ?_ | with_reducible refine Co_nil.mpr ?_ | with_reducible refine Co_brk.mpr ?_ | with_reducible refine Co_cont.mpr ?_ | with_reducible refine Co_retN.mpr ?_ | with_reducible refine Co_set' ?_ | with_reducible refine Co_own' ?_ | with_reducible refine Co_ret' ?_ | with_reducible refine Co_expr' ?_ | with_reducible refine Co_if' ?_ | with_reducible refine Co_frz' ?_ | with_reducible refine Co_app' ?_ | with_reducible refine Co_put' ?_ | with_reducible refine Co_aug' ?_ | with_reducible refine Co_asg' ?_)
    (first | with_reducible refine Co_seq.mpr ?_ | with_reducible refine Co_nil.mpr ?_ | with_reducible refine Co_brk.mpr ?_ | with_reducible refine Co_cont.mpr ?_ | with_reducible refine Co_retN.mpr ?_ | with_reducible refine Co_set' ?_ | with_reducible refine Co_own' ?_ | with_reducible refine Co_ret' ?_ | with_reducible refine Co_expr' ?_ | with_reducible refine Co_if' ?_ | with_reducible refine Co_frz' ?_ | with_reducible refine Co_app' ?_ | with_reducible refine Co_put' ?_ | with_reducible refine Co_aug' ?_ | with_reducible refine Co_asg' ?_)
    try simp only [Eo_C, Eo_V, Eo_B, Eo_bin, Eo_un, Eo_and, Eo_or, Eo_not, Eo_if, Eo_free, As_nil, As_cons, Eo_fn, Eo_call, As_seq, As_bor, As_rng1, Po_no, Po_E, Eo_sl, Eo_get1, dAdd_int, dSub_int, dLt_int, dLe_int, dGt_int, dGe_int, dNeg_int, dMax2_int, dMin2_int, dLen_lst, dLen_tup, dTuple_lst, dTuple_tup, dRev_lst, dAt_lst, dAt_tup, dAt_dic, dEq_int, dLst_nil, at_0, at_1, at_2, at_3, List.getElem?_cons_succ, List.getElem?_cons_zero, List.set_cons_succ, List.set_cons_zero, Option.some.injEq, Sl.v.injEq, Sl.o.injEq, D.int.injEq, D.bl.injEq, D.str.injEq, D.tup.injEq, D.lst.injEq, D.dic.injEq, reduceCtorEq, false_or, or_false, exists_eq_left', exists_eq_left, exists_eq', List.length_cons, List.length_nil, Nat.reduceAdd, true_and, and_true, decide_eq_true_eq, if_true, if_false, Bool.false_eq_true, Bool.not_true, Bool.not_false, Sq, Fb, wipeE]
    refine rare_runs (by decide) (by decide) fun b st2 => ?_
    refine ⟨_, rfl, ?_⟩
    refine iteD (fun _ => rest _ _) (fun _ => ?_)
    refine ⟨_, dLst_of _ (by show 5 ≤ sizeLine; decide), ?_⟩
    refine pick_runs (by decide) (by decide) fun y hy st3 => ?_
    simp only [List.mem_cons, List.not_mem_nil, or_false] at hy
    have : ∃ z, y = .int z := by rcases hy with rfl | rfl | rfl | rfl | rfl <;> exact ⟨_, rfl⟩
    obtain ⟨z, rfl⟩ := this
    try simp only [Eo_C, Eo_V, Eo_B, Eo_bin, Eo_un, Eo_and, Eo_or, Eo_not, Eo_if, Eo_free, As_nil, As_cons, Eo_fn, Eo_call, As_seq, As_bor, As_rng1, Po_no, Po_E, Eo_sl, Eo_get1, dAdd_int, dSub_int, dLt_int, dLe_int, dGt_int, dGe_int, dNeg_int, dMax2_int, dMin2_int, dLen_lst, dLen_tup, dTuple_lst, dTuple_tup, dRev_lst, dAt_lst, dAt_tup, dAt_dic, dEq_int, dLst_nil, at_0, at_1, at_2, at_3, List.getElem?_cons_succ, List.getElem?_cons_zero, List.set_cons_succ, List.set_cons_zero, Option.some.injEq, Sl.v.injEq, Sl.o.injEq, D.int.injEq, D.bl.injEq, D.str.injEq, D.tup.injEq, D.lst.injEq, D.dic.injEq, reduceCtorEq, false_or, or_false, exists_eq_left', exists_eq_left, exists_eq', List.length_cons, List.length_nil, Nat.reduceAdd, true_and, and_true, decide_eq_true_eq, if_true, if_false, Bool.false_eq_true, Bool.not_true, Bool.not_false, Sq, Fb, wipeE]
    exact rest _ _
  · rintro ρ st' ⟨es, day, a, b, hes, rfl⟩
    rw [hr] at hes
    (first | with_reducible refine Co_seq.mpr ?_ | with_reducible refine Co_nil.mpr ?_ | with_reducible refine Co_brk.mpr ?_ | with_reducible refine Co_cont.mpr ?_ | with_reducible refine Co_retN.mpr ?_ | with_reducible refine Co_set' ?_ | with_reducible refine Co_own' ?_ | with_reducible refine Co_ret' ?_ | with_reducible refine Co_expr' ?_ | with_reducible refine Co_if' ?_ | with_reducible refine Co_frz' ?_ | with_reducible refine Co_app' ?_ | with_reducible refine Co_put' ?_ | with_reducible refine Co_aug' ?_ | with_reducible refine Co_asg' ?_)
    try simp only [Eo_C, Eo_V, Eo_B, Eo_bin, Eo_un, Eo_and, Eo_or, Eo_not, Eo_if, Eo_free, As_nil, As_cons, Eo_fn, Eo_call, As_seq, As_bor, As_rng1, Po_no, Po_E, Eo_sl, Eo_get1, dAdd_int, dSub_int, dLt_int, dLe_int, dGt_int, dGe_int, dNeg_int, dMax2_int, dMin2_int, dLen_lst, dLen_tup, dTuple_lst, dTuple_tup, dRev_lst, dAt_lst, dAt_tup, dAt_dic, dEq_int, dLst_nil, at_0, at_1, at_2, at_3, List.getElem?_cons_succ, List.getElem?_cons_zero, List.set_cons_succ, List.set_cons_zero, Option.some.injEq, Sl.v.injEq, Sl.o.injEq, D.int.injEq, D.bl.injEq, D.str.injEq, D.tup.injEq, D.lst.injEq, D.dic.injEq, reduceCtorEq, false_or, or_false, exists_eq_left', exists_eq_left, exists_eq', List.length_cons, List.length_nil, Nat.reduceAdd, true_and, and_true, decide_eq_true_eq, if_true, if_false, Bool.false_eq_true, Bool.not_true, Bool.not_false, Sq, Fb, wipeE]
    exact k es hes st'
theorem longer_runs {ws : List Str} {ns : List Int} {es : List En} {st : DS} {P : D → DS → Prop} (hw : ws ≠ []) (hw3 : ws.length ≤ 3) (hn : ns ≠ []) (hn4 : ns.length ≤ 4) (hl : es.length ≤ 40)
    (k : ∀ (e : En), ∀ st', P (.lst (bk (es ++ [e]))) st') : Fo F_law_longer [.dst, .lst (strsOf ws), .lst (ns.map D.int), .lst (bk es)] st P := by
  unfold F_law_longer
  (refine Fo_body.mpr ⟨rfl, ?_⟩; simp only [List.map_cons, List.map_nil, List.cons_append, List.nil_append, Nat.reduceSub, List.reduceReplicate])
  unfold G_law_longer
  have rest : ∀ (day : Int) (st : DS), Co (cSeq (cSet 4 (eFn dMin2 (eCons (eC (.int 999)) (eCons (eBin dAdd (eV 4) (eCall 2 F_law_draw (eCons (eV 0) (eCons (eC (.int 3)) eNil)))) eNil))))
    (cSeq (cSet 5 (eCall 2 F_law_pick (eCons (eV 0) (eCons (eV 2) eNil))))
    (cRet (eBin dAdd (eV 3) (eFn dLst (eCons (eFn dTup (eCons (eV 4) (eCons (eV 5) (eCons (eCall 5 F_law_next (eCons (eV 0) (eCons (eV 1) (eCons (eV 3) (eCons (eV 5) (eCons (eV 4) eNil)))))) eNil)))) eNil))))))
      [.v .dst, .v (.lst (strsOf ws)), .v (.lst (ns.map D.int)), .v (.lst (bk es)), .v (.int day), .no] st (Fb P) := by
    intro day st
    (first | with_reducible refine Co_seq.mpr ?_ | with_reducible refine Co_nil.mpr ?_ | with_reducible refine Co_brk.mpr ?_ | with_reducible refine Co_cont.mpr ?_ | with_reducible refine Co_retN.mpr ?_ | with_reducible refine Co_set' ?_ | with_reducible refine Co_own' ?_ | with_reducible refine Co_ret' ?_ | with_reducible refine Co_expr' ?_ | with_reducible refine Co_if' ?_ | with_reducible refine Co_frz' ?_ | with_reducible refine Co_app' ?_ | with_reducible refine Co_put' ?_ | with_reducible refine Co_aug' ?_ | with_reducible refine Co_asg' ?_)
    (first | with_reducible refine Co_seq.mpr ?_ | with_reducible refine Co_nil.mpr ?_ | with_reducible refine Co_brk.mpr ?_ | with_reducible refine Co_cont.mpr ?_ | with_reducible refine Co_retN.mpr ?_ | with_reducible refine Co_set' ?_ | with_reducible refine Co_own' ?_ | with_reducible refine Co_ret' ?_ | with_reducible refine Co_expr' ?_ | with_reducible refine Co_if' ?_ | with_reducible refine Co_frz' ?_ | with_reducible refine Co_app' ?_ | with_reducible refine Co_put' ?_ | with_reducible refine Co_aug' ?_ | with_reducible refine Co_asg' ?_)
    try simp only [Eo_C, Eo_V, Eo_B, Eo_bin, Eo_un, Eo_and, Eo_or, Eo_not, Eo_if, Eo_free, As_nil, As_cons, Eo_fn, Eo_call, As_seq, As_bor, As_rng1, Po_no, Po_E, Eo_sl, Eo_get1, dAdd_int, dSub_int, dLt_int, dLe_int, dGt_int, dGe_int, dNeg_int, dMax2_int, dMin2_int, dLen_lst, dLen_tup, dTuple_lst, dTuple_tup, dRev_lst, dAt_lst, dAt_tup, dAt_dic, dEq_int, dLst_nil, at_0, at_1, at_2, at_3, List.getElem?_cons_succ, List.getElem?_cons_zero, List.set_cons_succ, List.set_cons_zero, Option.some.injEq, Sl.v.injEq, Sl.o.injEq, D.int.injEq, D.bl.injEq, D.str.injEq, D.tup.injEq, D.lst.injEq, D.dic.injEq, reduceCtorEq, false_or, or_false, exists_eq_left', exists_eq_left, exists_eq', List.length_cons, List.length_nil, Nat.reduceAdd, true_and, and_true, decide_eq_true_eq, if_true, if_false, Bool.false_eq_true, Bool.not_true, Bool.not_false, Sq, Fb, wipeE]
    refine Fo_draw (by decide) (by decide) fun x st1 _ _ => ?_
    try simp only [Eo_C, Eo_V, Eo_B, Eo_bin, Eo_un, Eo_and, Eo_or, Eo_not, Eo_if, Eo_free, As_nil, As_cons, Eo_fn, Eo_call, As_seq, As_bor, As_rng1, Po_no, Po_E, Eo_sl, Eo_get1, dAdd_int, dSub_int, dLt_int, dLe_int, dGt_int, dGe_int, dNeg_int, dMax2_int, dMin2_int, dLen_lst, dLen_tup, dTuple_lst, dTuple_tup, dRev_lst, dAt_lst, dAt_tup, dAt_dic, dEq_int, dLst_nil, at_0, at_1, at_2, at_3, List.getElem?_cons_succ, List.getElem?_cons_zero, List.set_cons_succ, List.set_cons_zero, Option.some.injEq, Sl.v.injEq, Sl.o.injEq, D.int.injEq, D.bl.injEq, D.str.injEq, D.tup.injEq, D.lst.injEq, D.dic.injEq, reduceCtorEq, false_or, or_false, exists_eq_left', exists_eq_left, exists_eq', List.length_cons, List.length_nil, Nat.reduceAdd, true_and, and_true, decide_eq_true_eq, if_true, if_false, Bool.false_eq_true, Bool.not_true, Bool.not_false, Sq, Fb, wipeE]
    (first | with_reducible refine Co_seq.mpr ?_ | with_reducible refine Co_nil.mpr ?_ | with_reducible refine Co_brk.mpr ?_ | with_reducible refine Co_cont.mpr ?_ | with_reducible refine Co_retN.mpr ?_ | with_reducible refine Co_set' ?_ | with_reducible refine Co_own' ?_ | with_reducible refine Co_ret' ?_ | with_reducible refine Co_expr' ?_ | with_reducible refine Co_if' ?_ | with_reducible refine Co_frz' ?_ | with_reducible refine Co_app' ?_ | with_reducible refine Co_put' ?_ | with_reducible refine Co_aug' ?_ | with_reducible refine Co_asg' ?_)
    (first | with_reducible refine Co_seq.mpr ?_ | with_reducible refine Co_nil.mpr ?_ | with_reducible refine Co_brk.mpr ?_ | with_reducible refine Co_cont.mpr ?_ | with_reducible refine Co_retN.mpr ?_ | with_reducible refine Co_set' ?_ | with_reducible refine Co_own' ?_ | with_reducible refine Co_ret' ?_ | with_reducible refine Co_expr' ?_ | with_reducible refine Co_if' ?_ | with_reducible refine Co_frz' ?_ | with_reducible refine Co_app' ?_ | with_reducible refine Co_put' ?_ | with_reducible refine Co_aug' ?_ | with_reducible refine Co_asg' ?_)
    try simp only [Eo_C, Eo_V, Eo_B, Eo_bin, Eo_un, Eo_and, Eo_or, Eo_not, Eo_if, Eo_free, As_nil, As_cons, Eo_fn, Eo_call, As_seq, As_bor, As_rng1, Po_no, Po_E, Eo_sl, Eo_get1, dAdd_int, dSub_int, dLt_int, dLe_int, dGt_int, dGe_int, dNeg_int, dMax2_int, dMin2_int, dLen_lst, dLen_tup, dTuple_lst, dTuple_tup, dRev_lst, dAt_lst, dAt_tup, dAt_dic, dEq_int, dLst_nil, at_0, at_1, at_2, at_3, List.getElem?_cons_succ, List.getElem?_cons_zero, List.set_cons_succ, List.set_cons_zero, Option.some.injEq, Sl.v.injEq, Sl.o.injEq, D.int.injEq, D.bl.injEq, D.str.injEq, D.tup.injEq, D.lst.injEq, D.dic.injEq, reduceCtorEq, false_or, or_false, exists_eq_left', exists_eq_left, exists_eq', List.length_cons, List.length_nil, Nat.reduceAdd, true_and, and_true, decide_eq_true_eq, if_true, if_false, Bool.false_eq_true, Bool.not_true, Bool.not_false, Sq, Fb, wipeE]
    refine pick_runs (by rw [List.length_map]; exact List.length_pos_iff.mpr hn) (by rw [List.length_map]; omega) fun x hx st1 => ?_
    obtain ⟨n, _, rfl⟩ := List.mem_map.mp hx
    (first | with_reducible refine Co_seq.mpr ?_ | with_reducible refine Co_nil.mpr ?_ | with_reducible refine Co_brk.mpr ?_ | with_reducible refine Co_cont.mpr ?_ | with_reducible refine Co_retN.mpr ?_ | with_reducible refine Co_set' ?_ | with_reducible refine Co_own' ?_ | with_reducible refine Co_ret' ?_ | with_reducible refine Co_expr' ?_ | with_reducible refine Co_if' ?_ | with_reducible refine Co_frz' ?_ | with_reducible refine Co_app' ?_ | with_reducible refine Co_put' ?_ | with_reducible refine Co_aug' ?_ | with_reducible refine Co_asg' ?_)
    try simp only [Eo_C, Eo_V, Eo_B, Eo_bin, Eo_un, Eo_and, Eo_or, Eo_not, Eo_if, Eo_free, As_nil, As_cons, Eo_fn, Eo_call, As_seq, As_bor, As_rng1, Po_no, Po_E, Eo_sl, Eo_get1, dAdd_int, dSub_int, dLt_int, dLe_int, dGt_int, dGe_int, dNeg_int, dMax2_int, dMin2_int, dLen_lst, dLen_tup, dTuple_lst, dTuple_tup, dRev_lst, dAt_lst, dAt_tup, dAt_dic, dEq_int, dLst_nil, at_0, at_1, at_2, at_3, List.getElem?_cons_succ, List.getElem?_cons_zero, List.set_cons_succ, List.set_cons_zero, Option.some.injEq, Sl.v.injEq, Sl.o.injEq, D.int.injEq, D.bl.injEq, D.str.injEq, D.tup.injEq, D.lst.injEq, D.dic.injEq, reduceCtorEq, false_or, or_false, exists_eq_left', exists_eq_left, exists_eq', List.length_cons, List.length_nil, Nat.reduceAdd, true_and, and_true, decide_eq_true_eq, if_true, if_false, Bool.false_eq_true, Bool.not_true, Bool.not_false, Sq, Fb, wipeE]
    refine next_runs hw hw3 (by omega) fun o st2 => ?_
    refine ⟨_, dTup_of _ (by show 3 ≤ sizeLine; decide), _, dLst_of _ (by show 1 ≤ sizeLine; decide), _, dAdd_lst _ _ ?_, ?_⟩
    · rw [bk_len]
      exact Nat.le_trans (by show es.length + 1 ≤ 41; omega) (by decide)
    · have k' : ∀ dd : Int, P (.lst (bk es ++ [.tup [.int dd, .int n, nD o]])) st2 := fun dd => by
        have := k ⟨dd, n, o⟩ st2
        unfold bk at this
        rw [List.map_append] at this
        exact this
      exact k' _
  (first | with_reducible refine Co_seq.mpr ?_ | with_reducible refine Co_nil.mpr ?_ | with_reducible refine Co_brk.mpr ?_ | with_reducible refine Co_cont.mpr ?_ | with_reducible refine Co_retN.mpr ?_ | with_reducible refine Co_set' ?_ | with_reducible refine Co_own' ?_ | with_reducible refine Co_ret' ?_ | with_reducible refine Co_expr' ?_ | with_reducible refine Co_if' ?_ | with_reducible refine Co_frz' ?_ | with_reducible refine Co_app' ?_ | with_reducible refine Co_put' ?_ | with_reducible refine Co_aug' ?_ | with_reducible refine Co_asg' ?_)
  (first | with_reducible refine Co_seq.mpr ?_ | with_reducible refine Co_nil.mpr ?_ | with_reducible refine Co_brk.mpr ?_ | with_reducible refine Co_cont.mpr ?_ | with_reducible refine Co_retN.mpr ?_ | with_reducible refine Co_set' ?_ | with_reducible refine Co_own' ?_ | with_reducible refine Co_ret' ?_ | with_reducible refine Co_expr' ?_ | with_reducible refine Co_if' ?_ | with_reducible refine Co_frz' ?_ | with_reducible refine Co_app' ?_ | with_reducible refine Co_put' ?_ | with_reducible refine Co_aug' ?_ | with_reducible refine Co_asg' ?_)
  try simp only [Eo_C, Eo_V, Eo_B, Eo_bin, Eo_un, Eo_and, Eo_or, Eo_not, Eo_if, Eo_free, As_nil, As_cons, Eo_fn, Eo_call, As_seq, As_bor, As_rng1, Po_no, Po_E, Eo_sl, Eo_get1, dAdd_int, dSub_int, dLt_int, dLe_int, dGt_int, dGe_int, dNeg_int, dMax2_int, dMin2_int, dLen_lst, dLen_tup, dTuple_lst, dTuple_tup, dRev_lst, dAt_lst, dAt_tup, dAt_dic, dEq_int, dLst_nil, at_0, at_1, at_2, at_3, List.getElem?_cons_succ, List.getElem?_cons_zero, List.set_cons_succ, List.set_cons_zero, Option.some.injEq, Sl.v.injEq, Sl.o.injEq, D.int.injEq, D.bl.injEq, D.str.injEq, D.tup.injEq, D.lst.injEq, D.dic.injEq, reduceCtorEq, false_or, or_false, exists_eq_left', exists_eq_left, exists_eq', List.length_cons, List.length_nil, Nat.reduceAdd, true_and, and_true, decide_eq_true_eq, if_true, if_false, Bool.false_eq_true, Bool.not_true, Bool.not_false, Sq, Fb, wipeE]
  refine iteD (fun h => ?_) (fun h => ?_)
  · have hne : bk es ≠ [] := fun e => by rw [e] at h; exact absurd h (by decide)
    rw [at_last hne]
    have hm : (bk es).getLast hne ∈ bk es := List.getLast_mem hne
    obtain ⟨e, _, he⟩ := List.mem_map.mp hm
    rw [← he]
    try simp only [Eo_C, Eo_V, Eo_B, Eo_bin, Eo_un, Eo_and, Eo_or, Eo_not, Eo_if, Eo_free, As_nil, As_cons, Eo_fn, Eo_call, As_seq, As_bor, As_rng1, Po_no, Po_E, Eo_sl, Eo_get1, dAdd_int, dSub_int, dLt_int, dLe_int, dGt_int, dGe_int, dNeg_int, dMax2_int, dMin2_int, dLen_lst, dLen_tup, dTuple_lst, dTuple_tup, dRev_lst, dAt_lst, dAt_tup, dAt_dic, dEq_int, dLst_nil, at_0, at_1, at_2, at_3, List.getElem?_cons_succ, List.getElem?_cons_zero, List.set_cons_succ, List.set_cons_zero, Option.some.injEq, Sl.v.injEq, Sl.o.injEq, D.int.injEq, D.bl.injEq, D.str.injEq, D.tup.injEq, D.lst.injEq, D.dic.injEq, reduceCtorEq, false_or, or_false, exists_eq_left', exists_eq_left, exists_eq', List.length_cons, List.length_nil, Nat.reduceAdd, true_and, and_true, decide_eq_true_eq, if_true, if_false, Bool.false_eq_true, Bool.not_true, Bool.not_false, Sq, Fb, wipeE]
    try simp only [En_d0, En_d1, En_d2, nD_isN, nD_notN, Option.some.injEq, exists_eq_left', dLe_int, dEq_int, D.bl.injEq]
    exact rest _ _
  · exact rest _ _
/-- the law runs through -/
theorem law_runs : LawRuns := by
  intro ns hns
  suffices h : Co G_law ((List.replicate 16 Sl.no).set 1 (.v .dst)) (DS.begin ns) fun fl _ _ => fl = .rt (.bl true) by
    obtain ⟨fl, ρ', st', e, rfl⟩ := h
    exact ⟨ρ', st', e⟩
  generalize DS.begin ns = st0
  show Co G_law [.no, .v .dst, .no, .no, .no, .no, .no, .no, .no, .no, .no, .no, .no, .no, .no, .no] st0 _
  unfold G_law
  -- names
  (first | with_reducible refine Co_seq.mpr ?_ | with_reducible refine Co_nil.mpr ?_ | with_reducible refine Co_brk.mpr ?_ | with_reducible refine Co_cont.mpr ?_ | with_reducible refine Co_retN.mpr ?_ | with_reducible refine Co_set' ?_ | with_reducible refine Co_own' ?_ | with_reducible refine Co_ret' ?_ | with_reducible refine Co_expr' ?_ | with_reducible refine Co_if' ?_ | with_reducible refine Co_frz' ?_ | with_reducible refine Co_app' ?_ | with_reducible refine Co_put' ?_ | with_reducible refine Co_aug' ?_ | with_reducible refine Co_asg' ?_)
  (first | with_reducible refine Co_seq.mpr ?_ | with_reducible refine Co_nil.mpr ?_ | with_reducible refine Co_brk.mpr ?_ | with_reducible refine Co_cont.mpr ?_ | with_reducible refine Co_retN.mpr ?_ | with_reducible refine Co_set' ?_ | with_reducible refine Co_own' ?_ | with_reducible refine Co_ret' ?_ | with_reducible refine Co_expr' ?_ | with_reducible refine Co_if' ?_ | with_reducible refine Co_frz' ?_ | with_reducible refine Co_app' ?_ | with_reducible refine Co_put' ?_ | with_reducible refine Co_aug' ?_ | with_reducible refine Co_asg' ?_)
  try simp only [Eo_C, Eo_V, Eo_B, Eo_bin, Eo_un, Eo_and, Eo_or, Eo_not, Eo_if, Eo_free, As_nil, As_cons, Eo_fn, Eo_call, As_seq, As_bor, As_rng1, Po_no, Po_E, Eo_sl, Eo_get1, dAdd_int, dSub_int, dLt_int, dLe_int, dGt_int, dGe_int, dNeg_int, dMax2_int, dMin2_int, dLen_lst, dLen_tup, dTuple_lst, dTuple_tup, dRev_lst, dAt_lst, dAt_tup, dAt_dic, dEq_int, dLst_nil, at_0, at_1, at_2, at_3, List.getElem?_cons_succ, List.getElem?_cons_zero, List.set_cons_succ, List.set_cons_zero, Option.some.injEq, Sl.v.injEq, Sl.o.injEq, D.int.injEq, D.bl.injEq, D.str.injEq, D.tup.injEq, D.lst.injEq, D.dic.injEq, reduceCtorEq, false_or, or_false, exists_eq_left', exists_eq_left, exists_eq', List.length_cons, List.length_nil, Nat.reduceAdd, true_and, and_true, decide_eq_true_eq, if_true, if_false, Bool.false_eq_true, Bool.not_true, Bool.not_false, Sq, Fb, wipeE]
  refine Fo_draw (by decide) (by decide) fun x st1 x0 x1 => ?_
  try simp only [Eo_C, Eo_V, Eo_B, Eo_bin, Eo_un, Eo_and, Eo_or, Eo_not, Eo_if, Eo_free, As_nil, As_cons, Eo_fn, Eo_call, As_seq, As_bor, As_rng1, Po_no, Po_E, Eo_sl, Eo_get1, dAdd_int, dSub_int, dLt_int, dLe_int, dGt_int, dGe_int, dNeg_int, dMax2_int, dMin2_int, dLen_lst, dLen_tup, dTuple_lst, dTuple_tup, dRev_lst, dAt_lst, dAt_tup, dAt_dic, dEq_int, dLst_nil, at_0, at_1, at_2, at_3, List.getElem?_cons_succ, List.getElem?_cons_zero, List.set_cons_succ, List.set_cons_zero, Option.some.injEq, Sl.v.injEq, Sl.o.injEq, D.int.injEq, D.bl.injEq, D.str.injEq, D.tup.injEq, D.lst.injEq, D.dic.injEq, reduceCtorEq, false_or, or_false, exists_eq_left', exists_eq_left, exists_eq', List.length_cons, List.length_nil, Nat.reduceAdd, true_and, and_true, decide_eq_true_eq, if_true, if_false, Bool.false_eq_true, Bool.not_true, Bool.not_false, Sq, Fb, wipeE]
  refine names_runs (by omega) (by omega) fun ws hw hw3 st2 => ?_
  -- pool
  (first | with_reducible refine Co_seq.mpr ?_ | with_reducible refine Co_nil.mpr ?_ | with_reducible refine Co_brk.mpr ?_ | with_reducible refine Co_cont.mpr ?_ | with_reducible refine Co_retN.mpr ?_ | with_reducible refine Co_set' ?_ | with_reducible refine Co_own' ?_ | with_reducible refine Co_ret' ?_ | with_reducible refine Co_expr' ?_ | with_reducible refine Co_if' ?_ | with_reducible refine Co_frz' ?_ | with_reducible refine Co_app' ?_ | with_reducible refine Co_put' ?_ | with_reducible refine Co_aug' ?_ | with_reducible refine Co_asg' ?_)
  (first | with_reducible refine Co_seq.mpr ?_ | with_reducible refine Co_nil.mpr ?_ | with_reducible refine Co_brk.mpr ?_ | with_reducible refine Co_cont.mpr ?_ | with_reducible refine Co_retN.mpr ?_ | with_reducible refine Co_set' ?_ | with_reducible refine Co_own' ?_ | with_reducible refine Co_ret' ?_ | with_reducible refine Co_expr' ?_ | with_reducible refine Co_if' ?_ | with_reducible refine Co_frz' ?_ | with_reducible refine Co_app' ?_ | with_reducible refine Co_put' ?_ | with_reducible refine Co_aug' ?_ | with_reducible refine Co_asg' ?_)
  try simp only [Eo_C, Eo_V, Eo_B, Eo_bin, Eo_un, Eo_and, Eo_or, Eo_not, Eo_if, Eo_free, As_nil, As_cons, Eo_fn, Eo_call, As_seq, As_bor, As_rng1, Po_no, Po_E, Eo_sl, Eo_get1, dAdd_int, dSub_int, dLt_int, dLe_int, dGt_int, dGe_int, dNeg_int, dMax2_int, dMin2_int, dLen_lst, dLen_tup, dTuple_lst, dTuple_tup, dRev_lst, dAt_lst, dAt_tup, dAt_dic, dEq_int, dLst_nil, at_0, at_1, at_2, at_3, List.getElem?_cons_succ, List.getElem?_cons_zero, List.set_cons_succ, List.set_cons_zero, Option.some.injEq, Sl.v.injEq, Sl.o.injEq, D.int.injEq, D.bl.injEq, D.str.injEq, D.tup.injEq, D.lst.injEq, D.dic.injEq, reduceCtorEq, false_or, or_false, exists_eq_left', exists_eq_left, exists_eq', List.length_cons, List.length_nil, Nat.reduceAdd, true_and, and_true, decide_eq_true_eq, if_true, if_false, Bool.false_eq_true, Bool.not_true, Bool.not_false, Sq, Fb, wipeE]
  refine pool_runs fun pl hn hn4 st3 => ?_
  -- many
  have rest : ∀ (m : Int) (st : DS), 0 ≤ m → m ≤ 40 → Co (cSeq (cSet 5 (eCall 4 F_law_book (eCons (eV 1) (eCons (eV 2) (eCons (eV 3) (eCons (eV 4) eNil))))))
    (cSeq (cSet 6 (eIf (eBin dLt (eV 4) (eC (.int 40))) (eCall 4 F_law_longer (eCons (eV 1) (eCons (eV 2) (eCons (eV 3) (eCons (eV 5) eNil))))) (eV 5)))
    (cSeq (cSet 7 (eCall 2 F_law_draw (eCons (eV 1) (eCons (eC (.int 12)) eNil))))
    (cSeq (cSet 8 (eLc (iSeq (eV 5)) [9] (tName 9) (eBin dLe (eBin dAt (eV 9) (eC (.int 0))) (eV 7)) (eV 9)))
    (cSeq (cSet 10 (eFn dLst (eCons (eUn dNeg (eC (.int 1))) (eCons (eC (.int 0)) (eCons (eV 7) (eCons (eC (.int 999)) (eCons (eC (.int 1000)) (eCons (eBin dSub (eCall 2 F_law_draw (eCons (eV 1) (eCons (eC (.int 3000)) eNil))) (eC (.int 1000))) eNil))))))))
    (cSeq (cFor (iSeq (eV 6)) (tName 9)
    (cSet 10 (eBin dAdd (eV 10) (eFn dLst (eCons (eBin dSub (eBin dAt (eV 9) (eC (.int 0))) (eC (.int 1))) (eCons (eBin dAt (eV 9) (eC (.int 0))) (eCons (eBin dAdd (eBin dAt (eV 9) (eC (.int 0))) (eC (.int 1))) eNil)))))))
    (cSeq (cFor (iRng1 (eC (.int 4))) (tName 11)
    (cSeq (cSet 12 (eCall 2 F_law_pick (eCons (eV 1) (eCons (eV 10) eNil))))
    (cSeq (cSet 13 (eCall 2 F_law_pick (eCons (eV 1) (eCons (eV 10) eNil))))
    (cSeq (cSet 14 (eCall 2 F_law_pick (eCons (eV 1) (eCons (eV 10) eNil))))
    (cFor (iSeq (eFn dLst (eCons (eV 5) (eCons (eV 6) (eCons (eV 8) (eCons (eV 5) eNil)))))) (tName 15)
    (cIf (eNot (eCall 4 F_law_days_right (eCons (eV 15) (eCons (eV 12) (eCons (eV 13) (eCons (eV 14) eNil)))))) (cRet (eC (.bl false))) cNil))))))
    (cRet (eAnd (eCall 1 F_law_histories_right (eCons (eV 5) eNil)) (eAnd (eCall 1 F_law_histories_right (eCons (eV 6) eNil)) (eCall 1 F_law_histories_right (eCons (eV 8) eNil)))))))))))) [.no, .v .dst, .v (.lst (strsOf ws)), .v (.lst (pl.map D.int)), .v (.int m), .no, .no, .no, .no, .no, .no, .no, .no, .no, .no, .no] st fun fl _ _ => fl = .rt (.bl true) := by
    intro m st m0 m1
    -- book
    (first | with_reducible refine Co_seq.mpr ?_ | with_reducible refine Co_nil.mpr ?_ | with_reducible refine Co_brk.mpr ?_ | with_reducible refine Co_cont.mpr ?_ | with_reducible refine Co_retN.mpr ?_ | with_reducible refine Co_set' ?_ | with_reducible refine Co_own' ?_ | with_reducible refine Co_ret' ?_ | with_reducible refine Co_expr' ?_ | with_reducible refine Co_if' ?_ | with_reducible refine Co_frz' ?_ | with_reducible refine Co_app' ?_ | with_reducible refine Co_put' ?_ | with_reducible refine Co_aug' ?_ | with_reducible refine Co_asg' ?_)
    (first | with_reducible refine Co_seq.mpr ?_ | with_reducible refine Co_nil.mpr ?_ | with_reducible refine Co_brk.mpr ?_ | with_reducible refine Co_cont.mpr ?_ | with_reducible refine Co_retN.mpr ?_ | with_reducible refine Co_set' ?_ | with_reducible refine Co_own' ?_ | with_reducible refine Co_ret' ?_ | with_reducible refine Co_expr' ?_ | with_reducible refine Co_if' ?_ | with_reducible refine Co_frz' ?_ | with_reducible refine Co_app' ?_ | with_reducible refine Co_put' ?_ | with_reducible refine Co_aug' ?_ | with_reducible refine Co_asg' ?_)
    try simp only [Eo_C, Eo_V, Eo_B, Eo_bin, Eo_un, Eo_and, Eo_or, Eo_not, Eo_if, Eo_free, As_nil, As_cons, Eo_fn, Eo_call, As_seq, As_bor, As_rng1, Po_no, Po_E, Eo_sl, Eo_get1, dAdd_int, dSub_int, dLt_int, dLe_int, dGt_int, dGe_int, dNeg_int, dMax2_int, dMin2_int, dLen_lst, dLen_tup, dTuple_lst, dTuple_tup, dRev_lst, dAt_lst, dAt_tup, dAt_dic, dEq_int, dLst_nil, at_0, at_1, at_2, at_3, List.getElem?_cons_succ, List.getElem?_cons_zero, List.set_cons_succ, List.set_cons_zero, Option.some.injEq, Sl.v.injEq, Sl.o.injEq, D.int.injEq, D.bl.injEq, D.str.injEq, D.tup.injEq, D.lst.injEq, D.dic.injEq, reduceCtorEq, false_or, or_false, exists_eq_left', exists_eq_left, exists_eq', List.length_cons, List.length_nil, Nat.reduceAdd, true_and, and_true, decide_eq_true_eq, if_true, if_false, Bool.false_eq_true, Bool.not_true, Bool.not_false, Sq, Fb, wipeE]
    refine book_runs hw hw3 hn hn4 m0 m1 fun es hes st4 => ?_
    have el : es.length ≤ 40 := by omega
    have tail : ∀ (es2 : List En) (st : DS), es2.length ≤ 41 → Co (cSeq (cSet 7 (eCall 2 F_law_draw (eCons (eV 1) (eCons (eC (.int 12)) eNil))))
        (cSeq (cSet 8 (eLc (iSeq (eV 5)) [9] (tName 9) (eBin dLe (eBin dAt (eV 9) (eC (.int 0))) (eV 7)) (eV 9)))
        (cSeq (cSet 10 (eFn dLst (eCons (eUn dNeg (eC (.int 1))) (eCons (eC (.int 0)) (eCons (eV 7) (eCons (eC (.int 999)) (eCons (eC (.int 1000)) (eCons (eBin dSub (eCall 2 F_law_draw (eCons (eV 1) (eCons (eC (.int 3000)) eNil))) (eC (.int 1000))) eNil))))))))
        (cSeq (cFor (iSeq (eV 6)) (tName 9)
        (cSet 10 (eBin dAdd (eV 10) (eFn dLst (eCons (eBin dSub (eBin dAt (eV 9) (eC (.int 0))) (eC (.int 1))) (eCons (eBin dAt (eV 9) (eC (.int 0))) (eCons (eBin dAdd (eBin dAt (eV 9) (eC (.int 0))) (eC (.int 1))) eNil)))))))
        (cSeq (cFor (iRng1 (eC (.int 4))) (tName 11)
        (cSeq (cSet 12 (eCall 2 F_law_pick (eCons (eV 1) (eCons (eV 10) eNil))))
        (cSeq (cSet 13 (eCall 2 F_law_pick (eCons (eV 1) (eCons (eV 10) eNil))))
        (cSeq (cSet 14 (eCall 2 F_law_pick (eCons (eV 1) (eCons (eV 10) eNil))))
        (cFor (iSeq (eFn dLst (eCons (eV 5) (eCons (eV 6) (eCons (eV 8) (eCons (eV 5) eNil)))))) (tName 15)
        (cIf (eNot (eCall 4 F_law_days_right (eCons (eV 15) (eCons (eV 12) (eCons (eV 13) (eCons (eV 14) eNil)))))) (cRet (eC (.bl false))) cNil))))))
        (cRet (eAnd (eCall 1 F_law_histories_right (eCons (eV 5) eNil)) (eAnd (eCall 1 F_law_histories_right (eCons (eV 6) eNil)) (eCall 1 F_law_histories_right (eCons (eV 8) eNil)))))))))) [.no, .v .dst, .v (.lst (strsOf ws)), .v (.lst (pl.map D.int)), .v (.int m), .v (.lst (bk es)), .v (.lst (bk es2)), .no, .no, .no, .no, .no, .no, .no, .no, .no] st fun fl _ _ => fl = .rt (.bl true) := by
      intro es2 st hl2
      (first | with_reducible refine Co_seq.mpr ?_ | with_reducible refine Co_nil.mpr ?_ | with_reducible refine Co_brk.mpr ?_ | with_reducible refine Co_cont.mpr ?_ | with_reducible refine Co_retN.mpr ?_ | with_reducible refine Co_set' ?_ | with_reducible refine Co_own' ?_ | with_reducible refine Co_ret' ?_ | with_reducible refine Co_expr' ?_ | with_reducible refine Co_if' ?_ | with_reducible refine Co_frz' ?_ | with_reducible refine Co_app' ?_ | with_reducible refine Co_put' ?_ | with_reducible refine Co_aug' ?_ | with_reducible refine Co_asg' ?_)
      (first | with_reducible refine Co_seq.mpr ?_ | with_reducible refine Co_nil.mpr ?_ | with_reducible refine Co_brk.mpr ?_ | with_reducible refine Co_cont.mpr ?_ | with_reducible refine Co_retN.mpr ?_ | with_reducible refine Co_set' ?_ | with_reducible refine Co_own' ?_ | with_reducible refine Co_ret' ?_ | with_reducible refine Co_expr' ?_ | with_reducible refine Co_if' ?_ | with_reducible refine Co_frz' ?_ | with_reducible refine Co_app' ?_ | with_reducible refine Co_put' ?_ | with_reducible refine Co_aug' ?_ | with_reducible refine Co_asg' ?_)
      try simp only [Eo_C, Eo_V, Eo_B, Eo_bin, Eo_un, Eo_and, Eo_or, Eo_not, Eo_if, Eo_free, As_nil, As_cons, Eo_fn, Eo_call, As_seq, As_bor, As_rng1, Po_no, Po_E, Eo_sl, Eo_get1, dAdd_int, dSub_int, dLt_int, dLe_int, dGt_int, dGe_int, dNeg_int, dMax2_int, dMin2_int, dLen_lst, dLen_tup, dTuple_lst, dTuple_tup, dRev_lst, dAt_lst, dAt_tup, dAt_dic, dEq_int, dLst_nil, at_0, at_1, at_2, at_3, List.getElem?_cons_succ, List.getElem?_cons_zero, List.set_cons_succ, List.set_cons_zero, Option.some.injEq, Sl.v.injEq, Sl.o.injEq, D.int.injEq, D.bl.injEq, D.str.injEq, D.tup.injEq, D.lst.injEq, D.dic.injEq, reduceCtorEq, false_or, or_false, exists_eq_left', exists_eq_left, exists_eq', List.length_cons, List.length_nil, Nat.reduceAdd, true_and, and_true, decide_eq_true_eq, if_true, if_false, Bool.false_eq_true, Bool.not_true, Bool.not_false, Sq, Fb, wipeE]
      refine Fo_draw (by decide) (by decide) fun until_ st5 _ _ => ?_
      try simp only [Eo_C, Eo_V, Eo_B, Eo_bin, Eo_un, Eo_and, Eo_or, Eo_not, Eo_if, Eo_free, As_nil, As_cons, Eo_fn, Eo_call, As_seq, As_bor, As_rng1, Po_no, Po_E, Eo_sl, Eo_get1, dAdd_int, dSub_int, dLt_int, dLe_int, dGt_int, dGe_int, dNeg_int, dMax2_int, dMin2_int, dLen_lst, dLen_tup, dTuple_lst, dTuple_tup, dRev_lst, dAt_lst, dAt_tup, dAt_dic, dEq_int, dLst_nil, at_0, at_1, at_2, at_3, List.getElem?_cons_succ, List.getElem?_cons_zero, List.set_cons_succ, List.set_cons_zero, Option.some.injEq, Sl.v.injEq, Sl.o.injEq, D.int.injEq, D.bl.injEq, D.str.injEq, D.tup.injEq, D.lst.injEq, D.dic.injEq, reduceCtorEq, false_or, or_false, exists_eq_left', exists_eq_left, exists_eq', List.length_cons, List.length_nil, Nat.reduceAdd, true_and, and_true, decide_eq_true_eq, if_true, if_false, Bool.false_eq_true, Bool.not_true, Bool.not_false, Sq, Fb, wipeE]
      -- ahead
      (first | with_reducible refine Co_seq.mpr ?_ | with_reducible refine Co_nil.mpr ?_ | with_reducible refine Co_brk.mpr ?_ | with_reducible refine Co_cont.mpr ?_ | with_reducible refine Co_retN.mpr ?_ | with_reducible refine Co_set' ?_ | with_reducible refine Co_own' ?_ | with_reducible refine Co_ret' ?_ | with_reducible refine Co_expr' ?_ | with_reducible refine Co_if' ?_ | with_reducible refine Co_frz' ?_ | with_reducible refine Co_app' ?_ | with_reducible refine Co_put' ?_ | with_reducible refine Co_aug' ?_ | with_reducible refine Co_asg' ?_)
      (first | with_reducible refine Co_seq.mpr ?_ | with_reducible refine Co_nil.mpr ?_ | with_reducible refine Co_brk.mpr ?_ | with_reducible refine Co_cont.mpr ?_ | with_reducible refine Co_retN.mpr ?_ | with_reducible refine Co_set' ?_ | with_reducible refine Co_own' ?_ | with_reducible refine Co_ret' ?_ | with_reducible refine Co_expr' ?_ | with_reducible refine Co_if' ?_ | with_reducible refine Co_frz' ?_ | with_reducible refine Co_app' ?_ | with_reducible refine Co_put' ?_ | with_reducible refine Co_aug' ?_ | with_reducible refine Co_asg' ?_)
      refine lc_bk es (fun e => decide (e.day ≤ until_)) En.d (fun PA p => by simp only [Eo_C, Eo_V, Eo_B, Eo_bin, Eo_un, Eo_and, Eo_or, Eo_not, Eo_if, Eo_free, As_nil, As_cons, Eo_fn, Eo_call, As_seq, As_bor, As_rng1, Po_no, Po_E, Eo_sl, Eo_get1, dAdd_int, dSub_int, dLt_int, dLe_int, dGt_int, dGe_int, dNeg_int, dMax2_int, dMin2_int, dLen_lst, dLen_tup, dTuple_lst, dTuple_tup, dRev_lst, dAt_lst, dAt_tup, dAt_dic, dEq_int, dLst_nil, at_0, at_1, at_2, at_3, List.getElem?_cons_succ, List.getElem?_cons_zero, List.set_cons_succ, List.set_cons_zero, Option.some.injEq, Sl.v.injEq, Sl.o.injEq, D.int.injEq, D.bl.injEq, D.str.injEq, D.tup.injEq, D.lst.injEq, D.dic.injEq, reduceCtorEq, false_or, or_false, exists_eq_left', exists_eq_left, exists_eq', List.length_cons, List.length_nil, Nat.reduceAdd, true_and, and_true, decide_eq_true_eq, if_true, if_false, Bool.false_eq_true, Bool.not_true, Bool.not_false, Sq, Fb, wipeE]; exact p) (by omega) (fun e he => ⟨_, rfl, ?_, fun _ => ?_⟩) ?_
      · try simp only [Eo_C, Eo_V, Eo_B, Eo_bin, Eo_un, Eo_and, Eo_or, Eo_not, Eo_if, Eo_free, As_nil, As_cons, Eo_fn, Eo_call, As_seq, As_bor, As_rng1, Po_no, Po_E, Eo_sl, Eo_get1, dAdd_int, dSub_int, dLt_int, dLe_int, dGt_int, dGe_int, dNeg_int, dMax2_int, dMin2_int, dLen_lst, dLen_tup, dTuple_lst, dTuple_tup, dRev_lst, dAt_lst, dAt_tup, dAt_dic, dEq_int, dLst_nil, at_0, at_1, at_2, at_3, List.getElem?_cons_succ, List.getElem?_cons_zero, List.set_cons_succ, List.set_cons_zero, Option.some.injEq, Sl.v.injEq, Sl.o.injEq, D.int.injEq, D.bl.injEq, D.str.injEq, D.tup.injEq, D.lst.injEq, D.dic.injEq, reduceCtorEq, false_or, or_false, exists_eq_left', exists_eq_left, exists_eq', List.length_cons, List.length_nil, Nat.reduceAdd, true_and, and_true, decide_eq_true_eq, if_true, if_false, Bool.false_eq_true, Bool.not_true, Bool.not_false, Sq, Fb, wipeE]
        try simp only [En_d0, En_d1, En_d2, nD_isN, nD_notN, Option.some.injEq, exists_eq_left', dLe_int, dEq_int, D.bl.injEq]
      · try simp only [Eo_C, Eo_V, Eo_B, Eo_bin, Eo_un, Eo_and, Eo_or, Eo_not, Eo_if, Eo_free, As_nil, As_cons, Eo_fn, Eo_call, As_seq, As_bor, As_rng1, Po_no, Po_E, Eo_sl, Eo_get1, dAdd_int, dSub_int, dLt_int, dLe_int, dGt_int, dGe_int, dNeg_int, dMax2_int, dMin2_int, dLen_lst, dLen_tup, dTuple_lst, dTuple_tup, dRev_lst, dAt_lst, dAt_tup, dAt_dic, dEq_int, dLst_nil, at_0, at_1, at_2, at_3, List.getElem?_cons_succ, List.getElem?_cons_zero, List.set_cons_succ, List.set_cons_zero, Option.some.injEq, Sl.v.injEq, Sl.o.injEq, D.int.injEq, D.bl.injEq, D.str.injEq, D.tup.injEq, D.lst.injEq, D.dic.injEq, reduceCtorEq, false_or, or_false, exists_eq_left', exists_eq_left, exists_eq', List.length_cons, List.length_nil, Nat.reduceAdd, true_and, and_true, decide_eq_true_eq, if_true, if_false, Bool.false_eq_true, Bool.not_true, Bool.not_false, Sq, Fb, wipeE]
      have e3 : (es.filter fun e => decide (e.day ≤ until_)).map En.d = bk (upto es until_) := rfl
      rw [e3]
      have hl3 : (upto es until_).length ≤ 40 := Nat.le_trans (upto_len es until_) el
      generalize upto es until_ = es3 at hl3
      try simp only [Eo_C, Eo_V, Eo_B, Eo_bin, Eo_un, Eo_and, Eo_or, Eo_not, Eo_if, Eo_free, As_nil, As_cons, Eo_fn, Eo_call, As_seq, As_bor, As_rng1, Po_no, Po_E, Eo_sl, Eo_get1, dAdd_int, dSub_int, dLt_int, dLe_int, dGt_int, dGe_int, dNeg_int, dMax2_int, dMin2_int, dLen_lst, dLen_tup, dTuple_lst, dTuple_tup, dRev_lst, dAt_lst, dAt_tup, dAt_dic, dEq_int, dLst_nil, at_0, at_1, at_2, at_3, List.getElem?_cons_succ, List.getElem?_cons_zero, List.set_cons_succ, List.set_cons_zero, Option.some.injEq, Sl.v.injEq, Sl.o.injEq, D.int.injEq, D.bl.injEq, D.str.injEq, D.tup.injEq, D.lst.injEq, D.dic.injEq, reduceCtorEq, false_or, or_false, exists_eq_left', exists_eq_left, exists_eq', List.length_cons, List.length_nil, Nat.reduceAdd, true_and, and_true, decide_eq_true_eq, if_true, if_false, Bool.false_eq_true, Bool.not_true, Bool.not_false, Sq, Fb, wipeE]
      -- days
      (first | with_reducible refine Co_seq.mpr ?_ | with_reducible refine Co_nil.mpr ?_ | with_reducible refine Co_brk.mpr ?_ | with_reducible refine Co_cont.mpr ?_ | with_reducible refine Co_retN.mpr ?_ | with_reducible refine Co_set' ?_ | with_reducible refine Co_own' ?_ | with_reducible refine Co_ret' ?_ | with_reducible refine Co_expr' ?_ | with_reducible refine Co_if' ?_ | with_reducible refine Co_frz' ?_ | with_reducible refine Co_app' ?_ | with_reducible refine Co_put' ?_ | with_reducible refine Co_aug' ?_ | with_reducible refine Co_asg' ?_)
      (first | with_reducible refine Co_seq.mpr ?_ | with_reducible refine Co_nil.mpr ?_ | with_reducible refine Co_brk.mpr ?_ | with_reducible refine Co_cont.mpr ?_ | with_reducible refine Co_retN.mpr ?_ | with_reducible refine Co_set' ?_ | with_reducible refine Co_own' ?_ | with_reducible refine Co_ret' ?_ | with_reducible refine Co_expr' ?_ | with_reducible refine Co_if' ?_ | with_reducible refine Co_frz' ?_ | with_reducible refine Co_app' ?_ | with_reducible refine Co_put' ?_ | with_reducible refine Co_aug' ?_ | with_reducible refine Co_asg' ?_)
      try simp only [Eo_C, Eo_V, Eo_B, Eo_bin, Eo_un, Eo_and, Eo_or, Eo_not, Eo_if, Eo_free, As_nil, As_cons, Eo_fn, Eo_call, As_seq, As_bor, As_rng1, Po_no, Po_E, Eo_sl, Eo_get1, dAdd_int, dSub_int, dLt_int, dLe_int, dGt_int, dGe_int, dNeg_int, dMax2_int, dMin2_int, dLen_lst, dLen_tup, dTuple_lst, dTuple_tup, dRev_lst, dAt_lst, dAt_tup, dAt_dic, dEq_int, dLst_nil, at_0, at_1, at_2, at_3, List.getElem?_cons_succ, List.getElem?_cons_zero, List.set_cons_succ, List.set_cons_zero, Option.some.injEq, Sl.v.injEq, Sl.o.injEq, D.int.injEq, D.bl.injEq, D.str.injEq, D.tup.injEq, D.lst.injEq, D.dic.injEq, reduceCtorEq, false_or, or_false, exists_eq_left', exists_eq_left, exists_eq', List.length_cons, List.length_nil, Nat.reduceAdd, true_and, and_true, decide_eq_true_eq, if_true, if_false, Bool.false_eq_true, Bool.not_true, Bool.not_false, Sq, Fb, wipeE]
      refine Fo_draw (by decide) (by decide) fun y st6 _ _ => ?_
      try simp only [Eo_C, Eo_V, Eo_B, Eo_bin, Eo_un, Eo_and, Eo_or, Eo_not, Eo_if, Eo_free, As_nil, As_cons, Eo_fn, Eo_call, As_seq, As_bor, As_rng1, Po_no, Po_E, Eo_sl, Eo_get1, dAdd_int, dSub_int, dLt_int, dLe_int, dGt_int, dGe_int, dNeg_int, dMax2_int, dMin2_int, dLen_lst, dLen_tup, dTuple_lst, dTuple_tup, dRev_lst, dAt_lst, dAt_tup, dAt_dic, dEq_int, dLst_nil, at_0, at_1, at_2, at_3, List.getElem?_cons_succ, List.getElem?_cons_zero, List.set_cons_succ, List.set_cons_zero, Option.some.injEq, Sl.v.injEq, Sl.o.injEq, D.int.injEq, D.bl.injEq, D.str.injEq, D.tup.injEq, D.lst.injEq, D.dic.injEq, reduceCtorEq, false_or, or_false, exists_eq_left', exists_eq_left, exists_eq', List.length_cons, List.length_nil, Nat.reduceAdd, true_and, and_true, decide_eq_true_eq, if_true, if_false, Bool.false_eq_true, Bool.not_true, Bool.not_false, Sq, Fb, wipeE]
      refine ⟨_, dLst_of _ (by show 6 ≤ sizeLine; decide), ?_⟩
      (first | with_reducible refine Co_seq.mpr ?_ | with_reducible refine Co_nil.mpr ?_ | with_reducible refine Co_brk.mpr ?_ | with_reducible refine Co_cont.mpr ?_ | with_reducible refine Co_retN.mpr ?_ | with_reducible refine Co_set' ?_ | with_reducible refine Co_own' ?_ | with_reducible refine Co_ret' ?_ | with_reducible refine Co_expr' ?_ | with_reducible refine Co_if' ?_ | with_reducible refine Co_frz' ?_ | with_reducible refine Co_app' ?_ | with_reducible refine Co_put' ?_ | with_reducible refine Co_aug' ?_ | with_reducible refine Co_asg' ?_)
      refine Co_for' (fun i ρ st' => ∃ (ds : List Int) (a : Sl), ds.length = 6 + 3 * i ∧ ρ = [.no, .v .dst, .v (.lst (strsOf ws)), .v (.lst (pl.map D.int)), .v (.int m), .v (.lst (bk es)), .v (.lst (bk es2)), .v (.int until_), .v (.lst (bk es3)), a, .v (.lst (ds.map D.int)), .no, .no, .no, .no, .no]) ?_
      try simp only [Eo_C, Eo_V, Eo_B, Eo_bin, Eo_un, Eo_and, Eo_or, Eo_not, Eo_if, Eo_free, As_nil, As_cons, Eo_fn, Eo_call, As_seq, As_bor, As_rng1, Po_no, Po_E, Eo_sl, Eo_get1, dAdd_int, dSub_int, dLt_int, dLe_int, dGt_int, dGe_int, dNeg_int, dMax2_int, dMin2_int, dLen_lst, dLen_tup, dTuple_lst, dTuple_tup, dRev_lst, dAt_lst, dAt_tup, dAt_dic, dEq_int, dLst_nil, at_0, at_1, at_2, at_3, List.getElem?_cons_succ, List.getElem?_cons_zero, List.set_cons_succ, List.set_cons_zero, Option.some.injEq, Sl.v.injEq, Sl.o.injEq, D.int.injEq, D.bl.injEq, D.str.injEq, D.tup.injEq, D.lst.injEq, D.dic.injEq, reduceCtorEq, false_or, or_false, exists_eq_left', exists_eq_left, exists_eq', List.length_cons, List.length_nil, Nat.reduceAdd, true_and, and_true, decide_eq_true_eq, if_true, if_false, Bool.false_eq_true, Bool.not_true, Bool.not_false, Sq, Fb, wipeE]
      refine ⟨⟨[-1, 0, until_, 999, 1000, y - 1000], _, rfl, rfl⟩, ?_, ?_⟩
      · rintro i d ρ st' hd ⟨ds, a, hds, rfl⟩
        obtain ⟨e, he, rfl⟩ := bk_get hd
        have hi : i < es2.length := (List.getElem?_eq_some_iff.mp he).1
        refine ⟨_, rfl, ?_⟩
        (first | with_reducible refine Co_seq.mpr ?_ | with_reducible refine Co_nil.mpr ?_ | with_reducible refine Co_brk.mpr ?_ | with_reducible refine Co_cont.mpr ?_ | with_reducible refine Co_retN.mpr ?_ | with_reducible refine Co_set' ?_ | with_reducible refine Co_own' ?_ | with_reducible refine Co_ret' ?_ | with_reducible refine Co_expr' ?_ | with_reducible refine Co_if' ?_ | with_reducible refine Co_frz' ?_ | with_reducible refine Co_app' ?_ | with_reducible refine Co_put' ?_ | with_reducible refine Co_aug' ?_ | with_reducible refine Co_asg' ?_)
        try simp only [Eo_C, Eo_V, Eo_B, Eo_bin, Eo_un, Eo_and, Eo_or, Eo_not, Eo_if, Eo_free, As_nil, As_cons, Eo_fn, Eo_call, As_seq, As_bor, As_rng1, Po_no, Po_E, Eo_sl, Eo_get1, dAdd_int, dSub_int, dLt_int, dLe_int, dGt_int, dGe_int, dNeg_int, dMax2_int, dMin2_int, dLen_lst, dLen_tup, dTuple_lst, dTuple_tup, dRev_lst, dAt_lst, dAt_tup, dAt_dic, dEq_int, dLst_nil, at_0, at_1, at_2, at_3, List.getElem?_cons_succ, List.getElem?_cons_zero, List.set_cons_succ, List.set_cons_zero, Option.some.injEq, Sl.v.injEq, Sl.o.injEq, D.int.injEq, D.bl.injEq, D.str.injEq, D.tup.injEq, D.lst.injEq, D.dic.injEq, reduceCtorEq, false_or, or_false, exists_eq_left', exists_eq_left, exists_eq', List.length_cons, List.length_nil, Nat.reduceAdd, true_and, and_true, decide_eq_true_eq, if_true, if_false, Bool.false_eq_true, Bool.not_true, Bool.not_false, Sq, Fb, wipeE]
        try simp only [En_d0, En_d1, En_d2, nD_isN, nD_notN, Option.some.injEq, exists_eq_left', dLe_int, dEq_int, D.bl.injEq]
        have e4 : (ds ++ [e.day - 1, e.day, e.day + 1]).map D.int = ds.map D.int ++ [.int (e.day - 1), .int e.day, .int (e.day + 1)] := by rw [List.map_append]; rfl
        refine ⟨_, rfl, _, rfl, _, dLst_of _ (by show 3 ≤ sizeLine; decide), _, dAdd_lst _ _ ?_, ds ++ [e.day - 1, e.day, e.day + 1], _, ?_, by rw [e4]⟩
        · rw [List.length_map, hds]
          exact Nat.le_trans (by show 6 + 3 * i + 3 ≤ 200; omega) (by decide)
        · rw [List.length_append, hds]
          show 6 + 3 * i + 3 = _
          omega
      rintro ρ st7 ⟨ds, a, hds, rfl⟩
      rw [bk_len] at hds
      have dl0 : 0 < (ds.map D.int).length := by rw [List.length_map]; omega
      have dlb : (ds.map D.int).length < 1073741824 := by rw [List.length_map]; omega
      try simp only [Eo_C, Eo_V, Eo_B, Eo_bin, Eo_un, Eo_and, Eo_or, Eo_not, Eo_if, Eo_free, As_nil, As_cons, Eo_fn, Eo_call, As_seq, As_bor, As_rng1, Po_no, Po_E, Eo_sl, Eo_get1, dAdd_int, dSub_int, dLt_int, dLe_int, dGt_int, dGe_int, dNeg_int, dMax2_int, dMin2_int, dLen_lst, dLen_tup, dTuple_lst, dTuple_tup, dRev_lst, dAt_lst, dAt_tup, dAt_dic, dEq_int, dLst_nil, at_0, at_1, at_2, at_3, List.getElem?_cons_succ, List.getElem?_cons_zero, List.set_cons_succ, List.set_cons_zero, Option.some.injEq, Sl.v.injEq, Sl.o.injEq, D.int.injEq, D.bl.injEq, D.str.injEq, D.tup.injEq, D.lst.injEq, D.dic.injEq, reduceCtorEq, false_or, or_false, exists_eq_left', exists_eq_left, exists_eq', List.length_cons, List.length_nil, Nat.reduceAdd, true_and, and_true, decide_eq_true_eq, if_true, if_false, Bool.false_eq_true, Bool.not_true, Bool.not_false, Sq, Fb, wipeE]
      -- four turns
      (first | with_reducible refine Co_seq.mpr ?_ | with_reducible refine Co_nil.mpr ?_ | with_reducible refine Co_brk.mpr ?_ | with_reducible refine Co_cont.mpr ?_ | with_reducible refine Co_retN.mpr ?_ | with_reducible refine Co_set' ?_ | with_reducible refine Co_own' ?_ | with_reducible refine Co_ret' ?_ | with_reducible refine Co_expr' ?_ | with_reducible refine Co_if' ?_ | with_reducible refine Co_frz' ?_ | with_reducible refine Co_app' ?_ | with_reducible refine Co_put' ?_ | with_reducible refine Co_aug' ?_ | with_reducible refine Co_asg' ?_)
      refine Co_for' (fun i ρ st' => ∃ (a b c e f g : Sl), ρ = [.no, .v .dst, .v (.lst (strsOf ws)), .v (.lst (pl.map D.int)), .v (.int m), .v (.lst (bk es)), .v (.lst (bk es2)), .v (.int until_), .v (.lst (bk es3)), a, .v (.lst (ds.map D.int)), b, c, e, f, g]) ?_
      try simp only [Eo_C, Eo_V, Eo_B, Eo_bin, Eo_un, Eo_and, Eo_or, Eo_not, Eo_if, Eo_free, As_nil, As_cons, Eo_fn, Eo_call, As_seq, As_bor, As_rng1, Po_no, Po_E, Eo_sl, Eo_get1, dAdd_int, dSub_int, dLt_int, dLe_int, dGt_int, dGe_int, dNeg_int, dMax2_int, dMin2_int, dLen_lst, dLen_tup, dTuple_lst, dTuple_tup, dRev_lst, dAt_lst, dAt_tup, dAt_dic, dEq_int, dLst_nil, at_0, at_1, at_2, at_3, List.getElem?_cons_succ, List.getElem?_cons_zero, List.set_cons_succ, List.set_cons_zero, Option.some.injEq, Sl.v.injEq, Sl.o.injEq, D.int.injEq, D.bl.injEq, D.str.injEq, D.tup.injEq, D.lst.injEq, D.dic.injEq, reduceCtorEq, false_or, or_false, exists_eq_left', exists_eq_left, exists_eq', List.length_cons, List.length_nil, Nat.reduceAdd, true_and, and_true, decide_eq_true_eq, if_true, if_false, Bool.false_eq_true, Bool.not_true, Bool.not_false, Sq, Fb, wipeE]
      refine ⟨by decide, ⟨_, _, _, _, _, _, rfl⟩, ?_, ?_⟩
      · rintro i d ρ st' hd ⟨a, b, c, e, f, g, rfl⟩
        refine ⟨_, rfl, ?_⟩
        (first | with_reducible refine Co_seq.mpr ?_ | with_reducible refine Co_nil.mpr ?_ | with_reducible refine Co_brk.mpr ?_ | with_reducible refine Co_cont.mpr ?_ | with_reducible refine Co_retN.mpr ?_ | with_reducible refine Co_set' ?_ | with_reducible refine Co_own' ?_ | with_reducible refine Co_ret' ?_ | with_reducible refine Co_expr' ?_ | with_reducible refine Co_if' ?_ | with_reducible refine Co_frz' ?_ | with_reducible refine Co_app' ?_ | with_reducible refine Co_put' ?_ | with_reducible refine Co_aug' ?_ | with_reducible refine Co_asg' ?_)
        (first | with_reducible refine Co_seq.mpr ?_ | with_reducible refine Co_nil.mpr ?_ | with_reducible refine Co_brk.mpr ?_ | with_reducible refine Co_cont.mpr ?_ | with_reducible refine Co_retN.mpr ?_ | with_reducible refine Co_set' ?_ | with_reducible refine Co_own' ?_ | with_reducible refine Co_ret' ?_ | with_reducible refine Co_expr' ?_ | with_reducible refine Co_if' ?_ | with_reducible refine Co_frz' ?_ | with_reducible refine Co_app' ?_ | with_reducible refine Co_put' ?_ | with_reducible refine Co_aug' ?_ | with_reducible refine Co_asg' ?_)
        try simp only [Eo_C, Eo_V, Eo_B, Eo_bin, Eo_un, Eo_and, Eo_or, Eo_not, Eo_if, Eo_free, As_nil, As_cons, Eo_fn, Eo_call, As_seq, As_bor, As_rng1, Po_no, Po_E, Eo_sl, Eo_get1, dAdd_int, dSub_int, dLt_int, dLe_int, dGt_int, dGe_int, dNeg_int, dMax2_int, dMin2_int, dLen_lst, dLen_tup, dTuple_lst, dTuple_tup, dRev_lst, dAt_lst, dAt_tup, dAt_dic, dEq_int, dLst_nil, at_0, at_1, at_2, at_3, List.getElem?_cons_succ, List.getElem?_cons_zero, List.set_cons_succ, List.set_cons_zero, Option.some.injEq, Sl.v.injEq, Sl.o.injEq, D.int.injEq, D.bl.injEq, D.str.injEq, D.tup.injEq, D.lst.injEq, D.dic.injEq, reduceCtorEq, false_or, or_false, exists_eq_left', exists_eq_left, exists_eq', List.length_cons, List.length_nil, Nat.reduceAdd, true_and, and_true, decide_eq_true_eq, if_true, if_false, Bool.false_eq_true, Bool.not_true, Bool.not_false, Sq, Fb, wipeE]
        refine pick_runs dl0 dlb fun x hx st8 => ?_
        obtain ⟨day, _, rfl⟩ := List.mem_map.mp hx
        (first | with_reducible refine Co_seq.mpr ?_ | with_reducible refine Co_nil.mpr ?_ | with_reducible refine Co_brk.mpr ?_ | with_reducible refine Co_cont.mpr ?_ | with_reducible refine Co_retN.mpr ?_ | with_reducible refine Co_set' ?_ | with_reducible refine Co_own' ?_ | with_reducible refine Co_ret' ?_ | with_reducible refine Co_expr' ?_ | with_reducible refine Co_if' ?_ | with_reducible refine Co_frz' ?_ | with_reducible refine Co_app' ?_ | with_reducible refine Co_put' ?_ | with_reducible refine Co_aug' ?_ | with_reducible refine Co_asg' ?_)
        (first | with_reducible refine Co_seq.mpr ?_ | with_reducible refine Co_nil.mpr ?_ | with_reducible refine Co_brk.mpr ?_ | with_reducible refine Co_cont.mpr ?_ | with_reducible refine Co_retN.mpr ?_ | with_reducible refine Co_set' ?_ | with_reducible refine Co_own' ?_ | with_reducible refine Co_ret' ?_ | with_reducible refine Co_expr' ?_ | with_reducible refine Co_if' ?_ | with_reducible refine Co_frz' ?_ | with_reducible refine Co_app' ?_ | with_reducible refine Co_put' ?_ | with_reducible refine Co_aug' ?_ | with_reducible refine Co_asg' ?_)
        try simp only [Eo_C, Eo_V, Eo_B, Eo_bin, Eo_un, Eo_and, Eo_or, Eo_not, Eo_if, Eo_free, As_nil, As_cons, Eo_fn, Eo_call, As_seq, As_bor, As_rng1, Po_no, Po_E, Eo_sl, Eo_get1, dAdd_int, dSub_int, dLt_int, dLe_int, dGt_int, dGe_int, dNeg_int, dMax2_int, dMin2_int, dLen_lst, dLen_tup, dTuple_lst, dTuple_tup, dRev_lst, dAt_lst, dAt_tup, dAt_dic, dEq_int, dLst_nil, at_0, at_1, at_2, at_3, List.getElem?_cons_succ, List.getElem?_cons_zero, List.set_cons_succ, List.set_cons_zero, Option.some.injEq, Sl.v.injEq, Sl.o.injEq, D.int.injEq, D.bl.injEq, D.str.injEq, D.tup.injEq, D.lst.injEq, D.dic.injEq, reduceCtorEq, false_or, or_false, exists_eq_left', exists_eq_left, exists_eq', List.length_cons, List.length_nil, Nat.reduceAdd, true_and, and_true, decide_eq_true_eq, if_true, if_false, Bool.false_eq_true, Bool.not_true, Bool.not_false, Sq, Fb, wipeE]
        refine pick_runs dl0 dlb fun x hx st9 => ?_
        obtain ⟨later, _, rfl⟩ := List.mem_map.mp hx
        (first | with_reducible refine Co_seq.mpr ?_ | with_reducible refine Co_nil.mpr ?_ | with_reducible refine Co_brk.mpr ?_ | with_reducible refine Co_cont.mpr ?_ | with_reducible refine Co_retN.mpr ?_ | with_reducible refine Co_set' ?_ | with_reducible refine Co_own' ?_ | with_reducible refine Co_ret' ?_ | with_reducible refine Co_expr' ?_ | with_reducible refine Co_if' ?_ | with_reducible refine Co_frz' ?_ | with_reducible refine Co_app' ?_ | with_reducible refine Co_put' ?_ | with_reducible refine Co_aug' ?_ | with_reducible refine Co_asg' ?_)
        (first | with_reducible refine Co_seq.mpr ?_ | with_reducible refine Co_nil.mpr ?_ | with_reducible refine Co_brk.mpr ?_ | with_reducible refine Co_cont.mpr ?_ | with_reducible refine Co_retN.mpr ?_ | with_reducible refine Co_set' ?_ | with_reducible refine Co_own' ?_ | with_reducible refine Co_ret' ?_ | with_reducible refine Co_expr' ?_ | with_reducible refine Co_if' ?_ | with_reducible refine Co_frz' ?_ | with_reducible refine Co_app' ?_ | with_reducible refine Co_put' ?_ | with_reducible refine Co_aug' ?_ | with_reducible refine Co_asg' ?_)
        try simp only [Eo_C, Eo_V, Eo_B, Eo_bin, Eo_un, Eo_and, Eo_or, Eo_not, Eo_if, Eo_free, As_nil, As_cons, Eo_fn, Eo_call, As_seq, As_bor, As_rng1, Po_no, Po_E, Eo_sl, Eo_get1, dAdd_int, dSub_int, dLt_int, dLe_int, dGt_int, dGe_int, dNeg_int, dMax2_int, dMin2_int, dLen_lst, dLen_tup, dTuple_lst, dTuple_tup, dRev_lst, dAt_lst, dAt_tup, dAt_dic, dEq_int, dLst_nil, at_0, at_1, at_2, at_3, List.getElem?_cons_succ, List.getElem?_cons_zero, List.set_cons_succ, List.set_cons_zero, Option.some.injEq, Sl.v.injEq, Sl.o.injEq, D.int.injEq, D.bl.injEq, D.str.injEq, D.tup.injEq, D.lst.injEq, D.dic.injEq, reduceCtorEq, false_or, or_false, exists_eq_left', exists_eq_left, exists_eq', List.length_cons, List.length_nil, Nat.reduceAdd, true_and, and_true, decide_eq_true_eq, if_true, if_false, Bool.false_eq_true, Bool.not_true, Bool.not_false, Sq, Fb, wipeE]
        refine pick_runs dl0 dlb fun x hx st10 => ?_
        obtain ⟨heard, _, rfl⟩ := List.mem_map.mp hx
        refine Co_for' (fun i ρ st' => ∃ (g : Sl), ρ = [.no, .v .dst, .v (.lst (strsOf ws)), .v (.lst (pl.map D.int)), .v (.int m), .v (.lst (bk es)), .v (.lst (bk es2)), .v (.int until_), .v (.lst (bk es3)), a, .v (.lst (ds.map D.int)), .v d, .v (.int day), .v (.int later), .v (.int heard), g]) ?_
        try simp only [Eo_C, Eo_V, Eo_B, Eo_bin, Eo_un, Eo_and, Eo_or, Eo_not, Eo_if, Eo_free, As_nil, As_cons, Eo_fn, Eo_call, As_seq, As_bor, As_rng1, Po_no, Po_E, Eo_sl, Eo_get1, dAdd_int, dSub_int, dLt_int, dLe_int, dGt_int, dGe_int, dNeg_int, dMax2_int, dMin2_int, dLen_lst, dLen_tup, dTuple_lst, dTuple_tup, dRev_lst, dAt_lst, dAt_tup, dAt_dic, dEq_int, dLst_nil, at_0, at_1, at_2, at_3, List.getElem?_cons_succ, List.getElem?_cons_zero, List.set_cons_succ, List.set_cons_zero, Option.some.injEq, Sl.v.injEq, Sl.o.injEq, D.int.injEq, D.bl.injEq, D.str.injEq, D.tup.injEq, D.lst.injEq, D.dic.injEq, reduceCtorEq, false_or, or_false, exists_eq_left', exists_eq_left, exists_eq', List.length_cons, List.length_nil, Nat.reduceAdd, true_and, and_true, decide_eq_true_eq, if_true, if_false, Bool.false_eq_true, Bool.not_true, Bool.not_false, Sq, Fb, wipeE]
        refine ⟨_, dLst_of _ (by show 4 ≤ sizeLine; decide), _, .inl rfl, ⟨_, rfl⟩, ?_, ?_⟩
        · rintro j rows ρ st' hr ⟨g, rfl⟩
          refine ⟨_, rfl, ?_⟩
          have hm := List.mem_of_getElem? hr
          simp only [List.mem_cons, List.not_mem_nil, or_false] at hm
          have : ∃ es4 : List En, rows = .lst (bk es4) ∧ es4.length < 64 := by
            rcases hm with rfl | rfl | rfl | rfl
            · exact ⟨es, rfl, by omega⟩
            · exact ⟨es2, rfl, by omega⟩
            · exact ⟨es3, rfl, by omega⟩
            · exact ⟨es, rfl, by omega⟩
          obtain ⟨es4, rfl, hl4⟩ := this
          (first | with_reducible refine Co_seq.mpr ?_ | with_reducible refine Co_nil.mpr ?_ | with_reducible refine Co_brk.mpr ?_ | with_reducible refine Co_cont.mpr ?_ | with_reducible refine Co_retN.mpr ?_ | with_reducible refine Co_set' ?_ | with_reducible refine Co_own' ?_ | with_reducible refine Co_ret' ?_ | with_reducible refine Co_expr' ?_ | with_reducible refine Co_if' ?_ | with_reducible refine Co_frz' ?_ | with_reducible refine Co_app' ?_ | with_reducible refine Co_put' ?_ | with_reducible refine Co_aug' ?_ | with_reducible refine Co_asg' ?_)
          try simp only [Eo_C, Eo_V, Eo_B, Eo_bin, Eo_un, Eo_and, Eo_or, Eo_not, Eo_if, Eo_free, As_nil, As_cons, Eo_fn, Eo_call, As_seq, As_bor, As_rng1, Po_no, Po_E, Eo_sl, Eo_get1, dAdd_int, dSub_int, dLt_int, dLe_int, dGt_int, dGe_int, dNeg_int, dMax2_int, dMin2_int, dLen_lst, dLen_tup, dTuple_lst, dTuple_tup, dRev_lst, dAt_lst, dAt_tup, dAt_dic, dEq_int, dLst_nil, at_0, at_1, at_2, at_3, List.getElem?_cons_succ, List.getElem?_cons_zero, List.set_cons_succ, List.set_cons_zero, Option.some.injEq, Sl.v.injEq, Sl.o.injEq, D.int.injEq, D.bl.injEq, D.str.injEq, D.tup.injEq, D.lst.injEq, D.dic.injEq, reduceCtorEq, false_or, or_false, exists_eq_left', exists_eq_left, exists_eq', List.length_cons, List.length_nil, Nat.reduceAdd, true_and, and_true, decide_eq_true_eq, if_true, if_false, Bool.false_eq_true, Bool.not_true, Bool.not_false, Sq, Fb, wipeE]
          rw [Fo_of (days_runs hl4)]
          refine ⟨_, rfl, ?_⟩
          rw [if_neg (by decide)]
          (first | with_reducible refine Co_seq.mpr ?_ | with_reducible refine Co_nil.mpr ?_ | with_reducible refine Co_brk.mpr ?_ | with_reducible refine Co_cont.mpr ?_ | with_reducible refine Co_retN.mpr ?_ | with_reducible refine Co_set' ?_ | with_reducible refine Co_own' ?_ | with_reducible refine Co_ret' ?_ | with_reducible refine Co_expr' ?_ | with_reducible refine Co_if' ?_ | with_reducible refine Co_frz' ?_ | with_reducible refine Co_app' ?_ | with_reducible refine Co_put' ?_ | with_reducible refine Co_aug' ?_ | with_reducible refine Co_asg' ?_)
          exact ⟨_, rfl⟩
        · rintro ρ st11 ⟨g, rfl⟩
          exact ⟨_, _, _, _, _, _, rfl⟩
      rintro ρ st12 ⟨a, b, c, e, f, g, rfl⟩
      (first | with_reducible refine Co_seq.mpr ?_ | with_reducible refine Co_nil.mpr ?_ | with_reducible refine Co_brk.mpr ?_ | with_reducible refine Co_cont.mpr ?_ | with_reducible refine Co_retN.mpr ?_ | with_reducible refine Co_set' ?_ | with_reducible refine Co_own' ?_ | with_reducible refine Co_ret' ?_ | with_reducible refine Co_expr' ?_ | with_reducible refine Co_if' ?_ | with_reducible refine Co_frz' ?_ | with_reducible refine Co_app' ?_ | with_reducible refine Co_put' ?_ | with_reducible refine Co_aug' ?_ | with_reducible refine Co_asg' ?_)
      try simp only [Eo_C, Eo_V, Eo_B, Eo_bin, Eo_un, Eo_and, Eo_or, Eo_not, Eo_if, Eo_free, As_nil, As_cons, Eo_fn, Eo_call, As_seq, As_bor, As_rng1, Po_no, Po_E, Eo_sl, Eo_get1, dAdd_int, dSub_int, dLt_int, dLe_int, dGt_int, dGe_int, dNeg_int, dMax2_int, dMin2_int, dLen_lst, dLen_tup, dTuple_lst, dTuple_tup, dRev_lst, dAt_lst, dAt_tup, dAt_dic, dEq_int, dLst_nil, at_0, at_1, at_2, at_3, List.getElem?_cons_succ, List.getElem?_cons_zero, List.set_cons_succ, List.set_cons_zero, Option.some.injEq, Sl.v.injEq, Sl.o.injEq, D.int.injEq, D.bl.injEq, D.str.injEq, D.tup.injEq, D.lst.injEq, D.dic.injEq, reduceCtorEq, false_or, or_false, exists_eq_left', exists_eq_left, exists_eq', List.length_cons, List.length_nil, Nat.reduceAdd, true_and, and_true, decide_eq_true_eq, if_true, if_false, Bool.false_eq_true, Bool.not_true, Bool.not_false, Sq, Fb, wipeE]
      rw [Fo_of (histories_runs (by omega))]
      try simp only [Eo_C, Eo_V, Eo_B, Eo_bin, Eo_un, Eo_and, Eo_or, Eo_not, Eo_if, Eo_free, As_nil, As_cons, Eo_fn, Eo_call, As_seq, As_bor, As_rng1, Po_no, Po_E, Eo_sl, Eo_get1, dAdd_int, dSub_int, dLt_int, dLe_int, dGt_int, dGe_int, dNeg_int, dMax2_int, dMin2_int, dLen_lst, dLen_tup, dTuple_lst, dTuple_tup, dRev_lst, dAt_lst, dAt_tup, dAt_dic, dEq_int, dLst_nil, at_0, at_1, at_2, at_3, List.getElem?_cons_succ, List.getElem?_cons_zero, List.set_cons_succ, List.set_cons_zero, Option.some.injEq, Sl.v.injEq, Sl.o.injEq, D.int.injEq, D.bl.injEq, D.str.injEq, D.tup.injEq, D.lst.injEq, D.dic.injEq, reduceCtorEq, false_or, or_false, exists_eq_left', exists_eq_left, exists_eq', List.length_cons, List.length_nil, Nat.reduceAdd, true_and, and_true, decide_eq_true_eq, if_true, if_false, Bool.false_eq_true, Bool.not_true, Bool.not_false, Sq, Fb, wipeE]
      rw [Fo_of (histories_runs (by omega))]
      try simp only [Eo_C, Eo_V, Eo_B, Eo_bin, Eo_un, Eo_and, Eo_or, Eo_not, Eo_if, Eo_free, As_nil, As_cons, Eo_fn, Eo_call, As_seq, As_bor, As_rng1, Po_no, Po_E, Eo_sl, Eo_get1, dAdd_int, dSub_int, dLt_int, dLe_int, dGt_int, dGe_int, dNeg_int, dMax2_int, dMin2_int, dLen_lst, dLen_tup, dTuple_lst, dTuple_tup, dRev_lst, dAt_lst, dAt_tup, dAt_dic, dEq_int, dLst_nil, at_0, at_1, at_2, at_3, List.getElem?_cons_succ, List.getElem?_cons_zero, List.set_cons_succ, List.set_cons_zero, Option.some.injEq, Sl.v.injEq, Sl.o.injEq, D.int.injEq, D.bl.injEq, D.str.injEq, D.tup.injEq, D.lst.injEq, D.dic.injEq, reduceCtorEq, false_or, or_false, exists_eq_left', exists_eq_left, exists_eq', List.length_cons, List.length_nil, Nat.reduceAdd, true_and, and_true, decide_eq_true_eq, if_true, if_false, Bool.false_eq_true, Bool.not_true, Bool.not_false, Sq, Fb, wipeE]
      rw [Fo_of (histories_runs (by omega))]
    -- longer
    (first | with_reducible refine Co_seq.mpr ?_ | with_reducible refine Co_nil.mpr ?_ | with_reducible refine Co_brk.mpr ?_ | with_reducible refine Co_cont.mpr ?_ | with_reducible refine Co_retN.mpr ?_ | with_reducible refine Co_set' ?_ | with_reducible refine Co_own' ?_ | with_reducible refine Co_ret' ?_ | with_reducible refine Co_expr' ?_ | with_reducible refine Co_if' ?_ | with_reducible refine Co_frz' ?_ | with_reducible refine Co_app' ?_ | with_reducible refine Co_put' ?_ | with_reducible refine Co_aug' ?_ | with_reducible refine Co_asg' ?_)
    (first | with_reducible refine Co_seq.mpr ?_ | with_reducible refine Co_nil.mpr ?_ | with_reducible refine Co_brk.mpr ?_ | with_reducible refine Co_cont.mpr ?_ | with_reducible refine Co_retN.mpr ?_ | with_reducible refine Co_set' ?_ | with_reducible refine Co_own' ?_ | with_reducible refine Co_ret' ?_ | with_reducible refine Co_expr' ?_ | with_reducible refine Co_if' ?_ | with_reducible refine Co_frz' ?_ | with_reducible refine Co_app' ?_ | with_reducible refine Co_put' ?_ | with_reducible refine Co_aug' ?_ | with_reducible refine Co_asg' ?_)
    try simp only [Eo_C, Eo_V, Eo_B, Eo_bin, Eo_un, Eo_and, Eo_or, Eo_not, Eo_if, Eo_free, As_nil, As_cons, Eo_fn, Eo_call, As_seq, As_bor, As_rng1, Po_no, Po_E, Eo_sl, Eo_get1, dAdd_int, dSub_int, dLt_int, dLe_int, dGt_int, dGe_int, dNeg_int, dMax2_int, dMin2_int, dLen_lst, dLen_tup, dTuple_lst, dTuple_tup, dRev_lst, dAt_lst, dAt_tup, dAt_dic, dEq_int, dLst_nil, at_0, at_1, at_2, at_3, List.getElem?_cons_succ, List.getElem?_cons_zero, List.set_cons_succ, List.set_cons_zero, Option.some.injEq, Sl.v.injEq, Sl.o.injEq, D.int.injEq, D.bl.injEq, D.str.injEq, D.tup.injEq, D.lst.injEq, D.dic.injEq, reduceCtorEq, false_or, or_false, exists_eq_left', exists_eq_left, exists_eq', List.length_cons, List.length_nil, Nat.reduceAdd, true_and, and_true, decide_eq_true_eq, if_true, if_false, Bool.false_eq_true, Bool.not_true, Bool.not_false, Sq, Fb, wipeE]
    refine iteD (fun h => ?_) (fun h => ?_)
    · refine longer_runs hw hw3 hn hn4 el fun e st5 => ?_
      exact tail _ _ (by rw [List.length_append]; show es.length + 1 ≤ 41; omega)
    · exact tail _ _ (by omega)
  (first | with_reducible refine Co_seq.mpr ?_ | with_reducible refine Co_nil.mpr ?_ | with_reducible refine Co_brk.mpr ?_ | with_reducible refine Co_cont.mpr ?_ | with_reducible refine Co_retN.mpr ?_ | with_reducible refine Co_set' ?_ | with_reducible refine Co_own' ?_ | with_reducible refine Co_ret' ?_ | with_reducible refine Co_expr' ?_ | with_reducible refine Co_if' ?_ | with_reducible refine Co_frz' ?_ | with_reducible refine Co_app' ?_ | with_reducible refine Co_put' ?_ | with_reducible refine Co_aug' ?_ | with_reducible refine Co_asg' ?_)
  (first | with_reducible refine Co_seq.mpr ?_ | with_reducible refine Co_nil.mpr ?_ | with_reducible refine Co_brk.mpr ?_ | with_reducible refine Co_cont.mpr ?_ | with_reducible refine Co_retN.mpr ?_ | with_reducible refine Co_set' ?_ | with_reducible refine Co_own' ?_ | with_reducible refine Co_ret' ?_ | with_reducible refine Co_expr' ?_ | with_reducible refine Co_if' ?_ | with_reducible refine Co_frz' ?_ | with_reducible refine Co_app' ?_ | with_reducible refine Co_put' ?_ | with_reducible refine Co_aug' ?_ | with_reducible refine Co_asg' ?_)
  try simp only [Eo_C, Eo_V, Eo_B, Eo_bin, Eo_un, Eo_and, Eo_or, Eo_not, Eo_if, Eo_free, As_nil, As_cons, Eo_fn, Eo_call, As_seq, As_bor, As_rng1, Po_no, Po_E, Eo_sl, Eo_get1, dAdd_int, dSub_int, dLt_int, dLe_int, dGt_int, dGe_int, dNeg_int, dMax2_int, dMin2_int, dLen_lst, dLen_tup, dTuple_lst, dTuple_tup, dRev_lst, dAt_lst, dAt_tup, dAt_dic, dEq_int, dLst_nil, at_0, at_1, at_2, at_3, List.getElem?_cons_succ, List.getElem?_cons_zero, List.set_cons_succ, List.set_cons_zero, Option.some.injEq, Sl.v.injEq, Sl.o.injEq, D.int.injEq, D.bl.injEq, D.str.injEq, D.tup.injEq, D.lst.injEq, D.dic.injEq, reduceCtorEq, false_or, or_false, exists_eq_left', exists_eq_left, exists_eq', List.length_cons, List.length_nil, Nat.reduceAdd, true_and, and_true, decide_eq_true_eq, if_true, if_false, Bool.false_eq_true, Bool.not_true, Bool.not_false, Sq, Fb, wipeE]
  refine rare_runs (by decide) (by decide) fun b st4 => ?_
  refine ⟨_, rfl, ?_⟩
  refine iteD (fun _ => ?_) (fun _ => ?_)
  · refine Fo_draw (by decide) (by decide) fun z st5 z0 z1 => ?_
    try simp only [Eo_C, Eo_V, Eo_B, Eo_bin, Eo_un, Eo_and, Eo_or, Eo_not, Eo_if, Eo_free, As_nil, As_cons, Eo_fn, Eo_call, As_seq, As_bor, As_rng1, Po_no, Po_E, Eo_sl, Eo_get1, dAdd_int, dSub_int, dLt_int, dLe_int, dGt_int, dGe_int, dNeg_int, dMax2_int, dMin2_int, dLen_lst, dLen_tup, dTuple_lst, dTuple_tup, dRev_lst, dAt_lst, dAt_tup, dAt_dic, dEq_int, dLst_nil, at_0, at_1, at_2, at_3, List.getElem?_cons_succ, List.getElem?_cons_zero, List.set_cons_succ, List.set_cons_zero, Option.some.injEq, Sl.v.injEq, Sl.o.injEq, D.int.injEq, D.bl.injEq, D.str.injEq, D.tup.injEq, D.lst.injEq, D.dic.injEq, reduceCtorEq, false_or, or_false, exists_eq_left', exists_eq_left, exists_eq', List.length_cons, List.length_nil, Nat.reduceAdd, true_and, and_true, decide_eq_true_eq, if_true, if_false, Bool.false_eq_true, Bool.not_true, Bool.not_false, Sq, Fb, wipeE]
    exact rest _ _ (by omega) (by omega)
  · refine Fo_draw (by decide) (by decide) fun z st5 z0 z1 => ?_
    exact rest _ _ (by omega) (by omega)
end LW


set_option Elab.async false
set_option linter.all false
set_option maxRecDepth 100000
set_option maxHeartbeats 4000000
namespace LW
open PySem PySem.Spec L2 FL
set_option autoImplicit false
theorem all_mk (LR : LawRuns) {P : Program} {w : World} {K : PySem.W.Frag} {h : Heap} {mg : Str → Option Value} {fa : Addr} (X : K.In h) (G : h.Ns mainGlobals mg) (hfa : mg "law" = some (.ref fa))
    (e1 : ∃ f fd, Df K mg "entries_until" s_entries_until ["book", "day"] f fd)
    (e2 : ∃ f fd, Df K mg "last_words" s_last_words ["entries"] f fd)
    (e3 : ∃ f fd, Df K mg "known_on" s_known_on ["book", "day"] f fd)
    (e4 : ∃ f fd, Df K mg "as_entered" s_as_entered ["book", "day"] f fd)
    (e5 : ∃ f fd, Df K mg "as_told" s_as_told ["book", "day", "told"] f fd)
    (e6 : ∃ f fd, Df K mg "numbers_of" s_numbers_of ["book"] f fd)
    (e7 : ∃ f fd, Df K mg "corrected" s_corrected ["book", "day", "later"] f fd)
    (e8 : ∃ f fd, Df K mg "entries_of" s_entries_of ["book", "number"] f fd)
    (e9 : ∃ f fd, Df K mg "says_more" s_says_more ["pairs", "at"] f fd)
    (e10 : ∃ f fd, Df K mg "history" s_history ["book", "number"] f fd)
    (e12 : ∃ f fd, Df K mg "_law_begin" s_law_begin ["script"] f fd)
    (e13 : ∃ f fd, Df K mg "_law_draw" s_law_draw ["d", "many"] f fd)
    (e14 : ∃ f fd, Df K mg "_law_pick" s_law_pick ["d", "row"] f fd)
    (e15 : ∃ f fd, Df K mg "_law_rare" s_law_rare ["d", "many"] f fd)
    (e16 : ∃ f fd, Df K mg "_law_names" s_law_names ["d", "many"] f fd)
    (e17 : ∃ f fd, Df K mg "_law_is_int" s_law_is_int ["thing"] f fd)
    (e18 : ∃ f fd, Df K mg "_law_pool" s_law_pool ["d"] f fd)
    (e19 : ∃ f fd, Df K mg "_law_notice" s_law_notice ["d", "work", "entered"] f fd)
    (e20 : ∃ f fd, Df K mg "_law_said" s_law_said ["book", "number", "day"] f fd)
    (e21 : ∃ f fd, Df K mg "_law_next" s_law_next ["d", "names", "book", "number", "day"] f fd)
    (e22 : ∃ f fd, Df K mg "_law_book" s_law_book ["d", "names", "pool", "many"] f fd)
    (e23 : ∃ f fd, Df K mg "_law_longer" s_law_longer ["d", "names", "pool", "book"] f fd)
    (e24 : ∃ f fd, Df K mg "_law_numbers" s_law_numbers ["book"] f fd)
    (e25 : ∃ f fd, Df K mg "_law_known" s_law_known ["book", "day"] f fd)
    (e26 : ∃ f fd, Df K mg "_law_corrected" s_law_corrected ["book", "day", "later"] f fd)
    (e27 : ∃ f fd, Df K mg "_law_history" s_law_history ["book", "number"] f fd)
    (e28 : ∃ f fd, Df K mg "_law_plain" s_law_plain ["thing", "depth"] f fd)
    (e29 : ∃ f fd, Df K mg "_law_same" s_law_same ["told", "due"] f fd)
    (e30 : ∃ f fd, Df K mg "_law_days_right" s_law_days_right ["book", "day", "later", "heard"] f fd)
    (e31 : ∃ f fd, Df K mg "_law_histories_right" s_law_histories_right ["book"] f fd)
    (e32 : ∃ f fd, Df K mg "law" s_law ["script"] f fd)
    (z_abs : PySem.W.nsIn K mainGlobals "abs" = some none)
    (z_all : PySem.W.nsIn K mainGlobals "all" = some none)
    (z_bool : PySem.W.nsIn K mainGlobals "bool" = some none)
    (z_int : PySem.W.nsIn K mainGlobals "int" = some none)
    (z_isinstance : PySem.W.nsIn K mainGlobals "isinstance" = some none)
    (z_len : PySem.W.nsIn K mainGlobals "len" = some none)
    (z_max : PySem.W.nsIn K mainGlobals "max" = some none)
    (z_min : PySem.W.nsIn K mainGlobals "min" = some none)
    (z_range : PySem.W.nsIn K mainGlobals "range" = some none)
    (z_set : PySem.W.nsIn K mainGlobals "set" = some none)
    (z_sorted : PySem.W.nsIn K mainGlobals "sorted" = some none)
    (z_str : PySem.W.nsIn K mainGlobals "str" = some none)
    (z_tuple : PySem.W.nsIn K mainGlobals "tuple" = some none)
    : ∃ fd : FuncData, (∀ (s : Shared) (v : Value), BindsTo s fd ⟨[v], []⟩ [("script", v)]) ∧ ∀ base : Heap, K.In base → base.Ns mainGlobals mg → FnOk P w K mg base (L2.CX P w) 10 fa fd ["script"] (spLaw K) := by
  obtain ⟨f1, d1, h1⟩ := e1
  obtain ⟨f2, d2, h2⟩ := e2
  obtain ⟨f3, d3, h3⟩ := e3
  obtain ⟨f4, d4, h4⟩ := e4
  obtain ⟨f5, d5, h5⟩ := e5
  obtain ⟨f6, d6, h6⟩ := e6
  obtain ⟨f7, d7, h7⟩ := e7
  obtain ⟨f8, d8, h8⟩ := e8
  obtain ⟨f9, d9, h9⟩ := e9
  obtain ⟨f10, d10, h10⟩ := e10
  obtain ⟨f12, d12, h12⟩ := e12
  obtain ⟨f13, d13, h13⟩ := e13
  obtain ⟨f14, d14, h14⟩ := e14
  obtain ⟨f15, d15, h15⟩ := e15
  obtain ⟨f16, d16, h16⟩ := e16
  obtain ⟨f17, d17, h17⟩ := e17
  obtain ⟨f18, d18, h18⟩ := e18
  obtain ⟨f19, d19, h19⟩ := e19
  obtain ⟨f20, d20, h20⟩ := e20
  obtain ⟨f21, d21, h21⟩ := e21
  obtain ⟨f22, d22, h22⟩ := e22
  obtain ⟨f23, d23, h23⟩ := e23
  obtain ⟨f24, d24, h24⟩ := e24
  obtain ⟨f25, d25, h25⟩ := e25
  obtain ⟨f26, d26, h26⟩ := e26
  obtain ⟨f27, d27, h27⟩ := e27
  obtain ⟨f28, d28, h28⟩ := e28
  obtain ⟨f29, d29, h29⟩ := e29
  obtain ⟨f30, d30, h30⟩ := e30
  obtain ⟨f31, d31, h31⟩ := e31
  obtain ⟨f32, d32, h32⟩ := e32
  have T : Txt K mg (fun i => [fa, f1, f2, f3, f4, f5, f6, f7, f8, f9, f10, fa, f12, f13, f14, f15, f16, f17, f18, f19, f20, f21, f22, f23, f24, f25, f26, f27, f28, f29, f30, f31, f32].getD i fa) (fun i => [d32, d1, d2, d3, d4, d5, d6, d7, d8, d9, d10, d32, d12, d13, d14, d15, d16, d17, d18, d19, d20, d21, d22, d23, d24, d25, d26, d27, d28, d29, d30, d31, d32].getD i d32) :=
    ⟨PySem.W.mg_none_of X G z_abs, PySem.W.mg_none_of X G z_all, PySem.W.mg_none_of X G z_bool, PySem.W.mg_none_of X G z_int, PySem.W.mg_none_of X G z_isinstance, PySem.W.mg_none_of X G z_len, PySem.W.mg_none_of X G z_max, PySem.W.mg_none_of X G z_min, PySem.W.mg_none_of X G z_range, PySem.W.mg_none_of X G z_set, PySem.W.mg_none_of X G z_sorted, PySem.W.mg_none_of X G z_str, PySem.W.mg_none_of X G z_tuple, h1, h2, h3, h4, h5, h6, h7, h8, h9, h10, h12, h13, h14, h15, h16, h17, h18, h19, h20, h21, h22, h23, h24, h25, h26, h27, h28, h29, h30, h31, h32⟩
  have e := hfa.symm.trans h32.g
  cases e
  refine ⟨d32, fun s v => ?_, fun base _ _ => ok_law LR T⟩
  obtain ⟨oc, od, kV, doc, pm, an, cdv, ct, osl, rfl, lk, hcd⟩ := h32.fn.ex
  exact .of_eq rfl
theorem walk {l : PySem.W.OpenLaw} {q : Program} {loose : List Str} {XP : (Str → Option Value) → Heap → Prop} {YP : World → Heap → Prop} {d : DefRec} {K : Params → PySem.W.Frag} (hn : l.most = some 63) (hdf : d.params.defaults = [])
    (hY : ∀ (w : World) (h : Heap), YP w h → (K w.params).In h)
    (F : ∀ (w : World) (mg : Str → Option Value) (fa : Addr) (h : Heap), (K w.params).In h → h.Ns mainGlobals mg → mg d.name = some (.ref fa) →
      ∃ fd : FuncData, (∀ (s : Shared) (u : Value), BindsTo s fd ⟨[u], []⟩ [("script", u)]) ∧ ∀ base : Heap, (K w.params).In base → base.Ns mainGlobals mg → FnOk l.prog w (K w.params) mg base (L2.CX l.prog w) 10 fa fd ["script"] (spLaw (K w.params))) :
    PySem.W.WalkO q loose XP YP l.row.toRowW d [] (fun f vs => PySem.call f vs) :=
  L2.walk_of (n := 63) (k := 10) (x := "script") (CX := fun w => L2.CX l.prog w) (sp := fun w => spLaw (K w.params)) hn (by decide) hdf ⟨rfl, by decide, by decide⟩ hY F (fun _ _ a ns hl _ hS => ⟨a, ns, rfl, hS, hl, fun _ => rfl⟩) fun _ _ _ _ _ h => by
    obtain ⟨_, _, _, _, _, _, _, _, _, _, _, _, z⟩ := h
    exact z.elim
end LW
open PySem PySem.W PyProof.Rows
set_option maxRecDepth 100000 in
set_option maxHeartbeats 0 in
theorem PySem.Challenge.cw_delvewarden_k76_two_times_holds : PySem.Challenge.rw_delvewarden_k76_two_times.Holds := by
  w_on; o_law; k_head; (case hw => w_witness2)
  k_fill
  refine LW.walk (l := PySem.Challenge.rw_delvewarden_k76_two_times) rfl rfl (fun w h Y => PySem.W.kIn_of Y) ?F
  case F =>
    intro w mg fa h KX G hmg
    refine' LW.all_mk LW.law_runs KX G hmg ?e1 ?e2 ?e3 ?e4 ?e5 ?e6 ?e7 ?e8 ?e9 ?e10 ?e12 ?e13 ?e14 ?e15 ?e16 ?e17 ?e18 ?e19 ?e20 ?e21 ?e22 ?e23 ?e24 ?e25 ?e26 ?e27 ?e28 ?e29 ?e30 ?e31 ?e32 ?z_abs ?z_all ?z_bool ?z_int ?z_isinstance ?z_len ?z_max ?z_min ?z_range ?z_set ?z_sorted ?z_str ?z_tuple
    case e1 =>
      refine' ⟨_, _, FL.df_mk KX G ?a ?l ?c ?k ?b⟩
      (case a => k_is); (case l => k_is); (case c => k_is); (case k => k_is)
      case b => exact fun _ _ _ _ _ _ us hl => match us, hl with | [_, _], _ => rfl
    case e2 =>
      refine' ⟨_, _, FL.df_mk KX G ?a ?l ?c ?k ?b⟩
      (case a => k_is); (case l => k_is); (case c => k_is); (case k => k_is)
      case b => exact fun _ _ _ _ _ _ us hl => match us, hl with | [_], _ => rfl
    case e3 =>
      refine' ⟨_, _, FL.df_mk KX G ?a ?l ?c ?k ?b⟩
      (case a => k_is); (case l => k_is); (case c => k_is); (case k => k_is)
      case b => exact fun _ _ _ _ _ _ us hl => match us, hl with | [_, _], _ => rfl
    case e4 =>
      refine' ⟨_, _, FL.df_mk KX G ?a ?l ?c ?k ?b⟩
      (case a => k_is); (case l => k_is); (case c => k_is); (case k => k_is)
      case b => exact fun _ _ _ _ _ _ us hl => match us, hl with | [_, _], _ => rfl
    case e5 =>
      refine' ⟨_, _, FL.df_mk KX G ?a ?l ?c ?k ?b⟩
      (case a => k_is); (case l => k_is); (case c => k_is); (case k => k_is)
      case b => exact fun _ _ _ _ _ _ us hl => match us, hl with | [_, _, _], _ => rfl
    case e6 =>
      refine' ⟨_, _, FL.df_mk KX G ?a ?l ?c ?k ?b⟩
      (case a => k_is); (case l => k_is); (case c => k_is); (case k => k_is)
      case b => exact fun _ _ _ _ _ _ us hl => match us, hl with | [_], _ => rfl
    case e7 =>
      refine' ⟨_, _, FL.df_mk KX G ?a ?l ?c ?k ?b⟩
      (case a => k_is); (case l => k_is); (case c => k_is); (case k => k_is)
      case b => exact fun _ _ _ _ _ _ us hl => match us, hl with | [_, _, _], _ => rfl
    case e8 =>
      refine' ⟨_, _, FL.df_mk KX G ?a ?l ?c ?k ?b⟩
      (case a => k_is); (case l => k_is); (case c => k_is); (case k => k_is)
      case b => exact fun _ _ _ _ _ _ us hl => match us, hl with | [_, _], _ => rfl
    case e9 =>
      refine' ⟨_, _, FL.df_mk KX G ?a ?l ?c ?k ?b⟩
      (case a => k_is); (case l => k_is); (case c => k_is); (case k => k_is)
      case b => exact fun _ _ _ _ _ _ us hl => match us, hl with | [_, _], _ => rfl
    case e10 =>
      refine' ⟨_, _, FL.df_mk KX G ?a ?l ?c ?k ?b⟩
      (case a => k_is); (case l => k_is); (case c => k_is); (case k => k_is)
      case b => exact fun _ _ _ _ _ _ us hl => match us, hl with | [_, _], _ => rfl
    case e12 =>
      refine' ⟨_, _, FL.df_mk KX G ?a ?l ?c ?k ?b⟩
      (case a => k_is); (case l => k_is); (case c => k_is); (case k => k_is)
      case b => exact fun _ _ _ _ _ _ us hl => match us, hl with | [_], _ => rfl
    case e13 =>
      refine' ⟨_, _, FL.df_mk KX G ?a ?l ?c ?k ?b⟩
      (case a => k_is); (case l => k_is); (case c => k_is); (case k => k_is)
      case b => exact fun _ _ _ _ _ _ us hl => match us, hl with | [_, _], _ => rfl
    case e14 =>
      refine' ⟨_, _, FL.df_mk KX G ?a ?l ?c ?k ?b⟩
      (case a => k_is); (case l => k_is); (case c => k_is); (case k => k_is)
      case b => exact fun _ _ _ _ _ _ us hl => match us, hl with | [_, _], _ => rfl
    case e15 =>
      refine' ⟨_, _, FL.df_mk KX G ?a ?l ?c ?k ?b⟩
      (case a => k_is); (case l => k_is); (case c => k_is); (case k => k_is)
      case b => exact fun _ _ _ _ _ _ us hl => match us, hl with | [_, _], _ => rfl
    case e16 =>
      refine' ⟨_, _, FL.df_mk KX G ?a ?l ?c ?k ?b⟩
      (case a => k_is); (case l => k_is); (case c => k_is); (case k => k_is)
      case b => exact fun _ _ _ _ _ _ us hl => match us, hl with | [_, _], _ => rfl
    case e17 =>
      refine' ⟨_, _, FL.df_mk KX G ?a ?l ?c ?k ?b⟩
      (case a => k_is); (case l => k_is); (case c => k_is); (case k => k_is)
      case b => exact fun _ _ _ _ _ _ us hl => match us, hl with | [_], _ => rfl
    case e18 =>
      refine' ⟨_, _, FL.df_mk KX G ?a ?l ?c ?k ?b⟩
      (case a => k_is); (case l => k_is); (case c => k_is); (case k => k_is)
      case b => exact fun _ _ _ _ _ _ us hl => match us, hl with | [_], _ => rfl
    case e19 =>
      refine' ⟨_, _, FL.df_mk KX G ?a ?l ?c ?k ?b⟩
      (case a => k_is); (case l => k_is); (case c => k_is); (case k => k_is)
      case b => exact fun _ _ _ _ _ _ us hl => match us, hl with | [_, _, _], _ => rfl
    case e20 =>
      refine' ⟨_, _, FL.df_mk KX G ?a ?l ?c ?k ?b⟩
      (case a => k_is); (case l => k_is); (case c => k_is); (case k => k_is)
      case b => exact fun _ _ _ _ _ _ us hl => match us, hl with | [_, _, _], _ => rfl
    case e21 =>
      refine' ⟨_, _, FL.df_mk KX G ?a ?l ?c ?k ?b⟩
      (case a => k_is); (case l => k_is); (case c => k_is); (case k => k_is)
      case b => exact fun _ _ _ _ _ _ us hl => match us, hl with | [_, _, _, _, _], _ => rfl
    case e22 =>
      refine' ⟨_, _, FL.df_mk KX G ?a ?l ?c ?k ?b⟩
      (case a => k_is); (case l => k_is); (case c => k_is); (case k => k_is)
      case b => exact fun _ _ _ _ _ _ us hl => match us, hl with | [_, _, _, _], _ => rfl
    case e23 =>
      refine' ⟨_, _, FL.df_mk KX G ?a ?l ?c ?k ?b⟩
      (case a => k_is); (case l => k_is); (case c => k_is); (case k => k_is)
      case b => exact fun _ _ _ _ _ _ us hl => match us, hl with | [_, _, _, _], _ => rfl
    case e24 =>
      refine' ⟨_, _, FL.df_mk KX G ?a ?l ?c ?k ?b⟩
      (case a => k_is); (case l => k_is); (case c => k_is); (case k => k_is)
      case b => exact fun _ _ _ _ _ _ us hl => match us, hl with | [_], _ => rfl
    case e25 =>
      refine' ⟨_, _, FL.df_mk KX G ?a ?l ?c ?k ?b⟩
      (case a => k_is); (case l => k_is); (case c => k_is); (case k => k_is)
      case b => exact fun _ _ _ _ _ _ us hl => match us, hl with | [_, _], _ => rfl
    case e26 =>
      refine' ⟨_, _, FL.df_mk KX G ?a ?l ?c ?k ?b⟩
      (case a => k_is); (case l => k_is); (case c => k_is); (case k => k_is)
      case b => exact fun _ _ _ _ _ _ us hl => match us, hl with | [_, _, _], _ => rfl
    case e27 =>
      refine' ⟨_, _, FL.df_mk KX G ?a ?l ?c ?k ?b⟩
      (case a => k_is); (case l => k_is); (case c => k_is); (case k => k_is)
      case b => exact fun _ _ _ _ _ _ us hl => match us, hl with | [_, _], _ => rfl
    case e28 =>
      refine' ⟨_, _, FL.df_mk KX G ?a ?l ?c ?k ?b⟩
      (case a => k_is); (case l => k_is); (case c => k_is); (case k => k_is)
      case b => exact fun _ _ _ _ _ _ us hl => match us, hl with | [_, _], _ => rfl
    case e29 =>
      refine' ⟨_, _, FL.df_mk KX G ?a ?l ?c ?k ?b⟩
      (case a => k_is); (case l => k_is); (case c => k_is); (case k => k_is)
      case b => exact fun _ _ _ _ _ _ us hl => match us, hl with | [_, _], _ => rfl
    case e30 =>
      refine' ⟨_, _, FL.df_mk KX G ?a ?l ?c ?k ?b⟩
      (case a => k_is); (case l => k_is); (case c => k_is); (case k => k_is)
      case b => exact fun _ _ _ _ _ _ us hl => match us, hl with | [_, _, _, _], _ => rfl
    case e31 =>
      refine' ⟨_, _, FL.df_mk KX G ?a ?l ?c ?k ?b⟩
      (case a => k_is); (case l => k_is); (case c => k_is); (case k => k_is)
      case b => exact fun _ _ _ _ _ _ us hl => match us, hl with | [_], _ => rfl
    case e32 =>
      refine' ⟨_, _, FL.df_mk KX G ?a ?l ?c ?k ?b⟩
      (case a => k_is); (case l => k_is); (case c => k_is); (case k => k_is)
      case b => exact fun _ _ _ _ _ _ us hl => match us, hl with | [_], _ => rfl
    case z_abs => k_is
    case z_all => k_is
    case z_bool => k_is
    case z_int => k_is
    case z_isinstance => k_is
    case z_len => k_is
    case z_max => k_is
    case z_min => k_is
    case z_range => k_is
    case z_set => k_is
    case z_sorted => k_is
    case z_str => k_is
    case z_tuple => k_is


