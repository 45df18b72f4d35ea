import PyProof.Rows.All
import Wide.All
import OpenK.AllK
import KE.KDictZip
import HandS.Zip
import HandS.Conv
import HandS.Star
import HandS.Style
import HandS.TupAny
import Wide.FinOn
import KE.KStateDown
import KE.KStar
import HandS.ForExc
import HandS.Comp
import HandS.Iter
import HandS.TupMul
import HandS.Rev
import HandS.IsInst
import HandS.Defaults
import KE.GoesEnum
import Lean
import HandS.WordsExc
import HandS.Head0
import HandS.Head1
import HandS.Head2
import HandS.HeadEnd
import HandS.HeadHook1
import HandS.HeadHook2
import PySem.Challenge.RW_steerloops_k37_whole_responses
set_option Elab.async false
set_option linter.all false
set_option maxRecDepth 100000
set_option maxHeartbeats 4000000
/-! Zn: zip of many tuples. -/
namespace Y
open PySem
section
variable {prog : Program} {w : World} {A : Around} {E : Value → Shared → Prop} {s : Shared}
/-- a tuple of these values, as it is made -/
abbrev TupAt (h : Heap) (T : Nat) (vs : Array Value) : Prop := h.get? T = some { cls := .type "tuple", data := .seq vs }
abbrev ZipO (f0 f1 : Value) (TI TO : Nat) : Obj := { cls := .type "zip", dict := none, data := .fields #[f0, f1, .bool false, .ref TI, .ref TO], slots := #[] }
/-- the iterators b, b+1 .. over the tuples ls, each at k -/
def ItsAt (h : Heap) (b : Nat) (ls : List Nat) (cols : Nat → Array Value) (k : Nat → Nat) : Prop := ∀ (j l : Nat), ls[j]? = some l → h.IsTupleIter (b + j) l (k j) ∧ h.IsTuple l (cols j)
theorem na {a c : Nat} (h : a < c ∨ c < a) : a ≠ c := by omega
structure ZnA (s0 : Heap) (b : Nat) (ls : List Nat) (cols : Nat → Array Value) (row : Nat → Value) (j : Nat) (h : Heap) : Prop where
  z : h.get? (b + ls.length + 2) = some (ZipO .ellipsis (.bool false) (b + ls.length) (b + ls.length + 1))
  to : ∃ a : Array Value, TupAt h (b + ls.length + 1) a ∧ a.size = ls.length ∧ ∀ i, i < j → a[i]? = some (row i)
  it : ItsAt h b ls cols fun i => if i < j then 1 else 0
  sz : h.objs.size = s0.objs.size
  kp : ∀ (c : Nat) (o : Obj), (c < b ∨ c = b + ls.length ∨ b + ls.length + 2 < c) → s0.get? c = some o → h.get? c = some o
/-- one iterator is moved on: the others and their tuples stay -/
theorem its_move {b j : Nat} {ls : List Nat} {cols : Nat → Array Value} {k : Nat → Nat} {h h' : Heap} {l : Nat} (hl : ∀ l ∈ ls, l < b) (I : ItsAt h b ls cols k) (hj : ls[j]? = some l) (h1 : h'.IsTupleIter (b + j) l (k j + 1)) (hs : Heap.ExtBut (b + j) h h') :
    ItsAt h' b ls cols fun i => if i = j then k i + 1 else k i := fun i m hm => by
  obtain ⟨i1, i2⟩ := I i m hm
  have lm := hl m (List.mem_of_getElem? hm)
  refine ⟨?_, i2.extBut hs (na (by omega))⟩
  show h'.IsTupleIter (b + i) m (if i = j then k i + 1 else k i)
  by_cases e : i = j
  · subst e
    rw [hj] at hm
    cases hm
    rw [if_pos rfl]; exact h1
  · rw [if_neg e]
    exact i1.extBut hs (na (by omega))
theorem its_keep {b a : Nat} {ls : List Nat} {cols : Nat → Array Value} {k : Nat → Nat} {h h' : Heap} (hl : ∀ l ∈ ls, l < b) (I : ItsAt h b ls cols k) (hs : Heap.ExtBut a h h') (ha : b + ls.length ≤ a) : ItsAt h' b ls cols k := fun i m hm => by
  obtain ⟨i1, i2⟩ := I i m hm
  have lm := hl m (List.mem_of_getElem? hm)
  have li := (List.getElem?_eq_some_iff.mp hm).1
  exact ⟨i1.extBut hs (na (by omega)), i2.extBut hs (na (by omega))⟩
theorem ref_zip {b n j : Nat} (hj : j < n) : ((List.range n).map fun j => Value.ref (b + j)).zipIdx.drop j = (Value.ref (b + j), j) :: ((List.range n).map fun j => Value.ref (b + j)).zipIdx.drop (j + 1) := by
  rw [List.drop_eq_getElem_cons (by simpa using hj)]
  simp
theorem its_step {b j : Nat} {ls : List Nat} {cols : Nat → Array Value} {k : Nat} {h h' : Heap} {l : Nat} (hl : ∀ l ∈ ls, l < b) (I : ItsAt h b ls cols fun i => if i < j then k + 1 else k) (hj : ls[j]? = some l) (h1 : h'.IsTupleIter (b + j) l (k + 1)) (hs : Heap.ExtBut (b + j) h h') :
    ItsAt h' b ls cols fun i => if i < j + 1 then k + 1 else k := by
  have k1 : ItsAt h' b ls cols _ := its_move hl I hj (by
    show h'.IsTupleIter (b + j) l ((if j < j then k + 1 else k) + 1)
    rw [if_neg (Nat.lt_irrefl j)]; exact h1) hs
  have kf : (fun i => if i = j then (if i < j then k + 1 else k) + 1 else (if i < j then k + 1 else k)) = fun i : Nat => if i < j + 1 then k + 1 else k := funext fun i => by
    by_cases h1 : i = j
    · rw [if_pos h1, if_neg (by omega), if_pos (by omega)]
    · by_cases h2 : i < j
      · rw [if_neg h1, if_pos h2, if_pos (by omega)]
      · rw [if_neg h1, if_neg h2, if_neg (by omega)]
  rw [kf] at k1
  exact k1
theorem its_all {b : Nat} {ls : List Nat} {cols : Nat → Array Value} {k : Nat} {h h' : Heap} (hl : ∀ l ∈ ls, l < b) (I : ItsAt h b ls cols fun i => if i < ls.length then k + 1 else k) (up : ∀ (c : Nat) (o : Obj), c < b + ls.length → h.get? c = some o → h'.get? c = some o) : ItsAt h' b ls cols fun _ => k + 1 := fun i m hm => by
  have li := (List.getElem?_eq_some_iff.mp hm).1
  have lm := hl m (List.mem_of_getElem? hm)
  obtain ⟨⟨o, ho, r⟩, i2⟩ := I i m hm
  dsimp only at r
  rw [if_pos li] at r
  obtain ⟨o2, ho2, r2⟩ := i2
  exact ⟨⟨o, up _ o (by omega) ho, r⟩, o2, up _ o2 (by omega) ho2, r2⟩
theorem ref_drop {b n j : Nat} (hj : j < n) : ((List.range n).map fun j => Value.ref (b + j)).drop j = Value.ref (b + j) :: ((List.range n).map fun j => Value.ref (b + j)).drop (j + 1) := by
  rw [List.drop_eq_getElem_cons (by simpa using hj)]
  simp
structure ZnB (s0 : Heap) (b : Nat) (ls : List Nat) (cols : Nat → Array Value) (T k j : Nat) (h : Heap) : Prop where
  z : h.get? (b + ls.length + 2) = some (ZipO (rawInt T) (.bool true) (b + ls.length) (b + ls.length + 1))
  it : ItsAt h b ls cols fun i => if i < j then k + 1 else k
  sz : h.objs.size = s0.objs.size
  kp : ∀ (c : Nat) (o : Obj), (c < b ∨ c = b + ls.length ∨ b + ls.length + 2 < c) → s0.get? c = some o → h.get? c = some o
theorem upd_seq {T k : Nat} {a : Array Value} {x : Value} {Q : Unit → Shared → Prop} (hT : TupAt s.heap T a) (hz : a.size ≤ 1000) (h : ∀ h', TupAt h' T (a.setIfInBounds k x) → Heap.SameBut T s.heap h' → Q () { s with heap := h' }) :
    wpAny (model prog w) A (updateSeq T (·.setIfInBounds k x)) Q E s := by
  refine wpAny_updateSeq hT rfl (h _ ?_ (Heap.SameBut.update ..)) (by rw [sizeLine_eq]; omega) (by rw [Array.size_setIfInBounds, sizeLine_eq]; omega)
  rw [TupAt, Heap.get?_update_self _ hT rfl]
  simp [Obj.mapSeq]
theorem zn_first {b : Nat} {ls : List Nat} {cols : Nat → Array Value} {a : Array Value} {row : Nat → Value} {Q : Value → Shared → Prop} (hn : ls ≠ [])
    (hz : s.heap.get? (b + ls.length + 2) = some (ZipO .none (.bool false) (b + ls.length) (b + ls.length + 1))) (hTI : TupAt s.heap (b + ls.length) ((List.range ls.length).map fun j => Value.ref (b + j)).toArray)
    (hTO : TupAt s.heap (b + ls.length + 1) a) (ha : a.size = ls.length) (hI : ItsAt s.heap b ls cols fun _ => 0) (hr : ∀ j, j < ls.length → (cols j)[0]? = some (row j)) (hl : ∀ l ∈ ls, l < b)
    (hQ : ∀ h', h'.get? (b + ls.length + 2) = some (ZipO (rawInt s.heap.objs.size) (.bool false) (b + ls.length) (b + ls.length + 1)) → ItsAt h' b ls cols (fun _ => 1) → TupAt h' s.heap.objs.size ((List.range ls.length).map row).toArray → h'.objs.size = s.heap.objs.size + 1 →
      (∀ (c : Nat) (o : Obj), (c < b ∨ c = b + ls.length ∨ b + ls.length + 2 < c) → s.heap.get? c = some o → h'.get? c = some o) → Q (.ref s.heap.objs.size) { s with heap := h' }) (hsz : ls.length ≤ 1000) :
    wpAny (model prog w) A (Builtin.«zip.__next__» ⟨[.ref (b + ls.length + 2)], []⟩) (fun fin s' => ∃ v, fin = .done (.ret v) ∧ Q v s') E s := by
  show wpAny _ _ (field (.ref _) 2 >>= _) _ _ _
  refine wpAny_bind (wpAny_field hz rfl (x := .bool false) rfl ?_)
  show wpAny _ _ (field (.ref _) 3 >>= _) _ _ _
  refine wpAny_bind (wpAny_field hz rfl (x := .ref (b + ls.length)) rfl ?_)
  refine wpAny_bind (wpAny_seqItems hTI rfl ?_)
  dsimp only
  have hie : ((List.range ls.length).map fun j => Value.ref (b + j)).toArray.isEmpty = false := by
    cases ls with
    | nil => exact absurd rfl hn
    | cons l ls => simp
  rw [hie]
  simp only [Bool.false_eq_true, if_false]
  refine wpAny_bind ?_
  unfold Builtin.SmallTypes.ownedTupleIsFree
  refine wpAny_bind (wpAny_field hz rfl (x := .none) rfl (wpAny_pure ?_))
  simp only [if_true]
  refine wpAny_bind (wpAny_rule ?_)
  refine wpAny_bind (wpAny_field hz rfl (x := .ref (b + ls.length + 1)) rfl ?_)
  dsimp only
  refine wpAny_bind (wpAny_setField_rec hz (by simp) fun h₁ hz₁ hs₁ => ?_)
  replace hz₁ : h₁.get? (b + ls.length + 2) = some (ZipO .ellipsis (.bool false) (b + ls.length) (b + ls.length + 1)) := hz₁
  have J0 : ZnA s.heap b ls cols row 0 h₁ := ⟨hz₁, ⟨a, hs₁.extBut _ _ (na (by omega)) hTO, ha, fun i hi => absurd hi (Nat.not_lt_zero _)⟩, its_keep hl hI hs₁.extBut (by omega), hs₁.1, fun c o hc e => hs₁.extBut _ _ (na (by omega)) e⟩
  refine wpAny_bind (wpAny_forIn_list _ (fun rest st s' => st = (none, ()) ∧ ∃ j h', j ≤ ls.length ∧ rest = ((List.range ls.length).map fun j => Value.ref (b + j)).zipIdx.drop j ∧ s' = { s with heap := h' } ∧ ZnA s.heap b ls cols row j h') _ (fun x rest st s' ⟨e1, j, h₂, hj, e2, e3, J⟩ => ?_) (fun st s' ⟨e1, j, h₂, hj, e2, e3, J⟩ => ?_) _ _ ⟨rfl, 0, h₁, Nat.zero_le _, rfl, rfl, J0⟩)
  · subst e1 e3
    have hj2 : j < ls.length := by
      refine Classical.byContradiction fun hn => ?_
      rw [List.drop_eq_nil_of_le (by simp; omega)] at e2
      cases e2
    rw [ref_zip hj2] at e2
    cases e2
    obtain ⟨l, hlj⟩ : ∃ l, ls[j]? = some l := ⟨ls[j], List.getElem?_eq_getElem hj2⟩
    obtain ⟨i1, i2⟩ := J.it j l hlj
    have i1 : h₂.IsTupleIter (b + j) l (if j < j then 1 else 0) := i1
    rw [if_neg (Nat.lt_irrefl j)] at i1
    obtain ⟨a2, t1, t2, t3⟩ := J.to
    refine wpAny_bind (wpAny_onRaise ?_)
    show wpAny _ _ (Builtin.SmallTypes.nextOf (.ref (b + j)) >>= _) _ _ _
    refine wpAny_bind (RZ.nextOf_tuple_item i1 i2 (hr j hj2) fun h₃ i3 hs₃ => wpAny_pure ?_)
    have t4 : TupAt h₃ (b + ls.length + 1) a2 := hs₃.extBut _ _ (na (by omega)) t1
    dsimp only
    refine wpAny_bind (wpAny_seqItems t4 rfl ?_)
    dsimp only
    refine wpAny_bind (upd_seq t4 (by omega) fun h₄ t5 hs₄ => ?_)
    refine wpAny_bind (wpAny_letGo (wpAny_pure ?_))
    have k1 : ItsAt h₃ b ls cols _ := its_move hl J.it hlj (by
      show h₃.IsTupleIter (b + j) l ((if j < j then 1 else 0) + 1)
      rw [if_neg (Nat.lt_irrefl j)]; exact i3) hs₃.extBut
    have k2 := its_keep hl k1 hs₄.extBut (by omega)
    have kf : (fun i => if i = j then (if i < j then 1 else 0) + 1 else (if i < j then 1 else 0)) = fun i : Nat => if i < j + 1 then 1 else 0 := funext fun i => by
      by_cases h1 : i = j
      · rw [if_pos h1, if_neg (by omega), if_pos (by omega)]
      · by_cases h2 : i < j
        · rw [if_neg h1, if_pos h2, if_pos (by omega)]
        · rw [if_neg h1, if_neg h2, if_neg (by omega)]
    rw [kf] at k2
    refine ⟨rfl, j + 1, h₄, by omega, rfl, rfl, ⟨hs₄.extBut _ _ (na (by omega)) (hs₃.extBut _ _ (na (by omega)) J.z), ⟨_, t5, by rw [Array.size_setIfInBounds, t2], fun i hi => ?_⟩, k2, by rw [hs₄.1, hs₃.1]; exact J.sz, fun c o hc e => hs₄.extBut _ _ (na (by omega)) (hs₃.extBut _ _ (na (by omega)) (J.kp c o hc e))⟩⟩
    by_cases h1 : i = j
    · rw [h1, Array.getElem?_setIfInBounds_self, if_pos (by omega)]
    · rw [Array.getElem?_setIfInBounds_ne (by omega)]
      exact t3 i (by omega)
  · subst e1 e3
    have hjn : j = ls.length := by
      have := congrArg List.length e2
      simp at this
      omega
    subst hjn
    obtain ⟨a2, t1, t2, t3⟩ := J.to
    have ea : a2 = ((List.range ls.length).map row).toArray := by
      refine Array.ext_getElem? fun i => ?_
      by_cases hi : i < ls.length
      · rw [t3 i hi]
        simp [hi]
      · rw [Array.getElem?_eq_none (by omega), Array.getElem?_eq_none (by simp; omega)]
    subst ea
    dsimp only
    refine wpAny_bind (wpAny_seqItems t1 rfl ?_)
    dsimp only
    refine wpAny_bind (wpAny_newTuple ?_)
    dsimp only
    refine wpAny_bind ?_
    unfold Builtin.SmallTypes.ownedTupleHandOut
    dsimp only
    have hz₆ := Heap.get?_push_of_some { cls := .type "tuple", data := .seq ((List.range ls.length).map row).toArray } J.z
    have hT₆ : TupAt (h₂.push { cls := .type "tuple", data := .seq ((List.range ls.length).map row).toArray }) h₂.objs.size ((List.range ls.length).map row).toArray := Heap.get?_push_size _ rfl
    have zlt := Heap.lt_size J.z
    refine wpAny_bind (wpAny_setField_rec hz₆ (by simp) fun h₇ hz₇ hs₇ => ?_)
    replace hz₇ : h₇.get? (b + ls.length + 2) = some (ZipO (rawInt h₂.objs.size) (.bool false) (b + ls.length) (b + ls.length + 1)) := hz₇
    refine wpAny_setField_rec hz₇ (by simp) fun h₈ hz₈ hs₈ => ?_
    replace hz₈ : h₈.get? (b + ls.length + 2) = some (ZipO (rawInt h₂.objs.size) (.bool false) (b + ls.length) (b + ls.length + 1)) := hz₈
    have up : ∀ (c : Nat) (o : Obj), c ≠ b + ls.length + 2 → h₂.get? c = some o → h₈.get? c = some o := fun c o c1 e => hs₈.extBut _ _ c1 (hs₇.extBut _ _ c1 (Heap.get?_push_of_some _ e))
    have t8 : TupAt h₈ h₂.objs.size ((List.range ls.length).map row).toArray := hs₈.extBut _ _ (Nat.ne_of_gt zlt) (hs₇.extBut _ _ (Nat.ne_of_gt zlt) hT₆)
    have s8 : h₈.objs.size = h₂.objs.size + 1 := by rw [hs₈.1, hs₇.1, Heap.size_push]
    refine wpAny_pure ⟨_, rfl, ?_⟩
    rw [J.sz] at hz₈ t8 s8 ⊢
    refine hQ h₈ hz₈ (fun i m hm => ?_) t8 s8 fun c o hc e => up c o (by omega) (J.kp c o hc e)
    have li := (List.getElem?_eq_some_iff.mp hm).1
    have lm := hl m (List.mem_of_getElem? hm)
    obtain ⟨⟨o, ho, r⟩, i2⟩ := J.it i m hm
    dsimp only at r
    rw [if_pos li] at r
    obtain ⟨o2, ho2, r2⟩ := i2
    exact ⟨⟨o, up _ o (by omega) ho, r⟩, o2, up _ o2 (by omega) ho2, r2⟩
theorem zn_later {b T k : Nat} {f : Bool} {oT : Obj} {ls : List Nat} {cols : Nat → Array Value} {row : Nat → Value} {Q : Value → Shared → Prop} (hn : ls ≠ [])
    (hz : s.heap.get? (b + ls.length + 2) = some (ZipO (rawInt T) (.bool f) (b + ls.length) (b + ls.length + 1))) (hT : s.heap.get? T = some oT) (hTI : TupAt s.heap (b + ls.length) ((List.range ls.length).map fun j => Value.ref (b + j)).toArray)
    (hI : ItsAt s.heap b ls cols fun _ => k) (hr : ∀ j, j < ls.length → (cols j)[k]? = some (row j)) (hl : ∀ l ∈ ls, l < b)
    (hQ : ∀ h', h'.get? (b + ls.length + 2) = some (ZipO (rawInt T) (.bool true) (b + ls.length) (b + ls.length + 1)) → ItsAt h' b ls cols (fun _ => k + 1) → TupAt h' s.heap.objs.size ((List.range ls.length).map row).toArray → h'.objs.size = s.heap.objs.size + 1 →
      (∀ (c : Nat) (o : Obj), (c < b ∨ c = b + ls.length ∨ b + ls.length + 2 < c) → s.heap.get? c = some o → h'.get? c = some o) → Q (.ref s.heap.objs.size) { s with heap := h' }) (hsz : ls.length ≤ 1000) :
    wpAny (model prog w) A (Builtin.«zip.__next__» ⟨[.ref (b + ls.length + 2)], []⟩) (fun fin s' => ∃ v, fin = .done (.ret v) ∧ Q v s') E s := by
  show wpAny _ _ (field (.ref _) 2 >>= _) _ _ _
  refine wpAny_bind (wpAny_field hz rfl (x := .bool false) rfl ?_)
  show wpAny _ _ (field (.ref _) 3 >>= _) _ _ _
  refine wpAny_bind (wpAny_field hz rfl (x := .ref (b + ls.length)) rfl ?_)
  refine wpAny_bind (wpAny_seqItems hTI rfl ?_)
  dsimp only
  have hie : ((List.range ls.length).map fun j => Value.ref (b + j)).toArray.isEmpty = false := by
    cases ls with
    | nil => exact absurd rfl hn
    | cons l ls => simp
  rw [hie]
  simp only [Bool.false_eq_true, if_false]
  refine wpAny_bind (wpAny_tupleHeld_zip (TI := b + ls.length) (TO := b + ls.length + 1) hz hT fun h₁ hz₁ hs₁ => ?_)
  simp only [Bool.false_eq_true, if_false]
  rw [← Array.forIn_toList, List.toList_toArray]
  have J0 : ZnB s.heap b ls cols T k 0 h₁ := ⟨hz₁, its_keep hl hI hs₁.extBut (by omega), hs₁.1, fun c o hc e => hs₁.extBut _ _ (na (by omega)) e⟩
  refine wpAny_bind (wpAny_forIn_list _ (fun rest st s' => ∃ j h', j ≤ ls.length ∧ rest = ((List.range ls.length).map fun j => Value.ref (b + j)).drop j ∧ st = (none, ((List.range j).map row).toArray) ∧ s' = { s with heap := h' } ∧ ZnB s.heap b ls cols T k j h') _ (fun x rest st s' ⟨j, h₂, hj, e2, e1, e3, J⟩ => ?_) (fun st s' ⟨j, h₂, hj, e2, e1, e3, J⟩ => ?_) _ _ ⟨0, h₁, Nat.zero_le _, rfl, rfl, rfl, J0⟩)
  · subst e1 e3
    have hj2 : j < ls.length := by
      refine Classical.byContradiction fun hn => ?_
      rw [List.drop_eq_nil_of_le (by simp; omega)] at e2
      cases e2
    rw [ref_drop hj2] at e2
    cases e2
    obtain ⟨l, hlj⟩ : ∃ l, ls[j]? = some l := ⟨ls[j], List.getElem?_eq_getElem hj2⟩
    obtain ⟨i1, i2⟩ := J.it j l hlj
    have i1 : h₂.IsTupleIter (b + j) l (if j < j then k + 1 else k) := i1
    rw [if_neg (Nat.lt_irrefl j)] at i1
    refine wpAny_bind (wpAny_holding ?_)
    show wpAny _ _ (Builtin.SmallTypes.nextOf (.ref (b + j)) >>= _) _ _ _
    refine wpAny_bind (RZ.nextOf_tuple_item i1 i2 (hr j hj2) fun h₃ i3 hs₃ => wpAny_pure ?_)
    refine wpAny_pure ⟨j + 1, h₃, by omega, rfl, ?_, rfl, ⟨hs₃.extBut _ _ (na (by omega)) J.z, its_step hl J.it hlj i3 hs₃.extBut, by rw [hs₃.1]; exact J.sz, fun c o hc e => hs₃.extBut _ _ (na (by omega)) (J.kp c o hc e)⟩⟩
    rw [List.range_succ, List.map_append]
    simp
  · subst e1 e3
    have hjn : j = ls.length := by
      have := congrArg List.length e2
      simp at this
      omega
    subst hjn
    dsimp only
    refine wpAny_bind (wpAny_newTuple ?_ (by simp; rw [sizeLine_eq]; omega))
    refine wpAny_pure ⟨_, rfl, ?_⟩
    have sz := J.sz
    show Q (.ref h₂.objs.size) _
    have t : TupAt (h₂.push { cls := .type "tuple", data := .seq ((List.range ls.length).map row).toArray.toList.toArray }) h₂.objs.size ((List.range ls.length).map row).toArray := Heap.get?_push_size _ rfl
    have s8 : (h₂.push { cls := .type "tuple", data := .seq ((List.range ls.length).map row).toArray.toList.toArray }).objs.size = h₂.objs.size + 1 := Heap.size_push ..
    rw [sz] at t s8 ⊢
    exact hQ _ (Heap.get?_push_of_some _ J.z) (its_all hl J.it fun c o _ e => Heap.get?_push_of_some _ e) t s8 fun c o hc e => Heap.get?_push_of_some _ (J.kp c o hc e)
/-- the end: the first has no more -/
theorem zn_end {b T k : Nat} {f : Bool} {oT : Obj} {ls : List Nat} {cols : Nat → Array Value} {Q : Fin → Shared → Prop} (hh : A.handled = none) (hn : ls ≠ [])
    (hz : s.heap.get? (b + ls.length + 2) = some (ZipO (rawInt T) (.bool f) (b + ls.length) (b + ls.length + 1))) (hT : s.heap.get? T = some oT) (hTI : TupAt s.heap (b + ls.length) ((List.range ls.length).map fun j => Value.ref (b + j)).toArray)
    (hI : ItsAt s.heap b ls cols fun _ => k) (hr : (cols 0)[k]? = none) (hl : ∀ l ∈ ls, l < b)
    (hE : ∀ h' e, (∀ (c : Nat) (o : Obj), (c < b ∨ c = b + ls.length ∨ b + ls.length + 2 < c) → s.heap.get? c = some o → h'.get? c = some o) → (∃ o, h'.get? e = some o ∧ o.cls = .type "StopIteration") → E (.ref e) { s with heap := h' }) :
    wpAny (model prog w) A (Builtin.«zip.__next__» ⟨[.ref (b + ls.length + 2)], []⟩) Q E s := by
  show wpAny _ _ (field (.ref _) 2 >>= _) _ _ _
  refine wpAny_bind (wpAny_field hz rfl (x := .bool false) rfl ?_)
  show wpAny _ _ (field (.ref _) 3 >>= _) _ _ _
  refine wpAny_bind (wpAny_field hz rfl (x := .ref (b + ls.length)) rfl ?_)
  refine wpAny_bind (wpAny_seqItems hTI rfl ?_)
  dsimp only
  have hie : ((List.range ls.length).map fun j => Value.ref (b + j)).toArray.isEmpty = false := by
    cases ls with
    | nil => exact absurd rfl hn
    | cons l ls => simp
  rw [hie]
  simp only [Bool.false_eq_true, if_false]
  refine wpAny_bind (wpAny_tupleHeld_zip (TI := b + ls.length) (TO := b + ls.length + 1) hz hT fun h₁ hz₁ hs₁ => ?_)
  simp only [Bool.false_eq_true, if_false]
  rw [← Array.forIn_toList, List.toList_toArray]
  obtain ⟨l, lr, rfl⟩ : ∃ l lr, ls = l :: lr := by
    cases ls with
    | nil => exact absurd rfl hn
    | cons l lr => exact ⟨l, lr, rfl⟩
  have er : ((List.range (l :: lr).length).map fun j => Value.ref (b + j)) = Value.ref (b + 0) :: ((List.range (l :: lr).length).map fun j => Value.ref (b + j)).drop 1 := ref_drop (j := 0) (Nat.succ_pos _)
  have k1 := its_keep hl hI hs₁.extBut (by omega)
  obtain ⟨i1, i2⟩ := k1 0 l rfl
  rw [er, List.forIn_cons]
  refine wpAny_bind (wpAny_bind (wpAny_bind (wpAny_holding ?_)))
  show wpAny _ _ (Builtin.SmallTypes.nextOf (.ref (b + 0)) >>= _) _ _ _
  refine wpAny_bind (RZ.nextOf_tuple_end hh i1 i2 hr fun h₂ e hs₂ he => ?_)
  have lm := hl l List.mem_cons_self
  exact hE h₂ e (fun c o hc x => hs₂ _ _ (na (by simp at hc ⊢; omega)) (hs₁.extBut _ _ (na (by omega)) x)) he
end
end Y

set_option Elab.async false
set_option linter.all false
set_option maxRecDepth 100000
set_option maxHeartbeats 4000000
/-! Zn2: zip(*rows) begins; tuple(zip(*rows)). -/
namespace Y
open PySem
theorem zn_tc (vs : List Value) : checkTypeCall "zip" ⟨vs, []⟩ = pure () := by kernel_rfl
theorem zn_nc : ∀ (vs : List Value), 1 ≤ vs.length → vs.length ≤ 12 → checkBuiltinCall "zip.__new__" ⟨.type "zip" :: vs, []⟩ = pure ()
  | [], h, _ => absurd h (by decide)
  | [x0], _, _ => by kernel_rfl
  | [x0, x1], _, _ => by kernel_rfl
  | [x0, x1, x2], _, _ => by kernel_rfl
  | [x0, x1, x2, x3], _, _ => by kernel_rfl
  | [x0, x1, x2, x3, x4], _, _ => by kernel_rfl
  | [x0, x1, x2, x3, x4, x5], _, _ => by kernel_rfl
  | [x0, x1, x2, x3, x4, x5, x6], _, _ => by kernel_rfl
  | [x0, x1, x2, x3, x4, x5, x6, x7], _, _ => by kernel_rfl
  | [x0, x1, x2, x3, x4, x5, x6, x7, x8], _, _ => by kernel_rfl
  | [x0, x1, x2, x3, x4, x5, x6, x7, x8, x9], _, _ => by kernel_rfl
  | [x0, x1, x2, x3, x4, x5, x6, x7, x8, x9, x10], _, _ => by kernel_rfl
  | [x0, x1, x2, x3, x4, x5, x6, x7, x8, x9, x10, x11], _, _ => by kernel_rfl
  | x0 :: x1 :: x2 :: x3 :: x4 :: x5 :: x6 :: x7 :: x8 :: x9 :: x10 :: x11 :: x12 :: r, _, h => by simp at h
theorem zn_oi (o : Value) : ∀ (vs : List Value), 1 ≤ vs.length → vs.length ≤ 12 → argsOk "object.__init__" ⟨o :: vs, []⟩
  | [], h, _ => absurd h (by decide)
  | [x0], _, _ => by unfold argsOk; kernel_rfl
  | [x0, x1], _, _ => by unfold argsOk; kernel_rfl
  | [x0, x1, x2], _, _ => by unfold argsOk; kernel_rfl
  | [x0, x1, x2, x3], _, _ => by unfold argsOk; kernel_rfl
  | [x0, x1, x2, x3, x4], _, _ => by unfold argsOk; kernel_rfl
  | [x0, x1, x2, x3, x4, x5], _, _ => by unfold argsOk; kernel_rfl
  | [x0, x1, x2, x3, x4, x5, x6], _, _ => by unfold argsOk; kernel_rfl
  | [x0, x1, x2, x3, x4, x5, x6, x7], _, _ => by unfold argsOk; kernel_rfl
  | [x0, x1, x2, x3, x4, x5, x6, x7, x8], _, _ => by unfold argsOk; kernel_rfl
  | [x0, x1, x2, x3, x4, x5, x6, x7, x8, x9], _, _ => by unfold argsOk; kernel_rfl
  | [x0, x1, x2, x3, x4, x5, x6, x7, x8, x9, x10], _, _ => by unfold argsOk; kernel_rfl
  | [x0, x1, x2, x3, x4, x5, x6, x7, x8, x9, x10, x11], _, _ => by unfold argsOk; kernel_rfl
  | x0 :: x1 :: x2 :: x3 :: x4 :: x5 :: x6 :: x7 :: x8 :: x9 :: x10 :: x11 :: x12 :: r, _, h => by simp at h
/-- the iterators are made -/
def itH (h : Heap) (ls : List Nat) : Nat → Heap
  | 0 => h
  | j + 1 => (itH h ls j).push { cls := .type "tuple_iterator", data := .fields #[.ref (ls.getD j 0), .int 0 0] }
theorem itH_size (h : Heap) (ls : List Nat) : ∀ j, (itH h ls j).objs.size = h.objs.size + j
  | 0 => rfl
  | j + 1 => by
    show (Heap.push _ _).objs.size = _
    rw [Heap.size_push, itH_size h ls j]; omega
theorem itH_old {h : Heap} {ls : List Nat} {c : Nat} {o : Obj} (e : h.get? c = some o) : ∀ j, (itH h ls j).get? c = some o
  | 0 => e
  | j + 1 => Heap.get?_push_of_some _ (itH_old e j)
theorem itH_new {h : Heap} {ls : List Nat} {i : Nat} : ∀ {j : Nat}, i < j → (itH h ls j).get? (h.objs.size + i) = some { cls := .type "tuple_iterator", data := .fields #[.ref (ls.getD i 0), .int 0 0] }
  | j + 1, hi => by
    by_cases e : i = j
    · subst e
      have := (show (Heap.push (itH h ls i) { cls := .type "tuple_iterator", data := .fields #[.ref (ls.getD i 0), .int 0 0] }).get? (itH h ls i).objs.size = some _ from Heap.get?_push_size _ rfl)
      rw [itH_size] at this
      exact this
    · exact Heap.get?_push_of_some _ (itH_new (by omega))
section
variable {prog : Program} {w : World} {A : Around} {E : Value → Shared → Prop} {s : Shared}
theorem iterAll_ok {ls : List Nat} {cols : Nat → Array Value} {Q : List Value → Shared → Prop} (ht : ∀ (j l : Nat), ls[j]? = some l → s.heap.IsTuple l (cols j))
    (hQ : Q ((List.range ls.length).map fun j => Value.ref (s.heap.objs.size + j)) { s with heap := itH s.heap ls ls.length }) :
    wpAny (model prog w) A (Builtin.SmallTypes.iterAll (ls.map .ref)) Q E s := by
  unfold Builtin.SmallTypes.iterAll
  refine wpAny_bind (wpAny_forIn_list _ (fun rest st s' => ∃ j, j ≤ ls.length ∧ rest = (ls.map Value.ref).drop j ∧ st = ((List.range j).map fun j => Value.ref (s.heap.objs.size + j)).toArray ∧ s' = { s with heap := itH s.heap ls j }) _ (fun x rest st s' ⟨j, hj, e1, e2, e3⟩ => ?_) (fun st s' ⟨j, hj, e1, e2, e3⟩ => ?_) _ _ ⟨0, Nat.zero_le _, rfl, rfl, rfl⟩)
  · subst e2 e3
    have hj2 : j < ls.length := by
      refine Classical.byContradiction fun hn => ?_
      rw [List.drop_eq_nil_of_le (by simp; omega)] at e1
      cases e1
    have e4 : (ls.map Value.ref).drop j = Value.ref (ls.getD j 0) :: (ls.map Value.ref).drop (j + 1) := by
      rw [List.drop_eq_getElem_cons (by simpa using hj2)]
      simp [hj2]
    rw [e4] at e1
    cases e1
    obtain ⟨o, ho, r⟩ := ht j (ls.getD j 0) (by simp [hj2])
    have t : (itH s.heap ls j).IsTuple (ls.getD j 0) (cols j) := ⟨o, itH_old ho j, r⟩
    refine wpAny_bind (wpAny_holding (wpAny_pyIter_tuple (s := { s with heap := itH s.heap ls j }) t ?_))
    refine wpAny_pure ⟨j + 1, by omega, rfl, ?_, rfl⟩
    rw [List.range_succ, List.map_append]
    show (Array.push _ (Value.ref (itH s.heap ls j).objs.size)) = _
    rw [itH_size]
    simp
  · subst e2 e3
    have hjn : j = ls.length := by
      have := congrArg List.length e1
      simp at this
      omega
    subst hjn
    exact wpAny_pure hQ
end
/-- the heap with the zip -/
abbrev znT (h : Heap) (ls : List Nat) : Heap := (itH h ls ls.length).push { cls := .type "tuple", data := .seq ((List.range ls.length).map fun j => Value.ref (h.objs.size + j)).toArray }
abbrev znO (h : Heap) (ls : List Nat) : Heap := (znT h ls).push { cls := .type "tuple", data := .seq (((List.range ls.length).map fun j => Value.ref (h.objs.size + j)).map fun _ => Value.none).toArray }
abbrev znZ (h : Heap) (ls : List Nat) : Heap := (znO h ls).push (ZipO .none (.bool false) (itH h ls ls.length).objs.size (znT h ls).objs.size)
theorem zn_new {ls : List Nat} {cols : Nat → Array Value} (hl : ls.length ≤ 1000) :
    Meets (Builtin.«zip.__new__» ⟨.type "zip" :: ls.map .ref, []⟩) (fun _ R s => (∀ (j l : Nat), ls[j]? = some l → s.heap.IsTuple l (cols j)) ∧ R (.ok (.ret (.ref (znO s.heap ls).objs.size))) { s with heap := znZ s.heap ls }) :=
  .of_wp fun prog w A R s h => by
    obtain ⟨hp, g, d, tk, os⟩ := s
    obtain ⟨h1, h⟩ := h
    have hsub := sub_zip
    have q : ∀ {A' : Around} {E : Value → Shared → Prop} {Q : List Value → Shared → Prop}, Q ((List.range ls.length).map fun j => Value.ref (hp.objs.size + j)) ⟨itH hp ls ls.length, g, d, tk, os⟩ → wpAny (model prog w) A' (Builtin.SmallTypes.iterAll (ls.map .ref)) Q E ⟨hp, g, d, tk, os⟩ :=
      fun q => iterAll_ok h1 q
    have q1 : ∀ {A' : Around} {E : Value → Shared → Prop} {Q : Value → Shared → Prop}, Q (.ref (itH hp ls ls.length).objs.size) ⟨znT hp ls, g, d, tk, os⟩ → wpAny (model prog w) A' (newTuple ((List.range ls.length).map fun j => Value.ref (hp.objs.size + j))) Q E ⟨itH hp ls ls.length, g, d, tk, os⟩ :=
      fun q => wpAny_newTuple q (by simp; rw [sizeLine_eq]; omega)
    have q2 : ∀ {A' : Around} {E : Value → Shared → Prop} {Q : Value → Shared → Prop}, Q (.ref (znT hp ls).objs.size) ⟨znO hp ls, g, d, tk, os⟩ → wpAny (model prog w) A' (newTuple (((List.range ls.length).map fun j => Value.ref (hp.objs.size + j)).map fun _ => Value.none)) Q E ⟨znT hp ls, g, d, tk, os⟩ :=
      fun q => wpAny_newTuple q (by simp; rw [sizeLine_eq]; omega)
    wp_walk using q, q1, q2
    exact ⟨_, rfl, h⟩
end Y

set_option Elab.async false
set_option linter.all false
set_option maxRecDepth 100000
set_option maxHeartbeats 4000000
/-! Zn3: tuple(zip(*rows)). -/
namespace Y
open PySem
theorem zn_no_len : typeLookup (.type "zip") (Str.ofString "__len__") = pure none := am_miss_of_fast (by decide +kernel)
theorem zn_no_hint : typeLookup (.type "zip") (Str.ofString "__length_hint__") = pure none := am_miss_of_fast (by decide +kernel)
structure ZSt (h : Heap) (b : Nat) (ls : List Nat) (cols : Nat → Array Value) (i : Nat) : Prop where
  z : (i = 0 ∧ h.get? (b + ls.length + 2) = some (ZipO .none (.bool false) (b + ls.length) (b + ls.length + 1)) ∧ ∃ a, TupAt h (b + ls.length + 1) a ∧ a.size = ls.length) ∨
    (0 < i ∧ ∃ (T : Nat) (f : Bool) (oT : Obj), h.get? (b + ls.length + 2) = some (ZipO (rawInt T) (.bool f) (b + ls.length) (b + ls.length + 1)) ∧ h.get? T = some oT ∧ b + ls.length + 2 < T)
  ti : TupAt h (b + ls.length) ((List.range ls.length).map fun j => Value.ref (b + j)).toArray
  it : ItsAt h b ls cols fun _ => i
def rowA (n : Nat) (cols : Nat → Array Value) (i : Nat) : Array Value := ((List.range n).map fun j => (cols j).getD i .none).toArray
section
variable {prog : Program} {w : World} {A : Around} {E : Value → Shared → Prop} {s : Shared} {b : Nat} {ls : List Nat} {cols : Nat → Array Value} {i m : Nat}
theorem call_zn {Q : Value → Shared → Prop} (ht : ∀ (j l : Nat), ls[j]? = some l → s.heap.IsTuple l (cols j)) (h1 : 1 ≤ ls.length) (h12 : ls.length ≤ 12)
    (hQ : ∀ h', ZSt h' s.heap.objs.size ls cols 0 → h'.objs.size = s.heap.objs.size + ls.length + 3 → (∀ (c : Nat) (o : Obj), s.heap.get? c = some o → h'.get? c = some o) → Q (.ref (s.heap.objs.size + ls.length + 2)) { s with heap := h' }) :
    wpAny (model prog w) A (call (.type "zip") (ls.map .ref)) Q E s := by
  refine callType_new F.called_zip (by decide) (zn_tc _) (zn_nc _ (by simpa using h1) (by simpa using h12)) (fun obj => zn_oi obj _ (by simpa using h1) (by simpa using h12)) F.entry_zip_new (zn_new (by omega)) ⟨ht, ?_⟩
  have z1 : (itH s.heap ls ls.length).objs.size = s.heap.objs.size + ls.length := itH_size _ _ _
  have z2 : (znT s.heap ls).objs.size = s.heap.objs.size + ls.length + 1 := by rw [Heap.size_push, z1]
  have z3 : (znO s.heap ls).objs.size = s.heap.objs.size + ls.length + 2 := by rw [Heap.size_push, z2]
  have z4 : (znZ s.heap ls).objs.size = s.heap.objs.size + ls.length + 3 := by rw [Heap.size_push, z3]
  have g3 : (znZ s.heap ls).get? (znO s.heap ls).objs.size = some (ZipO .none (.bool false) (itH s.heap ls ls.length).objs.size (znT s.heap ls).objs.size) := Heap.get?_push_size _ rfl
  have g2 : (znZ s.heap ls).get? (znT s.heap ls).objs.size = some _ := Heap.get?_push_of_some _ (Heap.get?_push_size _ rfl)
  have g1 : (znZ s.heap ls).get? (itH s.heap ls ls.length).objs.size = some _ := Heap.get?_push_of_some _ (Heap.get?_push_of_some _ (Heap.get?_push_size _ rfl))
  have up : ∀ {c : Nat} {o : Obj}, (itH s.heap ls ls.length).get? c = some o → (znZ s.heap ls).get? c = some o := fun e => Heap.get?_push_of_some _ (Heap.get?_push_of_some _ (Heap.get?_push_of_some _ e))
  rw [z1, z2, z3] at g3
  rw [z2] at g2
  rw [z1] at g1
  show _ ∧ _
  rw [z3]
  refine ⟨⟨_, g3, rfl⟩, hQ _ ⟨.inl ⟨rfl, g3, _, g2, by simp⟩, g1, fun j l hj => ⟨⟨_, up (itH_new (List.getElem?_eq_some_iff.mp hj).1), rfl, ?_⟩, ?_⟩⟩ z4 fun c o e => up (itH_old e _)⟩
  · have : ls.getD j 0 = l := by rw [List.getD_eq_getElem?_getD, hj]; rfl
    rw [this]; rfl
  · obtain ⟨o, ho, r⟩ := ht j l hj
    exact ⟨o, up (itH_old ho _), r⟩
theorem zn_next {Q : Option Value → Shared → Prop} (Z : ZSt s.heap b ls cols i) (h1 : 1 ≤ ls.length) (h12 : ls.length ≤ 12) (hl : ∀ l ∈ ls, l < b) (hr : ∀ j, j < ls.length → i < (cols j).size)
    (hQ : ∀ h', ZSt h' b ls cols (i + 1) → TupAt h' s.heap.objs.size (rowA ls.length cols i) → h'.objs.size = s.heap.objs.size + 1 →
      (∀ (c : Nat) (o : Obj), (c < b ∨ b + ls.length + 2 < c) → s.heap.get? c = some o → h'.get? c = some o) → Q (some (.ref s.heap.objs.size)) { s with heap := h' }) :
    wpAny (model prog w) A (pyNext (.ref (b + ls.length + 2))) Q E s := by
  have hn : ls ≠ [] := fun e => by rw [e] at h1; simp at h1
  have hr2 : ∀ j, j < ls.length → (cols j)[i]? = some ((cols j).getD i .none) := fun j hj => by
    have := hr j hj
    simp [this]
  have hTy : s.TypeIs (.ref (b + ls.length + 2)) "zip" := by
    rcases Z.z with ⟨_, hz, _⟩ | ⟨_, _, _, _, hz, _⟩ <;> exact ⟨_, hz, rfl⟩
  have zlt : b + ls.length + 2 < s.heap.objs.size := by
    rcases Z.z with ⟨_, hz, _⟩ | ⟨_, _, _, _, hz, _⟩ <;> exact Heap.lt_size hz
  unfold pyNext
  refine wpAny_bind (wpAny_attempt (wpAny_callSpecial?_slot (name := Str.ofString "__next__") hTy F.slot_zip_next
    (wpAny_call_entry F.slot_zip_next hTy F.entry_zip_next ?_ (F.args_zip_next_1 _))))
  have ti := Z.ti
  have it := Z.it
  rcases Z.z with ⟨i0, hz, a, ta, sa⟩ | ⟨i0, T, f, oT, hz, hT, hTb⟩
  · subst i0
    refine zn_first hn hz ti ta sa it hr2 hl (fun h' a1 a2 a3 a4 a5 => wpAny_pure (hQ h' ⟨.inr ⟨Nat.succ_pos _, _, _, _, a1, a3, zlt⟩, a5 _ _ (.inr (.inl rfl)) ti, a2⟩ a3 a4 fun c o hc e => a5 c o (by omega) e)) (by omega)
  · refine zn_later hn hz hT ti it hr2 hl (fun h' a1 a2 a3 a4 a5 => wpAny_pure (hQ h' ⟨.inr ⟨Nat.succ_pos _, _, _, _, a1, a5 _ _ (.inr (.inr hTb)) hT, hTb⟩, a5 _ _ (.inr (.inl rfl)) ti, a2⟩ a3 a4 fun c o hc e => a5 c o (by omega) e)) (by omega)
theorem zn_stop {Q : Option Value → Shared → Prop} (hh : A.handled = none) (Z : ZSt s.heap b ls cols i) (hi : 0 < i) (h1 : 1 ≤ ls.length) (hl : ∀ l ∈ ls, l < b) (hr : (cols 0).size ≤ i)
    (hQ : ∀ h', (∀ (c : Nat) (o : Obj), (c < b ∨ b + ls.length + 2 < c) → s.heap.get? c = some o → h'.get? c = some o) → Q none { s with heap := h' }) :
    wpAny (model prog w) A (pyNext (.ref (b + ls.length + 2))) Q E s := by
  have hn : ls ≠ [] := fun e => by rw [e] at h1; simp at h1
  obtain ⟨T, f, oT, hz, hT, hTb⟩ : ∃ (T : Nat) (f : Bool) (oT : Obj), s.heap.get? (b + ls.length + 2) = some (ZipO (rawInt T) (.bool f) (b + ls.length) (b + ls.length + 1)) ∧ s.heap.get? T = some oT ∧ b + ls.length + 2 < T := by
    rcases Z.z with ⟨i0, _⟩ | ⟨_, h⟩
    · omega
    · exact h
  have hTy : s.TypeIs (.ref (b + ls.length + 2)) "zip" := ⟨_, hz, rfl⟩
  unfold pyNext
  refine wpAny_bind (wpAny_attempt (wpAny_callSpecial?_slot (name := Str.ofString "__next__") hTy F.slot_zip_next
    (wpAny_call_entry F.slot_zip_next hTy F.entry_zip_next (zn_end hh hn hz hT Z.ti Z.it (Array.getElem?_eq_none hr) hl fun h' e hk he => ?_) (F.args_zip_next_1 _))))
  obtain ⟨o, ho, hc⟩ := he
  refine wpAny_bind (wpAny_isInstance (T := "StopIteration") (b := true) ⟨o, ho, hc⟩ isSubtype_stop ?_)
  exact wpAny_pure (hQ _ fun c o hc e => hk c o (by omega) e)
end
end Y

set_option Elab.async false
set_option linter.all false
set_option maxRecDepth 100000
set_option maxHeartbeats 4000000
/-! Zn4: tuple(zip(*rows)). -/
namespace Y
open PySem
/-- what was gathered: references to tuples with the columns -/
def Gath (h : Heap) (n b : Nat) (cols : Nat → Array Value) (S i : Nat) (acc : Array Value) : Prop := acc.size = i ∧ (∀ j, j < i → ∃ t : Nat, acc[j]? = some (.ref t) ∧ TupAt h t (rowA n cols j) ∧ b + n + 2 < t ∧ t ≠ S) ∧ ∀ (j k t : Nat), j < k → k < i → acc[j]? = some (.ref t) → acc[k]? = some (.ref t) → False
abbrev LstAt (h : Heap) (S : Nat) (acc : Array Value) (c : Nat) : Prop := h.get? S = some { cls := .type "list", dict := none, data := .seq acc c, slots := #[] }
section
variable {prog : Program} {w : World} {A : Around} {E : Value → Shared → Prop} {s : Shared} {b : Nat} {ls : List Nat} {cols : Nat → Array Value} {m : Nat}
theorem ZSt.keep {h h' : Heap} {i S : Nat} (Z : ZSt h b ls cols i) (hl : ∀ l ∈ ls, l < b) (hS : b + ls.length + 2 < S) (k : ∀ (c : Nat) (o : Obj), c ≠ S → h.get? c = some o → h'.get? c = some o) (kS : ∀ o, h.get? S = some o → ∃ o', h'.get? S = some o') : ZSt h' b ls cols i := by
  refine ⟨?_, k _ _ (by omega) Z.ti, fun j l hj => ?_⟩
  · rcases Z.z with ⟨i0, hz, a, ta, sa⟩ | ⟨i0, T, f, oT, hz, hT, hTb⟩
    · exact .inl ⟨i0, k _ _ (by omega) hz, a, k _ _ (by omega) ta, sa⟩
    · by_cases e : T = S
      · subst e
        obtain ⟨o', ho'⟩ := kS _ hT
        exact .inr ⟨i0, T, f, o', k _ _ (by omega) hz, ho', hTb⟩
      · exact .inr ⟨i0, T, f, oT, k _ _ (by omega) hz, k _ _ e hT, hTb⟩
  · have li := (List.getElem?_eq_some_iff.mp hj).1
    have lm := hl l (List.mem_of_getElem? hj)
    obtain ⟨⟨o, ho, r⟩, o2, ho2, r2⟩ := Z.it j l hj
    exact ⟨⟨o, k _ _ (by omega) ho, r⟩, o2, k _ _ (by omega) ho2, r2⟩
theorem zn_loop {R : Result → Shared → Prop} (hh : A.handled = none) (h1 : 1 ≤ ls.length) (h12 : ls.length ≤ 12) (hl : ∀ l ∈ ls, l < b) (hm : ∀ j, j < ls.length → (cols j).size = m) (m1 : 1 ≤ m) (m2 : m ≤ 1000) (S : Nat) (hS : b + ls.length + 2 < S) (res : Value) (h0 : Heap) :
    ∀ (k i : Nat) (h : Heap) (acc : Array Value) (c : Nat), m - i = k → i ≤ m → ZSt h b ls cols i → LstAt h S acc c → Gath h ls.length b cols S i acc → (∀ (c : Nat) (o : Obj), c < b → h0.get? c = some o → h.get? c = some o) →
    (∀ h' acc' c', LstAt h' S acc' c' → Gath h' ls.length b cols S m acc' → (∀ (c : Nat) (o : Obj), c < b → h0.get? c = some o → h'.get? c = some o) → R (.ok (.ret res)) { s with heap := h' }) →
    codeAny (model prog w) A (.builtin "list.extend.loop" ⟨[.ref S, .ref (b + ls.length + 2), res], []⟩) R { s with heap := h } := by
  intro k
  induction k with
  | zero =>
    intro i h acc c hk hi Z hL G kp hR
    have hin : i = m := by omega
    subst hin
    refine codeAny_builtin F.entry_extend_loop ?_
    rw [Around.under_plainId F.plain_extend_loop _]
    show wpAny _ A.in1 (pyNext (.ref (b + ls.length + 2)) >>= _) _ _ _
    refine wpAny_bind (zn_stop (s := { s with heap := h }) (A := A.in1) hh Z (by omega) h1 hl (by rw [hm 0 (by omega)]; exact Nat.le_refl _) fun h' hk' => ?_)
    refine wpAny_pure (hR h' acc c (hk' _ _ (.inr hS) hL) ⟨G.1, fun j hj => ?_, G.2.2⟩ fun c o hc e => hk' c o (.inl hc) (kp c o hc e))
    obtain ⟨t, t1, t2, t3, t4⟩ := G.2.1 j hj
    exact ⟨t, t1, hk' _ _ (.inr t3) t2, t3, t4⟩
  | succ k ih =>
    intro i h acc c hk hi Z hL G kp hR
    have hlt : i < m := by omega
    refine codeAny_builtin F.entry_extend_loop ?_
    rw [Around.under_plainId F.plain_extend_loop _]
    show wpAny _ A.in1 (pyNext (.ref (b + ls.length + 2)) >>= _) _ _ _
    refine wpAny_bind (zn_next (s := { s with heap := h }) (A := A.in1) Z h1 h12 hl (fun j hj => by rw [hm j hj]; exact hlt) fun h' Z' t' sz hk' => ?_)
    have hL' : LstAt h' S acc c := hk' _ _ (.inr hS) hL
    have Slt := Heap.lt_size hL
    show wpAny _ A.in1 (updateSeq S (·.push (.ref h.objs.size)) >>= _) _ _ _
    refine wpAny_bind ?_
    refine wpAny_updateSeq hL' rfl (wpAny_pure ⟨plainId_quiet F.plain_extend_loop _, ?_⟩) (by rw [G.1, sizeLine_eq]; omega) (by rw [Array.size_push, G.1, sizeLine_eq]; omega)
    have oth : ∀ (c : Nat) (o : Obj), c ≠ S → h'.get? c = some o → (h'.update S (Obj.mapSeq (·.push (Value.ref h.objs.size)))).get? c = some o := fun c o hc e => (Heap.get?_update_other _ _ (Ne.symm hc)).trans e
    have self := Heap.get?_update_self (Obj.mapSeq (·.push (Value.ref h.objs.size))) hL' rfl
    refine ih (i + 1) _ (acc.push (.ref h.objs.size)) _ (by omega) hlt (Z'.keep hl hS oth fun o _ => ⟨_, self⟩) self ⟨by rw [Array.size_push, G.1], fun j hj => ?_, fun j k t hjk hki e1 e2 => ?_⟩ (fun c o hc e => oth c o (by omega) (hk' c o (.inl hc) (kp c o hc e))) hR
    rotate_left
    · rw [Array.getElem?_push_lt (by rw [G.1]; omega), ← Array.getElem?_eq_getElem (by rw [G.1]; omega)] at e1
      by_cases e : k = i
      · rw [e, ← G.1] at e2
        have e3 : h.objs.size = t := by simpa using e2
        obtain ⟨t', t1, t2, _⟩ := G.2.1 j (by omega)
        rw [t1] at e1
        cases e1
        have h3 : t < h.objs.size := Heap.lt_size t2
        rw [e3] at h3
        exact Nat.lt_irrefl _ h3
      · rw [Array.getElem?_push_lt (by rw [G.1]; omega), ← Array.getElem?_eq_getElem (by rw [G.1]; omega)] at e2
        exact G.2.2 j k t hjk (by omega) e1 e2
    have hsz : b + ls.length + 2 < h.objs.size := Nat.lt_trans hS Slt
    by_cases e : j = i
    · refine ⟨h.objs.size, ?_, oth _ _ (Nat.ne_of_gt Slt) (by rw [e]; exact t'), hsz, Nat.ne_of_gt Slt⟩
      rw [e, ← G.1]
      simp
    · obtain ⟨t, t1, t2, t3, t4⟩ := G.2.1 j (by omega)
      refine ⟨t, ?_, oth _ _ t4 (hk' _ _ (.inr t3) t2), t3, t4⟩
      rw [Array.getElem?_push_lt (by rw [G.1]; omega)]
      rw [← t1]
      rw [Array.getElem?_eq_getElem (by rw [G.1]; omega)]
theorem zn_collect {Q : List Value → Shared → Prop} (hh : A.handled = none) (Z : ZSt s.heap b ls cols 0) (h1 : 1 ≤ ls.length) (h12 : ls.length ≤ 12) (hl : ∀ l ∈ ls, l < b) (hm : ∀ j, j < ls.length → (cols j).size = m) (m1 : 1 ≤ m) (m2 : m ≤ 1000)
    (hQ : ∀ h' acc S, Gath h' ls.length b cols S m acc → (∀ (c : Nat) (o : Obj), c < b → s.heap.get? c = some o → h'.get? c = some o) → Q acc.toList { s with heap := h' }) : wpAny (model prog w) A (collect (.ref (b + ls.length + 2))) Q E s := by
  obtain ⟨hz, hzlt⟩ : s.heap.get? (b + ls.length + 2) = some (ZipO .none (.bool false) (b + ls.length) (b + ls.length + 1)) ∧ b + ls.length + 2 < s.heap.objs.size := by
    rcases Z.z with ⟨_, hz, _⟩ | ⟨i0, _⟩
    · exact ⟨hz, Heap.lt_size hz⟩
    · exact absurd i0 (Nat.lt_irrefl 0)
  unfold collect
  refine wpAny_bind (wpAny_runValue (codeAny_builtin F.entry_proto_collect ?_))
  rw [Around.under_plainId F.plain_proto_collect _]
  show wpAny _ A.in1 (newList [] >>= fun l => again (.builtin "list.__iadd__" ⟨[l, .ref (b + ls.length + 2)], []⟩)) _ _ s
  refine wpAny_bind (wpAny_newObj_type ?_)
  refine wpAny_pure ⟨plainId_quiet F.plain_list_iadd _, codeAny_builtin F.entry_list_iadd ?_⟩
  rw [Around.under_plainId F.plain_list_iadd _]
  have Z₁ : ZSt (s.heap.push { cls := .type "list", data := .seq ([] : List Value).toArray }) b ls cols 0 := Z.keep (S := s.heap.objs.size) hl hzlt (fun c o _ e => Heap.get?_push_of_some _ e) fun o e => ⟨o, Heap.get?_push_of_some _ e⟩
  have hz₁ : (s.heap.push { cls := .type "list", data := .seq ([] : List Value).toArray }).get? (b + ls.length + 2) = some (ZipO .none (.bool false) (b + ls.length) (b + ls.length + 1)) := Heap.get?_push_of_some _ hz
  have hT₁ : ({ s with heap := s.heap.push { cls := .type "list", data := .seq ([] : List Value).toArray } } : Shared).TypeIs (.ref (b + ls.length + 2)) "zip" := ⟨_, hz₁, rfl⟩
  have hSI : s.heap.objs.size ≠ b + ls.length + 2 := Nat.ne_of_gt hzlt
  show wpAny _ A.in1 (Builtin.List.listExtendWith (.ref s.heap.objs.size) (.ref (b + ls.length + 2)) (.ref s.heap.objs.size)) _ _ _
  unfold Builtin.List.listExtendWith
  refine wpAny_bind (wpAny_typeOf hT₁ ?_)
  have e1 : Builtin.List.listSameRef (.ref s.heap.objs.size) (.ref (b + ls.length + 2)) = false := by simp [Builtin.List.listSameRef, hSI]
  have e2 : (Value.type "zip" == Value.type "list") = false := by decide
  have e3 : (Value.type "zip" == Value.type "tuple") = false := by decide
  simp only [e1, e2, e3, Bool.or_false, Bool.false_eq_true, if_false]
  refine wpAny_bind (wpAny_pyIter_zip (TI := b + ls.length) (TO := b + ls.length + 1) hz₁ ?_)
  refine wpAny_bind (wpAny_holding ?_)
  unfold Builtin.List.listLengthHint
  refine wpAny_bind (wpAny_specialOf hT₁ zn_no_len ?_)
  show wpAny _ A.in1 (specialOf (Value.ref (b + ls.length + 2)) (Str.ofString "__length_hint__") >>= _) _ _ _
  refine wpAny_bind (wpAny_specialOf hT₁ zn_no_hint ?_)
  refine wpAny_pure ?_
  show wpAny _ A.in1 (rule "list.extend.makes-room" >>= fun _ => Builtin.List.listTouch (.ref s.heap.objs.size) >>= fun _ =>
    again (.builtin "list.extend.loop" ⟨[.ref s.heap.objs.size, .ref (b + ls.length + 2), .ref s.heap.objs.size], []⟩)) _ _ _
  refine wpAny_bind (wpAny_rule ?_)
  have hS₁ : (s.heap.push { cls := .type "list", data := .seq ([] : List Value).toArray }).get? s.heap.objs.size = some { cls := .type "list", data := .seq ([] : List Value).toArray } := Heap.get?_push_size _ rfl
  refine wpAny_bind ?_
  show wpAny _ A.in1 (updateSeq s.heap.objs.size (·.push .none) >>= fun _ => updateSeq s.heap.objs.size (·.pop)) _ _ _
  refine wpAny_bind (wpAny_updateSeq hS₁ rfl ?_)
  have hS₂ := Heap.get?_update_self (Obj.mapSeq (·.push Value.none)) hS₁ rfl
  refine wpAny_updateSeq hS₂ rfl ?_
  have hS₃ := Heap.get?_update_self (Obj.mapSeq (·.pop)) hS₂ rfl
  have oth : ∀ (c : Nat) (o : Obj), c ≠ s.heap.objs.size → (s.heap.push { cls := .type "list", data := .seq ([] : List Value).toArray }).get? c = some o →
      (((s.heap.push { cls := .type "list", data := .seq ([] : List Value).toArray }).update s.heap.objs.size (Obj.mapSeq (·.push Value.none))).update s.heap.objs.size (Obj.mapSeq (·.pop))).get? c = some o :=
    fun c o hb e => (Heap.get?_update_other _ _ (Ne.symm hb)).trans ((Heap.get?_update_other _ _ (Ne.symm hb)).trans e)
  refine wpAny_pure ⟨plainId_quiet F.plain_extend_loop _, zn_loop (s := s) hh h1 h12 hl hm m1 m2 s.heap.objs.size hzlt (.ref s.heap.objs.size) s.heap m 0 _ _ _ (Nat.sub_zero _) (Nat.zero_le _) (Z₁.keep hl hzlt oth fun o _ => ⟨_, hS₃⟩) hS₃ ⟨rfl, fun j hj => absurd hj (Nat.not_lt_zero _), fun j k t _ hk => absurd hk (Nat.not_lt_zero _)⟩ (fun c o hc e => oth c o (by omega) (Heap.get?_push_of_some _ e)) fun h' acc' c' hL G kp => ?_⟩
  show wpAny _ A (load s.heap.objs.size >>= _) _ _ _
  refine wpAny_bind (wpAny_load hL ?_)
  exact wpAny_pure (hQ h' acc' _ G kp)
/-- tuple(z) -/
theorem zn_tuple {Q : Value → Shared → Prop} (hh : A.handled = none) (Z : ZSt s.heap b ls cols 0) (h1 : 1 ≤ ls.length) (h12 : ls.length ≤ 12) (hl : ∀ l ∈ ls, l < b) (hm : ∀ j, j < ls.length → (cols j).size = m) (m1 : 1 ≤ m) (m2 : m ≤ 1000)
    (hQ : ∀ (h' : Heap) (acc : Array Value) (S : Nat), Gath h' ls.length b cols S m acc → (∀ (c : Nat) (o : Obj), c < b → s.heap.get? c = some o → h'.get? c = some o) → Q (.ref h'.objs.size) { s with heap := h'.push { cls := .type "tuple", data := .seq acc } }) :
    wpAny (model prog w) A (call (.type "tuple") [.ref (b + ls.length + 2)]) Q E s := by
  have hz : s.heap.get? (b + ls.length + 2) = some (ZipO .none (.bool false) (b + ls.length) (b + ls.length + 1)) := by
    rcases Z.z with ⟨_, hz, _⟩ | ⟨i0, _⟩
    · exact hz
    · exact absurd i0 (Nat.lt_irrefl 0)
  refine callType_codes (Q₁ := fun obj s₁ => s₁.TypeIs obj "tuple" ∧ Q obj s₁) F.called_tuple (F.typeCall_tuple_1 _) F.entry_object_init ?_ fun obj s₁ h₁ => ?_
  · refine codeAny_of_tree ?_
    show wpAny _ A.in1.in1 (do checkBuiltinCall "tuple.__new__" ⟨[.type "tuple", .ref (b + ls.length + 2)], []⟩; again (.builtin "tuple.__new__" ⟨[.type "tuple", .ref (b + ls.length + 2)], []⟩)) _ _ s
    refine wpAny_bind (wpAny_of_eq (F.newCall_tuple_1 _) (wpAny_pure ⟨plainId_quiet F.plain_tuple_new _, codeAny_builtin F.entry_tuple_new ?_⟩))
    rw [Around.under_plainId F.plain_tuple_new _]
    have hsub := sub_tuple_self
    have hinit := init_tuple_lookup
    have hmh := madeHere_tuple
    have hTI : s.TypeIs (.ref (b + ls.length + 2)) "zip" := ⟨_, hz, rfl⟩
    have hh1 : A.in1.in1.handled = none := hh
    wp_walk using wpAny_typeOf hTI, zn_collect (A := A.in1.in1) hh1 Z h1 h12 hl hm m1 m2
    intro h' acc S G kp
    show wpAny _ _ (Builtin.Tuple.tupleExact acc.toList.toArray >>= fun v => ret v) _ _ _
    unfold Builtin.Tuple.tupleExact
    refine wpAny_bind (wpAny_newObj_type ?_ (by show acc.toList.toArray.size ≤ sizeLine; simp only [Array.toArray_toList]; rw [G.1, sizeLine_eq]; omega))
    refine wpAny_pure ?_
    have e : acc.toList.toArray = acc := by simp
    rw [e]
    exact ⟨⟨_, Heap.get?_push_size _ rfl, rfl⟩, hQ h' acc S G kp⟩
  · exact ⟨h₁.1, F.args_object_init_2 obj _, object_init_meets F.called_tuple.init.lookup F.called_tuple.made (by decide) prog w A.in1 _ s₁ ⟨h₁.1, rfl, h₁.2⟩⟩
end
end Y

set_option Elab.async false
set_option linter.all false
set_option maxRecDepth 100000
set_option maxHeartbeats 4000000
/-! Zn5: tuple(zip(*rows)) as one rule. -/
namespace Y
open PySem PySem.Spec PyProof.Rows L2
/-- all that is known stays known -/
def Grow (H H' : Hp) : Prop := ∀ b u, H b = some u → H' b = some u
section
variable {X : Cx} {pins : List (Addr × Obj)} {σ : L2.St} {H HN : Hp} {s : Shared}
theorem inv_many {h' : Heap} (I : Inv X pins σ H s) (k : ∀ b u, s.heap.get? b = some u → h'.get? b = some u) (g : Grow H HN) (fr : ∀ b o, s.heap.get? b = some o → H b = none → HN b = none) (new : ∀ b u, HN b = some u → H b = none → ObjOk X.prog X.w HN h' b u) : Inv X pins σ HN { s with heap := h', toks := s.toks } := by
  refine I.un ⟨fun b o e _ _ _ => k b o e, fun b o e _ _ _ => ⟨o.slots, k b o e⟩, fun b o e n _ => fr b o e n, fun b o e _ => ⟨o, k b o e⟩, fun b xs e => g b _ e, fun b o u e => g b _ e, fun b ps e => ⟨#[], by rw [g b _ e]; simp⟩⟩ fun b u e => ?_
  cases q : H b with
  | none => exact new b u e q
  | some v =>
    have := g b v q
    rw [e] at this
    cases this
    exact (I.hok b u q).stay (fun c v _ z => k c v z) (fun c z => g c _ z) fun c xs z => g c _ z
/-- the new tuples -/
def newT (H : Hp) (m : Nat) (ts : Nat → Nat) (row : Nat → List V) (q : Nat) : Hp := fun b => match H b with
  | some u => some u
  | none => if b = q then some (.tup ((List.range m).map fun i => V.ref (ts i))) else match (List.range m).find? (fun i => ts i == b) with
    | some i => some (.tup (row i))
    | none => none
def tXch (K : PySem.W.Frag) (te : TE) : TE := fun σ H Q => te σ H fun x H1 => ∃ (p : Addr) (ls : List Nat) (cols : Nat → List V) (m : Nat), x = .ref p ∧ SqT K H1 p (ls.map fun l => V.ref l) ∧ 1 ≤ ls.length ∧ ls.length ≤ 12 ∧ 1 ≤ m ∧ m ≤ 1000 ∧
  (∀ (j l : Nat), ls[j]? = some l → SqT K H1 l (cols j) ∧ (cols j).length = m) ∧
  ∀ (HN : Hp) (q : Addr) (ts : Nat → Nat), Grow H1 HN → HN q = some (.tup ((List.range m).map fun i => V.ref (ts i))) → (∀ i, i < m → ∃ row, HN (ts i) = some (.tup row) ∧ row.length = ls.length ∧ ∀ j, j < ls.length → row[j]? = (cols j)[i]?) → Q (.ref q) HN
theorem vals_refs : ∀ {ls : List Nat} {us : List Value}, Vals (ls.map fun l => V.ref l) us → us = ls.map Value.ref
  | [], us, h => by cases h; rfl
  | l :: ls, us, h => by
    cases h with
    | cons r rr =>
      rw [vals_refs rr]
      cases (show _ = Value.ref l from r)
      rfl
theorem vals_at : ∀ {xs : List V} {us : List Value} {i : Nat} {x : V}, Vals xs us → xs[i]? = some x → ∃ u, us[i]? = some u ∧ RelV x u
  | _, _, _, _, .nil, e => by simp at e
  | _, _, 0, _, .cons r _, e => by simp at e; subst e; exact ⟨_, rfl, r⟩
  | _, _, i + 1, x, .cons _ q, e => by
    obtain ⟨v, h1, h2⟩ := vals_at (i := i) (x := x) q (by simpa using e)
    exact ⟨v, by simpa using h1, h2⟩
theorem newT_old {m : Nat} {ts : Nat → Nat} {row : Nat → List V} {q : Nat} : Grow H (newT H m ts row q) := fun b u e => by
  unfold newT
  rw [e]
theorem newT_q {m : Nat} {ts : Nat → Nat} {row : Nat → List V} {q : Nat} (h : H q = none) : newT H m ts row q q = some (.tup ((List.range m).map fun i => V.ref (ts i))) := by
  unfold newT
  rw [h]
  dsimp only
  rw [if_pos rfl]
theorem newT_none {m : Nat} {ts : Nat → Nat} {row : Nat → List V} {q b : Nat} (h : H b = none) (hq : b ≠ q) (ht : ∀ i, i < m → ts i ≠ b) : newT H m ts row q b = none := by
  unfold newT
  rw [h]
  dsimp only
  rw [if_neg hq, List.find?_eq_none.mpr]
  intro i hi
  have := ht i (List.mem_range.mp hi)
  simpa using this
theorem newT_t {m : Nat} {ts : Nat → Nat} {row : Nat → List V} {q b : Nat} {u : HO} (h : H b = none) (hq : b ≠ q) (e : newT H m ts row q b = some u) : ∃ i, i < m ∧ ts i = b ∧ u = .tup (row i) := by
  unfold newT at e
  rw [h] at e
  dsimp only at e
  rw [if_neg hq] at e
  cases f : (List.range m).find? (fun i => ts i == b) with
  | none => rw [f] at e; cases e
  | some i =>
    rw [f] at e
    cases e
    have h1 := List.find?_some f
    exact ⟨i, List.mem_range.mp (List.mem_of_find?_eq_some f), by simpa using h1, rfl⟩
theorem newT_i {m : Nat} {ts : Nat → Nat} {row : Nat → List V} {q i : Nat} (hi : i < m) (h : H (ts i) = none) (hq : ts i ≠ q) : ∃ j, j < m ∧ ts j = ts i ∧ newT H m ts row q (ts i) = some (.tup (row j)) := by
  cases f : (List.range m).find? (fun j => ts j == ts i) with
  | none =>
    have := List.find?_eq_none.mp f i (List.mem_range.mpr hi)
    simp at this
  | some j =>
    have h1 := List.find?_some f
    refine ⟨j, List.mem_range.mp (List.mem_of_find?_eq_some f), by simpa using h1, ?_⟩
    unfold newT
    rw [h]
    dsimp only
    rw [if_neg hq, f]
end
section
variable {X : Cx}
theorem pe_xch {e : Expr} {te : TE} {p1 p2 p3 p4 p5 : Pos} (hc : X.calm = true) (hg : Gl X "tuple") (hm : X.mg "tuple" = none) (hg2 : Gl X "zip") (hm2 : X.mg "zip" = none) (he : PE X e te) :
    PE X (.Call (.Name "tuple" p1) [.Call (.Name "zip" p2) [.Starred e p3] [] p4] [] p5) (tXch X.K te) := by
  refine ⟨fun pins s σ H Q I h => ?_⟩
  have inner : wpAny (model X.prog X.w) X.A (eval (.Call (.Name "zip" p2) [.Starred e p3] [] p4) X.env) (fun x s' => ∃ (ls : List Nat) (cols : Nat → List V) (m : Nat) (colsA : Nat → Array Value) (H1 : Hp) (s2 : Shared) (h' : Heap), s' = { s2 with heap := h' } ∧ x = .ref (s2.heap.objs.size + ls.length + 2) ∧ ZSt h' s2.heap.objs.size ls colsA 0 ∧ (∀ (c : Nat) (o : Obj), s2.heap.get? c = some o → h'.get? c = some o) ∧ 1 ≤ ls.length ∧ ls.length ≤ 12 ∧ 1 ≤ m ∧ m ≤ 1000 ∧
      (∀ (j l : Nat), ls[j]? = some l → l < s2.heap.objs.size ∧ Vals (cols j) (colsA j).toList ∧ (colsA j).size = m) ∧ Inv X pins σ H1 s2 ∧
      ∀ (HN : Hp) (q : Addr) (ts : Nat → Nat), Grow H1 HN → HN q = some (.tup ((List.range m).map fun i => V.ref (ts i))) → (∀ i, i < m → ∃ row, HN (ts i) = some (.tup row) ∧ row.length = ls.length ∧ ∀ j, j < ls.length → row[j]? = (cols j)[i]?) → Q (.ref q) HN) X.xe s := by
    refine Call_ (ld_blt I hg2 hm2 PyProof.Rows.boot_zip ?_)
    show wpAny _ _ (callWith p4 (.type "zip") [] (backTo p4 (starEach [.Starred e p3] X.env)) []) _ _ _
    refine PySem.W.ks_call (P := fun _ => True) rfl (fun h _ => ⟨.machine, .inr (.inl rfl), PySem.W.Looks.of_pure rfl⟩) (PySem.W.ks_lone (thn (he.run pins s σ H _ I h) fun v s1 ⟨x, H1, I1, r1, p, ls, cols, m, ex, hsq, l1, l12, m1, m2, hcol, q⟩ => ?_))
    subst ex
    obtain rfl : v = Value.ref p := r1
    refine StX.star_any I1 (.inl hsq) fun us s2 I2 rv => ⟨True.intro, ?_⟩
    rw [vals_refs rv]
    have hch : ∀ j : Nat, ∃ a : Array Value, ∀ l, ls[j]? = some l → l < s2.heap.objs.size ∧ Vals (cols j) a.toList ∧ a.size = m ∧ s2.heap.IsTuple l a := fun j => by
      cases hj : ls[j]? with
      | none => exact ⟨#[], fun l hl => by cases hl⟩
      | some l =>
        obtain ⟨c1, c2⟩ := hcol j l hj
        obtain ⟨its, rv2, pl, _⟩ := I2.tuple c1
        refine ⟨its.toArray, fun l' hl' => ?_⟩
        cases hl'
        obtain ⟨o, ho, r⟩ := pl
        exact ⟨Heap.lt_size ho, by simpa using rv2, by simp; rw [← rv2.length]; exact c2, o, ho, r⟩
    obtain ⟨colsA, hA⟩ := Classical.axiomOfChoice hch
    refine call_zn (s := s2) (cols := colsA) (fun j l hj => (hA j l hj).2.2.2) l1 l12 fun h' Z sz kp => ?_
    exact ⟨ls, cols, m, colsA, H1, s2, h', rfl, rfl, Z, kp, l1, l12, m1, m2, fun j l hj => ⟨(hA j l hj).1, (hA j l hj).2.1, (hA j l hj).2.2.1⟩, I2, q⟩
  have naE : starEach [Expr.Call (.Name "zip" p2) [.Starred e p3] [] p4] X.env = (false, eval (.Call (.Name "zip" p2) [.Starred e p3] [] p4) X.env) :: starEach [] X.env := rfl
  refine Call_ (ld_blt I hg hm boot_tuple (PyProof.Rows.callWith_type1 (args_cons (thn inner fun x s1 ⟨ls, cols, m, colsA, H1, s2, h', es, ex, Z, kp, l1, l12, m1, m2, hcol, I2, q⟩ => args_nil ?_) naE) naE))
  subst es ex
  have hl : ∀ l ∈ ls, l < s2.heap.objs.size := fun l hl => by
    obtain ⟨j, hj⟩ := List.getElem?_of_mem hl
    exact (hcol j l hj).1
  have hsz : ∀ j, j < ls.length → (colsA j).size = m := fun j hj => (hcol j _ (List.getElem?_eq_getElem hj)).2.2
  refine zn_tuple (s := { s2 with heap := h' }) (b := s2.heap.objs.size) (I.ok.hd hc) Z l1 l12 hl hsz m1 m2 fun h2 acc S G kp2 => ?_
  have hch : ∀ i : Nat, ∃ t : Nat, i < m → acc[i]? = some (.ref t) ∧ TupAt h2 t (rowA ls.length colsA i) ∧ s2.heap.objs.size + ls.length + 2 < t ∧ t ≠ S := fun i => by
    by_cases hi : i < m
    · obtain ⟨t, ht⟩ := G.2.1 i hi
      exact ⟨t, fun _ => ht⟩
    · exact ⟨0, fun z => absurd z hi⟩
  obtain ⟨ts, hts⟩ := Classical.axiomOfChoice hch
  have keep : ∀ (c : Nat) (o : Obj), s2.heap.get? c = some o → (h2.push { cls := .type "tuple", data := .seq acc }).get? c = some o := fun c o e => Heap.get?_push_of_some _ (kp2 c o (Heap.lt_size e) (kp c o e))
  have fq : H1 h2.objs.size = none := by
    cases m with
    | zero => omega
    | succ m =>
      have t0 := (hts 0 (Nat.succ_pos _)).2
      have h3 : ts 0 < h2.objs.size := Heap.lt_size t0.1
      have h4 := t0.2.1
      exact I2.hok.fresh (by omega)
  have ft : ∀ i, i < m → H1 (ts i) = none ∧ ts i < h2.objs.size ∧ s2.heap.objs.size < ts i := fun i hi => by
    have t0 := (hts i hi).2
    have hlt : ts i < h2.objs.size := Heap.lt_size t0.1
    have := t0.2.1
    exact ⟨I2.hok.fresh (by omega), hlt, by omega⟩
  have hrow : ∀ i, i < m → Vals ((List.range ls.length).map fun j => (cols j).getD i .non) (rowA ls.length colsA i).toList := fun i hi => by
    unfold rowA
    refine vals_of_at (by simp) fun j x u h1 h2 => ?_
    have hj : j < ls.length := by
      have := (List.getElem?_eq_some_iff.mp h1).1
      simpa using this
    obtain ⟨_, c2, c3⟩ := hcol j _ (List.getElem?_eq_getElem hj)
    have lc := c2.length
    have hci : i < (cols j).length := by rw [lc]; simp; omega
    obtain ⟨w, w1, w2⟩ := vals_at c2 (List.getElem?_eq_getElem hci)
    simp [hj] at h1 h2
    rw [← h1, ← h2]
    have e1 : (cols j)[i]?.getD V.non = (cols j)[i] := by rw [List.getElem?_eq_getElem hci]; rfl
    have e2 : (colsA j)[i]?.getD Value.none = w := by
      rw [← Array.getElem?_toList, w1]; rfl
    rw [e1, e2]
    exact w2
  have I3 := inv_many (HN := newT H1 m ts (fun i => (List.range ls.length).map fun j => (cols j).getD i .non) h2.objs.size) I2 keep newT_old (fun b o e n => newT_none n (by
      have h3 : b < s2.heap.objs.size := Heap.lt_size e
      have t0 := ft 0 (by omega)
      exact Nat.ne_of_lt (Nat.lt_trans h3 (Nat.lt_trans t0.2.2 t0.2.1))) fun i hi => by
        have h3 : b < s2.heap.objs.size := Heap.lt_size e
        have t0 := ft i hi
        exact Nat.ne_of_gt (Nat.lt_trans h3 t0.2.2)) fun b u e n => ?_
  · refine ⟨.ref h2.objs.size, _, I3, rfl, q _ h2.objs.size ts newT_old (newT_q fq) fun i hi => ?_⟩
    obtain ⟨t1, t2, t3⟩ := ft i hi
    obtain ⟨j, j1, j2, j3⟩ := newT_i (row := fun i => (List.range ls.length).map fun j => (cols j).getD i .non) (q := h2.objs.size) hi t1 (na (by omega))
    have hij : j = i := by
      have a1 := (hts i hi).1
      have a2 := (hts j j1).1
      rw [j2] at a2
      refine Classical.byContradiction fun hne => ?_
      rcases Nat.lt_or_gt_of_ne hne with z | z
      · exact G.2.2 j i (ts i) z hi a2 a1
      · exact G.2.2 i j (ts i) z j1 a1 a2
    rw [hij] at j3
    refine ⟨_, j3, by simp, fun j hj => ?_⟩
    obtain ⟨_, c2, c3⟩ := hcol j _ (List.getElem?_eq_getElem hj)
    have lc := c2.length
    have hci : i < (cols j).length := by rw [lc]; simp; omega
    simp [hj, hci]
  · by_cases hb : b = h2.objs.size
    · subst hb
      rw [newT_q n] at e
      cases e
      refine ⟨by simp; rw [sizeLine_eq]; omega, acc.toList, ?_, ?_⟩
      · refine vals_of_at (by simp; exact G.1.symm) fun j x u h1 h2 => ?_
        have hj : j < m := by
          have := (List.getElem?_eq_some_iff.mp h1).1
          simpa using this
        have := (hts j hj).1
        simp [hj] at h1
        rw [Array.getElem?_toList, this] at h2
        cases h2
        rw [← h1]; rfl
      · rw [Array.toArray_toList]; exact IsTup.new _ _
    · obtain ⟨i, hi, et, eu⟩ := newT_t n hb e
      subst eu
      refine ⟨by simp; rw [sizeLine_eq]; omega, (rowA ls.length colsA i).toList, hrow i hi, ?_⟩
      rw [Array.toArray_toList, ← et]
      exact ⟨_, Heap.get?_push_of_some _ (hts i hi).2.1, rfl, _, rfl⟩
end
end Y

set_option Elab.async false
set_option linter.all false
/-! Py: a small language with lists as cells of a heap, and its pure interpreter. -/
noncomputable section
namespace Y
open PySem

inductive Val where
  | non
  | bl (b : Bool)
  | int (i : Int)
  | str (s : Str)
  | tup (xs : List Val)
  | lst (a : Nat)
  | fn (i : Nat)

inductive Cell where
  | lst (xs : List Val)
  | ro (xs : List Val)
abbrev Heap := List Cell

/-- an exception: its class by number, its field -/
structure Exn where
  c : Nat
  v : Option Val

inductive R (α : Type) where
  | ok (a : α) (h : Heap)
  | ex (e : Exn) (h : Heap)
  | bad
def R.bind {α β : Type} (r : R α) (k : α → Heap → R β) : R β := match r with
  | .ok a h => k a h
  | .ex e h => .ex e h
  | .bad => .bad
def R.of {α : Type} (o : Option α) (h : Heap) : R α := match o with
  | some a => .ok a h
  | none => .bad

abbrev Env := List (Option Val)
def Env.get (env : Env) (i : Nat) : Option Val := match env[i]? with
  | some (some v) => some v
  | _ => none
def wipe (env : Env) : List Nat → Env
  | [] => env
  | i :: r => (wipe env r).set i none

/-- what a statement ends in -/
inductive RS where
  | nx (env : Env) (h : Heap)
  | ret (v : Val) (h : Heap)
  | brk (env : Env) (h : Heap)
  | ct (env : Env) (h : Heap)
  | ex (e : Exn) (env : Env) (h : Heap)
  | bad
def R.then {α : Type} (r : R α) (env : Env) (k : α → Heap → RS) : RS := match r with
  | .ok a h => k a h
  | .ex e h => .ex e env h
  | .bad => .bad

/-- the tables: what a call of the i-th def gives, the module's constants -/
structure T where
  call : Nat → List Val → Heap → R Val
  gl : List Val

/-- the greatest length of a list -/
def line : Nat := 16777216

/-! ### values -/
def listAt (h : Heap) (a : Nat) : Option (List Val) := match h[a]? with
  | some (.lst xs) => some xs
  | some (.ro xs) => some xs
  | none => none
def seqOf (h : Heap) : Val → Option (List Val)
  | .tup xs => some xs
  | .lst a => listAt h a
  | _ => none
def new (xs : List Val) (h : Heap) : R Val := .ok (.lst h.length) (h ++ [.lst xs])
/-- the place of an index -/
def place (n : Nat) (i : Int) : Option Nat := match i with
  | .ofNat k => if Nat.blt k n then some k else none
  | .negSucc k => if Nat.blt k n then some (n - (k + 1)) else none
def atV {α : Type} (xs : List α) (i : Int) : Option α := (place xs.length i).bind fun j => xs[j]?
/-- the bound of a slice -/
def cutN (n d : Nat) : Option Int → Nat
  | none => d
  | some (.ofNat k) => min k n
  | some (.negSucc k) => n - (k + 1)
def cut (xs : List Val) (lo hi : Option Int) : List Val := (xs.drop (cutN xs.length 0 lo)).take (cutN xs.length xs.length hi - cutN xs.length 0 lo)

/-- is it data, at most d deep? -/
def dataOk : Nat → Heap → Val → Bool
  | _, _, .non => true
  | _, _, .bl _ => true
  | _, _, .int _ => true
  | _, _, .str s => PySem.PyData.strOk s
  | 0, _, .tup _ => false
  | d + 1, h, .tup xs => xs.all (dataOk d h)
  | 0, _, .lst _ => false
  | d + 1, h, .lst a => (match listAt h a with
    | some xs => xs.all (dataOk d h)
    | none => false)
  | _, _, .fn _ => false
def allEq (f : Val → Val → Bool) : List Val → List Val → Bool
  | [], [] => true
  | x :: xs, y :: ys => f x y && allEq f xs ys
  | _, _ => false
def b2i (b : Bool) : Int := if b then 1 else 0
def veq : Nat → Heap → Val → Val → Bool
  | _, _, .non, .non => true
  | _, _, .bl a, .bl b => a == b
  | _, _, .bl a, .int j => b2i a == j
  | _, _, .int i, .bl b => i == b2i b
  | _, _, .int i, .int j => i == j
  | _, _, .str x, .str y => decide (x = y)
  | d + 1, h, .tup xs, .tup ys => allEq (veq d h) xs ys
  | d + 1, h, .lst a, .lst b => (match listAt h a, listAt h b with
    | some xs, some ys => allEq (veq d h) xs ys
    | _, _ => false)
  | _, _, _, _ => false
def cmpEq (h : Heap) (x y : Val) : Option Bool := if dataOk 60 h x && dataOk 60 h y then some (veq 60 h x y) else none
/-- a number, a text, None .. -/
def flat : Val → Bool
  | .non => true
  | .bl _ => true
  | .int _ => true
  | .str s => PySem.PyData.strOk s
  | _ => false
def inSeq (x : Val) (xs : List Val) : Bool := xs.any fun y => veq 0 [] y x

def isSmall (i : Int) : Bool := decide (-(2 ^ 64) < i) && decide (i < 2 ^ 64)
def isLen (n : Nat) : Bool := Nat.ble n line

/-- a + b .. by values -/
def binV (op : Operator) (x y : Val) (h : Heap) : R Val := match op, x, y with
  | .Add, .int i, .int j => .ok (.int (i + j)) h
  | .Sub, .int i, .int j => .ok (.int (i - j)) h
  | .Mult, .int i, .int j => if isSmall i || isSmall j then .ok (.int (i * j)) h else .bad
  | .Mod, .int i, .int j => if decide (0 < j) then .ok (.int (i % j)) h else .bad
  | .FloorDiv, .int i, .int j => if decide (0 < j) && decide (j < 1073741824) then .ok (.int (i / j)) h else .bad
  | .Pow, .int i, .int j => if decide (0 ≤ j) && decide (j ≤ 1000000) && Nat.blt i.natAbs (2 ^ 64) then .ok (.int (i ^ j.toNat)) h else .bad
  | .Add, .tup xs, .tup ys => if isLen (xs.length + ys.length) then .ok (.tup (xs ++ ys)) h else .bad
  | .Add, .lst a, .lst c => (match h[a]?, h[c]? with
    | some (.lst xs), some (.lst ys) => if isLen (xs.length + ys.length) then new (xs ++ ys) h else .bad
    | _, _ => .bad)
  | .Mult, .tup xs, .int k => if Nat.ble xs.length 1000 && (decide (-1000 ≤ k) && decide (k ≤ 1000)) then .ok (.tup (List.replicate k.toNat xs).flatten) h else .bad
  | _, _, _ => .bad
/-- a == b .. by values -/
def cmpV (op : CmpOp) (x y : Val) (h : Heap) : R Val := match op with
  | .Eq => (match cmpEq h x y with
    | some b => .ok (.bl b) h
    | none => .bad)
  | .NotEq => (match cmpEq h x y with
    | some b => .ok (.bl !b) h
    | none => .bad)
  | .Lt => (match x, y with
    | .int i, .int j => .ok (.bl (decide (i < j))) h
    | _, _ => .bad)
  | .LtE => (match x, y with
    | .int i, .int j => .ok (.bl (decide (i ≤ j))) h
    | _, _ => .bad)
  | .Gt => (match x, y with
    | .int i, .int j => .ok (.bl (decide (j < i))) h
    | _, _ => .bad)
  | .GtE => (match x, y with
    | .int i, .int j => .ok (.bl (decide (j ≤ i))) h
    | _, _ => .bad)
  | .Is => (match x, y with
    | .non, .non => .ok (.bl true) h
    | _, .non => .ok (.bl false) h
    | .bl i, .bl j => .ok (.bl (decide (i = j))) h
    | _, _ => .bad)
  | .IsNot => (match x, y with
    | .non, .non => .ok (.bl false) h
    | _, .non => .ok (.bl true) h
    | .bl i, .bl j => .ok (.bl (!decide (i = j))) h
    | _, _ => .bad)
  | .In => (match seqOf h y with
    | some ys => if flat x && ys.all flat then .ok (.bl (inSeq x ys)) h else .bad
    | none => .bad)
  | .NotIn => (match seqOf h y with
    | some ys => if flat x && ys.all flat then .ok (.bl !(inSeq x ys)) h else .bad
    | none => .bad)
def truV (h : Heap) : Val → Option Bool
  | .non => some false
  | .bl b => some b
  | .int i => some (i != 0)
  | .tup xs => some !xs.isEmpty
  | .lst a => (listAt h a).map fun xs => !xs.isEmpty
  | _ => none
def asInts : List Val → Option (List Int)
  | [] => some []
  | .int i :: r => (asInts r).map (i :: ·)
  | _ :: _ => none
def asBools : List Val → Option (List Bool)
  | [] => some []
  | .bl b :: r => (asBools r).map (b :: ·)
  | _ :: _ => none
def maxI : List Int → Option Int
  | [] => none
  | i :: r => some (r.foldl (fun m j => if j > m then j else m) i)
def minI : List Int → Option Int
  | [] => none
  | i :: r => some (r.foldl (fun m j => if j < m then j else m) i)

/-- built-in calls of one argument -/
inductive Bi where
  | len | int | tuple | sum | all | max | min
/-- .. of a value -/
def biV (b : Bi) (x : Val) (h : Heap) : R Val := match b with
  | .len => (match seqOf h x with
    | some xs => .ok (.int xs.length) h
    | none => .bad)
  | .int => (match x with
    | .int i => .ok (.int i) h
    | .bl b => .ok (.int (b2i b)) h
    | _ => .bad)
  | .tuple => (match seqOf h x with
    | some xs => .ok (.tup xs) h
    | none => .bad)
  | .sum => (match x with
    | .lst a => (match (listAt h a).bind asInts with
      | some ns => .ok (.int ns.sum) h
      | none => .bad)
    | _ => .bad)
  | .all => (match x with
    | .lst a => (match (listAt h a).bind asBools with
      | some bs => .ok (.bl (bs.all id)) h
      | none => .bad)
    | _ => .bad)
  | .max => (match x with
    | .lst a => (match ((listAt h a).bind asInts).bind maxI with
      | some m => .ok (.int m) h
      | none => .bad)
    | _ => .bad)
  | .min => (match x with
    | .lst a => (match ((listAt h a).bind asInts).bind minI with
      | some m => .ok (.int m) h
      | none => .bad)
    | _ => .bad)
/-- .. of a new list -/
def biL (b : Bi) (xs : List Val) (h : Heap) : R Val := match b with
  | .len => .ok (.int xs.length) h
  | .tuple => .ok (.tup xs) h
  | .sum => (match asInts xs with
    | some ns => .ok (.int ns.sum) h
    | none => .bad)
  | .all => (match asBools xs with
    | some bs => .ok (.bl (bs.all id)) h
    | none => .bad)
  | .max => (match (asInts xs).bind maxI with
    | some m => .ok (.int m) h
    | none => .bad)
  | .min => (match (asInts xs).bind minI with
    | some m => .ok (.int m) h
    | none => .bad)
  | .int => .bad
/-- the types that isinstance is asked for -/
inductive Ty where
  | int | bool | str | tuple | list | seq
def tyL : Ty → Bool
  | .list => true
  | .seq => true
  | _ => false
def tyT : Ty → Bool
  | .tuple => true
  | .seq => true
  | _ => false
def tyI : Ty → Bool
  | .int => true
  | _ => false
def tyB : Ty → Bool
  | .int => true
  | .bool => true
  | _ => false
def tyS : Ty → Bool
  | .str => true
  | _ => false
def isTy (h : Heap) (t : Ty) (x : Val) : Option Bool := match x with
  | .fn _ => none
  | .lst a => (match h[a]? with
    | some (.lst _) => some (tyL t)
    | _ => none)
  | .tup _ => some (tyT t)
  | .int _ => some (tyI t)
  | .bl _ => some (tyB t)
  | .str _ => some (tyS t)
  | .non => some false

/-! ### what loops walk -/
inductive Src where
  | vals (xs : List Val)
  | cell (a : Nat)
inductive Iter where
  | one (s : Src)
  | enum (s : Src)
  | zip (s t : Src)
/-- none: it cannot be said; some none: the end -/
def getAt (xs : List Val) (i : Nat) : Option (Option Val) := match xs[i]? with
  | some v => some (some v)
  | none => if Nat.beq i xs.length then some none else none
def Src.get (s : Src) (i : Nat) (h : Heap) : Option (Option Val) := match s with
  | .vals xs => getAt xs i
  | .cell a => (match listAt h a with
    | some xs => getAt xs i
    | none => none)
def Iter.turn (it : Iter) (i : Nat) (h : Heap) : Option (Option Val) := match it with
  | .one s => s.get i h
  | .enum s => (match s.get i h with
    | some (some v) => some (some (.tup [.int i, v]))
    | r => r)
  | .zip s t => (match s.get i h with
    | some (some v) => (match t.get i h with
      | some (some u) => some (some (.tup [v, u]))
      | r => r)
    | some none => (match t.get i h with
      | some _ => some none
      | none => none)
    | none => none)
def Src.len (s : Src) (h : Heap) : Nat := match s with
  | .vals xs => xs.length
  | .cell a => (match listAt h a with
    | some xs => xs.length
    | none => 0)
def Iter.len (it : Iter) (h : Heap) : Nat := match it with
  | .one s => s.len h
  | .enum s => s.len h
  | .zip s _ => s.len h
def srcOf (x : Val) (h : Heap) : Option Src := match x with
  | .tup xs => some (.vals xs)
  | .lst a => if (listAt h a).isSome then some (.cell a) else none
  | _ => none
/-- lo, lo + 1, .. below hi -/
def upTo : Nat → Int → List Val
  | 0, _ => []
  | n + 1, lo => .int lo :: upTo n (lo + 1)
def rangeV (lo hi : Int) : Option (List Val) := if isSmall62 lo && isSmall62 hi then some (upTo (hi - lo).toNat lo) else none
where isSmall62 (i : Int) : Bool := decide (-(2 ^ 62) ≤ i) && decide (i < 2 ^ 62)
/-- hi - 1 .. downwards, above lo -/
def downTo : Nat → Int → List Val
  | 0, _ => []
  | n + 1, hi => .int hi :: downTo n (hi - 1)

/-- a for loop over it, from turn i on -/
def forL (body : Val → Env → Heap → RS) (it : Iter) : Nat → Nat → Env → Heap → RS
  | 0, i, env, h => (match it.turn i h with
    | some none => .nx env h
    | _ => .bad)
  | n + 1, i, env, h => (match it.turn i h with
    | some (some v) => (match body v env h with
      | .nx env' h' => forL body it n (i + 1) env' h'
      | .ct env' h' => forL body it n (i + 1) env' h'
      | .brk env' h' => .nx env' h'
      | .ret v h' => .ret v h'
      | .ex e env' h' => .ex e env' h'
      | .bad => .bad)
    | some none => .nx env h
    | none => .bad)
def whileL (test : Env → Heap → R Bool) (body : Env → Heap → RS) : Nat → Env → Heap → RS
  | 0, _, _ => .bad
  | n + 1, env, h => (match test env h with
    | .ok true h1 => (match body env h1 with
      | .nx env' h' => whileL test body n env' h'
      | .ct env' h' => whileL test body n env' h'
      | .brk env' h' => .nx env' h'
      | .ret v h' => .ret v h'
      | .ex e env' h' => .ex e env' h'
      | .bad => .bad)
    | .ok false h1 => .nx env h1
    | .ex e h1 => .ex e env h1
    | .bad => .bad)
/-- a list comprehension's block: what a turn gives (none: left out by the test) -/
def lcL (elt : Val → Heap → R (Option Val)) (it : Iter) : Nat → Nat → Heap → R (List Val)
  | 0, i, h => (match it.turn i h with
    | some none => .ok [] h
    | _ => .bad)
  | n + 1, i, h => (match it.turn i h with
    | some (some v) => (match elt v h with
      | .ok (some x) h1 => (match lcL elt it n (i + 1) h1 with
        | .ok r h2 => .ok (x :: r) h2
        | _ => .bad)
      | .ok none h1 => lcL elt it n (i + 1) h1
      | .ex _ _ => .bad
      | .bad => .bad)
    | some none => .ok [] h
    | none => .bad)

/-! ### the language -/
mutual
inductive Ex where
  | var (i : Nat)
  | cst (v : Val)
  | glo (k : Nat)
  | fnr (i : Nat)
  | bin (op : Operator) (x : Ex) (y : Ex)
  | neg (x : Ex)
  | not (x : Ex)
  | cmp (op : CmpOp) (x : Ex) (y : Ex)
  | cmp2 (op : CmpOp) (op2 : CmpOp) (x : Ex) (y : Ex) (z : Ex)
  | and (x : Ex) (y : Ex)
  | or (x : Ex) (y : Ex)
  | ife (c : Ex) (x : Ex) (y : Ex)
  | tup (es : Exs)
  | idx (x : Ex) (y : Ex)
  | sl (x : Ex) (lo : Oe) (hi : Oe)
  | new (l : Le)
  | bi (k : Bi) (x : Ex)
  | biL (k : Bi) (l : Le)
  | max2 (x : Ex) (y : Ex)
  | min2 (x : Ex) (y : Ex)
  | isi (ty : Ty) (x : Ex)
  | call (f : Nat) (es : Exs)
  | app (x : Ex) (y : Ex)
  | xch (x : Ex)
inductive Oe where
  | none
  | some (x : Ex)
inductive Le where
  | disp (es : Exs)
  | mul (l : Le) (x : Ex)
  | add (l : Le) (m : Le)
  | of (x : Ex)
  | lc (own : List Nat) (tg : Tg) (it : It) (c : Oe) (x : Ex)
inductive Exs where
  | nil
  | cons (x : Ex) (r : Exs)
  | star (x : Ex) (r : Exs)
  | starL (l : Le) (r : Exs)
inductive It where
  | r1 (x : Ex)
  | r2 (x : Ex) (y : Ex)
  | down (x : Ex) (y : Ex)
  | of (x : Ex)
  | enum (x : Ex)
  | zip (x : Ex) (y : Ex)
inductive Tg where
  | nm (i : Nat)
  | tup (ts : Tgs)
  | sub (x : Ex) (y : Ex)
inductive Tgs where
  | nil
  | cons (tg : Tg) (r : Tgs)
end
mutual
inductive St where
  | asg (t : Tg) (e : Ex)
  | par2 (i j : Nat) (a b : Ex)
  | par3 (i j k : Nat) (a b c : Ex)
  | aug (i : Nat) (op : Operator) (e : Ex)
  | expr (e : Ex)
  | ret (e : Ex)
  | retN
  | pass
  | brk
  | ct
  | ife (c : Ex) (a b : Sts)
  | whl (c : Ex) (b : Sts)
  | for_ (t : Tg) (it : It) (b : Sts)
  | never
inductive Sts where
  | nil
  | cons (s : St) (r : Sts)
end

/-! ### its meaning -/
/-- a value and a truth -/
structure DE where
  v : Env → Heap → R Val
  t : Env → Heap → R Bool
abbrev DL := Env → Heap → R (List Val)
abbrev DO := Env → Heap → R (Option Val)
abbrev DI := Env → Heap → R Iter
abbrev DT := Val → Env → Heap → R Env
abbrev DTs := List Val → Env → Heap → R Env
/-- a test by a value's truth -/
def byV (v : Env → Heap → R Val) : DE := ⟨v, fun env h => (v env h).bind fun x h1 => R.of (truV h1 x) h1⟩
def d2 (a b : DE) (k : Val → Val → Heap → R Val) : DE := byV fun env h => (a.v env h).bind fun x h1 => (b.v env h1).bind fun y h2 => k x y h2
def d1 (a : DE) (k : Val → Heap → R Val) : DE := byV fun env h => (a.v env h).bind k
def negV (x : Val) (h : Heap) : R Val := match x with
  | .int i => .ok (.int (-i)) h
  | _ => .bad
def boolK (x : Val) (k : Bool → R Val) : R Val := match x with
  | .bl b => k b
  | _ => .bad
def idxV (x y : Val) (h : Heap) : R Val := match y with
  | .int i => R.of ((seqOf h x).bind fun xs => atV xs i) h
  | _ => .bad
def rowsOf : List Val → Option (List (List Val))
  | [] => some []
  | x :: r => (match x with
    | .tup xs => (rowsOf r).map (xs :: ·)
    | _ => none)
/-- tuple(zip(*rows)) -/
def xchV (x : Val) (h : Heap) : R Val := match x with
  | .tup rs => (match rowsOf rs with
    | some xss => if (Nat.ble 1 xss.length && Nat.ble xss.length 12) && ((Nat.ble 1 (xss.headD []).length && Nat.ble (xss.headD []).length 1000) && xss.all fun r => Nat.beq r.length (xss.headD []).length) then
        .ok (.tup ((List.range (xss.headD []).length).map fun i => .tup (xss.map fun r => r.getD i .non))) h else .bad
    | none => .bad)
  | _ => .bad
def asInt (o : Option Val) (k : Option Int → R Val) : R Val := match o with
  | none => k none
  | some (.int i) => k (some i)
  | some _ => .bad
def slV (x : Val) (lo hi : Option Int) (h : Heap) : R Val := match x with
  | .tup xs => .ok (.tup (cut xs lo hi)) h
  | .lst a => (match listAt h a with
    | some xs => new (cut xs lo hi) h
    | none => .bad)
  | _ => .bad
def maxV (x y : Val) (h : Heap) : R Val := match x, y with
  | .int i, .int j => .ok (.int (if j > i then j else i)) h
  | _, _ => .bad
def minV (x y : Val) (h : Heap) : R Val := match x, y with
  | .int i, .int j => .ok (.int (if j < i then j else i)) h
  | _, _ => .bad
/-- has a value no reference at or above n? -/
def below (n : Nat) : Val → Bool
  | .lst a => Nat.blt a n
  | .tup xs => belowAll n xs
  | _ => true
where belowAll (n : Nat) : List Val → Bool
  | [] => true
  | x :: xs => below n x && belowAll n xs
/-- may v be written into the cell a, by a body whose own cells begin at b? -/
def mayPut (b a : Nat) (v : Val) : Bool := Nat.ble b a || below a v
def appV (b : Nat) (x y : Val) (h : Heap) : R Val := match x with
  | .lst a => (match h[a]? with
    | some (.lst xs) => if Nat.blt xs.length line && mayPut b a y then .ok .non (h.set a (.lst (xs ++ [y]))) else .bad
    | _ => .bad)
  | _ => .bad
def isLst (h : Heap) : Val → Bool
  | .lst a => (listAt h a).isSome
  | _ => false
def dApp (b : Nat) (x y : DE) : DE := byV fun env h => (x.v env h).bind fun v h1 => if isLst h1 v then (y.v env h1).bind fun u h2 => appV b v u h2 else .bad
def putV (b : Nat) (x i v : Val) (h : Heap) : R Unit := match x, i with
  | .lst a, .int k => (match h[a]? with
    | some (.lst xs) => (match place xs.length k with
      | some j => if mayPut b a v then .ok () (h.set a (.lst (xs.set j v))) else .bad
      | none => .bad)
    | _ => .bad)
  | _, _ => .bad
def iterOf (x : Val) (h : Heap) (k : Src → Iter) : R Iter := match srcOf x h with
  | some s => .ok (k s) h
  | none => .bad
def fuelW : Nat := 1000000

def dNot (a : DE) : DE := ⟨fun env h => (a.v env h).bind fun x h1 => (R.of (truV h1 x) h1).bind fun k h2 => .ok (.bl !k) h2, fun env h => (a.t env h).bind fun k h1 => .ok (!k) h1⟩
def dAnd (a c : DE) : DE := ⟨fun env h => (a.v env h).bind fun x h1 => boolK x fun k => if k then c.v env h1 else .ok (.bl false) h1,
  fun env h => (a.t env h).bind fun k h1 => if k then c.t env h1 else .ok false h1⟩
def dOr (a c : DE) : DE := ⟨fun env h => (a.v env h).bind fun x h1 => boolK x fun k => if k then .ok (.bl true) h1 else c.v env h1,
  fun env h => (a.t env h).bind fun k h1 => if k then .ok true h1 else c.t env h1⟩
def dIfe (c a d : DE) : DE := ⟨fun env h => (c.t env h).bind fun k h1 => if k then a.v env h1 else d.v env h1, fun env h => (c.t env h).bind fun k h1 => if k then a.t env h1 else d.t env h1⟩
def dChain (op op' : CmpOp) (a c d : DE) : DE := byV fun env h => (a.v env h).bind fun x h1 => (c.v env h1).bind fun y h2 => (cmpV op x y h2).bind fun z h3 => boolK z fun k =>
  if k then (d.v env h3).bind fun w h4 => cmpV op' y w h4 else .ok (.bl false) h3
def dDisp (es : DL) : DL := fun env h => (es env h).bind fun xs h1 => if isLen xs.length then .ok xs h1 else .bad
def dMulL (l : DL) (e : DE) : DL := fun env h => (l env h).bind fun xs h1 => (e.v env h1).bind fun y h2 => match y with
  | .int k => if isLen (xs.length * k.toNat) && Nat.ble k.natAbs line then .ok (List.replicate k.toNat xs).flatten h2 else .bad
  | _ => .bad
def dAddL (l m : DL) : DL := fun env h => (l env h).bind fun xs h1 => (m env h1).bind fun ys h2 => if isLen (xs.length + ys.length) then .ok (xs ++ ys) h2 else .bad
def dOfL (e : DE) : DL := fun env h => (e.v env h).bind fun x h1 => R.of (seqOf h1 x) h1
def dLc (own : List Nat) (tg : DT) (it : DI) (c : Option DE) (e : DE) : DL := fun env h => (it env h).bind fun I h1 =>
  (lcL (fun v h2 => (tg v (wipe env own) h2).bind fun env2 h3 => match c with
    | none => (e.v env2 h3).bind fun x h4 => .ok (some x) h4
    | some d => (d.t env2 h3).bind fun k h4 => if k then (e.v env2 h4).bind fun x h5 => .ok (some x) h5 else .ok none h4) I (I.len h1) 0 h1).bind fun xs h2 => if isLen xs.length then .ok xs h2 else .bad
def dCons (a : DE) (r : DL) : DL := fun env h => (a.v env h).bind fun x h1 => (r env h1).bind fun xs h2 => .ok (x :: xs) h2
def dStar (a : DL) (r : DL) : DL := fun env h => (a env h).bind fun xs h1 => (r env h1).bind fun ys h2 => if isLen (xs.length + ys.length) then .ok (xs ++ ys) h2 else .bad

def dTup (es : DL) : DE := byV fun env h => (es env h).bind fun xs h1 => if isLen xs.length then .ok (.tup xs) h1 else .bad
abbrev DO2 := DO × Option DE
def dSl (a : DE) (lo hi : DO2) : DE := byV fun env h => (a.v env h).bind fun x h1 => (lo.1 env h1).bind fun l h2 => asInt l fun l => (hi.1 env h2).bind fun u h3 => asInt u fun u => slV x l u h3
def isiV (ty : Ty) (x : Val) (h : Heap) : R Val := match isTy h ty x with
  | some k => .ok (.bl k) h
  | none => .bad
def intK {α : Type} (x : Val) (k : Int → R α) : R α := match x with
  | .int n => k n
  | _ => .bad
def rangeK (m n : Int) (h : Heap) : R Iter := match rangeV m n with
  | some xs => .ok (.one (.vals xs)) h
  | none => .bad
def dR1 (a : DE) : DI := fun env h => (a.v env h).bind fun x h1 => intK x fun n => rangeK 0 n h1
def dR2 (a c : DE) : DI := fun env h => (a.v env h).bind fun x h1 => (c.v env h1).bind fun y h2 => intK x fun m => intK y fun n => rangeK m n h2
def dDown (a c : DE) : DI := fun env h => (a.v env h).bind fun x h1 => (c.v env h1).bind fun y h2 => intK x fun m => intK y fun n =>
  if rangeV.isSmall62 m && rangeV.isSmall62 n then .ok (.one (.vals (downTo (m - n).toNat m))) h2 else .bad
def zipK (x y : Val) (h : Heap) : R Iter := match srcOf x h, srcOf y h with
  | some s, some u => .ok (.zip s u) h
  | _, _ => .bad
def dZip (a c : DE) : DI := fun env h => (a.v env h).bind fun x h1 => (c.v env h1).bind fun y h2 => zipK x y h2
def dTgTup (ts : DTs) : DT := fun v env h => match v with
  | .tup xs => ts xs env h
  | .lst a => (match listAt h a with
    | some xs => ts xs env h
    | none => .bad)
  | _ => .bad
def dTgNil : DTs := fun vs env h => match vs with
  | [] => .ok env h
  | _ => .bad
def dTgCons (tg : DT) (r : DTs) : DTs := fun vs env h => match vs with
  | v :: vs => (tg v env h).bind fun env1 h1 => r vs env1 h1
  | [] => .bad

/-! ### its meaning: for the tables t, in a body whose own cells begin at b -/
def m_Ex_var (t : T) (b : Nat) (i : Nat) : DE := byV fun env h => R.of (env.get i) h
def m_Ex_cst (t : T) (b : Nat) (v : Val) : DE := byV fun _ h => .ok v h
def m_Ex_glo (t : T) (b : Nat) (k : Nat) : DE := byV fun _ h => R.of t.gl[k]? h
def m_Ex_fnr (t : T) (b : Nat) (i : Nat) : DE := byV fun _ h => .ok (.fn i) h
def m_Ex_bin (t : T) (b : Nat) (op : Operator) (x : DE) (y : DE) : DE := d2 x y (binV op)
def m_Ex_neg (t : T) (b : Nat) (x : DE) : DE := d1 x negV
def m_Ex_not (t : T) (b : Nat) (x : DE) : DE := dNot x
def m_Ex_cmp (t : T) (b : Nat) (op : CmpOp) (x : DE) (y : DE) : DE := d2 x y (cmpV op)
def m_Ex_cmp2 (t : T) (b : Nat) (op : CmpOp) (op2 : CmpOp) (x : DE) (y : DE) (z : DE) : DE := dChain op op2 x y z
def m_Ex_and (t : T) (b : Nat) (x : DE) (y : DE) : DE := dAnd x y
def m_Ex_or (t : T) (b : Nat) (x : DE) (y : DE) : DE := dOr x y
def m_Ex_ife (t : T) (b : Nat) (c : DE) (x : DE) (y : DE) : DE := dIfe c x y
def m_Ex_tup (t : T) (b : Nat) (es : DL) : DE := dTup es
def m_Ex_idx (t : T) (b : Nat) (x : DE) (y : DE) : DE := d2 x y idxV
def m_Ex_sl (t : T) (b : Nat) (x : DE) (lo : DO2) (hi : DO2) : DE := dSl x lo hi
def m_Ex_new (t : T) (b : Nat) (l : DL) : DE := byV fun env h => (l env h).bind new
def m_Ex_bi (t : T) (b : Nat) (k : Bi) (x : DE) : DE := d1 x (biV k)
def m_Ex_biL (t : T) (b : Nat) (k : Bi) (l : DL) : DE := byV fun env h => (l env h).bind (biL k)
def m_Ex_max2 (t : T) (b : Nat) (x : DE) (y : DE) : DE := d2 x y maxV
def m_Ex_min2 (t : T) (b : Nat) (x : DE) (y : DE) : DE := d2 x y minV
def m_Ex_isi (t : T) (b : Nat) (ty : Ty) (x : DE) : DE := d1 x (isiV ty)
def m_Ex_call (t : T) (b : Nat) (f : Nat) (es : DL) : DE := byV fun env h => (es env h).bind fun xs h1 => t.call f xs h1
def m_Ex_app (t : T) (b : Nat) (x : DE) (y : DE) : DE := dApp b x y
def m_Ex_xch (t : T) (b : Nat) (x : DE) : DE := d1 x xchV
def m_Oe_none (t : T) (b : Nat) : DO2 := ⟨fun _ h => .ok none h, none⟩
def m_Oe_some (t : T) (b : Nat) (x : DE) : DO2 := ⟨fun env h => (x.v env h).bind fun x h1 => .ok (some x) h1, some x⟩
def m_Le_disp (t : T) (b : Nat) (es : DL) : DL := dDisp es
def m_Le_mul (t : T) (b : Nat) (l : DL) (x : DE) : DL := dMulL l x
def m_Le_add (t : T) (b : Nat) (l : DL) (m : DL) : DL := dAddL l m
def m_Le_of (t : T) (b : Nat) (x : DE) : DL := dOfL x
def m_Le_lc (t : T) (b : Nat) (own : List Nat) (tg : DT) (it : DI) (c : DO2) (x : DE) : DL := dLc own tg it c.2 x
def m_Exs_nil (t : T) (b : Nat) : DL := fun _ h => .ok [] h
def m_Exs_cons (t : T) (b : Nat) (x : DE) (r : DL) : DL := dCons x r
def m_Exs_star (t : T) (b : Nat) (x : DE) (r : DL) : DL := dStar (dOfL x) r
def m_Exs_starL (t : T) (b : Nat) (l : DL) (r : DL) : DL := dStar l r
def m_It_r1 (t : T) (b : Nat) (x : DE) : DI := dR1 x
def m_It_r2 (t : T) (b : Nat) (x : DE) (y : DE) : DI := dR2 x y
def m_It_down (t : T) (b : Nat) (x : DE) (y : DE) : DI := dDown x y
def m_It_of (t : T) (b : Nat) (x : DE) : DI := fun env h => (x.v env h).bind fun x h1 => iterOf x h1 .one
def m_It_enum (t : T) (b : Nat) (x : DE) : DI := fun env h => (x.v env h).bind fun x h1 => iterOf x h1 .enum
def m_It_zip (t : T) (b : Nat) (x : DE) (y : DE) : DI := dZip x y
def m_Tg_nm (t : T) (b : Nat) (i : Nat) : DT := fun v env h => .ok (env.set i (some v)) h
def m_Tg_tup (t : T) (b : Nat) (ts : DTs) : DT := dTgTup ts
def m_Tg_sub (t : T) (b : Nat) (x : DE) (y : DE) : DT := fun v env h => (x.v env h).bind fun x h1 => (y.v env h1).bind fun y h2 => (putV b x y v h2).bind fun _ h3 => .ok env h3
def m_Tgs_nil (t : T) (b : Nat) : DTs := dTgNil
def m_Tgs_cons (t : T) (b : Nat) (tg : DT) (r : DTs) : DTs := dTgCons tg r
def den (t : T) (b : Nat) (e : Ex) : DE := Ex.rec (motive_1 := fun _ => DE) (motive_2 := fun _ => DO2) (motive_3 := fun _ => DL) (motive_4 := fun _ => DL) (motive_5 := fun _ => DI) (motive_6 := fun _ => DT) (motive_7 := fun _ => DTs) (fun i => m_Ex_var t b i) (fun v => m_Ex_cst t b v) (fun k => m_Ex_glo t b k) (fun i => m_Ex_fnr t b i) (fun op _ _ x' y' => m_Ex_bin t b op x' y') (fun _ x' => m_Ex_neg t b x') (fun _ x' => m_Ex_not t b x') (fun op _ _ x' y' => m_Ex_cmp t b op x' y') (fun op op2 _ _ _ x' y' z' => m_Ex_cmp2 t b op op2 x' y' z') (fun _ _ x' y' => m_Ex_and t b x' y') (fun _ _ x' y' => m_Ex_or t b x' y') (fun _ _ _ c' x' y' => m_Ex_ife t b c' x' y') (fun _ es' => m_Ex_tup t b es') (fun _ _ x' y' => m_Ex_idx t b x' y') (fun _ _ _ x' lo' hi' => m_Ex_sl t b x' lo' hi') (fun _ l' => m_Ex_new t b l') (fun k _ x' => m_Ex_bi t b k x') (fun k _ l' => m_Ex_biL t b k l') (fun _ _ x' y' => m_Ex_max2 t b x' y') (fun _ _ x' y' => m_Ex_min2 t b x' y') (fun ty _ x' => m_Ex_isi t b ty x') (fun f _ es' => m_Ex_call t b f es') (fun _ _ x' y' => m_Ex_app t b x' y') (fun _ x' => m_Ex_xch t b x') (m_Oe_none t b) (fun _ x' => m_Oe_some t b x') (fun _ es' => m_Le_disp t b es') (fun _ _ l' x' => m_Le_mul t b l' x') (fun _ _ l' m' => m_Le_add t b l' m') (fun _ x' => m_Le_of t b x') (fun own _ _ _ _ tg' it' c' x' => m_Le_lc t b own tg' it' c' x') (m_Exs_nil t b) (fun _ _ x' r' => m_Exs_cons t b x' r') (fun _ _ x' r' => m_Exs_star t b x' r') (fun _ _ l' r' => m_Exs_starL t b l' r') (fun _ x' => m_It_r1 t b x') (fun _ _ x' y' => m_It_r2 t b x' y') (fun _ _ x' y' => m_It_down t b x' y') (fun _ x' => m_It_of t b x') (fun _ x' => m_It_enum t b x') (fun _ _ x' y' => m_It_zip t b x' y') (fun i => m_Tg_nm t b i) (fun _ ts' => m_Tg_tup t b ts') (fun _ _ x' y' => m_Tg_sub t b x' y') (m_Tgs_nil t b) (fun _ _ tg' r' => m_Tgs_cons t b tg' r') e
def denO (t : T) (b : Nat) (e : Oe) : DO2 := Oe.rec (motive_1 := fun _ => DE) (motive_2 := fun _ => DO2) (motive_3 := fun _ => DL) (motive_4 := fun _ => DL) (motive_5 := fun _ => DI) (motive_6 := fun _ => DT) (motive_7 := fun _ => DTs) (fun i => m_Ex_var t b i) (fun v => m_Ex_cst t b v) (fun k => m_Ex_glo t b k) (fun i => m_Ex_fnr t b i) (fun op _ _ x' y' => m_Ex_bin t b op x' y') (fun _ x' => m_Ex_neg t b x') (fun _ x' => m_Ex_not t b x') (fun op _ _ x' y' => m_Ex_cmp t b op x' y') (fun op op2 _ _ _ x' y' z' => m_Ex_cmp2 t b op op2 x' y' z') (fun _ _ x' y' => m_Ex_and t b x' y') (fun _ _ x' y' => m_Ex_or t b x' y') (fun _ _ _ c' x' y' => m_Ex_ife t b c' x' y') (fun _ es' => m_Ex_tup t b es') (fun _ _ x' y' => m_Ex_idx t b x' y') (fun _ _ _ x' lo' hi' => m_Ex_sl t b x' lo' hi') (fun _ l' => m_Ex_new t b l') (fun k _ x' => m_Ex_bi t b k x') (fun k _ l' => m_Ex_biL t b k l') (fun _ _ x' y' => m_Ex_max2 t b x' y') (fun _ _ x' y' => m_Ex_min2 t b x' y') (fun ty _ x' => m_Ex_isi t b ty x') (fun f _ es' => m_Ex_call t b f es') (fun _ _ x' y' => m_Ex_app t b x' y') (fun _ x' => m_Ex_xch t b x') (m_Oe_none t b) (fun _ x' => m_Oe_some t b x') (fun _ es' => m_Le_disp t b es') (fun _ _ l' x' => m_Le_mul t b l' x') (fun _ _ l' m' => m_Le_add t b l' m') (fun _ x' => m_Le_of t b x') (fun own _ _ _ _ tg' it' c' x' => m_Le_lc t b own tg' it' c' x') (m_Exs_nil t b) (fun _ _ x' r' => m_Exs_cons t b x' r') (fun _ _ x' r' => m_Exs_star t b x' r') (fun _ _ l' r' => m_Exs_starL t b l' r') (fun _ x' => m_It_r1 t b x') (fun _ _ x' y' => m_It_r2 t b x' y') (fun _ _ x' y' => m_It_down t b x' y') (fun _ x' => m_It_of t b x') (fun _ x' => m_It_enum t b x') (fun _ _ x' y' => m_It_zip t b x' y') (fun i => m_Tg_nm t b i) (fun _ ts' => m_Tg_tup t b ts') (fun _ _ x' y' => m_Tg_sub t b x' y') (m_Tgs_nil t b) (fun _ _ tg' r' => m_Tgs_cons t b tg' r') e
def denL (t : T) (b : Nat) (e : Le) : DL := Le.rec (motive_1 := fun _ => DE) (motive_2 := fun _ => DO2) (motive_3 := fun _ => DL) (motive_4 := fun _ => DL) (motive_5 := fun _ => DI) (motive_6 := fun _ => DT) (motive_7 := fun _ => DTs) (fun i => m_Ex_var t b i) (fun v => m_Ex_cst t b v) (fun k => m_Ex_glo t b k) (fun i => m_Ex_fnr t b i) (fun op _ _ x' y' => m_Ex_bin t b op x' y') (fun _ x' => m_Ex_neg t b x') (fun _ x' => m_Ex_not t b x') (fun op _ _ x' y' => m_Ex_cmp t b op x' y') (fun op op2 _ _ _ x' y' z' => m_Ex_cmp2 t b op op2 x' y' z') (fun _ _ x' y' => m_Ex_and t b x' y') (fun _ _ x' y' => m_Ex_or t b x' y') (fun _ _ _ c' x' y' => m_Ex_ife t b c' x' y') (fun _ es' => m_Ex_tup t b es') (fun _ _ x' y' => m_Ex_idx t b x' y') (fun _ _ _ x' lo' hi' => m_Ex_sl t b x' lo' hi') (fun _ l' => m_Ex_new t b l') (fun k _ x' => m_Ex_bi t b k x') (fun k _ l' => m_Ex_biL t b k l') (fun _ _ x' y' => m_Ex_max2 t b x' y') (fun _ _ x' y' => m_Ex_min2 t b x' y') (fun ty _ x' => m_Ex_isi t b ty x') (fun f _ es' => m_Ex_call t b f es') (fun _ _ x' y' => m_Ex_app t b x' y') (fun _ x' => m_Ex_xch t b x') (m_Oe_none t b) (fun _ x' => m_Oe_some t b x') (fun _ es' => m_Le_disp t b es') (fun _ _ l' x' => m_Le_mul t b l' x') (fun _ _ l' m' => m_Le_add t b l' m') (fun _ x' => m_Le_of t b x') (fun own _ _ _ _ tg' it' c' x' => m_Le_lc t b own tg' it' c' x') (m_Exs_nil t b) (fun _ _ x' r' => m_Exs_cons t b x' r') (fun _ _ x' r' => m_Exs_star t b x' r') (fun _ _ l' r' => m_Exs_starL t b l' r') (fun _ x' => m_It_r1 t b x') (fun _ _ x' y' => m_It_r2 t b x' y') (fun _ _ x' y' => m_It_down t b x' y') (fun _ x' => m_It_of t b x') (fun _ x' => m_It_enum t b x') (fun _ _ x' y' => m_It_zip t b x' y') (fun i => m_Tg_nm t b i) (fun _ ts' => m_Tg_tup t b ts') (fun _ _ x' y' => m_Tg_sub t b x' y') (m_Tgs_nil t b) (fun _ _ tg' r' => m_Tgs_cons t b tg' r') e
def denX (t : T) (b : Nat) (e : Exs) : DL := Exs.rec (motive_1 := fun _ => DE) (motive_2 := fun _ => DO2) (motive_3 := fun _ => DL) (motive_4 := fun _ => DL) (motive_5 := fun _ => DI) (motive_6 := fun _ => DT) (motive_7 := fun _ => DTs) (fun i => m_Ex_var t b i) (fun v => m_Ex_cst t b v) (fun k => m_Ex_glo t b k) (fun i => m_Ex_fnr t b i) (fun op _ _ x' y' => m_Ex_bin t b op x' y') (fun _ x' => m_Ex_neg t b x') (fun _ x' => m_Ex_not t b x') (fun op _ _ x' y' => m_Ex_cmp t b op x' y') (fun op op2 _ _ _ x' y' z' => m_Ex_cmp2 t b op op2 x' y' z') (fun _ _ x' y' => m_Ex_and t b x' y') (fun _ _ x' y' => m_Ex_or t b x' y') (fun _ _ _ c' x' y' => m_Ex_ife t b c' x' y') (fun _ es' => m_Ex_tup t b es') (fun _ _ x' y' => m_Ex_idx t b x' y') (fun _ _ _ x' lo' hi' => m_Ex_sl t b x' lo' hi') (fun _ l' => m_Ex_new t b l') (fun k _ x' => m_Ex_bi t b k x') (fun k _ l' => m_Ex_biL t b k l') (fun _ _ x' y' => m_Ex_max2 t b x' y') (fun _ _ x' y' => m_Ex_min2 t b x' y') (fun ty _ x' => m_Ex_isi t b ty x') (fun f _ es' => m_Ex_call t b f es') (fun _ _ x' y' => m_Ex_app t b x' y') (fun _ x' => m_Ex_xch t b x') (m_Oe_none t b) (fun _ x' => m_Oe_some t b x') (fun _ es' => m_Le_disp t b es') (fun _ _ l' x' => m_Le_mul t b l' x') (fun _ _ l' m' => m_Le_add t b l' m') (fun _ x' => m_Le_of t b x') (fun own _ _ _ _ tg' it' c' x' => m_Le_lc t b own tg' it' c' x') (m_Exs_nil t b) (fun _ _ x' r' => m_Exs_cons t b x' r') (fun _ _ x' r' => m_Exs_star t b x' r') (fun _ _ l' r' => m_Exs_starL t b l' r') (fun _ x' => m_It_r1 t b x') (fun _ _ x' y' => m_It_r2 t b x' y') (fun _ _ x' y' => m_It_down t b x' y') (fun _ x' => m_It_of t b x') (fun _ x' => m_It_enum t b x') (fun _ _ x' y' => m_It_zip t b x' y') (fun i => m_Tg_nm t b i) (fun _ ts' => m_Tg_tup t b ts') (fun _ _ x' y' => m_Tg_sub t b x' y') (m_Tgs_nil t b) (fun _ _ tg' r' => m_Tgs_cons t b tg' r') e
def denI (t : T) (b : Nat) (e : It) : DI := It.rec (motive_1 := fun _ => DE) (motive_2 := fun _ => DO2) (motive_3 := fun _ => DL) (motive_4 := fun _ => DL) (motive_5 := fun _ => DI) (motive_6 := fun _ => DT) (motive_7 := fun _ => DTs) (fun i => m_Ex_var t b i) (fun v => m_Ex_cst t b v) (fun k => m_Ex_glo t b k) (fun i => m_Ex_fnr t b i) (fun op _ _ x' y' => m_Ex_bin t b op x' y') (fun _ x' => m_Ex_neg t b x') (fun _ x' => m_Ex_not t b x') (fun op _ _ x' y' => m_Ex_cmp t b op x' y') (fun op op2 _ _ _ x' y' z' => m_Ex_cmp2 t b op op2 x' y' z') (fun _ _ x' y' => m_Ex_and t b x' y') (fun _ _ x' y' => m_Ex_or t b x' y') (fun _ _ _ c' x' y' => m_Ex_ife t b c' x' y') (fun _ es' => m_Ex_tup t b es') (fun _ _ x' y' => m_Ex_idx t b x' y') (fun _ _ _ x' lo' hi' => m_Ex_sl t b x' lo' hi') (fun _ l' => m_Ex_new t b l') (fun k _ x' => m_Ex_bi t b k x') (fun k _ l' => m_Ex_biL t b k l') (fun _ _ x' y' => m_Ex_max2 t b x' y') (fun _ _ x' y' => m_Ex_min2 t b x' y') (fun ty _ x' => m_Ex_isi t b ty x') (fun f _ es' => m_Ex_call t b f es') (fun _ _ x' y' => m_Ex_app t b x' y') (fun _ x' => m_Ex_xch t b x') (m_Oe_none t b) (fun _ x' => m_Oe_some t b x') (fun _ es' => m_Le_disp t b es') (fun _ _ l' x' => m_Le_mul t b l' x') (fun _ _ l' m' => m_Le_add t b l' m') (fun _ x' => m_Le_of t b x') (fun own _ _ _ _ tg' it' c' x' => m_Le_lc t b own tg' it' c' x') (m_Exs_nil t b) (fun _ _ x' r' => m_Exs_cons t b x' r') (fun _ _ x' r' => m_Exs_star t b x' r') (fun _ _ l' r' => m_Exs_starL t b l' r') (fun _ x' => m_It_r1 t b x') (fun _ _ x' y' => m_It_r2 t b x' y') (fun _ _ x' y' => m_It_down t b x' y') (fun _ x' => m_It_of t b x') (fun _ x' => m_It_enum t b x') (fun _ _ x' y' => m_It_zip t b x' y') (fun i => m_Tg_nm t b i) (fun _ ts' => m_Tg_tup t b ts') (fun _ _ x' y' => m_Tg_sub t b x' y') (m_Tgs_nil t b) (fun _ _ tg' r' => m_Tgs_cons t b tg' r') e
def denT (t : T) (b : Nat) (e : Tg) : DT := Tg.rec (motive_1 := fun _ => DE) (motive_2 := fun _ => DO2) (motive_3 := fun _ => DL) (motive_4 := fun _ => DL) (motive_5 := fun _ => DI) (motive_6 := fun _ => DT) (motive_7 := fun _ => DTs) (fun i => m_Ex_var t b i) (fun v => m_Ex_cst t b v) (fun k => m_Ex_glo t b k) (fun i => m_Ex_fnr t b i) (fun op _ _ x' y' => m_Ex_bin t b op x' y') (fun _ x' => m_Ex_neg t b x') (fun _ x' => m_Ex_not t b x') (fun op _ _ x' y' => m_Ex_cmp t b op x' y') (fun op op2 _ _ _ x' y' z' => m_Ex_cmp2 t b op op2 x' y' z') (fun _ _ x' y' => m_Ex_and t b x' y') (fun _ _ x' y' => m_Ex_or t b x' y') (fun _ _ _ c' x' y' => m_Ex_ife t b c' x' y') (fun _ es' => m_Ex_tup t b es') (fun _ _ x' y' => m_Ex_idx t b x' y') (fun _ _ _ x' lo' hi' => m_Ex_sl t b x' lo' hi') (fun _ l' => m_Ex_new t b l') (fun k _ x' => m_Ex_bi t b k x') (fun k _ l' => m_Ex_biL t b k l') (fun _ _ x' y' => m_Ex_max2 t b x' y') (fun _ _ x' y' => m_Ex_min2 t b x' y') (fun ty _ x' => m_Ex_isi t b ty x') (fun f _ es' => m_Ex_call t b f es') (fun _ _ x' y' => m_Ex_app t b x' y') (fun _ x' => m_Ex_xch t b x') (m_Oe_none t b) (fun _ x' => m_Oe_some t b x') (fun _ es' => m_Le_disp t b es') (fun _ _ l' x' => m_Le_mul t b l' x') (fun _ _ l' m' => m_Le_add t b l' m') (fun _ x' => m_Le_of t b x') (fun own _ _ _ _ tg' it' c' x' => m_Le_lc t b own tg' it' c' x') (m_Exs_nil t b) (fun _ _ x' r' => m_Exs_cons t b x' r') (fun _ _ x' r' => m_Exs_star t b x' r') (fun _ _ l' r' => m_Exs_starL t b l' r') (fun _ x' => m_It_r1 t b x') (fun _ _ x' y' => m_It_r2 t b x' y') (fun _ _ x' y' => m_It_down t b x' y') (fun _ x' => m_It_of t b x') (fun _ x' => m_It_enum t b x') (fun _ _ x' y' => m_It_zip t b x' y') (fun i => m_Tg_nm t b i) (fun _ ts' => m_Tg_tup t b ts') (fun _ _ x' y' => m_Tg_sub t b x' y') (m_Tgs_nil t b) (fun _ _ tg' r' => m_Tgs_cons t b tg' r') e
def denTs (t : T) (b : Nat) (e : Tgs) : DTs := Tgs.rec (motive_1 := fun _ => DE) (motive_2 := fun _ => DO2) (motive_3 := fun _ => DL) (motive_4 := fun _ => DL) (motive_5 := fun _ => DI) (motive_6 := fun _ => DT) (motive_7 := fun _ => DTs) (fun i => m_Ex_var t b i) (fun v => m_Ex_cst t b v) (fun k => m_Ex_glo t b k) (fun i => m_Ex_fnr t b i) (fun op _ _ x' y' => m_Ex_bin t b op x' y') (fun _ x' => m_Ex_neg t b x') (fun _ x' => m_Ex_not t b x') (fun op _ _ x' y' => m_Ex_cmp t b op x' y') (fun op op2 _ _ _ x' y' z' => m_Ex_cmp2 t b op op2 x' y' z') (fun _ _ x' y' => m_Ex_and t b x' y') (fun _ _ x' y' => m_Ex_or t b x' y') (fun _ _ _ c' x' y' => m_Ex_ife t b c' x' y') (fun _ es' => m_Ex_tup t b es') (fun _ _ x' y' => m_Ex_idx t b x' y') (fun _ _ _ x' lo' hi' => m_Ex_sl t b x' lo' hi') (fun _ l' => m_Ex_new t b l') (fun k _ x' => m_Ex_bi t b k x') (fun k _ l' => m_Ex_biL t b k l') (fun _ _ x' y' => m_Ex_max2 t b x' y') (fun _ _ x' y' => m_Ex_min2 t b x' y') (fun ty _ x' => m_Ex_isi t b ty x') (fun f _ es' => m_Ex_call t b f es') (fun _ _ x' y' => m_Ex_app t b x' y') (fun _ x' => m_Ex_xch t b x') (m_Oe_none t b) (fun _ x' => m_Oe_some t b x') (fun _ es' => m_Le_disp t b es') (fun _ _ l' x' => m_Le_mul t b l' x') (fun _ _ l' m' => m_Le_add t b l' m') (fun _ x' => m_Le_of t b x') (fun own _ _ _ _ tg' it' c' x' => m_Le_lc t b own tg' it' c' x') (m_Exs_nil t b) (fun _ _ x' r' => m_Exs_cons t b x' r') (fun _ _ x' r' => m_Exs_star t b x' r') (fun _ _ l' r' => m_Exs_starL t b l' r') (fun _ x' => m_It_r1 t b x') (fun _ _ x' y' => m_It_r2 t b x' y') (fun _ _ x' y' => m_It_down t b x' y') (fun _ x' => m_It_of t b x') (fun _ x' => m_It_enum t b x') (fun _ _ x' y' => m_It_zip t b x' y') (fun i => m_Tg_nm t b i) (fun _ ts' => m_Tg_tup t b ts') (fun _ _ x' y' => m_Tg_sub t b x' y') (m_Tgs_nil t b) (fun _ _ tg' r' => m_Tgs_cons t b tg' r') e
theorem den_var (t : T) (b : Nat) (i : Nat) : den t b (.var i) = m_Ex_var t b i := rfl
theorem den_cst (t : T) (b : Nat) (v : Val) : den t b (.cst v) = m_Ex_cst t b v := rfl
theorem den_glo (t : T) (b : Nat) (k : Nat) : den t b (.glo k) = m_Ex_glo t b k := rfl
theorem den_fnr (t : T) (b : Nat) (i : Nat) : den t b (.fnr i) = m_Ex_fnr t b i := rfl
theorem den_bin (t : T) (b : Nat) (op : Operator) (x : Ex) (y : Ex) : den t b (.bin op x y) = m_Ex_bin t b op (den t b x) (den t b y) := rfl
theorem den_neg (t : T) (b : Nat) (x : Ex) : den t b (.neg x) = m_Ex_neg t b (den t b x) := rfl
theorem den_not (t : T) (b : Nat) (x : Ex) : den t b (.not x) = m_Ex_not t b (den t b x) := rfl
theorem den_cmp (t : T) (b : Nat) (op : CmpOp) (x : Ex) (y : Ex) : den t b (.cmp op x y) = m_Ex_cmp t b op (den t b x) (den t b y) := rfl
theorem den_cmp2 (t : T) (b : Nat) (op : CmpOp) (op2 : CmpOp) (x : Ex) (y : Ex) (z : Ex) : den t b (.cmp2 op op2 x y z) = m_Ex_cmp2 t b op op2 (den t b x) (den t b y) (den t b z) := rfl
theorem den_and (t : T) (b : Nat) (x : Ex) (y : Ex) : den t b (.and x y) = m_Ex_and t b (den t b x) (den t b y) := rfl
theorem den_or (t : T) (b : Nat) (x : Ex) (y : Ex) : den t b (.or x y) = m_Ex_or t b (den t b x) (den t b y) := rfl
theorem den_ife (t : T) (b : Nat) (c : Ex) (x : Ex) (y : Ex) : den t b (.ife c x y) = m_Ex_ife t b (den t b c) (den t b x) (den t b y) := rfl
theorem den_tup (t : T) (b : Nat) (es : Exs) : den t b (.tup es) = m_Ex_tup t b (denX t b es) := rfl
theorem den_idx (t : T) (b : Nat) (x : Ex) (y : Ex) : den t b (.idx x y) = m_Ex_idx t b (den t b x) (den t b y) := rfl
theorem den_sl (t : T) (b : Nat) (x : Ex) (lo : Oe) (hi : Oe) : den t b (.sl x lo hi) = m_Ex_sl t b (den t b x) (denO t b lo) (denO t b hi) := rfl
theorem den_new (t : T) (b : Nat) (l : Le) : den t b (.new l) = m_Ex_new t b (denL t b l) := rfl
theorem den_bi (t : T) (b : Nat) (k : Bi) (x : Ex) : den t b (.bi k x) = m_Ex_bi t b k (den t b x) := rfl
theorem den_biL (t : T) (b : Nat) (k : Bi) (l : Le) : den t b (.biL k l) = m_Ex_biL t b k (denL t b l) := rfl
theorem den_max2 (t : T) (b : Nat) (x : Ex) (y : Ex) : den t b (.max2 x y) = m_Ex_max2 t b (den t b x) (den t b y) := rfl
theorem den_min2 (t : T) (b : Nat) (x : Ex) (y : Ex) : den t b (.min2 x y) = m_Ex_min2 t b (den t b x) (den t b y) := rfl
theorem den_isi (t : T) (b : Nat) (ty : Ty) (x : Ex) : den t b (.isi ty x) = m_Ex_isi t b ty (den t b x) := rfl
theorem den_call (t : T) (b : Nat) (f : Nat) (es : Exs) : den t b (.call f es) = m_Ex_call t b f (denX t b es) := rfl
theorem den_app (t : T) (b : Nat) (x : Ex) (y : Ex) : den t b (.app x y) = m_Ex_app t b (den t b x) (den t b y) := rfl
theorem den_xch (t : T) (b : Nat) (x : Ex) : den t b (.xch x) = m_Ex_xch t b (den t b x) := rfl
theorem denO_none (t : T) (b : Nat)  : denO t b (.none) = m_Oe_none t b := rfl
theorem denO_some (t : T) (b : Nat) (x : Ex) : denO t b (.some x) = m_Oe_some t b (den t b x) := rfl
theorem denL_disp (t : T) (b : Nat) (es : Exs) : denL t b (.disp es) = m_Le_disp t b (denX t b es) := rfl
theorem denL_mul (t : T) (b : Nat) (l : Le) (x : Ex) : denL t b (.mul l x) = m_Le_mul t b (denL t b l) (den t b x) := rfl
theorem denL_add (t : T) (b : Nat) (l : Le) (m : Le) : denL t b (.add l m) = m_Le_add t b (denL t b l) (denL t b m) := rfl
theorem denL_of (t : T) (b : Nat) (x : Ex) : denL t b (.of x) = m_Le_of t b (den t b x) := rfl
theorem denL_lc (t : T) (b : Nat) (own : List Nat) (tg : Tg) (it : It) (c : Oe) (x : Ex) : denL t b (.lc own tg it c x) = m_Le_lc t b own (denT t b tg) (denI t b it) (denO t b c) (den t b x) := rfl
theorem denX_nil (t : T) (b : Nat)  : denX t b (.nil) = m_Exs_nil t b := rfl
theorem denX_cons (t : T) (b : Nat) (x : Ex) (r : Exs) : denX t b (.cons x r) = m_Exs_cons t b (den t b x) (denX t b r) := rfl
theorem denX_star (t : T) (b : Nat) (x : Ex) (r : Exs) : denX t b (.star x r) = m_Exs_star t b (den t b x) (denX t b r) := rfl
theorem denX_starL (t : T) (b : Nat) (l : Le) (r : Exs) : denX t b (.starL l r) = m_Exs_starL t b (denL t b l) (denX t b r) := rfl
theorem denI_r1 (t : T) (b : Nat) (x : Ex) : denI t b (.r1 x) = m_It_r1 t b (den t b x) := rfl
theorem denI_r2 (t : T) (b : Nat) (x : Ex) (y : Ex) : denI t b (.r2 x y) = m_It_r2 t b (den t b x) (den t b y) := rfl
theorem denI_down (t : T) (b : Nat) (x : Ex) (y : Ex) : denI t b (.down x y) = m_It_down t b (den t b x) (den t b y) := rfl
theorem denI_of (t : T) (b : Nat) (x : Ex) : denI t b (.of x) = m_It_of t b (den t b x) := rfl
theorem denI_enum (t : T) (b : Nat) (x : Ex) : denI t b (.enum x) = m_It_enum t b (den t b x) := rfl
theorem denI_zip (t : T) (b : Nat) (x : Ex) (y : Ex) : denI t b (.zip x y) = m_It_zip t b (den t b x) (den t b y) := rfl
theorem denT_nm (t : T) (b : Nat) (i : Nat) : denT t b (.nm i) = m_Tg_nm t b i := rfl
theorem denT_tup (t : T) (b : Nat) (ts : Tgs) : denT t b (.tup ts) = m_Tg_tup t b (denTs t b ts) := rfl
theorem denT_sub (t : T) (b : Nat) (x : Ex) (y : Ex) : denT t b (.sub x y) = m_Tg_sub t b (den t b x) (den t b y) := rfl
theorem denTs_nil (t : T) (b : Nat)  : denTs t b (.nil) = m_Tgs_nil t b := rfl
theorem denTs_cons (t : T) (b : Nat) (tg : Tg) (r : Tgs) : denTs t b (.cons tg r) = m_Tgs_cons t b (denT t b tg) (denTs t b r) := rfl

/-! ### statements -/
abbrev DS := Env → Heap → RS
def asgV (v : Val) (env : Env) (h : Heap) (tg : DT) : RS := (tg v env h).then env fun env' h' => .nx env' h'
def augV (op : Operator) (x y : Val) (h : Heap) : R Val := match x, y with
  | .int _, .int _ => (match op with
    | .Add => binV .Add x y h
    | .Sub => binV .Sub x y h
    | .FloorDiv => binV .FloorDiv x y h
    | _ => .bad)
  | _, _ => .bad
def s_asg (t : T) (b : Nat) (tg : Tg) (e : Ex) : DS := fun env h => ((den t b e).v env h).then env fun v h1 => asgV v env h1 (denT t b tg)
def s_par2 (t : T) (b : Nat) (i j : Nat) (x y : Ex) : DS := fun env h => ((den t b x).v env h).then env fun v h1 => ((den t b y).v env h1).then env fun u h2 => .nx ((env.set i (some v)).set j (some u)) h2
def s_par3 (t : T) (b : Nat) (i j k : Nat) (x y z : Ex) : DS := fun env h => ((den t b x).v env h).then env fun v h1 => ((den t b y).v env h1).then env fun u h2 => ((den t b z).v env h2).then env fun w h3 => .nx (((env.set i (some v)).set j (some u)).set k (some w)) h3
def s_aug (t : T) (b : Nat) (i : Nat) (op : Operator) (e : Ex) : DS := fun env h => match env.get i with
  | some x => ((den t b e).v env h).then env fun y h1 => (augV op x y h1).then env fun z h2 => .nx (env.set i (some z)) h2
  | none => .bad
def s_expr (t : T) (b : Nat) (e : Ex) : DS := fun env h => ((den t b e).v env h).then env fun _ h1 => .nx env h1
def s_ret (t : T) (b : Nat) (e : Ex) : DS := fun env h => ((den t b e).v env h).then env fun v h1 => .ret v h1
def s_ife (t : T) (b : Nat) (c : Ex) (x y : DS) : DS := fun env h => ((den t b c).t env h).then env fun k h1 => if k then x env h1 else y env h1
def s_whl (t : T) (b : Nat) (c : Ex) (x : DS) : DS := fun env h => whileL (den t b c).t x fuelW env h
def s_for (t : T) (b : Nat) (tg : Tg) (it : It) (x : DS) : DS := fun env h => (denI t b it env h).then env fun I h1 =>
  forL (fun v env2 h2 => (denT t b tg v env2 h2).then env2 fun env3 h3 => x env3 h3) I (I.len h1) 0 env h1
def s_cons (s r : DS) : DS := fun env h => match s env h with
  | .nx env' h' => r env' h'
  | q => q
def denS (t : T) (b : Nat) (s : St) : DS := St.rec (motive_1 := fun _ => DS) (motive_2 := fun _ => DS)
  (fun tg e => s_asg t b tg e) (fun i j x y => s_par2 t b i j x y) (fun i j k x y z => s_par3 t b i j k x y z) (fun i op e => s_aug t b i op e) (fun e => s_expr t b e) (fun e => s_ret t b e)
  (fun _ h => .ret .non h) (fun env h => .nx env h) (fun env h => .brk env h) (fun env h => .ct env h) (fun c _ _ x y => s_ife t b c x y) (fun c _ x => s_whl t b c x) (fun tg it _ x => s_for t b tg it x)
  (fun _ _ => .bad) (fun env h => .nx env h) (fun _ _ s r => s_cons s r) s
def denSs (t : T) (b : Nat) (s : Sts) : DS := Sts.rec (motive_1 := fun _ => DS) (motive_2 := fun _ => DS)
  (fun tg e => s_asg t b tg e) (fun i j x y => s_par2 t b i j x y) (fun i j k x y z => s_par3 t b i j k x y z) (fun i op e => s_aug t b i op e) (fun e => s_expr t b e) (fun e => s_ret t b e)
  (fun _ h => .ret .non h) (fun env h => .nx env h) (fun env h => .brk env h) (fun env h => .ct env h) (fun c _ _ x y => s_ife t b c x y) (fun c _ x => s_whl t b c x) (fun tg it _ x => s_for t b tg it x)
  (fun _ _ => .bad) (fun env h => .nx env h) (fun _ _ s r => s_cons s r) s

/-! ### defs -/
structure Def where
  name : Str
  np : Nat
  n : Nat
  body : Sts
/-- what a body leaves, its own cells (from n on) thrown away when nothing of the answer stands in them -/
def leave (n : Nat) : RS → R Val
  | .ret v h => if below n v then .ok v (h.take n) else .ok v h
  | .nx _ h => .ok .non (h.take n)
  | .ex e _ h => (match e.v with
    | none => .ex e (h.take n)
    | some v => if below n v then .ex e (h.take n) else .bad)
  | _ => .bad
def runDef (t : T) (d : Def) (args : List Val) (h : Heap) : R Val :=
  if Nat.beq args.length d.np then leave h.length (denSs t h.length d.body (args.map some ++ List.replicate (d.n - d.np) none) h) else .bad
def tab (ds : List Def) (gl : List Val) : Nat → T
  | 0 => ⟨fun _ _ _ => .bad, gl⟩
  | n + 1 => ⟨fun f args h => match ds[f]? with
    | some d => runDef (tab ds gl n) d args h
    | none => .bad, gl⟩
end Y
end

set_option Elab.async false
set_option linter.all false
set_option maxRecDepth 100000
set_option maxHeartbeats 4000000
/-! Snd1: what stands where: values, heaps, and what a step keeps. -/
namespace Y
open PySem PySem.Spec PyProof.Rows L2

/-- where the defs and the classes of the text stand; the field of a class of exceptions -/
structure Adr where
  fn : Nat → Addr
  cl : Nat → Addr
  fl : Nat → Str

section
variable (K : PySem.W.Frag) (F : Adr) (f : Nat → Addr) (n : Nat) (H : Hp)
mutual
inductive Rep : Val → V → Prop
  | non : Rep .non .non
  | bl (b : Bool) : Rep (.bl b) (.bl b)
  | int (i : Int) : Rep (.int i) (.int i)
  | str (s : Str) : Rep (.str s) (.str s)
  | tup {xs : List Val} {a : Addr} {vs : List V} : SqT K H a vs → Reps xs vs → Rep (.tup xs) (.ref a)
  | lst {a : Nat} {p : Addr} : a < n → p = f a → Rep (.lst a) (.ref p)
  | fn (i : Nat) {p : Addr} : p = F.fn i → Rep (.fn i) (.ref p)
inductive Reps : List Val → List V → Prop
  | nil : Reps [] []
  | cons {x : Val} {v : V} {xs : List Val} {vs : List V} : Rep x v → Reps xs vs → Reps (x :: xs) (v :: vs)
end
end
section
variable {K : PySem.W.Frag} {F : Adr} {f f' : Nat → Addr} {n n' : Nat} {H H' : Hp}
mutual
theorem Rep.mono (hS : ∀ a vs, SqT K H a vs → SqT K H' a vs) (hn : n ≤ n') (hf : ∀ i, i < n → f' i = f i) : ∀ (v : Val) (x : V), Rep K F f n H v x → Rep K F f' n' H' v x
  | .non, _, h => by cases h; exact .non
  | .bl b, _, h => by cases h; exact .bl b
  | .int i, _, h => by cases h; exact .int i
  | .str s, _, h => by cases h; exact .str s
  | .tup xs, _, h => by
    cases h with
    | tup q r => exact .tup (hS _ _ q) (Reps.mono hS hn hf xs _ r)
  | .lst a, _, h => by
    cases h with
    | lst q e => exact .lst (Nat.lt_of_lt_of_le q hn) (by rw [hf _ q]; exact e)
  | .fn i, _, h => by
    cases h with
    | fn _ e => exact .fn i e
theorem Reps.mono (hS : ∀ a vs, SqT K H a vs → SqT K H' a vs) (hn : n ≤ n') (hf : ∀ i, i < n → f' i = f i) : ∀ (xs : List Val) (vs : List V), Reps K F f n H xs vs → Reps K F f' n' H' xs vs
  | [], _, h => by cases h; exact .nil
  | x :: xs, _, h => by
    cases h with
    | cons r q => exact .cons (Rep.mono hS hn hf x _ r) (Reps.mono hS hn hf xs _ q)
end
mutual
/-- without the references at or above k -/
theorem Rep.cutd {k : Nat} : ∀ (v : Val) (x : V), Rep K F f n H v x → below k v = true → Rep K F f k H v x
  | .non, _, h, _ => by cases h; exact .non
  | .bl b, _, h, _ => by cases h; exact .bl b
  | .int i, _, h, _ => by cases h; exact .int i
  | .str s, _, h, _ => by cases h; exact .str s
  | .tup xs, _, h, b => by
    cases h with
    | tup q r => exact .tup q (Reps.cutd xs _ r (by unfold below at b; exact b))
  | .lst a, _, h, b => by
    cases h with
    | lst q e => exact .lst (by unfold below at b; exact Nat.le_of_ble_eq_true b) e
  | .fn i, _, h, _ => by
    cases h with
    | fn _ e => exact .fn i e
theorem Reps.cutd {k : Nat} : ∀ (xs : List Val) (vs : List V), Reps K F f n H xs vs → below.belowAll k xs = true → Reps K F f k H xs vs
  | [], _, h, _ => by cases h; exact .nil
  | x :: xs, _, h, b => by
    unfold below.belowAll at b
    obtain ⟨b1, b2⟩ := Bool.and_eq_true_iff.mp b
    cases h with
    | cons r q => exact .cons (Rep.cutd x _ r b1) (Reps.cutd xs _ q b2)
end
mutual
/-- every reference lies below n -/
theorem Rep.bel : ∀ (v : Val) (x : V), Rep K F f n H v x → below n v = true
  | .non, _, _ => rfl
  | .bl b, _, _ => rfl
  | .int i, _, _ => rfl
  | .str s, _, _ => rfl
  | .tup xs, _, h => by
    cases h with
    | tup q r => unfold below; exact Reps.bel xs _ r
  | .lst a, _, h => by
    cases h with
    | lst q e => unfold below; exact Nat.ble_eq_true_of_le q
  | .fn i, _, _ => rfl
theorem Reps.bel : ∀ (xs : List Val) (vs : List V), Reps K F f n H xs vs → below.belowAll n xs = true
  | [], _, _ => rfl
  | x :: xs, _, h => by
    cases h with
    | cons r q => unfold below.belowAll; rw [Rep.bel x _ r, Reps.bel xs _ q]; rfl
end
theorem Reps.length : ∀ {xs : List Val} {vs : List V}, Reps K F f n H xs vs → xs.length = vs.length
  | _, _, .nil => rfl
  | _, _, .cons _ q => congrArg Nat.succ (Reps.length q)
theorem Reps.get : ∀ {xs : List Val} {vs : List V} {i : Nat} {x : Val}, Reps K F f n H xs vs → xs[i]? = some x → ∃ v, vs[i]? = some v ∧ Rep K F f n H x v
  | _, _, _, _, .nil, e => by simp at e
  | _, _, 0, _, .cons r _, e => by simp at e; subst e; exact ⟨_, rfl, r⟩
  | _, _, i + 1, x, .cons _ q, e => by
    obtain ⟨v, h1, h2⟩ := Reps.get (i := i) (x := x) q (by simpa using e)
    exact ⟨v, by simpa using h1, h2⟩
theorem Reps.get' : ∀ {xs : List Val} {vs : List V} {i : Nat} {v : V}, Reps K F f n H xs vs → vs[i]? = some v → ∃ x, xs[i]? = some x ∧ Rep K F f n H x v
  | _, _, _, _, .nil, e => by simp at e
  | _, _, 0, _, .cons r _, e => by simp at e; subst e; exact ⟨_, rfl, r⟩
  | _, _, i + 1, v, .cons _ q, e => by
    obtain ⟨x, h1, h2⟩ := Reps.get' (i := i) (v := v) q (by simpa using e)
    exact ⟨x, by simpa using h1, h2⟩
theorem Reps.app : ∀ {xs ys : List Val} {vs ws : List V}, Reps K F f n H xs vs → Reps K F f n H ys ws → Reps K F f n H (xs ++ ys) (vs ++ ws)
  | _, _, _, _, .nil, s => s
  | _, _, _, _, .cons r q, s => .cons r (Reps.app q s)
theorem Reps.set {x : Val} {v : V} (r : Rep K F f n H x v) : ∀ {xs : List Val} {vs : List V} (i : Nat), Reps K F f n H xs vs → Reps K F f n H (xs.set i x) (vs.set i v)
  | _, _, _, .nil => .nil
  | _, _, 0, .cons _ q => .cons r q
  | _, _, i + 1, .cons p q => .cons p (Reps.set r i q)
theorem Reps.take : ∀ {xs : List Val} {vs : List V} (k : Nat), Reps K F f n H xs vs → Reps K F f n H (xs.take k) (vs.take k)
  | _, _, 0, _ => .nil
  | _, _, _ + 1, .nil => .nil
  | _, _, k + 1, .cons r q => .cons r (Reps.take k q)
theorem Reps.drop : ∀ {xs : List Val} {vs : List V} (k : Nat), Reps K F f n H xs vs → Reps K F f n H (xs.drop k) (vs.drop k)
  | _, _, 0, r => r
  | _, _, _ + 1, .nil => .nil
  | _, _, k + 1, .cons _ q => Reps.drop k q
theorem Reps.rep {xs : List Val} {vs : List V} (r : Reps K F f n H xs vs) : ∀ k : Nat, Reps K F f n H (List.replicate k xs).flatten (List.replicate k vs).flatten
  | 0 => .nil
  | k + 1 => by
    rw [List.replicate_succ, List.replicate_succ, List.flatten_cons, List.flatten_cons]
    exact r.app (Reps.rep r k)
end

/-! ### heaps -/
/-- a list that is only read -/
def RoL (K : PySem.W.Frag) (H : Hp) (a : Addr) (vs : List V) : Prop := (∃ o, H a = some (.frz o (.lst vs))) ∨
  ∃ (o : Obj) (its : Array Value) (n : Nat), K.lookup a = some o ∧ o.cls = .type "list" ∧ o.dict = none ∧ o.data = .seq its n ∧ its.size ≤ sizeLine ∧ Vals vs its.toList
theorem RoL.sql {K : PySem.W.Frag} {H : Hp} {a : Addr} {vs : List V} (r : RoL K H a vs) : SqL K H a vs := by
  rcases r with ⟨o, r⟩ | r
  · exact .inl (.inr ⟨o, r⟩)
  · exact .inr r
def RepC (K : PySem.W.Frag) (F : Adr) (f : Nat → Addr) (n : Nat) (H : Hp) (a : Addr) : Cell → Prop
  | .lst xs => ∃ vs, H a = some (.lst vs) ∧ Reps K F f n H xs vs
  | .ro xs => ∃ vs, RoL K H a vs ∧ Reps K F f n H xs vs
structure Sim (K : PySem.W.Frag) (F : Adr) (f : Nat → Addr) (H : Hp) (h : Heap) : Prop where
  inj : ∀ (i j : Nat) (xs ys : List Val), h[i]? = some (.lst xs) → h[j]? = some (.lst ys) → f i = f j → i = j
  at_ : ∀ (i : Nat) (c : Cell), h[i]? = some c → RepC K F f h.length H (f i) c
/-- what stood and is no list of ours stands -/
def Kp (f : Nat → Addr) (h : Heap) (H H' : Hp) : Prop := ∀ a o, H a = some o → (∀ (i : Nat) (xs : List Val), h[i]? = some (.lst xs) → f i ≠ a) → H' a = some o
def cellVals : Cell → List Val
  | .lst xs => xs
  | .ro xs => xs
def Below (k : Nat) (h : Heap) : Prop := ∀ (i : Nat) (c : Cell), i < k → h[i]? = some c → below.belowAll k (cellVals c) = true
/-- a list stays a list, what is read only stays as it is -/
def Kind (h h' : Heap) : Prop := ∀ (i : Nat) (c : Cell), h[i]? = some c → match c with
  | .lst _ => ∃ ys, h'[i]? = some (.lst ys)
  | .ro xs => h'[i]? = some (.ro xs)
structure Ext (b : Nat) (f : Nat → Addr) (h : Heap) (H : Hp) (f' : Nat → Addr) (h' : Heap) (H' : Hp) : Prop where
  le : h.length ≤ h'.length
  agr : ∀ i, i < h.length → f' i = f i
  kp : Kp f h H H'
  frs : ∀ i, h.length ≤ i → i < h'.length → H (f' i) = none
  bel : ∀ k, k ≤ b → Below k h → Below k h'
  kind : Kind h h'
section
variable {K : PySem.W.Frag} {F : Adr} {b : Nat} {f f1 f2 : Nat → Addr} {h h1 h2 : Heap} {H H1 H2 : Hp}
theorem Kind.refl (h : Heap) : Kind h h := fun i c e => by
  cases c with
  | lst xs => exact ⟨xs, e⟩
  | ro xs => exact e
theorem Kind.trans (a : Kind h h1) (c : Kind h1 h2) : Kind h h2 := fun i u e => by
  have q := a i u e
  cases u with
  | lst xs =>
    obtain ⟨ys, q⟩ := q
    exact c i _ q
  | ro xs => exact c i _ q
theorem Ext.refl : Ext b f h H f h H := ⟨Nat.le_refl _, fun _ _ => rfl, fun _ _ e _ => e, fun i a b => absurd (Nat.lt_of_lt_of_le b a) (Nat.lt_irrefl _), fun _ _ h => h, Kind.refl h⟩
/-- what is tracked stays tracked -/
theorem Ext.none_of (S : Sim K F f1 H1 h1) (E : Ext b f h H f1 h1 H1) {a : Addr} (e : H1 a = none) : H a = none := by
  cases q : H a with
  | none => rfl
  | some o =>
    exfalso
    by_cases hx : ∃ i xs, h[i]? = some (Cell.lst xs) ∧ f i = a
    · obtain ⟨i, xs, hi, ha⟩ := hx
      obtain ⟨ys, h1i⟩ := E.kind i _ hi
      obtain ⟨vs, hv, _⟩ := S.at_ i _ h1i
      have hlt : i < h.length := (List.getElem?_eq_some_iff.mp hi).1
      rw [E.agr i hlt, ha, e] at hv
      cases hv
    · have z := E.kp a o q fun i xs hi ha => hx ⟨i, xs, hi, ha⟩
      rw [e] at z; cases z
theorem Ext.trans (S1 : Sim K F f1 H1 h1) (a : Ext b f h H f1 h1 H1) (c : Ext b f1 h1 H1 f2 h2 H2) : Ext b f h H f2 h2 H2 := by
  refine ⟨Nat.le_trans a.le c.le, fun i hi => (c.agr i (Nat.lt_of_lt_of_le hi a.le)).trans (a.agr i hi), fun p o e hp => c.kp p o (a.kp p o e hp) fun i xs hi => ?_, fun i hi hi2 => ?_, fun k hk q => c.bel k hk (a.bel k hk q), a.kind.trans c.kind⟩
  · by_cases hlt : i < h.length
    · have q := List.getElem?_eq_getElem hlt
      have kd := a.kind i _ q
      rw [a.agr i hlt]
      cases hc : h[i] with
      | lst ys => exact hp i ys (by rw [q, hc])
      | ro ys =>
        rw [hc] at kd
        rw [hi] at kd
        cases kd
    · have hlt1 : i < h1.length := (List.getElem?_eq_some_iff.mp hi).1
      have z := a.frs i (Nat.le_of_not_lt hlt) hlt1
      intro e2
      rw [e2, e] at z; cases z
  · by_cases hlt : i < h1.length
    · rw [c.agr i hlt]
      exact a.frs i hi hlt
    · exact Ext.none_of S1 a (c.frs i (Nat.le_of_not_lt hlt) hi2)
theorem Ext.sqt (S : Sim K F f H h) (E : Ext b f h H f1 h1 H1) (a : Addr) (vs : List V) (q : SqT K H a vs) : SqT K H1 a vs := by
  rcases q with (q | ⟨o, q⟩) | q
  · refine .inl (.inl (E.kp a _ q fun i xs hi e => ?_))
    obtain ⟨ws, hw, _⟩ := S.at_ i _ hi
    rw [e, q] at hw; cases hw
  · refine .inl (.inr ⟨o, E.kp a _ q fun i xs hi e => ?_⟩)
    obtain ⟨ws, hw, _⟩ := S.at_ i _ hi
    rw [e, q] at hw; cases hw
  · exact .inr q
theorem Ext.rep (S : Sim K F f H h) (E : Ext b f h H f1 h1 H1) {v : Val} {x : V} (r : Rep K F f h.length H v x) : Rep K F f1 h1.length H1 v x := Rep.mono (E.sqt S) E.le E.agr v x r
theorem Ext.reps (S : Sim K F f H h) (E : Ext b f h H f1 h1 H1) {v : List Val} {x : List V} (r : Reps K F f h.length H v x) : Reps K F f1 h1.length H1 v x := Reps.mono (E.sqt S) E.le E.agr v x r
/-- a fresh object that is no list of ours -/
theorem Sim.fresh (S : Sim K F f H h) {p : Addr} {o : HO} (hp : H p = none) : Sim K F f (upd H p o) h := by
  have hs : ∀ a vs, SqT K H a vs → SqT K (upd H p o) a vs := fun a vs q => by
    rcases q with (q | ⟨u, q⟩) | q
    · exact .inl (.inl (by rw [upd_ne (ne_of_none q hp)]; exact q))
    · exact .inl (.inr ⟨u, by rw [upd_ne (ne_of_none q hp)]; exact q⟩)
    · exact .inr q
  refine ⟨S.inj, fun i c e => ?_⟩
  have q := S.at_ i c e
  cases c with
  | lst xs =>
    obtain ⟨vs, h1, h2⟩ := q
    exact ⟨vs, by rw [upd_ne (ne_of_none h1 hp)]; exact h1, Reps.mono hs (Nat.le_refl _) (fun _ _ => rfl) _ _ h2⟩
  | ro xs =>
    obtain ⟨vs, h1, h2⟩ := q
    refine ⟨vs, ?_, Reps.mono hs (Nat.le_refl _) (fun _ _ => rfl) _ _ h2⟩
    rcases h1 with ⟨u, q⟩ | q
    · exact .inl ⟨u, by rw [upd_ne (ne_of_none q hp)]; exact q⟩
    · exact .inr q
theorem Ext.fresh {p : Addr} {o : HO} (hp : H p = none) : Ext b f h H f h (upd H p o) :=
  ⟨Nat.le_refl _, fun _ _ => rfl, fun a u e _ => by rw [upd_ne (ne_of_none e hp)]; exact e, fun i a b => absurd (Nat.lt_of_lt_of_le b a) (Nat.lt_irrefl _), fun _ _ h => h, Kind.refl h⟩
/-- a list at D, none of ours, is taken in as the next cell -/
def addr (f : Nat → Addr) (n : Nat) (D : Addr) : Nat → Addr := fun i => if i = n then D else f i
theorem addr_same {n : Nat} {D : Addr} : addr f n D n = D := if_pos rfl
theorem addr_lt {n i : Nat} {D : Addr} (hi : i < n) : addr f n D i = f i := if_neg (Nat.ne_of_lt hi)
theorem Sim.take_in (S : Sim K F f H h) {D : Addr} {xs : List Val} {vs : List V} (hD : H D = some (.lst vs)) (hn : ∀ (i : Nat) (ys : List Val), h[i]? = some (.lst ys) → f i ≠ D) (r : Reps K F f h.length H xs vs) : Sim K F (addr f h.length D) H (h ++ [.lst xs]) := by
  have hl : (h ++ [Cell.lst xs]).length = h.length + 1 := by simp
  have up : ∀ {ys : List Val} {ws : List V}, Reps K F f h.length H ys ws → Reps K F (addr f h.length D) (h ++ [Cell.lst xs]).length H ys ws := fun {ys ws} q =>
    Reps.mono (fun _ _ z => z) (by omega) (fun i hi => addr_lt hi) ys ws q
  have old : ∀ {i : Nat} {c : Cell}, (h ++ [Cell.lst xs])[i]? = some c → i ≠ h.length → i < h.length ∧ h[i]? = some c := fun {i c} e ne => by
    have hi : i < (h ++ [Cell.lst xs]).length := (List.getElem?_eq_some_iff.mp e).1
    have h1 : i < h.length := by omega
    rw [List.getElem?_append_left h1] at e
    exact ⟨h1, e⟩
  refine ⟨fun i j us ws hi hj e => ?_, fun i c e => ?_⟩
  · by_cases h1 : i = h.length
    · by_cases h2 : j = h.length
      · rw [h1, h2]
      · obtain ⟨k1, k2⟩ := old hj h2
        subst h1
        rw [addr_same, addr_lt k1] at e
        exact absurd e.symm (hn j ws k2)
    · obtain ⟨k1, k2⟩ := old hi h1
      by_cases h2 : j = h.length
      · subst h2
        rw [addr_same, addr_lt k1] at e
        exact absurd e (hn i us k2)
      · obtain ⟨k3, k4⟩ := old hj h2
        rw [addr_lt k1, addr_lt k3] at e
        exact S.inj i j us ws k2 k4 e
  · by_cases h1 : i < h.length
    · rw [List.getElem?_append_left h1] at e
      have q := S.at_ i c e
      rw [addr_lt h1]
      cases c with
      | lst ys =>
        obtain ⟨ws, q1, q2⟩ := q
        exact ⟨ws, q1, up q2⟩
      | ro ys =>
        obtain ⟨ws, q1, q2⟩ := q
        exact ⟨ws, q1, up q2⟩
    · have hi : i < (h ++ [Cell.lst xs]).length := (List.getElem?_eq_some_iff.mp e).1
      have hi2 : i = h.length := by omega
      subst hi2
      rw [List.getElem?_append_right (Nat.le_refl _), Nat.sub_self] at e
      have e' : Cell.lst xs = c := Option.some.inj e
      subst e'
      rw [addr_same]
      exact ⟨vs, hD, up r⟩
theorem Ext.take_in {D : Addr} {xs : List Val} (S : Sim K F f1 H1 h1) (E : Ext b f h H f1 h1 H1) (hD : H D = none) (hb : b ≤ h.length) : Ext b f h H (addr f1 h1.length D) (h1 ++ [.lst xs]) H1 := by
  have hl : (h1 ++ [Cell.lst xs]).length = h1.length + 1 := by simp
  refine ⟨by have := E.le; omega, fun i hi => by rw [addr_lt (Nat.lt_of_lt_of_le hi E.le)]; exact E.agr i hi, E.kp, fun i h2 h3 => ?_, fun k hk q i c hi e => ?_, fun i c e => ?_⟩
  · by_cases h4 : i < h1.length
    · rw [addr_lt h4]; exact E.frs i h2 h4
    · have h5 : i = h1.length := by omega
      subst h5
      rw [addr_same]; exact hD
  · have h4 : i < h1.length := by have := E.le; omega
    rw [List.getElem?_append_left h4] at e
    exact E.bel k hk q i c hi e
  · have h4 : i < h1.length := Nat.lt_of_lt_of_le (List.getElem?_eq_some_iff.mp e).1 E.le
    have q := E.kind i c e
    cases c with
    | lst ys =>
      obtain ⟨zs, q⟩ := q
      exact ⟨zs, by rw [List.getElem?_append_left h4]; exact q⟩
    | ro ys => show (h1 ++ [Cell.lst xs])[i]? = _; rw [List.getElem?_append_left h4]; exact q
theorem Sim.ne_fresh (S : Sim K F f H h) {p : Addr} (hp : H p = none) (i : Nat) (xs : List Val) (e : h[i]? = some (.lst xs)) : f i ≠ p := by
  obtain ⟨vs, q, _⟩ := S.at_ i _ e
  exact ne_of_none q hp
theorem Rep.taken {D : Addr} {xs : List Val} : Rep K F (addr f h.length D) (h ++ [Cell.lst xs]).length H (.lst h.length) (.ref D) := .lst (by simp) addr_same.symm
end
end Y

set_option Elab.async false
set_option linter.all false
set_option maxRecDepth 100000
set_option maxHeartbeats 4000000
namespace Y
open PySem PySem.Spec PyProof.Rows L2
/-! ### a tuple times a number, all cases -/
theorem tuple_mul_same (l : Addr) (items : Array Value) (n : Nat) (dd : Option Addr) (sl : Array (Option Value)) (x : Int) (u : Tok) (c0 : (decide (x < -(2 ^ 63)) || decide (x ≥ 2 ^ 63)) = false) (c1 : (items.isEmpty || x == 1) = true) :
    Meets (Builtin.«tuple.__mul__» ⟨[.ref l, .int x u], []⟩) (fun _ R s => s.heap.get? l = some { cls := .type "tuple", dict := dd, data := .seq items n, slots := sl } ∧ R (.ok (.ret (Value.ref l))) s) :=
  .of_wp fun prog w A R s h => by
    obtain ⟨hp, g, d, tk, os⟩ := s
    obtain ⟨hl, h⟩ := h
    have f1 := AutoSeq1.idx_int
    wp_walk using wpAny_loadPart' hl
    repeat (first
      | (refine wpAny_ite_false (decide_eq_false (by rw [c0]; exact Bool.false_ne_true)) ?_; wp_walk using wpAny_loadPart' hl)
      | (refine wpAny_ite_true (decide_eq_true (by rw [c1])) ?_; wp_walk using wpAny_loadPart' hl))
    exact ⟨_, rfl, h⟩
theorem tuple_mul_none (l : Addr) (items : Array Value) (n : Nat) (dd : Option Addr) (sl : Array (Option Value)) (x : Int) (u : Tok) (c0 : (decide (x < -(2 ^ 63)) || decide (x ≥ 2 ^ 63)) = false) (c1 : (items.isEmpty || x == 1) = false) (c2 : (decide (x ≤ 0) || items.isEmpty) = true) :
    Meets (Builtin.«tuple.__mul__» ⟨[.ref l, .int x u], []⟩) (fun _ R s => s.heap.get? l = some { cls := .type "tuple", dict := dd, data := .seq items n, slots := sl } ∧
      R (.ok (.ret (Value.ref s.heap.objs.size))) { s with heap := s.heap.push { cls := Value.type "tuple", data := Data.seq #[] }, toks := s.toks }) :=
  .of_wp fun prog w A R s h => by
    obtain ⟨hp, g, d, tk, os⟩ := s
    obtain ⟨hl, h⟩ := h
    have f1 := AutoSeq1.idx_int
    wp_walk using wpAny_loadPart' hl
    repeat (first
      | (refine wpAny_ite_false (decide_eq_false (by rw [c0]; exact Bool.false_ne_true)) ?_; wp_walk using wpAny_loadPart' hl)
      | (refine wpAny_ite_false (decide_eq_false (by rw [c1]; exact Bool.false_ne_true)) ?_; wp_walk using wpAny_loadPart' hl)
      | (refine wpAny_ite_true (decide_eq_true (by rw [c2])) ?_; wp_walk using wpAny_loadPart' hl)
      | (refine wpAny_ite_false (decide_eq_false (Nat.not_lt.mpr (Nat.zero_le _))) ?_; wp_walk using wpAny_loadPart' hl))
    exact ⟨_, rfl, h⟩
def rRepA (K : PySem.W.Frag) : R2 := fun x y H Q => ∃ l k xs, x = .ref l ∧ y = .int k ∧ SqT K H l xs ∧ -1000 ≤ k ∧ k ≤ 1000 ∧ xs.length ≤ 1000 ∧
  (xs = [] ∨ k = 1 → Q (.ref l) H) ∧ (xs ≠ [] → k ≤ 0 → ∀ p, H p = none → Q (.ref p) (upd H p (.tup []))) ∧ (xs ≠ [] → 2 ≤ k → ∀ p, H p = none → Q (.ref p) (upd H p (.tup (List.replicate k.toNat xs).flatten)))
theorem op_repA {X : Cx} : OpR X (binaryOp .Mult) (rRepA X.K) := by
  intro pins s σ H x y v u Q I rx ry h
  obtain ⟨l, k, xs, rfl, rfl, hT, h0, h1, hz, q1, q2, q3⟩ := h
  by_cases hA : xs ≠ [] ∧ 2 ≤ k
  · exact op_repT pins s σ H _ _ v u Q I rx ry ⟨l, k, xs, rfl, rfl, hT, hA.1, hA.2, h1, hz, q3 hA.1 hA.2⟩
  cases rx
  obtain ⟨t, rfl⟩ := ry
  obtain ⟨its, r, ⟨⟨cls, dd, data, sl⟩, ho, hc, n, hd⟩, hs⟩ := I.tuple hT
  simp only at hc hd
  subst hc hd
  have c0 : (decide (k < -(2 ^ 63)) || decide (k ≥ 2 ^ 63)) = false := by
    rw [decide_eq_false (by omega), decide_eq_false (by omega)] <;> rfl
  by_cases hB : xs = [] ∨ k = 1
  · have c1 : (its.toArray.isEmpty || k == 1) = true := by
      rcases hB with e | e
      · subst e
        cases r
        rfl
      · subst e
        simp
    refine wpAny_binaryOp_repeat_ref (T := "tuple") (U := "int") (by decide) ⟨_, ho, rfl⟩ (fun s' => typeIs_int s' k t) noFill_tuple_mul F.fills_int_mul F.slot_int_rmul repeat_tuple F.slot_int_index.lookup
      (call_meets F.slot_int_rmul (typeIs_int s k t) F.entry_int_rmul (F.args_int_rmul_2 _ _) (int_rmul_tuple k t l its.toArray n dd sl)
        ⟨ho, rfl, ⟨_, ho, rfl⟩, call_meets F.slot_tuple_mul ⟨_, ho, rfl⟩ F.entry_tuple_mul (F.args_tuple_mul_2 _ _) (tuple_mul_same l its.toArray n dd sl k t c0 c1) ⟨ho, ?_⟩⟩)
    exact ⟨.ref l, H, I, rfl, q1 hB⟩
  · have hne : xs ≠ [] := fun e => hB (.inl e)
    have hk : k ≤ 0 := by
      have h2 : ¬ 2 ≤ k := fun e => hA ⟨hne, e⟩
      have h3 : k ≠ 1 := fun e => hB (.inr e)
      omega
    have hi : its.toArray.isEmpty = false := by
      cases r with
      | nil => exact absurd rfl hne
      | cons _ _ => rfl
    have c1 : (its.toArray.isEmpty || k == 1) = false := by
      rw [hi, Bool.false_or]
      exact beq_eq_false_iff_ne.mpr (by omega)
    have c2 : (decide (k ≤ 0) || its.toArray.isEmpty) = true := by
      rw [decide_eq_true hk]; rfl
    refine wpAny_binaryOp_repeat_ref (T := "tuple") (U := "int") (by decide) ⟨_, ho, rfl⟩ (fun s' => typeIs_int s' k t) noFill_tuple_mul F.fills_int_mul F.slot_int_rmul repeat_tuple F.slot_int_index.lookup
      (call_meets F.slot_int_rmul (typeIs_int s k t) F.entry_int_rmul (F.args_int_rmul_2 _ _) (int_rmul_tuple k t l its.toArray n dd sl)
        ⟨ho, rfl, ⟨_, ho, rfl⟩, call_meets F.slot_tuple_mul ⟨_, ho, rfl⟩ F.entry_tuple_mul (F.args_tuple_mul_2 _ _) (tuple_mul_none l its.toArray n dd sl k t c0 c1 c2) ⟨ho, ?_⟩⟩)
    refine ⟨.ref s.heap.objs.size, _, I.laid (t' := s.toks) (o := .tup []) (fun b ob q => Heap.get?_push_of_some _ q) (Nat.le_refl _) ?_, rfl, q2 hne hk _ (I.hok.fresh (Nat.le_refl _))⟩
    exact ⟨Nat.zero_le _, [], .nil, IsTup.new _ _⟩
end Y

set_option Elab.async false
set_option linter.all false
set_option maxRecDepth 100000
set_option maxHeartbeats 4000000
/-! Snd2: what an expression's meaning promises of the machine's run. -/
namespace Y
open PySem PySem.Spec PyProof.Rows L2

/-! ### the weakest readings -/
section
variable (X : Cx)
def wE (e : Expr) : TE := fun σ H Q => ∀ (pins : List (Addr × Obj)) (s : Shared), Inv X pins σ H s → wpAny (model X.prog X.w) X.A (eval e X.env) (EP X pins σ Q) X.xe s
def wT (e : Expr) : TT := fun σ H Q => ∀ (pins : List (Addr × Obj)) (s : Shared), Inv X pins σ H s → wpAny (model X.prog X.w) X.A (isTrue e X.env (eval e X.env)) (TP X pins σ Q) X.xe s
def wA (es : List Expr) : TA := fun σ H Q => ∀ (pos : Pos) (pins : List (Addr × Obj)) (s : Shared), Inv X pins σ H s → wpAny (model X.prog X.w) X.A (spliced (backTo pos (starEach es X.env))) (AP X pins σ Q) X.xe s
end
section
variable {X : Cx}
theorem pe_w {e : Expr} : PE X e (wE X e) := ⟨fun pins s _ _ _ I h => h pins s I⟩
theorem pt_w {e : Expr} : PT X e (wT X e) := ⟨fun pins s _ _ _ I h => h pins s I⟩
theorem pa_w {es : List Expr} : PA X es (wA X es) := ⟨fun pos pins s _ _ _ I h => h pos pins s I⟩
theorem PE.w {e : Expr} {t : TE} (p : PE X e t) {σ : L2.St} {H : Hp} {Q : VK} (h : t σ H Q) : wE X e σ H Q := fun pins s I => p.run pins s σ H Q I h
theorem PT.w {e : Expr} {t : TT} (p : PT X e t) {σ : L2.St} {H : Hp} {Q : Bool → Hp → Prop} (h : t σ H Q) : wT X e σ H Q := fun pins s I => p.run pins s σ H Q I h
theorem wE.mono {e : Expr} {σ : L2.St} {H : Hp} {Q Q' : VK} (h : wE X e σ H Q) (q : ∀ v H', Q v H' → Q' v H') : wE X e σ H Q' := fun pins s I => thn (h pins s I) fun _ _ ⟨v, H', I', r, z⟩ => ⟨v, H', I', r, q _ _ z⟩
end

/-! ### ends -/
def RepX (K : PySem.W.Frag) (F : Adr) (f : Nat → Addr) (n : Nat) (H : Hp) (e : Exn) (cls : Value) (d : Option Addr) : Prop :=
  cls = .ref (F.cl e.c) ∧ match e.v with
    | none => d = none
    | some v => ∃ dd x, d = some dd ∧ H dd = some (.xd [(F.fl e.c, x)]) ∧ Rep K F f n H v x
abbrev GG (α : Type) := α → (Nat → Addr) → Heap → Hp → Prop
def Post {α : Type} (K : PySem.W.Frag) (F : Adr) (b : Nat) (E : XK) (f : Nat → Addr) (h : Heap) (H : Hp) (r : R α) (G : GG α) : Prop := match r with
  | .ok a h' => ∀ f' H', Sim K F f' H' h' → Ext b f h H f' h' H' → G a f' h' H'
  | .ex e h' => ∀ f' H' cls d, Sim K F f' H' h' → Ext b f h H f' h' H' → RepX K F f' h'.length H' e cls d → E cls d H'
  | .bad => False
section
variable {α β : Type} {K : PySem.W.Frag} {F : Adr} {b : Nat} {E : XK} {f f1 : Nat → Addr} {h h1 : Heap} {H H1 : Hp} {r : R α} {G G' : GG α}
theorem Post.shift (S : Sim K F f1 H1 h1) (x : Ext b f h H f1 h1 H1) (p : Post K F b E f h H r G) : Post K F b E f1 h1 H1 r G := by
  cases r with
  | ok a h' => exact fun f' H' S' E' => p f' H' S' (x.trans S E')
  | ex e h' => exact fun f' H' cls d S' E' => p f' H' cls d S' (x.trans S E')
  | bad => exact p
theorem Post.mono (p : Post K F b E f h H r G) (q : ∀ a f' h' H', Sim K F f' H' h' → Ext b f h H f' h' H' → G a f' h' H' → G' a f' h' H') : Post K F b E f h H r G' := by
  cases r with
  | ok a h' => exact fun f' H' S' E' => q _ _ _ _ S' E' (p f' H' S' E')
  | ex e h' => exact p
  | bad => exact p
theorem Post.bind {k : α → Heap → R β} {J : GG β} (p : Post K F b E f h H (r.bind k) J) : Post K F b E f h H r fun a f1 h1 H1 => Post K F b E f1 h1 H1 (k a h1) J := by
  cases r with
  | ok a h' => exact fun f' H' S' E' => Post.shift S' E' p
  | ex e h' => exact p
  | bad => exact p
theorem Post.bind0 {k : α → Heap → R β} {J : GG β} (p : Post K F b E f h H (r.bind k) J) : Post K F b E f h H r fun a _ h1 _ => Post K F b E f h H (k a h1) J := by
  cases r with
  | ok a h' => exact fun _ _ _ _ => p
  | ex e h' => exact p
  | bad => exact p
theorem Post.ok {a : α} (S : Sim K F f H h) (p : Post K F b E f h H (.ok a h) G) : G a f h H := p f H S Ext.refl
theorem Post.of {o : Option α} (p : Post K F b E f h H (R.of o h) G) : ∃ a, o = some a ∧ Post K F b E f h H (.ok a h) G := by
  cases o with
  | none => exact p.elim
  | some a => exact ⟨a, rfl, p⟩
end

theorem Post.ite {α : Type} {K : PySem.W.Frag} {F : Adr} {b : Nat} {E : XK} {f : Nat → Addr} {h : Heap} {H : Hp} {G : GG α} {c : Bool} {r : R α} (p : Post K F b E f h H (if c then r else .bad) G) : c = true ∧ Post K F b E f h H r G := by
  cases c with
  | true => exact ⟨rfl, p⟩
  | false => exact p.elim

/-! ### where one stands -/
structure REnv (K : PySem.W.Frag) (F : Adr) (f : Nat → Addr) (n : Nat) (H : Hp) (env : Env) (σ : L2.St) : Prop where
  len : σ.length = env.length
  at_ : ∀ (i : Nat) (v : Val), env[i]? = some (some v) → ∃ x, σ[i]? = some (some x) ∧ Rep K F f n H v x
theorem REnv.set {K : PySem.W.Frag} {F : Adr} {f : Nat → Addr} {n : Nat} {H : Hp} {env : Env} {σ : L2.St} {i : Nat} {v : Val} {x : V} (R : REnv K F f n H env σ) (r : Rep K F f n H v x) : REnv K F f n H (env.set i (some v)) (σ.set i (some x)) := by
  refine ⟨by rw [List.length_set, List.length_set]; exact R.len, fun j u e => ?_⟩
  by_cases hij : i = j
  · subst hij
    have hlt : i < env.length := by
      have := (List.getElem?_eq_some_iff.mp e).1
      rwa [List.length_set] at this
    rw [List.getElem?_set_self hlt] at e
    have e' : v = u := Option.some.inj (Option.some.inj e)
    subst e'
    exact ⟨x, List.getElem?_set_self (by rw [R.len]; exact hlt), r⟩
  · rw [List.getElem?_set_ne hij] at e
    obtain ⟨y, h1, h2⟩ := R.at_ j u e
    exact ⟨y, by rw [List.getElem?_set_ne hij]; exact h1, h2⟩
structure At (X : Cx) (F : Adr) (b : Nat) (W : WX) (env : Env) (f : Nat → Addr) (h : Heap) (σ : L2.St) (H : Hp) : Prop where
  tk : Takes X W
  le : b ≤ h.length
  sim : Sim X.K F f H h
  env : REnv X.K F f h.length H env σ
section
variable {X : Cx} {F : Adr} {b : Nat} {W : WX} {env : Env} {f f1 : Nat → Addr} {h h1 : Heap} {σ : L2.St} {H H1 : Hp}
theorem At.step (A : At X F b W env f h σ H) (S : Sim X.K F f1 H1 h1) (E : Ext b f h H f1 h1 H1) : At X F b W env f1 h1 σ H1 :=
  ⟨A.tk, Nat.le_trans A.le E.le, S, A.env.len, fun i v e => by
    obtain ⟨x, q, r⟩ := A.env.at_ i v e
    exact ⟨x, q, E.rep A.sim r⟩⟩
theorem At.set (A : At X F b W env f h σ H) {i : Nat} {v : Val} {x : V} (r : Rep X.K F f h.length H v x) : At X F b W (env.set i (some v)) f h (σ.set i (some x)) H := ⟨A.tk, A.le, A.sim, A.env.set r⟩
end
abbrev GV (K : PySem.W.Frag) (F : Adr) (Q : VK) : GG Val := fun v f' h' H' => ∀ x, Rep K F f' h'.length H' v x → Q x H'
abbrev GX (K : PySem.W.Frag) (F : Adr) (Q : List V → Hp → Prop) : GG (List Val) := fun xs f' h' H' => ∀ vs, Reps K F f' h'.length H' xs vs → Q vs H'
/-- a new list, not one of ours yet -/
abbrev GL (K : PySem.W.Frag) (F : Adr) (H : Hp) (Q : VK) : GG (List Val) := fun xs f' h' H' => ∀ D vs, H' D = some (.lst vs) → (∀ (i : Nat) (ys : List Val), h'[i]? = some (.lst ys) → f' i ≠ D) → H D = none → Reps K F f' h'.length H' xs vs → Q (.ref D) H'
abbrev wX (W : WX) (σ : L2.St) : XK := fun cls d H => W cls d σ H
structure SE (X : Cx) (F : Adr) (b : Nat) (e : Expr) (m : DE) : Prop where
  v : ∀ (W : WX) (env : Env) (f : Nat → Addr) (h : Heap) (σ : L2.St) (H : Hp) (Q : VK), At X F b W env f h σ H → Post X.K F b (wX W σ) f h H (m.v env h) (GV X.K F Q) → wE X e σ H Q
  t : ∀ (W : WX) (env : Env) (f : Nat → Addr) (h : Heap) (σ : L2.St) (H : Hp) (Q : Bool → Hp → Prop), At X F b W env f h σ H → Post X.K F b (wX W σ) f h H (m.t env h) (fun k _ _ H' => Q k H') → wT X e σ H Q
structure SL (X : Cx) (F : Adr) (b : Nat) (e : Expr) (m : DL) : Prop where
  run : ∀ (W : WX) (env : Env) (f : Nat → Addr) (h : Heap) (σ : L2.St) (H : Hp) (Q : VK), At X F b W env f h σ H → Post X.K F b (wX W σ) f h H (m env h) (GL X.K F H Q) → wE X e σ H Q
structure SX (X : Cx) (F : Adr) (b : Nat) (es : List Expr) (m : DL) : Prop where
  run : ∀ (W : WX) (env : Env) (f : Nat → Addr) (h : Heap) (σ : L2.St) (H : Hp) (Q : List V → Hp → Prop), At X F b W env f h σ H → Post X.K F b (wX W σ) f h H (m env h) (GX X.K F Q) → wA X es σ H Q

/-! ### tests by truth -/
section
variable {F : Adr}
theorem listAt_of {K : PySem.W.Frag} {f : Nat → Addr} {h : Heap} {H : Hp} {a : Nat} {xs : List Val} (S : Sim K F f H h) (e : listAt h a = some xs) : ∃ vs, SqL K H (f a) vs ∧ Reps K F f h.length H xs vs := by
  unfold listAt at e
  cases hc : h[a]? with
  | none => rw [hc] at e; cases e
  | some c =>
    rw [hc] at e
    have z := S.at_ a c hc
    cases c with
    | lst ys =>
      cases e
      obtain ⟨vs, h1, h2⟩ := z
      exact ⟨vs, SqL.of h1, h2⟩
    | ro ys =>
      cases e
      obtain ⟨vs, h1, h2⟩ := z
      exact ⟨vs, h1.sql, h2⟩
end
def plainT : Expr → Bool
  | .UnaryOp .Not _ _ => false
  | .BoolOp _ _ _ => false
  | .IfExp _ _ _ _ => false
  | .Compare _ _ _ _ => false
  | _ => true
theorem isTrue_of_plain {e : Expr} {env : PySem.Env} (hp : plainT e = true) (whole : Sem Value) : isTrue e env whole = (do let v ← whole; standAt e.pos; holding [v] (truthy v)) := by
  cases e with
  | UnaryOp op x pos => cases op <;> first | rfl | (simp [plainT] at hp)
  | BoolOp _ _ _ => simp [plainT] at hp
  | IfExp _ _ _ _ => simp [plainT] at hp
  | Compare _ _ _ _ => simp [plainT] at hp
  | _ => rfl
section
variable {X : Cx} {F : Adr} {b : Nat}
theorem tru_of {f : Nat → Addr} {h : Heap} {H : Hp} {v : Val} {x : V} {k : Bool} (S : Sim X.K F f H h) (r : Rep X.K F f h.length H v x) (e : truV h v = some k) : TruV X.K x H k := by
  cases r with
  | non => exact (Option.some.inj e).symm
  | bl c => exact (Option.some.inj e).symm
  | int i => exact (Option.some.inj e).symm
  | str s => cases e
  | @tup xs a vs q rs =>
    have e' : (!xs.isEmpty) = k := Option.some.inj e
    have e2 : xs.isEmpty = vs.isEmpty := by
      cases rs <;> rfl
    exact .inr (.inl ⟨vs, q, by rw [← e', e2]⟩)
  | @lst a p q ep =>
    subst ep
    have e' : (listAt h a).map (fun xs => !xs.isEmpty) = some k := e
    cases hl : listAt h a with
    | none => rw [hl] at e'; cases e'
    | some xs =>
      rw [hl] at e'
      obtain ⟨vs, h1, h2⟩ := listAt_of S hl
      have e3 : (!xs.isEmpty) = k := Option.some.inj e'
      have e2 : xs.isEmpty = vs.isEmpty := by cases h2 <;> rfl
      exact .inl ⟨vs, h1, by rw [← e3, e2]⟩
  | fn i ep => cases e
/-- an expression whose test is its value's truth -/
theorem se_byV {e : Expr} {m : Env → Heap → R Val} (hp : plainT e = true)
    (hv : ∀ (W : WX) (env : Env) (f : Nat → Addr) (h : Heap) (σ : L2.St) (H : Hp) (Q : VK), At X F b W env f h σ H → Post X.K F b (wX W σ) f h H (m env h) (GV X.K F Q) → wE X e σ H Q) : SE X F b e (byV m) := by
  refine ⟨hv, fun W env f h σ H Q A p => ?_⟩
  have p2 := Post.bind p
  refine PT.w (pt_truth (pe_w (e := e)) fun whole => isTrue_of_plain hp whole) ?_
  refine hv W env f h σ H _ A (p2.mono fun v f1 h1 H1 S1 E1 q x r => ?_)
  obtain ⟨k, ek, q⟩ := Post.of q
  exact ⟨k, tru_of S1 r ek, q.ok S1⟩
theorem R.bind_assoc {α β γ : Type} (r : R α) (k : α → Heap → R β) (l : β → Heap → R γ) : (r.bind k).bind l = r.bind fun a h => (k a h).bind l := by
  cases r <;> rfl
/-- a test whose value is a bool -/
theorem Post.boolT {K : PySem.W.Frag} {E : XK} {f : Nat → Addr} {h : Heap} {H : Hp} {r : R Val} {Q : Bool → Hp → Prop} (hb : ∀ w h', r = .ok w h' → ∃ k, w = .bl k)
    (p : Post K F b E f h H (r.bind fun x h1 => R.of (truV h1 x) h1) (fun k _ _ H' => Q k H')) : Post K F b E f h H r (GV K F fun x H' => ∃ k, x = .bl k ∧ Q k H') := by
  cases r with
  | ok w h' =>
    obtain ⟨k, rfl⟩ := hb w h' rfl
    exact fun f' H' S' E' x r => by
      cases r
      exact ⟨k, rfl, p f' H' S' E'⟩
  | ex e h' => exact p
  | bad => exact p
end

/-! ### names, constants -/
section
variable {X : Cx} {F : Adr} {b : Nat}
theorem se_var {i : Nat} {x : Str} {pos : Pos} (hN : X.N[i]? = some x) (hv : Vis X.env.scope x) (hd : (x == ("__debug__" : Str)) = false) (hcd : (x == ("__classdict__" : Str)) = false) : SE X F b (.Name x pos) (byV fun env h => R.of (env.get i) h) := by
  refine se_byV rfl fun W env f h σ H Q A p => ?_
  obtain ⟨v, e, p⟩ := Post.of p
  have e2 : env[i]? = some (some v) := by
    unfold Env.get at e
    split at e
    · rename_i u hu
      rw [hu, e]
    · cases e
  obtain ⟨x', h1, h2⟩ := A.env.at_ i v e2
  exact PE.w (pe_var hN hv hd hcd) ⟨x', h1, p.ok A.sim x' h2⟩
def constOf : Const → Option Val
  | .none => some .non
  | .bool b => some (.bl b)
  | .int i => some (.int i)
  | .str s => some (.str s)
  | _ => none
theorem se_cst {c : Const} {v : Val} {k : Nat} {pos : Pos} (hc : constOf c = some v) : SE X F b (.Constant c k pos) (byV fun _ h => .ok v h) := by
  refine se_byV rfl fun W env f h σ H Q A p => ?_
  have q := p.ok A.sim
  cases c with
  | none => cases hc; exact PE.w pe_non (q _ .non)
  | bool c => cases hc; exact PE.w pe_bl (q _ (.bl c))
  | int i => cases hc; exact PE.w pe_int (q _ (.int i))
  | str s => cases hc; exact PE.w pe_str (q _ (.str s))
  | _ => cases hc
theorem Rep.const {K : PySem.W.Frag} {f : Nat → Addr} {n : Nat} {H : Hp} {v : Val} {x : V} (r : Rep K F (fun _ => 0) 0 (fun _ => none) v x) : Rep K F f n H v x :=
  Rep.mono (fun a vs q => by
    rcases q with (q | ⟨o, q⟩) | q
    · cases q
    · cases q
    · exact .inr q) (Nat.zero_le _) (fun i hi => absurd hi (Nat.not_lt_zero _)) v x r
theorem se_glob {v : Val} {x : Str} {y : V} {u : Value} {pos : Pos} (hg : Gl X x) (hm : X.mg x = some u) (r : RelV y u) (hv : Rep X.K F (fun _ => 0) 0 (fun _ => none) v y) (hd : (x == ("__debug__" : Str)) = false) : SE X F b (.Name x pos) (byV fun _ h => .ok v h) := by
  refine se_byV rfl fun W env f h σ H Q A p => ?_
  exact PE.w (pe_glob hg hm r hd) (p.ok A.sim y (Rep.const hv))

/-! ### two values -/
theorem d2_v {α : Type} {e1 e2 : Expr} {m1 m2 : DE} {k : Val → Val → Heap → R α} {W : WX} {env : Env} {f : Nat → Addr} {h : Heap} {σ : L2.St} {H : Hp} {G : GG α} {R' : V → V → Hp → Prop} (A : At X F b W env f h σ H) (h1 : SE X F b e1 m1) (h2 : SE X F b e2 m2)
    (p : Post X.K F b (wX W σ) f h H ((m1.v env h).bind fun x h1 => (m2.v env h1).bind fun y h2 => k x y h2) G)
    (fin : ∀ v u x y f2 h2 H2, At X F b W env f2 h2 σ H2 → Ext b f h H f2 h2 H2 → Rep X.K F f2 h2.length H2 v x → Rep X.K F f2 h2.length H2 u y → Post X.K F b (wX W σ) f2 h2 H2 (k v u h2) G → R' x y H2) :
    wE X e1 σ H fun x H1 => wE X e2 σ H1 fun y H2 => R' x y H2 := by
  refine h1.v W env f h σ H _ A ((Post.bind p).mono fun v f1 h1 H1 S1 E1 q x rx => ?_)
  have A1 := A.step S1 E1
  refine h2.v W env f1 h1 σ H1 _ A1 ((Post.bind q).mono fun u f2 h2 H2 S2 E2 q2 y ry => ?_)
  exact fin v u x y f2 h2 H2 (A1.step S2 E2) (E1.trans S1 E2) (E2.rep S1 rx) ry q2
theorem d1_v {α : Type} {e1 : Expr} {m1 : DE} {k : Val → Heap → R α} {W : WX} {env : Env} {f : Nat → Addr} {h : Heap} {σ : L2.St} {H : Hp} {G : GG α} {R' : V → Hp → Prop} (A : At X F b W env f h σ H) (h1 : SE X F b e1 m1)
    (p : Post X.K F b (wX W σ) f h H ((m1.v env h).bind k) G)
    (fin : ∀ v x f2 h2 H2, At X F b W env f2 h2 σ H2 → Ext b f h H f2 h2 H2 → Rep X.K F f2 h2.length H2 v x → Post X.K F b (wX W σ) f2 h2 H2 (k v h2) G → R' x H2) :
    wE X e1 σ H R' :=
  h1.v W env f h σ H _ A ((Post.bind p).mono fun v f1 h1 H1 S1 E1 q x rx => fin v x f1 h1 H1 (A.step S1 E1) E1 rx q)
theorem Rep.int_inv {K : PySem.W.Frag} {f : Nat → Addr} {n : Nat} {H : Hp} {i : Int} {x : V} (r : Rep K F f n H (.int i) x) : x = .int i := by cases r; rfl
theorem Rep.bl_inv {K : PySem.W.Frag} {f : Nat → Addr} {n : Nat} {H : Hp} {i : Bool} {x : V} (r : Rep K F f n H (.bl i) x) : x = .bl i := by cases r; rfl
theorem Rep.tup_inv {K : PySem.W.Frag} {f : Nat → Addr} {n : Nat} {H : Hp} {xs : List Val} {x : V} (r : Rep K F f n H (.tup xs) x) : ∃ a vs, x = .ref a ∧ SqT K H a vs ∧ Reps K F f n H xs vs := by
  cases r with
  | tup q rs => exact ⟨_, _, rfl, q, rs⟩
theorem Rep.lst_inv {K : PySem.W.Frag} {f : Nat → Addr} {n : Nat} {H : Hp} {a : Nat} {x : V} (r : Rep K F f n H (.lst a) x) : x = .ref (f a) ∧ a < n := by
  cases r with
  | lst q e => exact ⟨by rw [e], q⟩
/-- a new tuple as the answer -/
theorem Post.newTup {K : PySem.W.Frag} {E : XK} {f : Nat → Addr} {h : Heap} {H : Hp} {xs : List Val} {vs : List V} {Q : VK} {p : Addr} (S : Sim K F f H h) (P : Post K F b E f h H (.ok (.tup xs) h) (GV K F Q)) (r : Reps K F f h.length H xs vs) (hp : H p = none) : Q (.ref p) (upd H p (.tup vs)) := by
  have E1 : Ext b f h H f h (upd H p (.tup vs)) := Ext.fresh hp
  exact P f _ (S.fresh hp) E1 _ (.tup (.inl (.inl upd_same)) (E1.reps S r))
theorem Post.same {K : PySem.W.Frag} {E : XK} {f : Nat → Addr} {h : Heap} {H : Hp} {v : Val} {x : V} {Q : VK} (S : Sim K F f H h) (P : Post K F b E f h H (.ok v h) (GV K F Q)) (r : Rep K F f h.length H v x) : Q x H := P.ok S x r
theorem Reps.nil_iff {K : PySem.W.Frag} {f : Nat → Addr} {n : Nat} {H : Hp} {xs : List Val} {vs : List V} (r : Reps K F f n H xs vs) : xs = [] ↔ vs = [] := by
  cases r <;> simp
theorem line_eq : (sizeLine : Nat) = line := by rw [sizeLine_eq]; rfl
theorem isLen_le {n : Nat} (e : isLen n = true) : n ≤ sizeLine := by
  rw [line_eq]
  exact Nat.le_of_ble_eq_true e
theorem isSmall_iff {i : Int} (e : isSmall i = true) : -(2 ^ 64) < i ∧ i < 2 ^ 64 := by
  unfold isSmall at e
  obtain ⟨a, c⟩ := Bool.and_eq_true_iff.mp e
  exact ⟨of_decide_eq_true a, of_decide_eq_true c⟩
theorem rep_full {K : PySem.W.Frag} {f : Nat → Addr} {h : Heap} {H : Hp} {xs ys : List Val} {vs ws : List V} {E : XK} {Q : VK} {a c : Addr} (S : Sim K F f H h) (h1 : SqT K H a vs) (h2 : SqT K H c ws) (r1 : Reps K F f h.length H xs vs) (r2 : Reps K F f h.length H ys ws)
    (hl : isLen (xs.length + ys.length) = true) (p : Post K F b E f h H (.ok (.tup (xs ++ ys)) h) (GV K F Q)) : rCatA K (.ref a) (.ref c) H Q := by
  refine ⟨a, c, vs, ws, rfl, rfl, h1, h2, by rw [← r1.length, ← r2.length]; exact isLen_le hl, fun e => ?_, fun _ e => ?_, fun _ _ q hq => p.newTup S (r1.app r2) hq⟩
  · have e1 := r1.nil_iff.mpr e
    subst e1
    exact p.same S (.tup h2 (by rw [List.nil_append]; exact r2))
  · have e1 := r2.nil_iff.mpr e
    subst e1
    exact p.same S (.tup h1 (by rw [List.append_nil]; exact r1))
theorem se_bin {op : Operator} {e1 e2 : Expr} {m1 m2 : DE} {pos : Pos} (h1 : SE X F b e1 m1) (h2 : SE X F b e2 m2) : SE X F b (.BinOp e1 op e2 pos) (d2 m1 m2 (binV op)) := by
  refine se_byV rfl fun W env f h σ H Q A p => ?_
  have fin : ∀ {r : R2} (ho : OpR X (binaryOp op) r) (k : ∀ v u x y f2 h2 H2, At X F b W env f2 h2 σ H2 → Rep X.K F f2 h2.length H2 v x → Rep X.K F f2 h2.length H2 u y → Post X.K F b (wX W σ) f2 h2 H2 (binV op v u h2) (GV X.K F Q) → r x y H2 Q), wE X (.BinOp e1 op e2 pos) σ H Q := fun {r} ho k => by
    refine PE.w (pe_op ho (pe_w (e := e1)) (pe_w (e := e2))) ?_
    exact d2_v A h1 h2 p fun v u x y f2 h2 H2 A2 E2 rx ry q => k v u x y f2 h2 H2 A2 rx ry q
  cases op with
  | Add =>
    refine fin (op_add.or (op_catA.or op_cat)) fun v u x y f2 h2 H2 A2 rx ry q => ?_
    cases v with
    | int i => cases u with
      | int j => cases rx; cases ry; exact .inl ⟨i, j, rfl, rfl, q.same A2.sim (.int _)⟩
      | _ => exact q.elim
    | tup xs => cases u with
      | tup ys =>
        obtain ⟨a, vs, rfl, q1, r1⟩ := rx.tup_inv
        obtain ⟨c, ws, rfl, q2, r2⟩ := ry.tup_inv
        obtain ⟨hl, q⟩ := Post.ite (c := isLen (xs.length + ys.length)) (r := .ok (Val.tup (xs ++ ys)) h2) q
        exact .inr (.inl (rep_full A2.sim q1 q2 r1 r2 hl q))
      | _ => exact q.elim
    | lst a => cases u with
      | lst c =>
        have q : Post X.K F b (wX W σ) f2 h2 H2 (match h2[a]?, h2[c]? with
          | some (.lst xs), some (.lst ys) => if isLen (xs.length + ys.length) then new (xs ++ ys) h2 else .bad
          | _, _ => .bad) (GV X.K F Q) := q
        cases ha : h2[a]? with
        | none => rw [ha] at q; exact q.elim
        | some ca => cases ca with
          | ro xs => rw [ha] at q; exact q.elim
          | lst xs => cases hc : h2[c]? with
            | none => rw [ha, hc] at q; exact q.elim
            | some cc => cases cc with
              | ro ys => rw [ha, hc] at q; exact q.elim
              | lst ys =>
                rw [ha, hc] at q
                obtain ⟨hl, q⟩ := Post.ite (c := isLen (xs.length + ys.length)) (r := new (xs ++ ys) h2) q
                obtain ⟨vs, k1, r1⟩ := A2.sim.at_ a _ ha
                obtain ⟨ws, k2, r2⟩ := A2.sim.at_ c _ hc
                cases rx with
                | lst _ ea =>
                  cases ry with
                  | lst _ ec =>
                    refine .inr (.inr ⟨_, _, vs, ws, by rw [ea], by rw [ec], k1, k2, by rw [← r1.length, ← r2.length]; exact isLen_le hl, fun p hp => ?_⟩)
                    have S1 := A2.sim.fresh (o := .lst (vs ++ ws)) hp
                    have E1 : Ext b f2 h2 H2 f2 h2 (upd H2 p (.lst (vs ++ ws))) := Ext.fresh hp
                    have q : Post X.K F b (wX W σ) f2 h2 H2 (.ok (.lst h2.length) (h2 ++ [.lst (xs ++ ys)])) (GV X.K F Q) := q
                    exact q _ _ (S1.take_in upd_same (fun i ys e => A2.sim.ne_fresh hp i ys e) (E1.reps A2.sim (r1.app r2))) (Ext.take_in S1 E1 hp A2.le) _ Rep.taken
      | _ => exact q.elim
    | _ => exact q.elim
  | Sub =>
    refine fin op_sub fun v u x y f2 h2 H2 A2 rx ry q => ?_
    cases v with
    | int i => cases u with
      | int j => cases rx; cases ry; exact ⟨i, j, rfl, rfl, q.same A2.sim (.int _)⟩
      | _ => exact q.elim
    | _ => exact q.elim
  | Mod =>
    refine fin op_mod fun v u x y f2 h2 H2 A2 rx ry q => ?_
    cases v with
    | int i => cases u with
      | int j =>
        cases rx; cases ry
        obtain ⟨hl, q⟩ := Post.ite (c := decide (0 < j)) (r := .ok (Val.int (i % j)) h2) q
        exact ⟨i, j, rfl, rfl, of_decide_eq_true hl, q.same A2.sim (.int _)⟩
      | _ => exact q.elim
    | _ => exact q.elim
  | FloorDiv =>
    refine fin op_fdiv fun v u x y f2 h2 H2 A2 rx ry q => ?_
    cases v with
    | int i => cases u with
      | int j =>
        cases rx; cases ry
        obtain ⟨hl, q⟩ := Post.ite (c := decide (0 < j) && decide (j < 1073741824)) (r := .ok (Val.int (i / j)) h2) q
        obtain ⟨a, c⟩ := Bool.and_eq_true_iff.mp hl
        exact ⟨i, j, rfl, rfl, ⟨of_decide_eq_true a, of_decide_eq_true c⟩, q.same A2.sim (.int _)⟩
      | _ => exact q.elim
    | _ => exact q.elim
  | Pow =>
    refine fin op_pow fun v u x y f2 h2 H2 A2 rx ry q => ?_
    cases v with
    | int i => cases u with
      | int j =>
        cases rx; cases ry
        obtain ⟨hl, q⟩ := Post.ite (c := decide (0 ≤ j) && decide (j ≤ 1000000) && Nat.blt i.natAbs (2 ^ 64)) (r := .ok (Val.int (i ^ j.toNat)) h2) q
        obtain ⟨a, c⟩ := Bool.and_eq_true_iff.mp hl
        obtain ⟨a1, a2⟩ := Bool.and_eq_true_iff.mp a
        exact ⟨i, j, rfl, rfl, ⟨of_decide_eq_true a1, of_decide_eq_true a2, Nat.le_of_ble_eq_true c⟩, q.same A2.sim (.int _)⟩
      | _ => exact q.elim
    | _ => exact q.elim
  | Mult =>
    refine fin (op_mul.or op_repA) fun v u x y f2 h2 H2 A2 rx ry q => ?_
    cases v with
    | int i => cases u with
      | int j =>
        cases rx; cases ry
        obtain ⟨hl, q⟩ := Post.ite (c := isSmall i || isSmall j) (r := .ok (Val.int (i * j)) h2) q
        refine .inl ⟨i, j, rfl, rfl, ?_, q.same A2.sim (.int _)⟩
        rcases Bool.or_eq_true_iff.mp hl with z | z
        · exact .inl (isSmall_iff z)
        · exact .inr (isSmall_iff z)
      | _ => exact q.elim
    | tup xs => cases u with
      | int k =>
        obtain ⟨a, vs, rfl, q1, r1⟩ := rx.tup_inv
        cases ry
        obtain ⟨hl, q⟩ := Post.ite (c := Nat.ble xs.length 1000 && (decide (-1000 ≤ k) && decide (k ≤ 1000))) (r := .ok (Val.tup (List.replicate k.toNat xs).flatten) h2) q
        obtain ⟨z1, z2⟩ := Bool.and_eq_true_iff.mp hl
        obtain ⟨z2, z3⟩ := Bool.and_eq_true_iff.mp z2
        refine .inr ⟨a, k, vs, rfl, rfl, q1, of_decide_eq_true z2, of_decide_eq_true z3, by rw [← r1.length]; exact Nat.le_of_ble_eq_true z1, fun e => ?_, fun e hk p hp => ?_, fun e hk p hp => ?_⟩
        · refine q.same A2.sim (.tup q1 ?_)
          rcases e with e | e
          · have e1 := r1.nil_iff.mpr e
            subst e1
            have e2 : (List.replicate k.toNat ([] : List Val)).flatten = [] := by simp
            rw [e2]
            exact r1
          · subst e
            have e2 : (List.replicate (1 : Int).toNat xs).flatten = xs := by simp
            rw [e2]
            exact r1
        · have e0 : k.toNat = 0 := by omega
          have e2 : (List.replicate k.toNat xs).flatten = [] := by rw [e0]; rfl
          rw [e2] at q
          exact q.newTup A2.sim .nil hp
        · exact q.newTup A2.sim (r1.rep _) hp
      | _ => exact q.elim
    | _ => exact q.elim
  | _ =>
    refine fin (r := fun _ _ _ _ => False) (fun _ _ _ _ _ _ _ _ _ _ _ _ z => z.elim) fun v u x y f2 h2 H2 A2 rx ry q => ?_
    cases v <;> cases u <;> exact q.elim
theorem se_neg {e1 : Expr} {m1 : DE} {pos : Pos} (h1 : SE X F b e1 m1) : SE X F b (.UnaryOp .USub e1 pos) (d1 m1 negV) := by
  refine se_byV rfl fun W env f h σ H Q A p => ?_
  refine PE.w (pe_un un_neg (pe_w (e := e1))) ?_
  refine d1_v A h1 p fun v x f2 h2 H2 A2 E2 rx q => ?_
  cases v with
  | int i => cases rx; exact ⟨i, rfl, q.same A2.sim (.int _)⟩
  | _ => exact q.elim

/-! ### comparisons -/
def dOf : Nat → Heap → Val → PyData
  | _, _, .non => .none
  | _, _, .bl b => .bool b
  | _, _, .int i => .int i
  | _, _, .str s => .str s
  | d + 1, h, .tup xs => .tuple (xs.map (dOf d h))
  | d + 1, h, .lst a => (match listAt h a with
    | some xs => .list (xs.map (dOf d h))
    | none => .none)
  | _, _, _ => .none
theorem all_cons {α : Type} {p : α → Bool} {x : α} {xs : List α} (e : (x :: xs).all p = true) : p x = true ∧ xs.all p = true := by
  rw [List.all_cons] at e
  exact Bool.and_eq_true_iff.mp e
theorem dp_of {K : PySem.W.Frag} {f : Nat → Addr} {h : Heap} {H : Hp} (S : Sim K F f H h) : ∀ (d : Nat) (v : Val) (x : V), Rep K F f h.length H v x → dataOk d h v = true → Dp K H x (dOf d h v)
  | 0, .non, _, .non, _ => .non
  | _ + 1, .non, _, .non, _ => .non
  | 0, .bl b, _, .bl _, _ => .bl b
  | _ + 1, .bl b, _, .bl _, _ => .bl b
  | 0, .int i, _, .int _, _ => .int i
  | _ + 1, .int i, _, .int _, _ => .int i
  | 0, .str s, _, .str _, _ => .str s
  | _ + 1, .str s, _, .str _, _ => .str s
  | 0, .tup _, _, _, e => by unfold dataOk at e; cases e
  | d + 1, .tup xs, _, .tup q r, e => by
    have go : ∀ (ys : List Val) (vs : List V), Reps K F f h.length H ys vs → ys.all (dataOk d h) = true → DpAll K H vs (ys.map (dOf d h)) := by
      intro ys
      induction ys with
      | nil => intro vs r _; cases r; exact .nil
      | cons y ys ih =>
        intro vs r e
        obtain ⟨e1, e2⟩ := all_cons e
        cases r with
        | cons r1 r2 => exact .cons (dp_of S d y _ r1 e1) (ih _ r2 e2)
    unfold dataOk at e
    exact .tup q (go xs _ r e)
  | 0, .lst _, _, _, e => by unfold dataOk at e; cases e
  | d + 1, .lst a, _, .lst q ep, e => by
    have go : ∀ (ys : List Val) (vs : List V), Reps K F f h.length H ys vs → ys.all (dataOk d h) = true → DpAll K H vs (ys.map (dOf d h)) := by
      intro ys
      induction ys with
      | nil => intro vs r _; cases r; exact .nil
      | cons y ys ih =>
        intro vs r e
        obtain ⟨e1, e2⟩ := all_cons e
        cases r with
        | cons r1 r2 => exact .cons (dp_of S d y _ r1 e1) (ih _ r2 e2)
    unfold dataOk at e
    unfold dOf
    cases hl : listAt h a with
    | none => rw [hl] at e; cases e
    | some xs =>
      rw [hl] at e
      obtain ⟨vs, h1, h2⟩ := listAt_of S hl
      rw [ep]
      exact .lst h1 (go xs _ h2 e)
  | 0, .fn _, _, _, e => by unfold dataOk at e; cases e
  | _ + 1, .fn _, _, _, e => by unfold dataOk at e; cases e
theorem canLay_of {h : Heap} : ∀ (d : Nat) (v : Val), dataOk d h v = true → (dOf d h v).canLay0 = true
  | 0, .non, _ => rfl
  | _ + 1, .non, _ => rfl
  | 0, .bl b, _ => rfl
  | _ + 1, .bl b, _ => rfl
  | 0, .int i, _ => rfl
  | _ + 1, .int i, _ => rfl
  | 0, .str s, e => by unfold dataOk at e; unfold dOf PyData.canLay0; exact e
  | _ + 1, .str s, e => by unfold dataOk at e; unfold dOf PyData.canLay0; exact e
  | 0, .tup _, e => by unfold dataOk at e; cases e
  | d + 1, .tup xs, e => by
    have go : ∀ ys : List Val, ys.all (dataOk d h) = true → PyData.canLayAll0 (ys.map (dOf d h)) = true := by
      intro ys
      induction ys with
      | nil => intro _; rfl
      | cons y ys ih =>
        intro e
        obtain ⟨e1, e2⟩ := all_cons e
        rw [List.map_cons]
        unfold PyData.canLayAll0
        rw [canLay_of d y e1, ih e2]; rfl
    unfold dataOk at e
    unfold dOf PyData.canLay0
    exact go xs e
  | 0, .lst _, e => by unfold dataOk at e; cases e
  | d + 1, .lst a, e => by
    have go : ∀ ys : List Val, ys.all (dataOk d h) = true → PyData.canLayAll0 (ys.map (dOf d h)) = true := by
      intro ys
      induction ys with
      | nil => intro _; rfl
      | cons y ys ih =>
        intro e
        obtain ⟨e1, e2⟩ := all_cons e
        rw [List.map_cons]
        unfold PyData.canLayAll0
        rw [canLay_of d y e1, ih e2]; rfl
    unfold dataOk at e
    unfold dOf
    cases hl : listAt h a with
    | none => rfl
    | some xs =>
      rw [hl] at e
      show PyData.canLay0 (.list (xs.map (dOf d h))) = true
      unfold PyData.canLay0
      exact go xs e
  | 0, .fn _, e => by unfold dataOk at e; cases e
  | _ + 1, .fn _, e => by unfold dataOk at e; cases e
theorem depth_of {h : Heap} : ∀ (d : Nat) (v : Val), (dOf d h v).depth ≤ d
  | 0, .non => Nat.le_refl _
  | _ + 1, .non => Nat.zero_le _
  | 0, .bl b => Nat.le_refl _
  | _ + 1, .bl b => Nat.zero_le _
  | 0, .int i => Nat.le_refl _
  | _ + 1, .int i => Nat.zero_le _
  | 0, .str s => Nat.le_refl _
  | _ + 1, .str s => Nat.zero_le _
  | 0, .tup _ => Nat.le_refl _
  | d + 1, .tup xs => by
    have go : ∀ ys : List Val, PyData.depthAll (ys.map (dOf d h)) ≤ d := by
      intro ys
      induction ys with
      | nil => exact Nat.zero_le _
      | cons y ys ih =>
        rw [List.map_cons]
        unfold PyData.depthAll
        exact Nat.max_le.mpr ⟨depth_of d y, ih⟩
    unfold dOf PyData.depth
    exact Nat.succ_le_succ (go xs)
  | 0, .lst _ => Nat.le_refl _
  | d + 1, .lst a => by
    have go : ∀ ys : List Val, PyData.depthAll (ys.map (dOf d h)) ≤ d := by
      intro ys
      induction ys with
      | nil => exact Nat.zero_le _
      | cons y ys ih =>
        rw [List.map_cons]
        unfold PyData.depthAll
        exact Nat.max_le.mpr ⟨depth_of d y, ih⟩
    unfold dOf
    cases hl : listAt h a with
    | none => exact Nat.zero_le _
    | some xs =>
      show PyData.depth (.list (xs.map (dOf d h))) ≤ d + 1
      unfold PyData.depth
      exact Nat.succ_le_succ (go xs)
  | 0, .fn _ => Nat.le_refl _
  | _ + 1, .fn _ => Nat.zero_le _
theorem shaped_of {h : Heap} {v : Val} (e : dataOk 60 h v = true) : SeqAt.shaped (dOf 60 h v) = true := by
  unfold SeqAt.shaped
  rw [canLay_of 60 v e, decide_eq_true (Nat.le_trans (depth_of 60 v) (by decide : 60 ≤ 64))]
  rfl
end
end Y

set_option Elab.async false
set_option linter.all false
set_option maxRecDepth 100000
set_option maxHeartbeats 4000000
/-! Snd3: comparisons, displays, indices, built-ins. -/
namespace Y
open PySem PySem.Spec PyProof.Rows L2
theorem veq_list {h : Heap} {d : Nat} (ih : ∀ (x y : Val), dataOk d h x = true → dataOk d h y = true → PyData.eqv (dOf d h x) (dOf d h y) = veq d h x y) :
    ∀ (xs ys : List Val), xs.all (dataOk d h) = true → ys.all (dataOk d h) = true → PyData.eqvAll (xs.map (dOf d h)) (ys.map (dOf d h)) = allEq (veq d h) xs ys
  | [], [], _, _ => by simp only [List.map_nil, PyData.eqvAll, allEq]
  | [], _ :: _, _, _ => by simp only [List.map_nil, List.map_cons, PyData.eqvAll, allEq]
  | _ :: _, [], _, _ => by simp only [List.map_nil, List.map_cons, PyData.eqvAll, allEq]
  | x :: xs, y :: ys, e1, e2 => by
    obtain ⟨a1, a2⟩ := all_cons e1
    obtain ⟨b1, b2⟩ := all_cons e2
    simp only [List.map_cons, PyData.eqvAll, allEq, ih x y a1 b1, veq_list ih xs ys a2 b2]
theorem veq_eqv {h : Heap} : ∀ (d : Nat) (x y : Val), dataOk d h x = true → dataOk d h y = true → PyData.eqv (dOf d h x) (dOf d h y) = veq d h x y
  | 0, x, y, e1, e2 => by
    cases x <;> cases y <;> first
      | (unfold dataOk at e1; cases e1; done)
      | (unfold dataOk at e2; cases e2; done)
      | (simp only [dOf, PyData.eqv, veq, b2i]; done)
      | (simp only [dOf, PyData.eqv, veq, b2i]; rfl)
  | d + 1, x, y, e1, e2 => by
    have ih := veq_eqv (h := h) d
    have el : ∀ {a : Nat}, dataOk (d + 1) h (.lst a) = true → ∃ xs, listAt h a = some xs ∧ xs.all (dataOk d h) = true ∧ dOf (d + 1) h (.lst a) = .list (xs.map (dOf d h)) := fun {a} e => by
      unfold dataOk at e
      cases hl : listAt h a with
      | none => rw [hl] at e; cases e
      | some xs =>
        rw [hl] at e
        refine ⟨xs, rfl, e, ?_⟩
        unfold dOf
        rw [hl]
    have et : ∀ {xs : List Val}, dataOk (d + 1) h (.tup xs) = true → xs.all (dataOk d h) = true := fun {xs} e => by
      unfold dataOk at e
      exact e
    cases x with
    | fn i => unfold dataOk at e1; cases e1
    | lst a =>
      obtain ⟨xs, h1, h2, h3⟩ := el e1
      rw [h3]
      cases y with
      | fn i => unfold dataOk at e2; cases e2
      | lst c =>
        obtain ⟨ys, k1, k2, k3⟩ := el e2
        rw [k3]
        simp only [PyData.eqv, veq, h1, k1]
        exact veq_list ih xs ys h2 k2
      | _ => simp only [dOf, PyData.eqv, veq]
    | tup xs =>
      cases y with
      | fn i => unfold dataOk at e2; cases e2
      | lst c =>
        obtain ⟨ys, k1, k2, k3⟩ := el e2
        rw [k3]
        simp only [dOf, PyData.eqv, veq]
      | tup ys =>
        simp only [dOf, PyData.eqv, veq]
        exact veq_list ih xs ys (et e1) (et e2)
      | _ => simp only [dOf, PyData.eqv, veq]
    | _ => cases y with
      | fn i => unfold dataOk at e2; cases e2
      | lst c =>
        obtain ⟨ys, k1, k2, k3⟩ := el e2
        rw [k3]
        simp only [dOf, PyData.eqv, veq]
      | _ => first
        | (simp only [dOf, PyData.eqv, veq, b2i]; done)
        | (simp only [dOf, PyData.eqv, veq, b2i]; rfl)
section
variable {X : Cx} {F : Adr} {b : Nat}
theorem flat_of {K : PySem.W.Frag} {f : Nat → Addr} {n : Nat} {H : Hp} {v : Val} {x : V} (r : Rep K F f n H v x) (e : flat v = true) : flatV x = true := by
  cases r <;> first | rfl | (unfold flat at e; cases e)
theorem flats_of {K : PySem.W.Frag} {f : Nat → Addr} {n : Nat} {H : Hp} : ∀ {xs : List Val} {vs : List V}, Reps K F f n H xs vs → xs.all flat = true → vs.all flatV = true
  | _, _, .nil, _ => rfl
  | _, _, .cons r q, e => by
    obtain ⟨e1, e2⟩ := all_cons e
    rw [List.all_cons, flat_of r e1, flats_of q e2]; rfl
theorem eqV_of {K : PySem.W.Frag} {f : Nat → Addr} {n : Nat} {H : Hp} {v u : Val} {x y : V} (r : Rep K F f n H v x) (q : Rep K F f n H u y) (e1 : flat v = true) (e2 : flat u = true) : eqV x y = veq 0 [] v u := by
  cases r <;> cases q <;> first
    | (unfold flat at e1; cases e1; done)
    | (unfold flat at e2; cases e2; done)
    | rfl
theorem inV_of {K : PySem.W.Frag} {f : Nat → Addr} {n : Nat} {H : Hp} {v : Val} {x : V} (r : Rep K F f n H v x) (e1 : flat v = true) : ∀ {xs : List Val} {vs : List V}, Reps K F f n H xs vs → xs.all flat = true → inV x vs = inSeq v xs
  | _, _, .nil, _ => rfl
  | _, _, .cons q qs, e => by
    obtain ⟨e2, e3⟩ := all_cons e
    have ih := inV_of r e1 qs e3
    unfold inV inSeq at ih ⊢
    rw [List.any_cons, List.any_cons, eqV_of q r e2 e1, ih]
theorem Rep.seq {K : PySem.W.Frag} {f : Nat → Addr} {h : Heap} {H : Hp} {v : Val} {x : V} {xs : List Val} (S : Sim K F f H h) (r : Rep K F f h.length H v x) (e : seqOf h v = some xs) : ∃ p vs, x = .ref p ∧ (SqL K H p vs ∨ SqT K H p vs) ∧ Reps K F f h.length H xs vs := by
  cases r with
  | tup q rs => cases e; exact ⟨_, _, rfl, .inr q, rs⟩
  | @lst a p q ep =>
    obtain ⟨vs, h1, h2⟩ := listAt_of S (show listAt h a = some xs from e)
    exact ⟨p, vs, rfl, .inl (by rw [ep]; exact h1), h2⟩
  | _ => cases e
/-- a comparison's rule covers what cmpV gives -/
def CmpOk (X : Cx) (F : Adr) (b : Nat) (op : CmpOp) (r : R2) : Prop := ∀ (W : WX) (env : Env) (σ : L2.St) (v u : Val) (x y : V) (f : Nat → Addr) (h : Heap) (H : Hp) (Q : VK), At X F b W env f h σ H → Rep X.K F f h.length H v x → Rep X.K F f h.length H u y →
  Post X.K F b (wX W σ) f h H (cmpV op v u h) (GV X.K F Q) → r x y H Q
theorem op_or {X : Cx} {op : V → V → Hp → VK → Prop} {op2 : V → V → Hp → VK → Prop} {m : Value → Value → Sem Value} (h1 : OpR X m op) (h2 : OpR X m op2) : OpR X m (fun x y H Q => op x y H Q ∨ op2 x y H Q) := fun pins s σ H x y v u Q I rx ry h => h.elim (h1 pins s σ H x y v u Q I rx ry) (h2 pins s σ H x y v u Q I rx ry)
theorem cmp_ex (op : CmpOp) (hu : X.A.units + 64 < cLine) : ∃ r, OpR X (compareOp op) r ∧ CmpOk X F b op r := by
  have intc : ∀ (g : Int → Int → Bool) (op : CmpOp), (∀ v u h, cmpV op v u h = match v, u with
      | .int i, .int j => .ok (.bl (g i j)) h
      | _, _ => .bad) → CmpOk X F b op (rI0 fun i j => .bl (g i j)) := fun g op hg W env σ v u x y f h H Q A rx ry q => by
    rw [hg] at q
    cases v with
    | int i => cases u with
      | int j => cases rx; cases ry; exact ⟨i, j, rfl, rfl, q.same A.sim (.bl _)⟩
      | _ => exact q.elim
    | _ => exact q.elim
  have eqs : ∀ {W : WX} {env : Env} {σ : L2.St} {v u : Val} {x y : V} {f : Nat → Addr} {h : Heap} {H : Hp}, At X F b W env f h σ H → Rep X.K F f h.length H v x → Rep X.K F f h.length H u y → (dataOk 60 h v && dataOk 60 h u) = true →
      ∃ d e, Dp X.K H x d ∧ Dp X.K H y e ∧ SeqAt.shaped d = true ∧ SeqAt.shaped e = true ∧ PyData.eqv d e = veq 60 h v u := fun {W env σ v u x y f h H} A rx ry e => by
    obtain ⟨e1, e2⟩ := Bool.and_eq_true_iff.mp e
    exact ⟨_, _, dp_of A.sim 60 v x rx e1, dp_of A.sim 60 u y ry e2, shaped_of e1, shaped_of e2, veq_eqv 60 v u e1 e2⟩
  cases op with
  | Eq =>
    refine ⟨_, op_eqD hu, fun W env σ v u x y f h H Q A rx ry q => ?_⟩
    have q : Post X.K F b (wX W σ) f h H (match cmpEq h v u with
      | some k => R.ok (.bl k) h
      | none => .bad) (GV X.K F Q) := q
    unfold cmpEq at q
    by_cases e : (dataOk 60 h v && dataOk 60 h u) = true
    · rw [if_pos e] at q
      obtain ⟨d, e', h1, h2, h3, h4, h5⟩ := eqs A rx ry e
      exact ⟨d, e', h1, h2, h3, h4, by rw [h5]; exact q.same A.sim (.bl _)⟩
    · rw [if_neg e] at q
      exact q.elim
  | NotEq =>
    refine ⟨_, op_neD hu, fun W env σ v u x y f h H Q A rx ry q => ?_⟩
    have q : Post X.K F b (wX W σ) f h H (match cmpEq h v u with
      | some k => R.ok (.bl !k) h
      | none => .bad) (GV X.K F Q) := q
    unfold cmpEq at q
    by_cases e : (dataOk 60 h v && dataOk 60 h u) = true
    · rw [if_pos e] at q
      obtain ⟨d, e', h1, h2, h3, h4, h5⟩ := eqs A rx ry e
      exact ⟨d, e', h1, h2, h3, h4, by rw [h5]; exact q.same A.sim (.bl _)⟩
    · rw [if_neg e] at q
      exact q.elim
  | Lt => exact ⟨_, op_lt, intc _ _ fun v u h => rfl⟩
  | LtE => exact ⟨_, op_le, intc _ _ fun v u h => rfl⟩
  | Gt => exact ⟨_, op_gt, intc _ _ fun v u h => rfl⟩
  | GtE => exact ⟨_, op_ge, intc _ _ fun v u h => rfl⟩
  | Is =>
    refine ⟨_, op_or op_isN op_isBl, fun W env σ v u x y f h H Q A rx ry q => ?_⟩
    cases u with
    | non =>
      cases ry
      refine .inl ⟨rfl, ?_⟩
      cases rx <;> exact q.same A.sim (.bl _)
    | bl j =>
      cases v with
      | bl i =>
        cases rx; cases ry
        exact .inr ⟨i, j, rfl, rfl, q.same A.sim (.bl _)⟩
      | _ => exact q.elim
    | _ => cases v <;> exact q.elim
  | IsNot =>
    refine ⟨_, op_or op_notN op_notBl, fun W env σ v u x y f h H Q A rx ry q => ?_⟩
    cases u with
    | non =>
      cases ry
      refine .inl ⟨rfl, ?_⟩
      cases rx <;> exact q.same A.sim (.bl _)
    | bl j =>
      cases v with
      | bl i =>
        cases rx; cases ry
        exact .inr ⟨i, j, rfl, rfl, q.same A.sim (.bl _)⟩
      | _ => exact q.elim
    | _ => cases v <;> exact q.elim
  | In =>
    refine ⟨_, op_in_seq, fun W env σ v u x y f h H Q A rx ry q => ?_⟩
    have q : Post X.K F b (wX W σ) f h H (match seqOf h u with
      | some ys => if flat v && ys.all flat then R.ok (.bl (inSeq v ys)) h else .bad
      | none => .bad) (GV X.K F Q) := q
    cases hs : seqOf h u with
    | none => rw [hs] at q; exact q.elim
    | some ys =>
      rw [hs] at q
      obtain ⟨e, q⟩ := Post.ite (c := flat v && ys.all flat) q
      obtain ⟨e1, e2⟩ := Bool.and_eq_true_iff.mp e
      obtain ⟨p, vs, rfl, h1, h2⟩ := ry.seq A.sim hs
      refine ⟨p, vs, rfl, h1, flat_of rx e1, flats_of h2 e2, ?_⟩
      rw [if_neg Bool.false_ne_true, inV_of rx e1 h2 e2]
      exact q.same A.sim (.bl _)
  | NotIn =>
    refine ⟨_, op_notIn_seq, fun W env σ v u x y f h H Q A rx ry q => ?_⟩
    have q : Post X.K F b (wX W σ) f h H (match seqOf h u with
      | some ys => if flat v && ys.all flat then R.ok (.bl !(inSeq v ys)) h else .bad
      | none => .bad) (GV X.K F Q) := q
    cases hs : seqOf h u with
    | none => rw [hs] at q; exact q.elim
    | some ys =>
      rw [hs] at q
      obtain ⟨e, q⟩ := Post.ite (c := flat v && ys.all flat) q
      obtain ⟨e1, e2⟩ := Bool.and_eq_true_iff.mp e
      obtain ⟨p, vs, rfl, h1, h2⟩ := ry.seq A.sim hs
      refine ⟨p, vs, rfl, h1, flat_of rx e1, flats_of h2 e2, ?_⟩
      rw [if_pos rfl, inV_of rx e1 h2 e2]
      exact q.same A.sim (.bl _)
theorem cmpV_bl {op : CmpOp} {v u w : Val} {h h' : Heap} (e : cmpV op v u h = .ok w h') : ∃ k, w = .bl k := by
  cases op with
  | Eq =>
    have e : (match cmpEq h v u with
      | some k => R.ok (.bl k) h
      | none => .bad) = R.ok w h' := e
    cases hc : cmpEq h v u with
    | none => rw [hc] at e; cases e
    | some k => rw [hc] at e; cases e; exact ⟨_, rfl⟩
  | NotEq =>
    have e : (match cmpEq h v u with
      | some k => R.ok (.bl !k) h
      | none => .bad) = R.ok w h' := e
    cases hc : cmpEq h v u with
    | none => rw [hc] at e; cases e
    | some k => rw [hc] at e; cases e; exact ⟨_, rfl⟩
  | In =>
    have e : (match seqOf h u with
      | some ys => if flat v && ys.all flat then R.ok (.bl (inSeq v ys)) h else .bad
      | none => .bad) = R.ok w h' := e
    cases hc : seqOf h u with
    | none => rw [hc] at e; cases e
    | some ys =>
      rw [hc] at e
      dsimp only at e
      split at e
      · cases e; exact ⟨_, rfl⟩
      · cases e
  | NotIn =>
    have e : (match seqOf h u with
      | some ys => if flat v && ys.all flat then R.ok (.bl !(inSeq v ys)) h else .bad
      | none => .bad) = R.ok w h' := e
    cases hc : seqOf h u with
    | none => rw [hc] at e; cases e
    | some ys =>
      rw [hc] at e
      dsimp only at e
      split at e
      · cases e; exact ⟨_, rfl⟩
      · cases e
  | _ => cases v <;> cases u <;> cases e <;> exact ⟨_, rfl⟩
theorem bind_ok {α β : Type} {r : R α} {k : α → Heap → R β} {w : β} {h' : Heap} (e : r.bind k = .ok w h') : ∃ a h1, r = .ok a h1 ∧ k a h1 = .ok w h' := by
  cases r with
  | ok a h1 => exact ⟨a, h1, rfl, e⟩
  | ex _ _ => cases e
  | bad => cases e
theorem se_cmp {op : CmpOp} {e1 e2 : Expr} {m1 m2 : DE} {pos : Pos} (hu : X.A.units + 64 < cLine) (hm : behindInMarks op e2 = false) (h1 : SE X F b e1 m1) (h2 : SE X F b e2 m2) : SE X F b (.Compare e1 [op] [e2] pos) (d2 m1 m2 (cmpV op)) := by
  obtain ⟨r, ho, hr⟩ := cmp_ex (X := X) (F := F) (b := b) op hu
  refine ⟨fun W env f h σ H Q A p => ?_, fun W env f h σ H Q A p => ?_⟩
  · refine PE.w (pe_cmpR ho (pe_w (e := e1)) (pe_w (e := e2)) hm) ?_
    exact d2_v A h1 h2 p fun v u x y f2 h2 H2 A2 E2 rx ry q => hr W env σ v u x y f2 h2 H2 Q A2 rx ry q
  · refine PT.w (pt_cmpR ho (pe_w (e := e1)) (pe_w (e := e2)) hm) ?_
    have p2 : Post X.K F b (wX W σ) f h H (((m1.v env h).bind fun x h1 => (m2.v env h1).bind fun y h2 => cmpV op x y h2).bind fun x h1 => R.of (truV h1 x) h1) (fun k _ _ H' => Q k H') := p
    rw [R.bind_assoc] at p2
    simp only [R.bind_assoc] at p2
    exact d2_v A h1 h2 p2 fun v u x y f2 h2 H2 A2 E2 rx ry q => hr W env σ v u x y f2 h2 H2 _ A2 rx ry (Post.boolT (fun w h' e => cmpV_bl e) q)
theorem se_cmp2 {op op2 : CmpOp} {e1 e2 e3 : Expr} {m1 m2 m3 : DE} {pos : Pos} (hu : X.A.units + 64 < cLine) (hm : lastMarks [op, op2] [e2, e3] = false) (h1 : SE X F b e1 m1) (h2 : SE X F b e2 m2) (h3 : SE X F b e3 m3) :
    SE X F b (.Compare e1 [op, op2] [e2, e3] pos) (dChain op op2 m1 m2 m3) := by
  obtain ⟨r, ho, hr⟩ := cmp_ex (X := X) (F := F) (b := b) op hu
  obtain ⟨r', ho', hr'⟩ := cmp_ex (X := X) (F := F) (b := b) op2 hu
  have step : ∀ {α : Type} {W : WX} {env : Env} {f : Nat → Addr} {h : Heap} {σ : L2.St} {H : Hp} {G : GG α} {Q : VK} {l : Val → Heap → R α} (A : At X F b W env f h σ H)
      (p : Post X.K F b (wX W σ) f h H ((m1.v env h).bind fun x h1 => (m2.v env h1).bind fun y h2 => (cmpV op x y h2).bind fun z h3 => (boolK z fun k =>
        if k then (m3.v env h3).bind fun w h4 => cmpV op2 y w h4 else .ok (.bl false) h3).bind l) G)
      (fin : ∀ {f : Nat → Addr} {h : Heap} {H : Hp} {r : R Val} (A : At X F b W env f h σ H) (hb : ∀ w h', r = .ok w h' → ∃ k, w = .bl k), Post X.K F b (wX W σ) f h H (r.bind l) G → Post X.K F b (wX W σ) f h H r (GV X.K F Q)),
      tChain r r' (wE X e1) (wE X e2) (wE X e3) σ H Q := fun {α W env f h σ H G Q l} A p fin => by
    refine d2_v A h1 h2 p fun v u x y f2 h2 H2 A2 E2 rx ry q => ?_
    refine hr W env σ v u x y f2 h2 H2 _ A2 rx ry ?_
    have q2 := Post.bind q
    cases hc : cmpV op v u h2 with
    | ok w h' =>
      obtain ⟨k, rfl⟩ := cmpV_bl hc
      rw [hc] at q2
      intro f3 H3 S3 E3 x3 r3
      cases r3
      have A3 := A2.step S3 E3
      have q3 := q2 f3 H3 S3 E3
      refine ⟨k, rfl, ?_⟩
      cases k with
      | false =>
        rw [if_neg Bool.false_ne_true]
        have q4 := fin (r := .ok (.bl false) h') A3 (fun w h' e => by cases e; exact ⟨_, rfl⟩) q3
        exact q4.same A3.sim (.bl _)
      | true =>
        rw [if_pos rfl]
        have q4 := fin (r := (m3.v env h').bind fun w h4 => cmpV op2 u w h4) A3 (fun w h' e => by
          obtain ⟨_, _, _, e⟩ := bind_ok e
          exact cmpV_bl e) q3
        refine h3.v W env f3 h' σ H3 _ A3 ((Post.bind q4).mono fun w f4 h4 H4 S4 E4 q5 z rz => ?_)
        exact hr' W env σ u w y z f4 h4 H4 Q (A3.step S4 E4) (E4.rep S3 (E3.rep A2.sim ry)) rz q5
    | ex e h' =>
      rw [hc] at q2
      exact q2
    | bad =>
      rw [hc] at q2
      exact q2.elim
  refine ⟨fun W env f h σ H Q A p => ?_, fun W env f h σ H Q A p => ?_⟩
  · refine PE.w (pe_chain ho ho' (pe_w (e := e1)) (pe_w (e := e2)) (pe_w (e := e3)) hm) ?_
    refine step (G := GV X.K F Q) (l := fun x h => .ok x h) A ?_ fun {f h H r} A hb q => ?_
    · have e : ∀ r : R Val, (r.bind fun x h => R.ok x h) = r := fun r => by cases r <;> rfl
      simp only [e]
      exact p
    · have e : ∀ r : R Val, (r.bind fun x h => R.ok x h) = r := fun r => by cases r <;> rfl
      rw [e] at q
      exact q
  · refine PT.w (pt_chain ho ho' (pe_w (e := e1)) (pe_w (e := e2)) (pe_w (e := e3)) hm) ?_
    refine step (l := fun x h1 => R.of (truV h1 x) h1) A ?_ fun {f h H r} A hb q => Post.boolT hb q
    have p2 : Post X.K F b (wX W σ) f h H (((m1.v env h).bind fun x h1 => (m2.v env h1).bind fun y h2 => (cmpV op x y h2).bind fun z h3 => boolK z fun k =>
        if k then (m3.v env h3).bind fun w h4 => cmpV op2 y w h4 else .ok (.bl false) h3).bind fun x h1 => R.of (truV h1 x) h1) (fun k _ _ H' => Q k H') := p
    simp only [R.bind_assoc] at p2
    exact p2

/-! ### not, and, or, if -/
theorem se_not {e1 : Expr} {m1 : DE} {pos : Pos} (h1 : SE X F b e1 m1) : SE X F b (.UnaryOp .Not e1 pos) (dNot m1) := by
  refine ⟨fun W env f h σ H Q A p => ?_, fun W env f h σ H Q A p => ?_⟩
  · have pe : PE X (.UnaryOp .Not e1 pos) (fun σ H Q => wE X e1 σ H fun x H1 => ∃ k, TruV X.K x H1 k ∧ Q (.bl (!k)) H1) := ⟨fun pins s σ H Q I hw =>
      UnaryOp_ (thn (hw pins s I) fun v s1 ⟨x, H1, I1, r1, q1⟩ => by
        obtain ⟨k, ht, q1⟩ := q1
        exact not_of (thn (tru_ok pins s1 σ H1 x v (fun k H' => Q (.bl (!k)) H') I1 r1 ⟨k, ht, q1⟩) fun c s2 ⟨H2, I2, q2⟩ => ⟨.bl (!c), H2, I2, rfl, q2⟩))⟩
    refine PE.w pe ?_
    refine h1.v W env f h σ H _ A ((Post.bind p).mono fun v f1 h1 H1 S1 E1 q x rx => ?_)
    obtain ⟨k, ek, q⟩ := Post.of (Post.bind q)
    exact ⟨k, tru_of S1 rx ek, (q.ok S1).same S1 (.bl _)⟩
  · refine PT.w (pt_not (pt_w (e := e1))) ?_
    exact h1.t W env f h σ H _ A ((Post.bind p).mono fun k f1 h1 H1 S1 E1 q => q.ok S1)
/-- the shape of a test is kept where and, or have one item -/
theorem se_one {op : BoolOp} {e1 : Expr} {m1 : DE} {pos : Pos} (h1 : SE X F b e1 m1) : SE X F b (.BoolOp op [e1] pos) m1 := by
  refine ⟨fun W env f h σ H Q A p => PE.w (pe_one (pe_w (e := e1))) (h1.v W env f h σ H Q A p), fun W env f h σ H Q A p => ?_⟩
  cases op with
  | And => exact PT.w (PW.pt (pw_and1 (pt_w (e := e1)))) (h1.t W env f h σ H Q A p)
  | Or => exact PT.w (PW.pt (pw_or1 (pt_w (e := e1)))) (h1.t W env f h σ H Q A p)
theorem bind_ite {α β : Type} {c : Bool} {r r' : R α} {k : α → Heap → R β} : (if c then r else r').bind k = if c then r.bind k else r'.bind k := by
  cases c <;> rfl
end
/-- and, or: the rest's test whatever its 'whole' is -/
structure SW (X : Cx) (F : Adr) (b : Nat) (e : Expr) (m : DE) : Prop extends SE X F b e m where
  w : ∀ (W : WX) (env : Env) (f : Nat → Addr) (h : Heap) (σ : L2.St) (H : Hp) (Q : Bool → Hp → Prop), At X F b W env f h σ H → Post X.K F b (wX W σ) f h H (m.t env h) (fun k _ _ H' => Q k H') →
    ∀ (whole : Sem Value) (pins : List (Addr × Obj)) (s : Shared), Inv X pins σ H s → wpAny (model X.prog X.w) X.A (isTrue e X.env whole) (TP X pins σ Q) X.xe s
def wW (X : Cx) (e : Expr) : TT := fun σ H Q => ∀ (whole : Sem Value) (pins : List (Addr × Obj)) (s : Shared), Inv X pins σ H s → wpAny (model X.prog X.w) X.A (isTrue e X.env whole) (TP X pins σ Q) X.xe s
section
variable {X : Cx} {F : Adr} {b : Nat}
theorem pw_w {e : Expr} : PW X e (wW X e) := ⟨fun whole pins s _ _ _ I h => h whole pins s I⟩
theorem PW.w {e : Expr} {t : TT} (p : PW X e t) {σ : L2.St} {H : Hp} {Q : Bool → Hp → Prop} (h : t σ H Q) : wW X e σ H Q := fun whole pins s I => p.run whole pins s σ H Q I h
theorem SW.one {op : BoolOp} {e1 : Expr} {m1 : DE} {pos : Pos} (h1 : SE X F b e1 m1) : SW X F b (.BoolOp op [e1] pos) m1 := by
  refine ⟨se_one h1, fun W env f h σ H Q A p => ?_⟩
  cases op with
  | And => exact PW.w (pw_and1 (pt_w (e := e1))) (h1.t W env f h σ H Q A p)
  | Or => exact PW.w (pw_or1 (pt_w (e := e1))) (h1.t W env f h σ H Q A p)
theorem SW.and {e1 e2 : Expr} {es : List Expr} {m1 m2 : DE} {pos : Pos} (h1 : SE X F b e1 m1) (h2 : SW X F b (.BoolOp .And (e2 :: es) pos) m2) : SW X F b (.BoolOp .And (e1 :: e2 :: es) pos) (dAnd m1 m2) := by
  have tt : ∀ (W : WX) (env : Env) (f : Nat → Addr) (h : Heap) (σ : L2.St) (H : Hp) (Q : Bool → Hp → Prop), At X F b W env f h σ H → Post X.K F b (wX W σ) f h H ((dAnd m1 m2).t env h) (fun k _ _ H' => Q k H') →
      wW X (.BoolOp .And (e1 :: e2 :: es) pos) σ H Q := fun W env f h σ H Q A p => by
    refine PW.w (pw_and (pt_w (e := e1)) (pw_w (e := .BoolOp .And (e2 :: es) pos))) ?_
    refine h1.t W env f h σ H _ A ((Post.bind p).mono fun k f1 h1 H1 S1 E1 q => ?_)
    cases k with
    | true => rw [if_pos rfl]; exact h2.w W env f1 h1 σ H1 Q (A.step S1 E1) q
    | false => rw [if_neg Bool.false_ne_true]; exact q.ok S1
  refine ⟨⟨fun W env f h σ H Q A p => ?_, fun W env f h σ H Q A p => fun pins s I => tt W env f h σ H Q A p _ pins s I⟩, fun W env f h σ H Q A p => tt W env f h σ H Q A p⟩
  refine PE.w (pe_and (pe_w (e := e1)) (pe_w (e := .BoolOp .And (e2 :: es) pos))) ?_
  refine h1.v W env f h σ H _ A ((Post.bind p).mono fun v f1 h1 H1 S1 E1 q x rx => ?_)
  cases v with
  | bl k =>
    cases rx
    refine ⟨k, rfl, ?_⟩
    cases k with
    | true => rw [if_pos rfl]; exact h2.v W env f1 h1 σ H1 Q (A.step S1 E1) q
    | false => rw [if_neg Bool.false_ne_true]; exact q.same S1 (.bl _)
  | _ => exact q.elim
theorem SW.or {e1 e2 : Expr} {es : List Expr} {m1 m2 : DE} {pos : Pos} (h1 : SE X F b e1 m1) (h2 : SW X F b (.BoolOp .Or (e2 :: es) pos) m2) : SW X F b (.BoolOp .Or (e1 :: e2 :: es) pos) (dOr m1 m2) := by
  have tt : ∀ (W : WX) (env : Env) (f : Nat → Addr) (h : Heap) (σ : L2.St) (H : Hp) (Q : Bool → Hp → Prop), At X F b W env f h σ H → Post X.K F b (wX W σ) f h H ((dOr m1 m2).t env h) (fun k _ _ H' => Q k H') →
      wW X (.BoolOp .Or (e1 :: e2 :: es) pos) σ H Q := fun W env f h σ H Q A p => by
    refine PW.w (pw_or (pt_w (e := e1)) (pw_w (e := .BoolOp .Or (e2 :: es) pos))) ?_
    refine h1.t W env f h σ H _ A ((Post.bind p).mono fun k f1 h1 H1 S1 E1 q => ?_)
    cases k with
    | true => rw [if_pos rfl]; exact q.ok S1
    | false => rw [if_neg Bool.false_ne_true]; exact h2.w W env f1 h1 σ H1 Q (A.step S1 E1) q
  refine ⟨⟨fun W env f h σ H Q A p => ?_, fun W env f h σ H Q A p => fun pins s I => tt W env f h σ H Q A p _ pins s I⟩, fun W env f h σ H Q A p => tt W env f h σ H Q A p⟩
  refine PE.w (pe_or (pe_w (e := e1)) (pe_w (e := .BoolOp .Or (e2 :: es) pos))) ?_
  refine h1.v W env f h σ H _ A ((Post.bind p).mono fun v f1 h1 H1 S1 E1 q x rx => ?_)
  cases v with
  | bl k =>
    cases rx
    refine ⟨k, rfl, ?_⟩
    cases k with
    | true => rw [if_pos rfl]; exact q.same S1 (.bl _)
    | false => rw [if_neg Bool.false_ne_true]; exact h2.v W env f1 h1 σ H1 Q (A.step S1 E1) q
  | _ => exact q.elim
theorem se_ife {c e1 e2 : Expr} {mc m1 m2 : DE} {pos : Pos} (hc : SE X F b c mc) (h1 : SE X F b e1 m1) (h2 : SE X F b e2 m2) : SE X F b (.IfExp c e1 e2 pos) (dIfe mc m1 m2) := by
  refine ⟨fun W env f h σ H Q A p => ?_, fun W env f h σ H Q A p => ?_⟩
  · refine PE.w (pe_ifExp (pt_w (e := c)) (pe_w (e := e1)) (pe_w (e := e2))) ?_
    refine hc.t W env f h σ H _ A ((Post.bind p).mono fun k f1 h3 H1 S1 E1 q => ?_)
    cases k with
    | true => rw [if_pos rfl]; exact h1.v W env f1 h3 σ H1 Q (A.step S1 E1) q
    | false => rw [if_neg Bool.false_ne_true]; exact h2.v W env f1 h3 σ H1 Q (A.step S1 E1) q
  · have pt : PT X (.IfExp c e1 e2 pos) (fun σ H Q => wT X c σ H fun k H1 => if k = true then wT X e1 σ H1 Q else wT X e2 σ H1 Q) := ⟨fun pins s σ H Q I hw =>
      isTrue_IfExp (thn (hw pins s I) fun d s1 ⟨H1, I1, q1⟩ => by
        cases d with
        | true => exact q1 pins s1 I1
        | false => exact q1 pins s1 I1)⟩
    refine PT.w pt ?_
    refine hc.t W env f h σ H _ A ((Post.bind p).mono fun k f1 h3 H1 S1 E1 q => ?_)
    cases k with
    | true => rw [if_pos rfl]; exact h1.t W env f1 h3 σ H1 Q (A.step S1 E1) q
    | false => rw [if_neg Bool.false_ne_true]; exact h2.t W env f1 h3 σ H1 Q (A.step S1 E1) q
end
end Y

set_option Elab.async false
set_option linter.all false
set_option maxRecDepth 100000
set_option maxHeartbeats 4000000
/-! Snd4: displays, indices, slices, list expressions, built-ins, calls. -/
namespace Y
open PySem PySem.Spec PyProof.Rows L2
section
variable {X : Cx} {F : Adr} {b : Nat}
/-! ### argument lists -/
def notStar : Expr → Bool
  | .Starred _ _ => false
  | _ => true
theorem star_no {e : Expr} {es : List Expr} {env : PySem.Env} (h : notStar e = true) : starEach (e :: es) env = (false, eval e env) :: starEach es env := by
  cases e <;> first | rfl | (simp [notStar] at h)
theorem star_any {pos : Pos} {env : PySem.Env} : ∀ {es : List Expr}, es.all notStar = true → (backTo pos (starEach es env)).any (·.1) = false
  | [], _ => rfl
  | e :: es, h => by
    obtain ⟨h1, h2⟩ := all_cons h
    rw [star_no h1]
    show (false || (backTo pos (starEach es env)).any (·.1)) = false
    rw [star_any h2]
    rfl
theorem sx_nil : SX X F b [] (fun _ h => .ok [] h) := ⟨fun W env f h σ H Q A p => fun pos pins s I => pa_nil.run pos pins s σ H Q I (p.ok A.sim [] .nil)⟩
theorem wA_cons {e : Expr} {es : List Expr} (hs : notStar e = true) {σ : L2.St} {H : Hp} {Q : List V → Hp → Prop} (h : wE X e σ H fun x H1 => wA X es σ H1 fun xs H2 => Q (x :: xs) H2) : wA X (e :: es) σ H Q := fun pos pins s I =>
  (pa_cons (pe_w (e := e)) (pa_w (es := es)) (star_no hs)).run pos pins s σ H Q I h
theorem sx_cons {e : Expr} {es : List Expr} {m : DE} {ms : DL} (hs : notStar e = true) (h1 : SE X F b e m) (h2 : SX X F b es ms) : SX X F b (e :: es) (dCons m ms) := by
  refine ⟨fun W env f h σ H Q A p => wA_cons hs ?_⟩
  refine h1.v W env f h σ H _ A ((Post.bind p).mono fun v f1 h1 H1 S1 E1 q x rx => ?_)
  refine h2.run W env f1 h1 σ H1 _ (A.step S1 E1) ((Post.bind q).mono fun xs f2 h2 H2 S2 E2 q2 vs rs => ?_)
  exact q2.ok S2 (x :: vs) (.cons (E2.rep S1 rx) rs)
/-- one of a list's or a tuple's items, spliced -/
theorem star_run {pins : List (Addr × Obj)} {σ : L2.St} {H : Hp} {s : Shared} {p : Addr} {vs : List V} {Q : List Value → Shared → Prop} {E : Value → Shared → Prop} (I : Inv X pins σ H s) (h : SqL X.K H p vs ∨ SqT X.K H p vs)
    (k : ∀ its s', Vals vs its → Inv X pins σ H s' → Q its s') : PySem.W.StarOf (model X.prog X.w) X.A E (.ref p) Q s := by
  obtain ⟨T, its, o, n, hT, ho, hc, hd, hv, hz⟩ : ∃ (T : String) (its : List Value) (o : Obj) (n : Nat), (T = "list" ∨ T = "tuple") ∧ s.heap.get? p = some o ∧ o.cls = .type T ∧ o.data = .seq its.toArray n ∧ Vals vs its ∧ vs.length ≤ sizeLine := by
    rcases h with h | h
    · obtain ⟨its, rv, ⟨o, n, ho, hc, _, hd⟩, hz⟩ := I.list h
      exact ⟨"list", its, o, n, .inl rfl, ho, hc, hd, rv, hz⟩
    · obtain ⟨its, rv, ⟨o, ho, hc, n, hd⟩, hz⟩ := I.tuple h
      exact ⟨"tuple", its, o, n, .inr rfl, ho, hc, hd, rv, hz⟩
  have hT' : s.TypeIs (.ref p) T := ⟨o, ho, hc⟩
  have z : wpAny (model X.prog X.w) X.A (collect (.ref p)) Q E s := by
    refine wpAny_collect_seq p hT ho hc hd (fun h' hk => ?_) (by rw [List.size_toArray, ← hv.length]; exact hz)
    exact k its { s with heap := h' } hv (I.kept (t' := s.toks) hk)
  unfold PySem.W.StarOf notIterableAtAll
  rcases hT with rfl | rfl
  · exact wpAny_bind (wpAny_specialOf hT' PySem.F.slot_list_iter.lookup (wpAny_pure ⟨rfl, z⟩))
  · exact wpAny_bind (wpAny_specialOf hT' PySem.F.slot_tuple_iter.lookup (wpAny_pure ⟨rfl, z⟩))
theorem wA_star {e : Expr} {es : List Expr} {p : Pos} {σ : L2.St} {H : Hp} {Q : List V → Hp → Prop} (h : wE X e σ H fun x H1 => ∃ a vs, x = .ref a ∧ (SqL X.K H1 a vs ∨ SqT X.K H1 a vs) ∧ wA X es σ H1 fun xs H2 => Q (vs ++ xs) H2) :
    wA X (.Starred e p :: es) σ H Q := fun pos pins s I => by
  refine PySem.W.items_star (thn (h pins s I) fun v s1 ⟨x, H1, I1, r1, a, vs, e1, hv, q⟩ => ?_) rfl
  subst e1
  cases r1
  refine star_run I1 hv fun its s2 rv I2 => thn (q pos pins s2 I2) fun us s3 ⟨xs, H3, I3, r3, q3⟩ => ⟨vs ++ xs, H3, I3, rv.append r3, q3⟩
theorem sx_star {e : Expr} {es : List Expr} {p : Pos} {m : DE} {ms : DL} (h1 : SE X F b e m) (h2 : SX X F b es ms) : SX X F b (.Starred e p :: es) (dStar (dOfL m) ms) := by
  refine ⟨fun W env f h σ H Q A p => wA_star ?_⟩
  have p := Post.bind p
  have p2 : Post X.K F b (wX W σ) f h H ((m.v env h).bind fun x h1 => R.of (seqOf h1 x) h1) _ := p
  refine h1.v W env f h σ H _ A ((Post.bind p2).mono fun v f1 h1 H1 S1 E1 q x rx => ?_)
  obtain ⟨xs, es', q⟩ := Post.of q
  have q := q.ok S1
  obtain ⟨a, vs, rfl, hv, rs⟩ := rx.seq S1 es'
  refine ⟨a, vs, rfl, hv, ?_⟩
  refine h2.run W env f1 h1 σ H1 _ (A.step S1 E1) ((Post.bind q).mono fun ys f2 h2 H2 S2 E2 q2 ws rw' => ?_)
  obtain ⟨_, q2⟩ := Post.ite q2
  exact q2.ok S2 (vs ++ ws) ((E2.reps S1 rs).app rw')
theorem sx_starL {e : Expr} {es : List Expr} {p : Pos} {m ms : DL} (h1 : SL X F b e m) (h2 : SX X F b es ms) : SX X F b (.Starred e p :: es) (dStar m ms) := by
  refine ⟨fun W env f h σ H Q A p => wA_star ?_⟩
  refine h1.run W env f h σ H _ A ((Post.bind p).mono fun xs f1 h1 H1 S1 E1 q D vs hD hn _ rs => ?_)
  refine ⟨D, vs, rfl, .inl (SqL.of hD), ?_⟩
  refine h2.run W env f1 h1 σ H1 _ (A.step S1 E1) ((Post.bind q).mono fun ys f2 h2 H2 S2 E2 q2 ws rw' => ?_)
  obtain ⟨_, q2⟩ := Post.ite q2
  exact q2.ok S2 (vs ++ ws) ((E2.reps S1 rs).app rw')

/-! ### displays -/
theorem se_tup {es : List Expr} {k : Nat} {pos : Pos} {ms : DL} (h1 : SX X F b es ms) : SE X F b (.Tuple es k pos) (dTup ms) := by
  refine se_byV rfl fun W env f h σ H Q A p => ?_
  refine PE.w (pe_tup (pa_w (es := es))) ?_
  refine h1.run W env f h σ H _ A ((Post.bind p).mono fun xs f1 h1 H1 S1 E1 q vs rs => ?_)
  obtain ⟨hl, q⟩ := Post.ite q
  exact ⟨by rw [← rs.length]; exact isLen_le hl, fun p hp => q.newTup S1 rs hp⟩
/-- a new list at a fresh place, not one of ours -/
theorem Post.newL {K : PySem.W.Frag} {E : XK} {f : Nat → Addr} {h : Heap} {H H0 : Hp} {xs : List Val} {vs : List V} {Q : VK} {p : Addr} (S : Sim K F f H h) (P : Post K F b E f h H (.ok xs h) (GL K F H0 Q)) (r : Reps K F f h.length H xs vs) (hp : H p = none) (h0 : H0 p = none) : Q (.ref p) (upd H p (.lst vs)) := by
  have E1 : Ext b f h H f h (upd H p (.lst vs)) := Ext.fresh hp
  exact P f _ (S.fresh hp) E1 p vs upd_same (S.ne_fresh hp) h0 (E1.reps S r)
/-- a new list at a fresh place, taken in -/
theorem Post.newC {K : PySem.W.Frag} {E : XK} {f : Nat → Addr} {h : Heap} {H : Hp} {xs : List Val} {vs : List V} {Q : VK} {p : Addr} (hb : b ≤ h.length) (S : Sim K F f H h) (P : Post K F b E f h H (new xs h) (GV K F Q)) (r : Reps K F f h.length H xs vs) (hp : H p = none) : Q (.ref p) (upd H p (.lst vs)) := by
  have E1 : Ext b f h H f h (upd H p (.lst vs)) := Ext.fresh hp
  have S1 := S.fresh (o := .lst vs) hp
  exact P _ _ (S1.take_in upd_same (S.ne_fresh hp) (E1.reps S r)) (Ext.take_in S1 E1 hp hb) _ Rep.taken
theorem sl_disp {es : List Expr} {pos : Pos} {ms : DL} (h1 : SX X F b es ms) : SL X F b (.List es pos) (dDisp ms) := by
  refine ⟨fun W env f h σ H Q A p => ?_⟩
  refine PE.w (pe_lst (pa_w (es := es))) ?_
  refine h1.run W env f h σ H _ A ((Post.bind0 p).mono fun xs f1 h1 H1 S1 E1 q vs rs => ?_)
  obtain ⟨hl, q⟩ := Post.ite q
  exact ⟨by rw [← rs.length]; exact isLen_le hl, fun q' hq => Post.newL S1 (Post.shift S1 E1 q) rs hq (E1.none_of S1 hq)⟩
theorem se_new {e : Expr} {m : DL} (hp : plainT e = true) (h1 : SL X F b e m) : SE X F b e (byV fun env h => (m env h).bind new) := by
  refine se_byV hp fun W env f h σ H Q A p => ?_
  refine h1.run W env f h σ H _ A ((Post.bind0 p).mono fun xs f1 h1 H1 S1 E1 q D vs hD hn h0 rs => ?_)
  have P : Post X.K F b (wX W σ) f h H (.ok (.lst h1.length) (h1 ++ [.lst xs])) (GV X.K F Q) := q
  exact P _ _ (S1.take_in hD hn rs) (Ext.take_in S1 E1 h0 A.le) _ Rep.taken
/-! ### list expressions -/
theorem sl_mul {e1 e2 : Expr} {m1 : DL} {m2 : DE} {pos : Pos} (h1 : SL X F b e1 m1) (h2 : SE X F b e2 m2) : SL X F b (.BinOp e1 .Mult e2 pos) (dMulL m1 m2) := by
  refine ⟨fun W env f h σ H Q A p => ?_⟩
  refine PE.w (pe_op op_rep (pe_w (e := e1)) (pe_w (e := e2))) ?_
  refine h1.run W env f h σ H _ A ((Post.bind p).mono fun xs f1 h1 H1 S1 E1 q D vs hD hn h0 rs => ?_)
  have A1 := A.step S1 E1
  refine h2.v W env f1 h1 σ H1 _ A1 ((Post.bind q).mono fun u f2 h2 H2 S2 E2 q2 y ry => ?_)
  cases u with
  | int k =>
    cases ry
    obtain ⟨hl, q2⟩ := Post.ite (c := isLen (xs.length * k.toNat) && Nat.ble k.natAbs line) (r := R.ok (List.replicate k.toNat xs).flatten h2) q2
    obtain ⟨l1, l2⟩ := Bool.and_eq_true_iff.mp hl
    have l3 : k.natAbs ≤ 16777216 := Nat.le_of_ble_eq_true l2
    have kD := E2.kp D _ hD hn
    have rs2 := E2.reps S1 rs
    exact ⟨D, k, vs, rfl, rfl, kD, by omega, by omega, by rw [← rs.length]; exact isLen_le l1, fun p hp => Post.newL S2 q2 (rs2.rep _) hp ((E1.trans S1 E2).none_of S2 hp)⟩
  | _ => exact q2.elim
theorem sl_add {e1 e2 : Expr} {m1 m2 : DL} {pos : Pos} (h1 : SL X F b e1 m1) (h2 : SL X F b e2 m2) : SL X F b (.BinOp e1 .Add e2 pos) (dAddL m1 m2) := by
  refine ⟨fun W env f h σ H Q A p => ?_⟩
  refine PE.w (pe_op op_cat (pe_w (e := e1)) (pe_w (e := e2))) ?_
  refine h1.run W env f h σ H _ A ((Post.bind p).mono fun xs f1 h1 H1 S1 E1 q D vs hD hn h0 rs => ?_)
  have A1 := A.step S1 E1
  refine h2.run W env f1 h1 σ H1 _ A1 ((Post.bind q).mono fun ys f2 h2 H2 S2 E2 q2 D2 ws hD2 hn2 h02 rs' => ?_)
  obtain ⟨hl, q2⟩ := Post.ite q2
  have kD := E2.kp D _ hD hn
  have rs2 := E2.reps S1 rs
  exact ⟨D, D2, vs, ws, rfl, rfl, kD, hD2, by rw [← rs.length, ← rs'.length]; exact isLen_le hl, fun p hp => Post.newL S2 q2 (rs2.app rs') hp ((E1.trans S1 E2).none_of S2 hp)⟩
/-- a built-in's call of one argument -/
theorem wE_B {id : String} {x : Str} {e : Expr} {p pos : Pos} {r : List V → Hp → VK → Prop} (hc : CallR X (.builtin id) r) (hg : Gl X x) (hm : X.mg x = none) (hv : bootBuiltins x = some (.builtin id)) (hn : x ≠ "__name__") (hdb : (x == ("__debug__" : Str)) = false) (hs : notStar e = true)
    {σ : L2.St} {H : Hp} {Q : VK} (h : wE X e σ H fun v H1 => r [v] H1 Q) : wE X (.Call (.Name x p) [e] [] pos) σ H Q :=
  PE.w (pe_callB hc hg hm hv (pa_w (es := [e])) hn hdb (star_no hs) rfl) (wA_cons hs (wE.mono h fun v H' q => fun pos pins s I => pa_nil.run pos pins s σ H' _ I q))
theorem wE_T {T : String} {x : Str} {e : Expr} {p pos : Pos} {r : List V → Hp → VK → Prop} (hc : CallR X (.type T) r) (hg : Gl X x) (hm : X.mg x = none) (hv : bootBuiltins x = some (.type T)) (hn : x ≠ "__name__") (hdb : (x == ("__debug__" : Str)) = false) (hs : notStar e = true)
    {σ : L2.St} {H : Hp} {Q : VK} (h : wE X e σ H fun v H1 => r [v] H1 Q) : wE X (.Call (.Name x p) [e] [] pos) σ H Q :=
  PE.w (pe_callTy hc hg hm hv (pa_w (es := [e])) hn hdb (star_no hs) rfl) (wA_cons hs (wE.mono h fun v H' q => fun pos pins s I => pa_nil.run pos pins s σ H' _ I q))
theorem sl_of {e : Expr} {m : DE} {p pos : Pos} (hg : Gl X "list") (hm : X.mg "list" = none) (hs : notStar e = true) (h1 : SE X F b e m) : SL X F b (.Call (.Name "list" p) [e] [] pos) (dOfL m) := by
  refine ⟨fun W env f h σ H Q A p => wE_T call_list_of hg hm (by decide +kernel) (by decide) (by decide) hs ?_⟩
  refine h1.v W env f h σ H _ A ((Post.bind p).mono fun v f1 h1 H1 S1 E1 q x rx => ?_)
  obtain ⟨xs, es', q⟩ := Post.of q
  obtain ⟨a, vs, rfl, hv, rs⟩ := rx.seq S1 es'
  exact ⟨a, vs, rfl, hv, fun l hl => Post.newL S1 q rs hl (E1.none_of S1 hl)⟩

/-! ### indices, slices -/
theorem place_ix {n : Nat} {i : Int} {j : Nat} (e : place n i = some j) : ixN n i = some j := by
  cases i with
  | ofNat k =>
    have e : (if Nat.blt k n then some k else none) = some j := e
    by_cases h : Nat.blt k n = true
    · rw [if_pos h] at e
      cases e
      have h2 : j < n := Nat.le_of_ble_eq_true h
      show (if 0 ≤ (j : Int) then (if (j : Int) < n then some (j : Int).toNat else none) else if -(n : Int) ≤ (j : Int) then some ((j : Int) + n).toNat else none) = some j
      rw [if_pos (Int.natCast_nonneg j), if_pos (Int.ofNat_lt.mpr h2)]
      rfl
    · rw [if_neg h] at e; cases e
  | negSucc k =>
    have e : (if Nat.blt k n then some (n - (k + 1)) else none) = some j := e
    by_cases h : Nat.blt k n = true
    · rw [if_pos h] at e
      have h2 : k < n := Nat.le_of_ble_eq_true h
      unfold ixN
      rw [if_neg (by omega), if_pos (by omega), ← e]
      congr 1
      omega
    · rw [if_neg h] at e; cases e
theorem atV_ix {K : PySem.W.Frag} {f : Nat → Addr} {n : Nat} {H : Hp} {xs : List Val} {vs : List V} {i : Int} {v : Val} (r : Reps K F f n H xs vs) (e : atV xs i = some v) : ∃ x, atI vs i = some x ∧ Rep K F f n H v x := by
  unfold atV at e
  cases hp : place xs.length i with
  | none => rw [hp] at e; cases e
  | some j =>
    rw [hp] at e
    obtain ⟨x, h1, h2⟩ := r.get (show xs[j]? = some v from e)
    refine ⟨x, ?_, h2⟩
    unfold atI
    rw [← r.length, place_ix hp]
    exact h1
def notSlice : Expr → Bool
  | .Slice _ _ _ _ => false
  | _ => true
theorem plain_ix {e : Expr} (h : notSlice e = true) : PlainIx e := by
  cases e <;> first | (exact fun _ _ => rfl) | (simp [notSlice] at h)
theorem se_idx {e1 e2 : Expr} {m1 m2 : DE} {pos : Pos} (hs : notSlice e2 = true) (h1 : SE X F b e1 m1) (h2 : SE X F b e2 m2) : SE X F b (.Subscript e1 e2 pos) (d2 m1 m2 idxV) := by
  refine se_byV rfl fun W env f h σ H Q A p => ?_
  refine PE.w (pe_ix (ix_list.or ix_tup) (pe_w (e := e1)) (pe_w (e := e2)) (plain_ix hs)) ?_
  refine d2_v A h1 h2 p fun v u x y f2 h2 H2 A2 E2 rx ry q => ?_
  cases u with
  | int i =>
    cases ry
    obtain ⟨w, ew, q⟩ := Post.of (o := (seqOf h2 v).bind fun xs => atV xs i) q
    cases hs : seqOf h2 v with
    | none => rw [hs] at ew; cases ew
    | some xs =>
      rw [hs] at ew
      obtain ⟨a, vs, rfl, hv, rs⟩ := rx.seq A2.sim hs
      obtain ⟨z, e1, rz⟩ := atV_ix rs ew
      rcases hv with hv | hv
      · exact .inl ⟨a, vs, i, z, rfl, rfl, hv, e1, q.same A2.sim rz⟩
      · exact .inr ⟨a, vs, i, z, rfl, rfl, hv, e1, q.same A2.sim rz⟩
  | _ => exact q.elim
theorem cutN_sIx (n d : Nat) (o : Option Int) : HT.sIx n d o = cutN n d o := by
  cases o with
  | none => rfl
  | some i =>
    cases i with
    | ofNat k => exact HT.sIx_nat n d k
    | negSucc k =>
      show (if (Int.negSucc k) < 0 then ((Int.negSucc k) + (n : Int)).toNat else min (Int.negSucc k).toNat n) = n - (k + 1)
      rw [if_pos (by omega)]
      omega
theorem Reps.cut {K : PySem.W.Frag} {f : Nat → Addr} {n : Nat} {H : Hp} {xs : List Val} {vs : List V} (r : Reps K F f n H xs vs) (lo hi : Option Int) : Reps K F f n H (cut xs lo hi) (cutV vs lo hi) := by
  unfold Y.cut cutV
  rw [cutN_sIx, cutN_sIx, ← r.length]
  exact (r.drop _).take _
/-- a bound of a slice -/
structure SO (X : Cx) (F : Adr) (b : Nat) (e : Option Expr) (m : DO) : Prop where
  ex : ∃ t : TO, PO X e t ∧ ∀ (W : WX) (env : Env) (f : Nat → Addr) (h : Heap) (σ : L2.St) (H : Hp) (Q : Option Int → Hp → Prop), At X F b W env f h σ H →
    Post X.K F b (wX W σ) f h H (m env h) (fun o f' h' H' => match o with
      | none => Q none H'
      | some (.int i) => Q (some i) H'
      | some _ => False) → t σ H Q
theorem so_none : SO X F b none (fun _ h => .ok none h) := ⟨_, po_none, fun W env f h σ H Q A p => p.ok A.sim⟩
theorem so_some {e : Expr} {m : DE} (h1 : SE X F b e m) : SO X F b (some e) (fun env h => (m.v env h).bind fun x h1 => .ok (some x) h1) := by
  refine ⟨_, po_some (pe_w (e := e)), fun W env f h σ H Q A p => ?_⟩
  refine h1.v W env f h σ H _ A ((Post.bind p).mono fun v f1 h1 H1 S1 E1 q x rx => ?_)
  have q := q.ok S1
  cases v with
  | int i => cases rx; exact ⟨i, rfl, q⟩
  | _ => exact q.elim
theorem se_sl {e : Expr} {lo hi : Option Expr} {m : DE} {ml mh : DO2} {p2 pos : Pos} (h1 : SE X F b e m) (hl : SO X F b lo ml.1) (hh : SO X F b hi mh.1) : SE X F b (.Subscript e (.Slice lo hi none p2) pos) (dSl m ml mh) := by
  obtain ⟨tl, pl, kl⟩ := hl
  obtain ⟨th, ph, kh⟩ := hh
  refine se_byV rfl fun W env f h σ H Q A p => ?_
  refine PE.w (pe_slice (sl_list.or sl_tupA) (pe_w (e := e)) pl ph) ?_
  refine h1.v W env f h σ H _ A ((Post.bind p).mono fun v f1 h1 H1 S1 E1 q x rx => ?_)
  have A1 := A.step S1 E1
  refine kl W env f1 h1 σ H1 _ A1 ((Post.bind q).mono fun o f2 h2 H2 S2 E2 q2 => ?_)
  have A2 := A1.step S2 E2
  have part : ∀ {o : Option Val} {h0 : Heap} {f0 : Nat → Addr} {H0 : Hp} {k : Option Int → R Val}, Post X.K F b (wX W σ) f0 h0 H0 (asInt o k) (GV X.K F Q) → match o with
      | none => Post X.K F b (wX W σ) f0 h0 H0 (k none) (GV X.K F Q)
      | some (.int i) => Post X.K F b (wX W σ) f0 h0 H0 (k (some i)) (GV X.K F Q)
      | some _ => False := fun {o h0 f0 H0 k} p => by
    cases o with
    | none => exact p
    | some v => cases v <;> first | exact p | exact p.elim
  have go : ∀ l, Post X.K F b (wX W σ) f2 h2 H2 ((mh.1 env h2).bind fun u h3 => asInt u fun u => slV v l u h3) (GV X.K F Q) → th σ H2 fun u H3 => rSlL X.K x l u H3 Q ∨ rSlA X.K x l u H3 Q := fun l q2 => by
    refine kh W env f2 h2 σ H2 _ A2 ((Post.bind q2).mono fun o' f3 h3 H3 S3 E3 q3 => ?_)
    have q4 := part q3
    have fin : ∀ u, Post X.K F b (wX W σ) f3 h3 H3 (slV v l u h3) (GV X.K F Q) → rSlL X.K x l u H3 Q ∨ rSlA X.K x l u H3 Q := fun u q => by
      have rx3 := E3.rep S2 (E2.rep S1 rx)
      cases v with
      | tup xs =>
        obtain ⟨a, vs, rfl, hq, rs⟩ := rx3.tup_inv
        have q' : Post X.K F b (wX W σ) f3 h3 H3 (.ok (.tup (Y.cut xs l u)) h3) (GV X.K F Q) := q
        refine .inr ⟨a, vs, rfl, hq, fun hw => ?_, fun _ p hp => q'.newTup S3 (rs.cut l u) hp⟩
        have e1 : cutV vs l u = vs := by
          unfold cutV
          rw [hw.1, hw.2]
          simp
        have z := rs.cut l u
        rw [e1] at z
        exact q'.same S3 (.tup hq z)
      | lst a =>
        have q' : Post X.K F b (wX W σ) f3 h3 H3 (match listAt h3 a with
          | some xs => new (cut xs l u) h3
          | none => .bad) (GV X.K F Q) := q
        obtain ⟨ea, hlt⟩ := rx3.lst_inv
        cases hla : listAt h3 a with
        | none => rw [hla] at q'; exact q'.elim
        | some xs =>
          rw [hla] at q'
          obtain ⟨vs, h1', h2'⟩ := listAt_of S3 hla
          subst ea
          exact .inl ⟨_, vs, rfl, h1', fun p hp => Post.newC (A2.step S3 E3).le S3 q' (h2'.cut l u) hp⟩
      | _ => exact q.elim
    cases o' with
    | none => exact fin none q4
    | some w => cases w <;> first | exact fin _ q4 | exact q4.elim
  have q2' := part q2
  cases o with
  | none => exact go none q2'
  | some w => cases w <;> first | exact go _ q2' | exact q2'.elim
end
end Y

set_option Elab.async false
set_option linter.all false
set_option maxRecDepth 100000
set_option maxHeartbeats 4000000
/-! Snd5: built-ins, isinstance, calls of defs, stores into lists. -/
namespace Y
open PySem PySem.Spec PyProof.Rows L2
section
variable {K : PySem.W.Frag} {F : Adr} {b : Nat} {f : Nat → Addr} {n : Nat} {h : Heap} {H : Hp}
theorem ints_of : ∀ {xs : List Val} {vs : List V} {ns : List Int}, Reps K F f n H xs vs → asInts xs = some ns → vs = ns.map V.int
  | _, _, _, .nil, e => by cases e; rfl
  | x :: xs', _, _, .cons r q, e => by
    cases x with
    | int i =>
      have e : (asInts xs').map (i :: ·) = some _ := e
      cases hr : asInts xs' with
      | none => rw [hr] at e; cases e
      | some ms =>
        rw [hr] at e
        cases e
        cases r
        rw [ints_of q hr]; rfl
    | _ => cases e
theorem bools_of : ∀ {xs : List Val} {vs : List V} {ns : List Bool}, Reps K F f n H xs vs → asBools xs = some ns → vs = ns.map V.bl
  | _, _, _, .nil, e => by cases e; rfl
  | x :: xs', _, _, .cons r q, e => by
    cases x with
    | bl i =>
      have e : (asBools xs').map (i :: ·) = some _ := e
      cases hr : asBools xs' with
      | none => rw [hr] at e; cases e
      | some ms =>
        rw [hr] at e
        cases e
        cases r
        rw [bools_of q hr]; rfl
    | _ => cases e
theorem maxI_spec {ns : List Int} {m : Int} (e : maxI ns = some m) : m ∈ ns ∧ ∀ y, y ∈ ns → y ≤ m := by
  cases ns with
  | nil => cases e
  | cons i r =>
    have go : ∀ (r : List Int) (i : Int), (r.foldl (fun m j => if j > m then j else m) i = i ∨ r.foldl (fun m j => if j > m then j else m) i ∈ r) ∧ i ≤ r.foldl (fun m j => if j > m then j else m) i ∧ ∀ y, y ∈ r → y ≤ r.foldl (fun m j => if j > m then j else m) i := by
      intro r
      induction r with
      | nil => intro i; exact ⟨.inl rfl, Int.le_refl _, fun y hy => by cases hy⟩
      | cons j r ih =>
        intro i
        rw [List.foldl_cons]
        by_cases hj : j > i
        · rw [if_pos hj]
          obtain ⟨h1, h2, h3⟩ := ih j
          refine ⟨.inr ?_, by omega, fun y hy => ?_⟩
          · rcases h1 with z | z
            · rw [z]; exact List.mem_cons_self
            · exact List.mem_cons_of_mem _ z
          · rcases List.mem_cons.mp hy with z | z
            · rw [z]; exact h2
            · exact h3 y z
        · rw [if_neg hj]
          obtain ⟨h1, h2, h3⟩ := ih i
          refine ⟨h1.imp id (List.mem_cons_of_mem _), h2, fun y hy => ?_⟩
          rcases List.mem_cons.mp hy with z | z
          · rw [z]; omega
          · exact h3 y z
    have e' : r.foldl (fun m j => if j > m then j else m) i = m := Option.some.inj e
    obtain ⟨h1, h2, h3⟩ := go r i
    rw [e'] at h1 h2 h3
    refine ⟨?_, fun y hy => ?_⟩
    · rcases h1 with z | z
      · rw [z]; exact List.mem_cons_self
      · exact List.mem_cons_of_mem _ z
    · rcases List.mem_cons.mp hy with z | z
      · rw [z]; exact h2
      · exact h3 y z
theorem minI_spec {ns : List Int} {m : Int} (e : minI ns = some m) : m ∈ ns ∧ ∀ y, y ∈ ns → m ≤ y := by
  cases ns with
  | nil => cases e
  | cons i r =>
    have go : ∀ (r : List Int) (i : Int), (r.foldl (fun m j => if j < m then j else m) i = i ∨ r.foldl (fun m j => if j < m then j else m) i ∈ r) ∧ r.foldl (fun m j => if j < m then j else m) i ≤ i ∧ ∀ y, y ∈ r → r.foldl (fun m j => if j < m then j else m) i ≤ y := by
      intro r
      induction r with
      | nil => intro i; exact ⟨.inl rfl, Int.le_refl _, fun y hy => by cases hy⟩
      | cons j r ih =>
        intro i
        rw [List.foldl_cons]
        by_cases hj : j < i
        · rw [if_pos hj]
          obtain ⟨h1, h2, h3⟩ := ih j
          refine ⟨.inr ?_, by omega, fun y hy => ?_⟩
          · rcases h1 with z | z
            · rw [z]; exact List.mem_cons_self
            · exact List.mem_cons_of_mem _ z
          · rcases List.mem_cons.mp hy with z | z
            · rw [z]; exact h2
            · exact h3 y z
        · rw [if_neg hj]
          obtain ⟨h1, h2, h3⟩ := ih i
          refine ⟨h1.imp id (List.mem_cons_of_mem _), h2, fun y hy => ?_⟩
          rcases List.mem_cons.mp hy with z | z
          · rw [z]; omega
          · exact h3 y z
    have e' : r.foldl (fun m j => if j < m then j else m) i = m := Option.some.inj e
    obtain ⟨h1, h2, h3⟩ := go r i
    rw [e'] at h1 h2 h3
    refine ⟨?_, fun y hy => ?_⟩
    · rcases h1 with z | z
      · rw [z]; exact List.mem_cons_self
      · exact List.mem_cons_of_mem _ z
    · rcases List.mem_cons.mp hy with z | z
      · rw [z]; exact h2
      · exact h3 y z
theorem max_pos {ns : List Int} {m : Int} (h : m ∈ ns) : 0 < ns.length := List.length_pos_of_mem h
/-- what a built-in gives for a list of ours or a new one: the shared part -/
theorem biL_ok {E : XK} {Q : VK} {k : Bi} {xs : List Val} {vs : List V} {D : Addr} (S : Sim K F f H h) (rs : Reps K F f h.length H xs vs) (hD : SqL K H D vs) (p : Post K F b E f h H (biL k xs h) (GV K F Q)) : match k with
    | .len => Q (.int vs.length) H
    | .int => False
    | .tuple => ∀ l, H l = none → Q (.ref l) (upd H l (.tup vs))
    | .sum => ∃ ns : List Int, vs = ns.map V.int ∧ Q (.int ns.sum) H
    | .all => ∃ bs : List Bool, vs = bs.map V.bl ∧ Q (.bl (bs.all id)) H
    | .max => ∃ ns : List Int, vs = ns.map V.int ∧ 0 < ns.length ∧ ∀ m, m ∈ ns → (∀ y, y ∈ ns → y ≤ m) → Q (.int m) H
    | .min => ∃ ns : List Int, vs = ns.map V.int ∧ 0 < ns.length ∧ ∀ m, m ∈ ns → (∀ y, y ∈ ns → m ≤ y) → Q (.int m) H := by
  cases k with
  | len =>
    have p : Post K F b E f h H (.ok (.int xs.length) h) (GV K F Q) := p
    rw [rs.length] at p
    exact p.same S (.int _)
  | int => exact p
  | tuple => exact fun l hl => Post.newTup S p rs hl
  | sum =>
    have p : Post K F b E f h H (match asInts xs with
      | some ns => R.ok (.int ns.sum) h
      | none => .bad) (GV K F Q) := p
    cases hn : asInts xs with
    | none => rw [hn] at p; exact p.elim
    | some ns => rw [hn] at p; exact ⟨ns, ints_of rs hn, p.same S (.int _)⟩
  | all =>
    have p : Post K F b E f h H (match asBools xs with
      | some ns => R.ok (.bl (ns.all id)) h
      | none => .bad) (GV K F Q) := p
    cases hn : asBools xs with
    | none => rw [hn] at p; exact p.elim
    | some ns => rw [hn] at p; exact ⟨ns, bools_of rs hn, p.same S (.bl _)⟩
  | max =>
    have p : Post K F b E f h H (match (asInts xs).bind maxI with
      | some m => R.ok (.int m) h
      | none => .bad) (GV K F Q) := p
    cases hn : asInts xs with
    | none => rw [hn] at p; exact p.elim
    | some ns =>
      rw [hn] at p
      cases hm : maxI ns with
      | none =>
        have e : (some ns).bind maxI = none := hm
        rw [e] at p; exact p.elim
      | some m =>
        have e : (some ns).bind maxI = some m := hm
        rw [e] at p
        obtain ⟨h1, h2⟩ := maxI_spec hm
        refine ⟨ns, ints_of rs hn, max_pos h1, fun m' a c => ?_⟩
        have e2 : m' = m := by
          have z1 := h2 m' a
          have z2 := c m h1
          omega
        rw [e2]
        exact p.same S (.int _)
  | min =>
    have p : Post K F b E f h H (match (asInts xs).bind minI with
      | some m => R.ok (.int m) h
      | none => .bad) (GV K F Q) := p
    cases hn : asInts xs with
    | none => rw [hn] at p; exact p.elim
    | some ns =>
      rw [hn] at p
      cases hm : minI ns with
      | none =>
        have e : (some ns).bind minI = none := hm
        rw [e] at p; exact p.elim
      | some m =>
        have e : (some ns).bind minI = some m := hm
        rw [e] at p
        obtain ⟨h1, h2⟩ := minI_spec hm
        refine ⟨ns, ints_of rs hn, max_pos h1, fun m' a c => ?_⟩
        have e2 : m' = m := by
          have z1 := h2 m' a
          have z2 := c m h1
          omega
        rw [e2]
        exact p.same S (.int _)
end
/-! ### built-ins by name -/
def Bi.name : Bi → Str
  | .len => "len"
  | .int => "int"
  | .tuple => "tuple"
  | .sum => "sum"
  | .all => "all"
  | .max => "max"
  | .min => "min"
section
variable {X : Cx} {F : Adr} {b : Nat}
theorem boot_all_ : bootBuiltins "all" = some (.builtin "all") := by decide +kernel
theorem boot_len_ : bootBuiltins "len" = some (.builtin "len") := by decide +kernel
theorem boot_sum_ : bootBuiltins "sum" = some (.builtin "sum") := by decide +kernel
theorem boot_max_ : bootBuiltins "max" = some (.builtin "max") := by decide +kernel
theorem boot_min_ : bootBuiltins "min" = some (.builtin "min") := by decide +kernel
theorem boot_isi_ : bootBuiltins "isinstance" = some (.builtin "isinstance") := by decide +kernel
theorem boot_int_ : bootBuiltins "int" = some (.type "int") := by decide +kernel
theorem boot_tuple_ : bootBuiltins "tuple" = some (.type "tuple") := by decide +kernel
theorem boot_list_ : bootBuiltins "list" = some (.type "list") := by decide +kernel
theorem boot_bool_ : bootBuiltins "bool" = some (.type "bool") := by decide +kernel
theorem boot_str_ : bootBuiltins "str" = some (.type "str") := by decide +kernel
theorem se_bi {k : Bi} {e : Expr} {m : DE} {p pos : Pos} (hc : X.calm = true) (hg : Gl X k.name) (hm : X.mg k.name = none) (hs : notStar e = true) (h1 : SE X F b e m) : SE X F b (.Call (.Name k.name p) [e] [] pos) (d1 m (biV k)) := by
  refine se_byV rfl fun W env f h σ H Q A P => ?_
  have base : ∀ {R' : V → Hp → Prop}, (∀ v x f2 h2 H2, At X F b W env f2 h2 σ H2 → Rep X.K F f2 h2.length H2 v x → Post X.K F b (wX W σ) f2 h2 H2 (biV k v h2) (GV X.K F Q) → R' x H2) → wE X e σ H R' := fun fin =>
    d1_v A h1 P fun v x f2 h2 H2 A2 E2 rx q => fin v x f2 h2 H2 A2 rx q
  have lst : ∀ {v : Val} {x : V} {f2 : Nat → Addr} {h2 : Heap} {H2 : Hp} {k' : Bi}, At X F b W env f2 h2 σ H2 → Rep X.K F f2 h2.length H2 v x → Post X.K F b (wX W σ) f2 h2 H2 (match v with
      | .lst a => (match listAt h2 a with
        | some xs => biL k' xs h2
        | none => .bad)
      | _ => .bad) (GV X.K F Q) → ∃ a xs vs, x = .ref a ∧ SqL X.K H2 a vs ∧ Reps X.K F f2 h2.length H2 xs vs ∧ Post X.K F b (wX W σ) f2 h2 H2 (biL k' xs h2) (GV X.K F Q) := fun {v x f2 h2 H2 k'} A2 rx q => by
    cases v with
    | lst a =>
      obtain ⟨ea, hlt⟩ := rx.lst_inv
      have q : Post X.K F b (wX W σ) f2 h2 H2 (match listAt h2 a with
        | some xs => biL k' xs h2
        | none => .bad) (GV X.K F Q) := q
      cases hl : listAt h2 a with
      | none => rw [hl] at q; exact q.elim
      | some xs =>
        rw [hl] at q
        obtain ⟨vs, q1, q2⟩ := listAt_of A2.sim hl
        exact ⟨f2 a, xs, vs, ea, q1, q2, q⟩
    | _ => exact q.elim
  cases k with
  | len =>
    refine wE_B call_len_seq hg hm boot_len_ (by decide) (by decide) hs (base fun v x f2 h2 H2 A2 rx q => ?_)
    have q : Post X.K F b (wX W σ) f2 h2 H2 (match seqOf h2 v with
      | some xs => R.ok (.int xs.length) h2
      | none => .bad) (GV X.K F Q) := q
    cases hl : seqOf h2 v with
    | none => rw [hl] at q; exact q.elim
    | some xs =>
      rw [hl] at q
      obtain ⟨a, vs, rfl, hv, rs⟩ := rx.seq A2.sim hl
      have q : Post X.K F b (wX W σ) f2 h2 H2 (R.ok (.int xs.length) h2) (GV X.K F Q) := q
      rw [rs.length] at q
      exact ⟨a, vs, rfl, hv, q.same A2.sim (.int _)⟩
  | int =>
    refine wE_T call_int1 hg hm boot_int_ (by decide) (by decide) hs (base fun v x f2 h2 H2 A2 rx q => ?_)
    cases v with
    | int i => cases rx; exact .inl ⟨i, rfl, q.same A2.sim (.int _)⟩
    | bl c => cases rx; exact .inr ⟨c, rfl, q.same A2.sim (.int _)⟩
    | _ => exact q.elim
  | tuple =>
    refine wE_T call_tuple_of hg hm boot_tuple_ (by decide) (by decide) hs (base fun v x f2 h2 H2 A2 rx q => ?_)
    cases v with
    | tup xs =>
      obtain ⟨a, vs, rfl, hv, rs⟩ := rx.tup_inv
      exact ⟨a, vs, rfl, .inr ⟨hv, q.same A2.sim (.tup hv rs)⟩⟩
    | lst a =>
      have q' : Post X.K F b (wX W σ) f2 h2 H2 (match listAt h2 a with
        | some xs => R.ok (.tup xs) h2
        | none => .bad) (GV X.K F Q) := q
      obtain ⟨ea, hlt⟩ := rx.lst_inv
      cases hl : listAt h2 a with
      | none => rw [hl] at q'; exact q'.elim
      | some xs =>
        rw [hl] at q'
        obtain ⟨vs, q1, q2⟩ := listAt_of A2.sim hl
        subst ea
        exact ⟨_, vs, rfl, .inl ⟨q1, fun l hl => Post.newTup A2.sim q' q2 hl⟩⟩
    | _ => exact q.elim
  | sum =>
    refine wE_B (cr_sum hc) hg hm boot_sum_ (by decide) (by decide) hs (base fun v x f2 h2 H2 A2 rx q => ?_)
    obtain ⟨a, xs, vs, rfl, h1, h2', q⟩ := lst (k' := .sum) A2 rx (by
      cases v with
      | lst a =>
        have q' : Post X.K F b (wX W σ) f2 h2 H2 (match (listAt h2 a).bind asInts with
          | some ns => R.ok (.int ns.sum) h2
          | none => .bad) (GV X.K F Q) := q
        show Post X.K F b (wX W σ) f2 h2 H2 (match listAt h2 a with
          | some xs => biL .sum xs h2
          | none => .bad) (GV X.K F Q)
        cases hl : listAt h2 a with
        | none => rw [hl] at q'; exact q'
        | some xs => rw [hl] at q'; exact q'
      | _ => exact q)
    obtain ⟨ns, rfl, q⟩ := biL_ok A2.sim h2' h1 q
    exact ⟨a, ns, rfl, h1, q⟩
  | all =>
    refine wE_B (cr_all hc) hg hm boot_all_ (by decide) (by decide) hs (base fun v x f2 h2 H2 A2 rx q => ?_)
    obtain ⟨a, xs, vs, rfl, h1, h2', q⟩ := lst (k' := .all) A2 rx (by
      cases v with
      | lst a =>
        have q' : Post X.K F b (wX W σ) f2 h2 H2 (match (listAt h2 a).bind asBools with
          | some ns => R.ok (.bl (ns.all id)) h2
          | none => .bad) (GV X.K F Q) := q
        show Post X.K F b (wX W σ) f2 h2 H2 (match listAt h2 a with
          | some xs => biL .all xs h2
          | none => .bad) (GV X.K F Q)
        cases hl : listAt h2 a with
        | none => rw [hl] at q'; exact q'
        | some xs => rw [hl] at q'; exact q'
      | _ => exact q)
    obtain ⟨ns, rfl, q⟩ := biL_ok A2.sim h2' h1 q
    exact ⟨a, ns, rfl, h1, q⟩
  | max =>
    refine wE_B (cr_max hc) hg hm boot_max_ (by decide) (by decide) hs (base fun v x f2 h2 H2 A2 rx q => ?_)
    obtain ⟨a, xs, vs, rfl, h1, h2', q⟩ := lst (k' := .max) A2 rx (by
      cases v with
      | lst a =>
        have q' : Post X.K F b (wX W σ) f2 h2 H2 (match ((listAt h2 a).bind asInts).bind maxI with
          | some m => R.ok (.int m) h2
          | none => .bad) (GV X.K F Q) := q
        show Post X.K F b (wX W σ) f2 h2 H2 (match listAt h2 a with
          | some xs => biL .max xs h2
          | none => .bad) (GV X.K F Q)
        cases hl : listAt h2 a with
        | none => rw [hl] at q'; exact q'
        | some xs => rw [hl] at q'; exact q'
      | _ => exact q)
    obtain ⟨ns, rfl, h0, q⟩ := biL_ok A2.sim h2' h1 q
    exact ⟨a, ns, rfl, h1, h0, q⟩
  | min =>
    refine wE_B (cr_min hc) hg hm boot_min_ (by decide) (by decide) hs (base fun v x f2 h2 H2 A2 rx q => ?_)
    obtain ⟨a, xs, vs, rfl, h1, h2', q⟩ := lst (k' := .min) A2 rx (by
      cases v with
      | lst a =>
        have q' : Post X.K F b (wX W σ) f2 h2 H2 (match ((listAt h2 a).bind asInts).bind minI with
          | some m => R.ok (.int m) h2
          | none => .bad) (GV X.K F Q) := q
        show Post X.K F b (wX W σ) f2 h2 H2 (match listAt h2 a with
          | some xs => biL .min xs h2
          | none => .bad) (GV X.K F Q)
        cases hl : listAt h2 a with
        | none => rw [hl] at q'; exact q'
        | some xs => rw [hl] at q'; exact q'
      | _ => exact q)
    obtain ⟨ns, rfl, h0, q⟩ := biL_ok A2.sim h2' h1 q
    exact ⟨a, ns, rfl, h1, h0, q⟩
theorem se_biL {k : Bi} {e : Expr} {m : DL} {p pos : Pos} (hc : X.calm = true) (hg : Gl X k.name) (hm : X.mg k.name = none) (hs : notStar e = true) (h1 : SL X F b e m) : SE X F b (.Call (.Name k.name p) [e] [] pos) (byV fun env h => (m env h).bind (biL k)) := by
  refine se_byV rfl fun W env f h σ H Q A P => ?_
  have base : ∀ {R' : V → Hp → Prop}, (∀ D xs vs f2 h2 H2, At X F b W env f2 h2 σ H2 → SqL X.K H2 D vs → Reps X.K F f2 h2.length H2 xs vs → Post X.K F b (wX W σ) f2 h2 H2 (biL k xs h2) (GV X.K F Q) → R' (.ref D) H2) → wE X e σ H R' := fun fin =>
    h1.run W env f h σ H _ A ((Post.bind P).mono fun xs f1 h1 H1 S1 E1 q D vs hD hn h0 rs => fin D xs vs f1 h1 H1 (A.step S1 E1) (SqL.of hD) rs q)
  cases k with
  | len => exact wE_B call_len_seq hg hm boot_len_ (by decide) (by decide) hs (base fun D xs vs f2 h2 H2 A2 hD rs q => ⟨D, vs, rfl, .inl hD, biL_ok A2.sim rs hD q⟩)
  | int => exact wE_T call_int1 hg hm boot_int_ (by decide) (by decide) hs (base fun D xs vs f2 h2 H2 A2 hD rs q => (biL_ok A2.sim rs hD q).elim)
  | tuple => exact wE_T call_tuple_of hg hm boot_tuple_ (by decide) (by decide) hs (base fun D xs vs f2 h2 H2 A2 hD rs q => ⟨D, vs, rfl, .inl ⟨hD, biL_ok A2.sim rs hD q⟩⟩)
  | sum =>
    exact wE_B (cr_sum hc) hg hm boot_sum_ (by decide) (by decide) hs (base fun D xs vs f2 h2 H2 A2 hD rs q => by
      obtain ⟨ns, rfl, q⟩ := biL_ok A2.sim rs hD q
      exact ⟨D, ns, rfl, hD, q⟩)
  | all =>
    exact wE_B (cr_all hc) hg hm boot_all_ (by decide) (by decide) hs (base fun D xs vs f2 h2 H2 A2 hD rs q => by
      obtain ⟨ns, rfl, q⟩ := biL_ok A2.sim rs hD q
      exact ⟨D, ns, rfl, hD, q⟩)
  | max =>
    exact wE_B (cr_max hc) hg hm boot_max_ (by decide) (by decide) hs (base fun D xs vs f2 h2 H2 A2 hD rs q => by
      obtain ⟨ns, rfl, h0, q⟩ := biL_ok A2.sim rs hD q
      exact ⟨D, ns, rfl, hD, h0, q⟩)
  | min =>
    exact wE_B (cr_min hc) hg hm boot_min_ (by decide) (by decide) hs (base fun D xs vs f2 h2 H2 A2 hD rs q => by
      obtain ⟨ns, rfl, h0, q⟩ := biL_ok A2.sim rs hD q
      exact ⟨D, ns, rfl, hD, h0, q⟩)
/-- .. of two -/
theorem wE_B2 {id : String} {x : Str} {e e2 : Expr} {p pos : Pos} {r : List V → Hp → VK → Prop} (hc : CallR X (.builtin id) r) (hg : Gl X x) (hm : X.mg x = none) (hv : bootBuiltins x = some (.builtin id)) (hn : x ≠ "__name__") (hdb : (x == ("__debug__" : Str)) = false) (hs : notStar e = true) (hs2 : notStar e2 = true)
    {σ : L2.St} {H : Hp} {Q : VK} (h : wE X e σ H fun v H1 => wE X e2 σ H1 fun u H2 => r [v, u] H2 Q) : wE X (.Call (.Name x p) [e, e2] [] pos) σ H Q :=
  PE.w (pe_callB hc hg hm hv (pa_w (es := [e, e2])) hn hdb (star_no hs) (star_any (by rw [List.all_cons, hs2]; rfl))) (wA_cons hs (wE.mono h fun v H' q => wA_cons hs2 (wE.mono q fun u H2 q => fun pos pins s I => pa_nil.run pos pins s σ H2 _ I q)))
theorem se_max2 {e e2 : Expr} {m m2 : DE} {p pos : Pos} (hc : X.calm = true) (hg : Gl X "max") (hm : X.mg "max" = none) (hs : notStar e = true) (hs2 : notStar e2 = true) (h1 : SE X F b e m) (h2 : SE X F b e2 m2) : SE X F b (.Call (.Name "max" p) [e, e2] [] pos) (d2 m m2 maxV) := by
  refine se_byV rfl fun W env f h σ H Q A P => ?_
  refine wE_B2 (call_max2 hc) hg hm boot_max_ (by decide) (by decide) hs hs2 (d2_v A h1 h2 P fun v u x y f2 h2 H2 A2 E2 rx ry q => ?_)
  cases v with
  | int i => cases u with
    | int j => cases rx; cases ry; exact ⟨i, j, rfl, q.same A2.sim (.int _)⟩
    | _ => exact q.elim
  | _ => exact q.elim
theorem se_min2 {e e2 : Expr} {m m2 : DE} {p pos : Pos} (hc : X.calm = true) (hg : Gl X "min") (hm : X.mg "min" = none) (hs : notStar e = true) (hs2 : notStar e2 = true) (h1 : SE X F b e m) (h2 : SE X F b e2 m2) : SE X F b (.Call (.Name "min" p) [e, e2] [] pos) (d2 m m2 minV) := by
  refine se_byV rfl fun W env f h σ H Q A P => ?_
  refine wE_B2 (call_min2 hc) hg hm boot_min_ (by decide) (by decide) hs hs2 (d2_v A h1 h2 P fun v u x y f2 h2 H2 A2 E2 rx ry q => ?_)
  cases v with
  | int i => cases u with
    | int j => cases rx; cases ry; exact ⟨i, j, rfl, q.same A2.sim (.int _)⟩
    | _ => exact q.elim
  | _ => exact q.elim
end
end Y

set_option Elab.async false
set_option linter.all false
set_option maxRecDepth 100000
set_option maxHeartbeats 4000000
/-! Snd6: isinstance, calls of defs, stores. -/
namespace Y
open PySem PySem.Spec PyProof.Rows L2
/-! ### a list of ours is written -/
theorem below_mono {k k' : Nat} (hk : k ≤ k') : ∀ (v : Val), below k v = true → below k' v = true := by
  intro v
  refine Val.rec (motive_1 := fun v => below k v = true → below k' v = true) (motive_2 := fun xs => below.belowAll k xs = true → below.belowAll k' xs = true) ?_ ?_ ?_ ?_ ?_ ?_ ?_ ?_ ?_ v
  · intro h; exact h
  · intro _ h; exact h
  · intro _ h; exact h
  · intro _ h; exact h
  · intro xs ih h
    unfold below at h ⊢
    exact ih h
  · intro a h
    unfold below at h ⊢
    exact Nat.ble_eq_true_of_le (Nat.le_trans (Nat.le_of_ble_eq_true h) hk)
  · intro _ h; exact h
  · intro h; exact h
  · intro x xs ih1 ih2 h
    unfold below.belowAll at h ⊢
    obtain ⟨h1, h2⟩ := Bool.and_eq_true_iff.mp h
    rw [ih1 h1, ih2 h2]; rfl
theorem belowAll_app {k : Nat} : ∀ (xs ys : List Val), below.belowAll k xs = true → below.belowAll k ys = true → below.belowAll k (xs ++ ys) = true
  | [], _, _, h => h
  | x :: xs, ys, h, h2 => by
    unfold below.belowAll at h
    obtain ⟨a, c⟩ := Bool.and_eq_true_iff.mp h
    show (below k x && below.belowAll k (xs ++ ys)) = true
    rw [a, belowAll_app xs ys c h2]; rfl
theorem belowAll_set {k : Nat} {v : Val} (hv : below k v = true) : ∀ (xs : List Val) (j : Nat), below.belowAll k xs = true → below.belowAll k (xs.set j v) = true
  | [], _, h => h
  | x :: xs, 0, h => by
    unfold below.belowAll at h
    obtain ⟨a, c⟩ := Bool.and_eq_true_iff.mp h
    show (below k v && below.belowAll k xs) = true
    rw [hv, c]; rfl
  | x :: xs, j + 1, h => by
    unfold below.belowAll at h
    obtain ⟨a, c⟩ := Bool.and_eq_true_iff.mp h
    show (below k x && below.belowAll k (xs.set j v)) = true
    rw [a, belowAll_set hv xs j c]; rfl
section
variable {K : PySem.W.Frag} {F : Adr} {b : Nat} {f : Nat → Addr} {h : Heap} {H : Hp} {a : Nat} {xs ys : List Val} {vs ws : List V}
theorem Sim.write (S : Sim K F f H h) (ha : h[a]? = some (.lst xs)) (hr : Reps K F f h.length H ys ws) : Sim K F f (upd H (f a) (.lst ws)) (h.set a (.lst ys)) := by
  obtain ⟨vs0, hv0, _⟩ := S.at_ a _ ha
  have hlt : a < h.length := (List.getElem?_eq_some_iff.mp ha).1
  have hs : ∀ p us, SqT K H p us → SqT K (upd H (f a) (.lst ws)) p us := fun p us q => by
    rcases q with (q | ⟨u, q⟩) | q
    · exact .inl (.inl (by rw [upd_ne (ne_of q hv0 (by intro z; cases z))]; exact q))
    · exact .inl (.inr ⟨u, by rw [upd_ne (ne_of q hv0 (by intro z; cases z))]; exact q⟩)
    · exact .inr q
  have mono : ∀ {zs : List Val} {us : List V}, Reps K F f h.length H zs us → Reps K F f (h.set a (.lst ys)).length (upd H (f a) (.lst ws)) zs us := fun {zs us} q =>
    Reps.mono hs (by rw [List.length_set]; exact Nat.le_refl _) (fun _ _ => rfl) zs us q
  have back : ∀ {i : Nat} {us : List Val}, (h.set a (.lst ys))[i]? = some (.lst us) → ∃ us', h[i]? = some (.lst us') := fun {i us} e => by
    by_cases hi : a = i
    · subst hi; exact ⟨xs, ha⟩
    · rw [List.getElem?_set_ne hi] at e; exact ⟨us, e⟩
  refine ⟨fun i j us ws' hi hj e => ?_, fun i c e => ?_⟩
  · obtain ⟨u1, k1⟩ := back hi
    obtain ⟨u2, k2⟩ := back hj
    exact S.inj i j u1 u2 k1 k2 e
  · by_cases hi : a = i
    · subst hi
      rw [List.getElem?_set_self hlt] at e
      cases e
      exact ⟨ws, upd_same, mono hr⟩
    · rw [List.getElem?_set_ne hi] at e
      have q := S.at_ i c e
      cases c with
      | lst us =>
        obtain ⟨us', q1, q2⟩ := q
        exact ⟨us', by rw [upd_ne (fun z => hi (S.inj a i xs us ha e z.symm))]; exact q1, mono q2⟩
      | ro us =>
        obtain ⟨us', q1, q2⟩ := q
        refine ⟨us', ?_, mono q2⟩
        rcases q1 with ⟨o, q1⟩ | q1
        · exact .inl ⟨o, by rw [upd_ne (ne_of q1 hv0 (by intro z; cases z))]; exact q1⟩
        · exact .inr q1
theorem Ext.write (ha : h[a]? = some (.lst xs)) (hb : ∀ k, a < k → k ≤ b → below.belowAll k xs = true → below.belowAll k ys = true) : Ext b f h H f (h.set a (.lst ys)) (upd H (f a) (.lst ws)) := by
  have hlt : a < h.length := (List.getElem?_eq_some_iff.mp ha).1
  refine ⟨by rw [List.length_set]; exact Nat.le_refl _, fun _ _ => rfl, fun p o e hp => ?_, fun i h1 h2 => ?_, fun k hk q i c hi e => ?_, fun i c e => ?_⟩
  · rw [upd_ne (fun z => hp a xs ha z.symm)]; exact e
  · rw [List.length_set] at h2
    exact absurd (Nat.lt_of_lt_of_le h2 h1) (Nat.lt_irrefl _)
  · by_cases hia : a = i
    · subst hia
      rw [List.getElem?_set_self hlt] at e
      cases e
      exact hb k hi hk (q a _ hi ha)
    · rw [List.getElem?_set_ne hia] at e
      exact q i c hi e
  · by_cases hia : a = i
    · subst hia
      rw [ha] at e
      cases e
      exact ⟨ys, List.getElem?_set_self hlt⟩
    · cases c with
      | lst us => exact ⟨us, by rw [List.getElem?_set_ne hia]; exact e⟩
      | ro us => show (h.set a (.lst ys))[i]? = _; rw [List.getElem?_set_ne hia]; exact e
theorem may_app {v : Val} (hm : mayPut b a v = true) (k : Nat) (h1 : a < k) (h2 : k ≤ b) (h3 : below.belowAll k xs = true) : below.belowAll k (xs ++ [v]) = true := by
  unfold mayPut at hm
  rcases Bool.or_eq_true_iff.mp hm with z | z
  · exact absurd (Nat.le_of_ble_eq_true z) (by omega)
  · refine belowAll_app _ _ h3 ?_
    show (below k v && true) = true
    rw [below_mono (Nat.le_of_lt h1) v z]; rfl
theorem may_set {v : Val} {j : Nat} (hm : mayPut b a v = true) (k : Nat) (h1 : a < k) (h2 : k ≤ b) (h3 : below.belowAll k xs = true) : below.belowAll k (xs.set j v) = true := by
  unfold mayPut at hm
  rcases Bool.or_eq_true_iff.mp hm with z | z
  · exact absurd (Nat.le_of_ble_eq_true z) (by omega)
  · exact belowAll_set (below_mono (Nat.le_of_lt h1) v z) _ _ h3
end
section
variable {X : Cx} {F : Adr} {b : Nat}
/-- where an object's expression stands for itself -/
def notCall : Expr → Bool
  | .Call _ _ _ _ => false
  | _ => true
theorem base_of {e : Expr} {m : Str} {env : PySem.Env} {w : Sem Value} (h : notCall e = true) : attributeBase e m env w = w := by
  cases e <;> first | rfl | (simp [notCall] at h)
theorem se_app {e e2 : Expr} {m m2 : DE} {apos pos : Pos} (hl : (apos.endLine == pos.line) = true) (hs : notStar e2 = true) (hc : notCall e = true) (h1 : SE X F b e m) (h2 : SE X F b e2 m2) : SE X F b (.Call (.Attribute e "append" apos) [e2] [] pos) (dApp b m m2) := by
  refine se_byV rfl fun W env f h σ H Q A P => ?_
  have few : ((backTo pos (starEach (e2 :: []) X.env)).all (fun x => !x.1) && (backToKw pos (keywordEach [] X.env)).all (fun x => x.1.isSome)
      && decide ((e2 :: []).length + ([] : List Keyword).length + (if ([] : List Keyword).isEmpty then 0 else 1) < 30)) = true := by
    rw [star_no hs]; rfl
  refine PE.w (pe_bm PySem.F.plainAttrs_list PySem.F.slot_list_append PySem.F.type_list_append mt_append (pe_w (e := e)) (pa_w (es := [e2])) (base_of hc) few hl (star_no hs) rfl) ?_
  refine h1.v W env f h σ H _ A ((Post.bind P).mono fun v f1 h1 H1 S1 E1 q x rx => ?_)
  have A1 := A.step S1 E1
  obtain ⟨hv, q⟩ := Post.ite q
  cases v with
  | lst a =>
    have hv : (listAt h1 a).isSome = true := hv
    obtain ⟨xs0, hx0⟩ := Option.isSome_iff_exists.mp hv
    obtain ⟨ea, _⟩ := rx.lst_inv
    subst ea
    obtain ⟨vs0, hs0, _⟩ := listAt_of S1 hx0
    refine ⟨.inl ⟨rfl, _, hs0⟩, wA_cons hs ?_⟩
    refine h2.v W env f1 h1 σ H1 _ A1 ((Post.bind q).mono fun u f2 h2 H2 S2 E2 q2 y ry => fun pos pins s I => pa_nil.run pos pins s σ H2 _ I ?_)
    have A2 := A1.step S2 E2
    have q2 : Post X.K F b (wX W σ) f2 h2 H2 (match h2[a]? with
      | some (.lst xs) => if Nat.blt xs.length line && mayPut b a u then R.ok .non (h2.set a (.lst (xs ++ [u]))) else .bad
      | _ => .bad) (GV X.K F Q) := q2
    cases hc : h2[a]? with
    | none => rw [hc] at q2; exact q2.elim
    | some c =>
      rw [hc] at q2
      cases c with
      | ro xs => exact q2.elim
      | lst xs =>
        obtain ⟨hk, q2⟩ := Post.ite (c := Nat.blt xs.length line && mayPut b a u) q2
        obtain ⟨k1, k2⟩ := Bool.and_eq_true_iff.mp hk
        obtain ⟨vs, hv1, hv2⟩ := S2.at_ a _ hc
        have e1 : f1 a = f2 a := by
          obtain ⟨_, hlt⟩ := rx.lst_inv
          exact (E2.agr a hlt).symm
        rw [e1]
        have hw : Reps X.K F f2 h2.length H2 (xs ++ [u]) (vs ++ [y]) := hv2.app (.cons ry .nil)
        exact ⟨_, vs, y, rfl, rfl, hv1, by rw [← hv2.length, line_eq]; exact Nat.le_of_ble_eq_true k1, q2 _ _ (S2.write hc hw) (Ext.write hc (may_app k2)) _ .non⟩
  | _ => cases hv

/-! ### isinstance -/
def tyName : Val → String
  | .non => "NoneType"
  | .bl _ => "bool"
  | .int _ => "int"
  | .str _ => "str"
  | .tup _ => "tuple"
  | .lst _ => "list"
  | .fn _ => ""
theorem tyx_of {f : Nat → Addr} {h : Heap} {H : Hp} {v : Val} {x : V} {t : Ty} {k : Bool} (S : Sim X.K F f H h) (r : Rep X.K F f h.length H v x) (e : isTy h t v = some k) : TyX X.K H x (.type (tyName v)) := by
  cases r with
  | non => exact .base .non
  | bl c => exact .base (.bl c)
  | int i => exact .base (.int i)
  | str s => exact .base (.str s)
  | tup q _ =>
    rcases q with (q | ⟨o, q⟩) | ⟨o, its, n, q1, q2, _⟩
    · exact .base (.tup q)
    · exact .fTuple q
    · exact .kTuple q1 q2
  | @lst a p q ep =>
    subst ep
    have e : (match h[a]? with
      | some (.lst _) => some (tyL t)
      | _ => none) = some k := e
    cases hc : h[a]? with
    | none => rw [hc] at e; cases e
    | some c =>
      rw [hc] at e
      cases c with
      | ro _ => cases e
      | lst xs =>
        obtain ⟨vs, q1, _⟩ := S.at_ a _ hc
        exact .base (.lst q1)
  | fn i _ => cases e
theorem isTy_kit {h : Heap} {v : Val} {t : Ty} {k : Bool} (e : isTy h t v = some k) : match t with
    | .int => kitB (tyName v) "int" = some k
    | .bool => kitB (tyName v) "bool" = some k
    | .str => kitB (tyName v) "str" = some k
    | .tuple => kitB (tyName v) "tuple" = some k
    | .list => kitB (tyName v) "list" = some k
    | .seq => ∃ k1 k2, kitB (tyName v) "tuple" = some k1 ∧ kitB (tyName v) "list" = some k2 ∧ k = (k1 || k2) := by
  have lst : ∀ {a : Nat}, v = .lst a → some (tyL t) = some k := fun {a} ev => by
    subst ev
    have e : (match h[a]? with
      | some (.lst _) => some (tyL t)
      | _ => none) = some k := e
    cases hc : h[a]? with
    | none => rw [hc] at e; cases e
    | some c =>
      rw [hc] at e
      cases c with
      | ro _ => cases e
      | lst xs => exact e
  cases v with
  | fn i => cases e
  | lst a =>
    have e := lst rfl
    cases t <;> cases e <;> first | (show kitB "list" _ = _; decide +kernel) | exact ⟨false, true, by show kitB "list" _ = _; decide +kernel, by show kitB "list" _ = _; decide +kernel, rfl⟩
  | non => cases t <;> cases e <;> first | (show kitB "NoneType" _ = _; decide +kernel) | exact ⟨false, false, by show kitB "NoneType" _ = _; decide +kernel, by show kitB "NoneType" _ = _; decide +kernel, rfl⟩
  | bl c => cases t <;> cases e <;> first | (show kitB "bool" _ = _; decide +kernel) | exact ⟨false, false, by show kitB "bool" _ = _; decide +kernel, by show kitB "bool" _ = _; decide +kernel, rfl⟩
  | int c => cases t <;> cases e <;> first | (show kitB "int" _ = _; decide +kernel) | exact ⟨false, false, by show kitB "int" _ = _; decide +kernel, by show kitB "int" _ = _; decide +kernel, rfl⟩
  | str c => cases t <;> cases e <;> first | (show kitB "str" _ = _; decide +kernel) | exact ⟨false, false, by show kitB "str" _ = _; decide +kernel, by show kitB "str" _ = _; decide +kernel, rfl⟩
  | tup c => cases t <;> cases e <;> first | (show kitB "tuple" _ = _; decide +kernel) | exact ⟨true, false, by show kitB "tuple" _ = _; decide +kernel, by show kitB "tuple" _ = _; decide +kernel, rfl⟩
/-- the names of the types -/
def Ty.names : Ty → List Str
  | .int => ["int"]
  | .bool => ["bool"]
  | .str => ["str"]
  | .tuple => ["tuple"]
  | .list => ["list"]
  | .seq => ["tuple", "list"]
/-- does the expression name the type? -/
def tyIs (t : Ty) : Expr → Bool
  | .Name x _ => decide (t.names = [x])
  | .Tuple [.Name x _, .Name y _] _ _ => decide (t.names = [x, y])
  | _ => false
theorem pe_tyname {T : String} {x : Str} {p : Pos} (hg : Gl X x) (hm : X.mg x = none) (hv : bootBuiltins x = some (.type T)) (hn : x ≠ "__name__") (hd : (x == ("__debug__" : Str)) = false) : PE X (.Name x p) (tC (.ty T)) := pe_bltn hg hm hv rfl hn hd
theorem se_isi1 {t : Ty} {T : String} {x : Str} {e : Expr} {m : DE} {p p2 pos : Pos} (hg : Gl X "isinstance") (hm : X.mg "isinstance" = none) (hgT : Gl X x) (hmT : X.mg x = none) (hvT : bootBuiltins x = some (.type T)) (hnT : x ≠ "__name__") (hdT : (x == ("__debug__" : Str)) = false)
    (hk : ∀ h v k, isTy h t v = some k → kitB (tyName v) T = some k) (hs : notStar e = true) (h1 : SE X F b e m) : SE X F b (.Call (.Name "isinstance" p) [e, .Name x p2] [] pos) (d1 m (isiV t)) := by
  refine se_byV rfl fun W env f h σ H Q A P => ?_
  refine wE_B2 call_isi hg hm boot_isi_ (by decide) (by decide) hs rfl (d1_v A h1 P fun v y f2 h2 H2 A2 E2 ry q => PE.w (pe_tyname hgT hmT hvT hnT hdT) ?_)
  have q : Post X.K F b (wX W σ) f2 h2 H2 (match isTy h2 t v with
    | some k => R.ok (.bl k) h2
    | none => .bad) (GV X.K F Q) := q
  cases hi : isTy h2 t v with
  | none => rw [hi] at q; exact q.elim
  | some k =>
    rw [hi] at q
    exact ⟨y, .ty T, .type (tyName v), .type T, k, rfl, .ty T, tyx_of A2.sim ry hi, kit_ty (hk _ _ _ hi), q.same A2.sim (.bl _)⟩
theorem se_isi2 {e : Expr} {m : DE} {p p2 p3 p4 pos : Pos} {kk : Nat} (hg : Gl X "isinstance") (hm : X.mg "isinstance" = none) (hgT : Gl X "tuple") (hmT : X.mg "tuple" = none) (hgL : Gl X "list") (hmL : X.mg "list" = none)
    (hs : notStar e = true) (h1 : SE X F b e m) : SE X F b (.Call (.Name "isinstance" p) [e, .Tuple [.Name "tuple" p2, .Name "list" p3] kk p4] [] pos) (d1 m (isiV .seq)) := by
  refine se_byV rfl fun W env f h σ H Q A P => ?_
  refine wE_B2 call_isiT hg hm boot_isi_ (by decide) (by decide) hs rfl (d1_v A h1 P fun v y f2 h2 H2 A2 E2 ry q => ?_)
  refine PE.w (pe_tup (pa_cons (pe_tyname hgT hmT boot_tuple_ (by decide) (by decide)) (pa_cons (pe_tyname hgL hmL boot_list_ (by decide) (by decide)) pa_nil))) ?_
  refine ⟨by show 2 ≤ sizeLine; decide, fun tp htp => ?_⟩
  have q : Post X.K F b (wX W σ) f2 h2 H2 (match isTy h2 .seq v with
    | some k => R.ok (.bl k) h2
    | none => .bad) (GV X.K F Q) := q
  cases hi : isTy h2 .seq v with
  | none => rw [hi] at q; exact q.elim
  | some k =>
    rw [hi] at q
    obtain ⟨k1, k2, e1, e2, rfl⟩ := isTy_kit hi
    have S3 := A2.sim.fresh (o := .tup [.ty "tuple", .ty "list"]) htp
    have E3 : Ext b f2 h2 H2 f2 h2 (upd H2 tp (.tup [.ty "tuple", .ty "list"])) := Ext.fresh htp
    refine ⟨y, tp, [.ty "tuple", .ty "list"], .type (tyName v), [.type "tuple", .type "list"], k1 || k2, rfl, upd_same, .cons (.ty _) (.cons (.ty _) .nil), tyx_of S3 (E3.rep A2.sim ry) hi, ?_, q _ _ S3 E3 _ (.bl _)⟩
    refine kitAny_cons (kit_ty e1) (fun z => ?_) (fun z => by rw [z]; rfl)
    rw [z]
    refine kitAny_cons (kit_ty e2) (fun z => ?_) (fun z => by rw [z]; rfl)
    rw [z]
    exact kitAny_nil

/-! ### calls of defs -/
theorem Ext.weak {b b' : Nat} {f f' : Nat → Addr} {h h' : Heap} {H H' : Hp} (hb : b ≤ b') (E : Ext b' f h H f' h' H') : Ext b f h H f' h' H' :=
  ⟨E.le, E.agr, E.kp, E.frs, fun k hk q => E.bel k (Nat.le_trans hk hb) q, E.kind⟩
theorem Post.weak {α : Type} {K : PySem.W.Frag} {b b' : Nat} {E : XK} {f : Nat → Addr} {h : Heap} {H : Hp} {r : R α} {G : GG α} (hb : b ≤ b') (p : Post K F b E f h H r G) : Post K F b' E f h H r G := by
  cases r with
  | ok a h' => exact fun f' H' S' E' => p f' H' S' (E'.weak hb)
  | ex e h' => exact fun f' H' cls d S' E' => p f' H' cls d S' (E'.weak hb)
  | bad => exact p
/-- what the i-th def promises, for the tables t -/
def spT (K : PySem.W.Frag) (F : Adr) (t : T) (i np : Nat) : Sp := fun vs H Q E => vs.length = np ∧ ∃ (f : Nat → Addr) (h : Heap) (args : List Val), Sim K F f H h ∧ Reps K F f h.length H args vs ∧ Post K F h.length E f h H (t.call i args h) (GV K F Q)
theorem run_sp {t : T} {i np : Nat} {W : WX} {env : Env} {f : Nat → Addr} {h : Heap} {σ : L2.St} {H : Hp} {Q : VK} {args : List Val} {vs : List V} (A : At X F b W env f h σ H) (r : Reps X.K F f h.length H args vs) (hn : ∀ args h, t.call i args h ≠ .bad → args.length = np)
    (p : Post X.K F b (wX W σ) f h H (t.call i args h) (GV X.K F Q)) : spT X.K F t i np vs H Q (WE W σ) := by
  refine ⟨?_, f, h, args, A.sim, r, p.weak A.le⟩
  rw [← r.length]
  refine hn args h fun e => ?_
  rw [e] at p
  exact p.elim
theorem se_call {t : T} {i np : Nat} {k : Nat} {x : Str} {fd : FuncData} {ps : List Str} {e : Expr} {es : List Expr} {ms : DL} {p pos : Pos} (G : FnOk X.prog X.w X.K X.mg X.base (L2.CX X.prog X.w) k (F.fn i) fd ps (spT X.K F t i np)) (hr : Room k X.A) (hg : Gl X x) (hm : X.mg x = some (.ref (F.fn i)))
    (hk : PySem.W.keepIn X.K (.ref (F.fn i)) = true) (hb : Binds X.K fd ps []) (hn : ∀ args h, t.call i args h ≠ .bad → args.length = np) (hd : (x == ("__debug__" : Str)) = false) (hs : (e :: es).all notStar = true) (h1 : SX X F b (e :: es) ms) :
    SE X F b (.Call (.Name x p) (e :: es) [] pos) (byV fun env h => (ms env h).bind fun xs h1 => t.call i xs h1) := by
  refine se_byV rfl fun W env f h σ H Q A P => ?_
  obtain ⟨s1, s2⟩ := all_cons hs
  refine PE.w (pe_callS (E := WE W) G hr hg hm hk hb (fun σ => passAt A.tk σ) (pa_w (es := e :: es)) hd (star_no s1) (star_any s2)) ?_
  exact h1.run W env f h σ H _ A ((Post.bind P).mono fun xs f1 h1 H1 S1 E1 q vs rs => run_sp (A.step S1 E1) rs hn q)
theorem se_call0 {t : T} {i np : Nat} {k : Nat} {x : Str} {fd : FuncData} {ps : List Str} {p pos : Pos} (G : FnOk X.prog X.w X.K X.mg X.base (L2.CX X.prog X.w) k (F.fn i) fd ps (spT X.K F t i np)) (hr : Room k X.A) (hg : Gl X x) (hm : X.mg x = some (.ref (F.fn i)))
    (hk : PySem.W.keepIn X.K (.ref (F.fn i)) = true) (hb : Binds X.K fd ps []) (hn : ∀ args h, t.call i args h ≠ .bad → args.length = np) (hd : (x == ("__debug__" : Str)) = false) :
    SE X F b (.Call (.Name x p) [] [] pos) (byV fun env h => t.call i [] h) := by
  refine se_byV rfl fun W env f h σ H Q A P => ?_
  refine fun pins s I => ?_
  refine wpAny_Call_Name_kw (ld_glob I hg hm ?_ hd)
  refine PySem.W.callWith_K0 I.kIn hk ?_
  exact run_fnS (us := []) (E := WE W) G hr hb (passAt A.tk σ) I .nil (run_sp A .nil hn P)
end
end Y

set_option Elab.async false
set_option linter.all false
set_option maxRecDepth 100000
set_option maxHeartbeats 4000000
/-! Iters: enumerate, zip over lists and tuples in any mix. -/
namespace Y
open PySem PySem.Spec PyProof.Rows L2
open Sem (wp)
/-! ### enumerate(v) of anything that begins -/
set_option maxHeartbeats 4000000 in
theorem meets_enum1 {v : Value} {o : Obj} {H : PySem.Heap → Prop} (B : Begins v o H) :
    Meets (Builtin.«enumerate.__new__» ⟨[.type "enumerate", v], []⟩) (fun _ R s => H s.heap ∧
      R (.ok (.ret (.ref (s.heap.push o).objs.size))) { s with heap := (s.heap.push o).push { cls := .type "enumerate", data := .fields #[.none, .bool false, .ref s.heap.objs.size, rawInt 0, .none, .none] } }) :=
  .of_wp fun prog w A R s h => by
    obtain ⟨hp, g, d, tk, os⟩ := s; obtain ⟨h1, h⟩ := h
    have hsub := sub_enumerate
    have q1 : ∀ {A' : Around} {E : Value → Shared → Prop} {Q : Value → Shared → Prop}, Q (.ref hp.objs.size) ⟨hp.push o, g, d, tk, os⟩ → wpAny (model prog w) A' (pyIter v) Q E ⟨hp, g, d, tk, os⟩ :=
      fun q => B.iter prog w _ _ ⟨hp, g, d, tk, os⟩ _ h1 q
    wp_walk using q1
    refine wpAny_stack_any fun st => wpAny_pure ?_
    split
    · rename_i c _ _ _ _ _
      cases (c == Value.type "enumerate")
      · wp_walk using q1
        exact ⟨_, rfl, h⟩
      · wp_walk using q1
        exact ⟨_, rfl, h⟩
    · wp_walk using q1
      exact ⟨_, rfl, h⟩
theorem enum_begins1 {prog : Program} {w : World} {A : Around} {E : Value → Shared → Prop} {s : Shared} {v : Value} {o : Obj} {H : PySem.Heap → Prop} {Q : Value → Shared → Prop} (B : Begins v o H) (h1 : H s.heap)
    (h : ∀ h', IsEnum h' (s.heap.objs.size + 1) s.heap.objs.size 0 .none → h'.get? s.heap.objs.size = some o → h'.objs.size = s.heap.objs.size + 2 →
      (∀ b o, s.heap.get? b = some o → h'.get? b = some o) → Q (.ref (s.heap.objs.size + 1)) { s with heap := h' }) :
    wpAny (model prog w) A (call (.type "enumerate") [v]) Q E s := by
  refine callType_new F.called_enumerate (by decide) (F.typeCall_enumerate_1 _) (F.newCall_enumerate_1 _) (fun obj => F.args_object_init_2 obj _) F.entry_enumerate_new
    (meets_enum1 B) ⟨h1, ?_⟩
  have hz : (s.heap.push o).objs.size = s.heap.objs.size + 1 := Heap.size_push ..
  show _ ∧ _
  rw [hz]
  have he : IsEnum ((s.heap.push o).push { cls := .type "enumerate", data := .fields #[.none, .bool false, .ref s.heap.objs.size, rawInt 0, .none, .none] }) (s.heap.objs.size + 1) s.heap.objs.size 0 .none := by
    have := Heap.get?_push_size (s.heap.push o) (o := { cls := .type "enumerate", data := .fields #[.none, .bool false, .ref s.heap.objs.size, rawInt 0, .none, .none] }) rfl
    rw [hz] at this; exact this
  refine ⟨⟨_, he, rfl⟩, h _ he (Heap.get?_push_of_some _ (Heap.get?_push_size _ B.free)) (by rw [Heap.size_push, hz]) fun b o x => Heap.get?_push_of_some _ (Heap.get?_push_of_some _ x)⟩

/-! ### a list (false) or a tuple (true) -/
def SqK (kd : Bool) (K : PySem.W.Frag) (H : Hp) (a : Addr) (xs : List V) : Prop := if kd then SqT K H a xs else SqL K H a xs
def ItK (kd : Bool) (h : PySem.Heap) (it a : Addr) (i : Nat) : Prop := if kd then h.IsTupleIter it a i else h.IsListIter it a i
def IsK (kd : Bool) (h : PySem.Heap) (a : Addr) (its : Array Value) : Prop := if kd then h.IsTuple a its else h.IsList a its
def itO (kd : Bool) (a : Addr) : Obj := { cls := .type (if kd then "tuple_iterator" else "list_iterator"), data := .fields #[.ref a, .int 0 0] }
theorem Inv.sqk {X : Cx} {pins : List (Addr × Obj)} {σ : L2.St} {H : Hp} {s : Shared} {kd : Bool} {a : Addr} {xs : List V} (I : Inv X pins σ H s) (h : SqK kd X.K H a xs) : ∃ its : List Value, Vals xs its ∧ IsK kd s.heap a its.toArray ∧ a < s.heap.objs.size := by
  cases kd with
  | true =>
    obtain ⟨its, rv, p, _⟩ := I.tuple h
    exact ⟨its, rv, p, p.lt⟩
  | false =>
    obtain ⟨its, rv, p, _⟩ := I.list h
    exact ⟨its, rv, p.isList, p.lt⟩
theorem Inv.sqk_inj {X : Cx} {pins : List (Addr × Obj)} {σ : L2.St} {H : Hp} {s : Shared} {kd : Bool} {a : Addr} {xs ys : List V} (I : Inv X pins σ H s) (h : SqK kd X.K H a xs) (h' : SqK kd X.K H a ys) : xs = ys := by
  cases kd with
  | true => exact I.tuple_inj h h'
  | false => exact I.list_inj h h'
theorem drawsK {prog : Program} {w : World} {A : Around} (kd : Bool) (hh : A.handled = none) (it a : Addr) (hne : a ≠ it) (items : Array Value) :
    Draws prog w A it [it, a] items.size (fun i v => items[i]? = some v) (fun i h => ItK kd h it a i ∧ IsK kd h a items) := by
  cases kd with
  | true => exact Draws.tuple hh it a hne items
  | false => exact Draws.list hh it a hne items
theorem beginsK (kd : Bool) (a : Addr) (items : Array Value) : Begins (.ref a) (itO kd a) fun h => IsK kd h a items := by
  cases kd with
  | true => exact begins_tuple a items
  | false => exact begins_list a items
theorem itK_new {kd : Bool} {h : PySem.Heap} {it a : Addr} (e : h.get? it = some (itO kd a)) : ItK kd h it a 0 := by
  cases kd with
  | true => exact ⟨_, e, rfl, rfl⟩
  | false => exact ⟨_, e, rfl, rfl⟩
theorem ItK.obj {kd : Bool} {h : PySem.Heap} {it a : Addr} {i : Nat} (x : ItK kd h it a i) : ∃ o, h.get? it = some o ∧ ∀ v, o.data ≠ .cell v := by
  cases kd with
  | true =>
    obtain ⟨o, e, _, d⟩ := x
    exact ⟨o, e, fun v z => by rw [d] at z; cases z⟩
  | false =>
    obtain ⟨o, e, _, d⟩ := x
    exact ⟨o, e, fun v z => by rw [d] at z; cases z⟩
theorem ItK.at_ {kd : Bool} {h h' : PySem.Heap} {it a : Addr} {i : Nat} (x : ItK kd h it a i) (k : ∀ o, h.get? it = some o → h'.get? it = some o) : ItK kd h' it a i := by
  cases kd with
  | true =>
    obtain ⟨o, e, c, d⟩ := x
    exact ⟨o, k o e, c, d⟩
  | false =>
    obtain ⟨o, e, c, d⟩ := x
    exact ⟨o, k o e, c, d⟩
theorem IsK.ne {kd : Bool} {h : PySem.Heap} {it a : Addr} {i : Nat} {its : Array Value} (x : ItK kd h it a i) (p : IsK kd h a its) : a ≠ it := fun e => by
  subst e
  cases kd with
  | true =>
    obtain ⟨o, e, c, d⟩ := x
    obtain ⟨o', e', c', _⟩ := p
    rw [e] at e'; cases e'
    rw [c] at c'; injection c' with z; exact absurd z (by decide)
  | false =>
    obtain ⟨o, e, c, d⟩ := x
    obtain ⟨o', e', c', _⟩ := p
    rw [e] at e'; cases e'
    rw [c] at c'; injection c' with z; exact absurd z (by decide)

/-! ### enumerate -/
def IteK (kd : Bool) (K : PySem.W.Frag) (a : Addr) : L2.It :=
  ⟨fun i H => ∃ (xs : List V) (x : V), SqK kd K H a xs ∧ xs[i]? = some x, fun i H v H' => ∃ T x, v = .ref T ∧ H T = none ∧ H' = upd H T (.tup [.int (i : Nat), x]) ∧ ∀ xs, SqK kd K H a xs → xs[i]? = some x, fun i H => ∃ xs : List V, SqK kd K H a xs ∧ xs.length = i⟩
theorem turn_enumK {P : Program} {w : World} {K : PySem.W.Frag} {elts : List Expr} {kk : Nat} {tpos : Pos} (kd : Bool) (a e it : Addr) :
    Turn P w K (.Tuple elts kk tpos) (IteK kd K a) [e, it] e (fun i h => (∃ old, IsEnum h e it ((i : Nat) : Int) old) ∧ ItK kd h it a i ∧ e ≠ it ∧ e ≠ a) where
  mem := by simp
  obj := fun i h st b hb => by
    obtain ⟨⟨old, he⟩, hi, _⟩ := st
    have e' : b = e ∨ b = it := by simpa using hb
    rcases e' with z | z
    · rw [z]; exact ⟨_, he, fun v q => nomatch q⟩
    · rw [z]; exact hi.obj
  keep := fun i h h' st k => let ⟨⟨old, he⟩, hi, hne⟩ := st; ⟨⟨old, k e (by simp) _ he⟩, hi.at_ fun o q => k it (by simp) o q, hne⟩
  item := by
    intro X hP hw hK hc i pins s σ H E I hf st hg
    subst hP hw hK
    obtain ⟨⟨old, he⟩, hit, hne, hea⟩ := st
    obtain ⟨xs, x, hq, hx⟩ := hg
    obtain ⟨its, rv, p, hal⟩ := Inv.sqk I hq
    obtain ⟨u, hu, ru⟩ := rv.get hx
    have hel : e < s.heap.objs.size := Heap.lt_size he
    have hlt : i < its.toArray.size := by
      rw [List.size_toArray]
      exact (List.getElem?_eq_some_iff.mp hu).1
    have D := drawsK (prog := X.prog) (w := X.w) (A := X.A.in1) kd (I.ok.hd hc) it a (IsK.ne hit p) its.toArray
    refine wpAny_pyNext_enum_itemC D he ⟨hit, p⟩ hlt hne (by simp only [List.mem_cons, List.not_mem_nil, or_false, not_or]; exact ⟨hne, hea⟩) fun x' h' tk hx' ho st' hT hsz hk => ?_
    have eu : x' = u := by
      have z : its.toArray[i]? = some u := by simpa using hu
      rw [z] at hx'; exact (Option.some.inj hx').symm
    subst eu
    refine ⟨_, rfl, wpAny_letOwnedTupleGo_enum (s := { s with heap := h', toks := tk + 1 }) ho fun h'' he' sb => ?_⟩
    have hT2 : h''.get? s.heap.objs.size = some { cls := .type "tuple", data := .seq #[.int i tk, x'] } := (sb.2 _ (Nat.ne_of_gt hel)).trans hT
    have new : ObjOk X.prog X.w (upd H s.heap.objs.size (.tup [.int (i : Nat), x])) h'' s.heap.objs.size (.tup [.int (i : Nat), x]) :=
      ⟨by show 2 ≤ sizeLine; decide, [.int i tk, x'], .cons ⟨_, rfl⟩ (.cons ru .nil), ⟨_, hT2, rfl, _, rfl⟩⟩
    have I1 : Inv X pins σ (upd H s.heap.objs.size (.tup [.int (i : Nat), x])) { s with heap := h'', toks := tk + 1 } :=
      I.turnedNew (ch := [e, it]) (fun b ob hb q => (sb.2 b (fun z => hb (by simp [z]))).trans (hk b ob (fun z => hb (by simp [z])) (fun z => hb (by simp [z])) q)) hf (Nat.le_refl _) new
    refine ⟨.ref s.heap.objs.size, _, I1, rfl, ⟨_, x, rfl, I.hok.fresh (Nat.le_refl _), rfl, fun ys hy => by rw [Inv.sqk_inj I hy hq]; exact hx⟩, ⟨⟨x', ?_⟩, st'.1.at_ fun o q => (sb.2 it (Ne.symm hne)).trans q, hne, hea⟩, fun b hb => ?_⟩
    · have e1 : ((i + 1 : Nat) : Int) = (i : Int) + 1 := by omega
      rw [e1]; exact he'
    · have hb' : b < s.heap.objs.size := by
        have e' : b = e ∨ b = it := by simpa using hb
        rcases e' with z | z
        · rw [z]; exact hel
        · rw [z]
          obtain ⟨o, q, _⟩ := hit.obj
          exact Heap.lt_size q
      rw [upd_ne (Nat.ne_of_lt hb')]
      exact (hf b hb).1
  done := by
    intro X hP hw hK hc i pins s σ H E I hf st hg
    subst hP hw hK
    obtain ⟨⟨old, he⟩, hit, hne, hea⟩ := st
    obtain ⟨xs, hq, hx⟩ := hg
    obtain ⟨its, rv, p, hal⟩ := Inv.sqk I hq
    obtain ⟨f0, f1, f2, f3, f4, f5⟩ := hf it (by simp)
    have hl : i = its.toArray.size := by rw [List.size_toArray, ← rv.length]; exact hx.symm
    have D := drawsK (prog := X.prog) (w := X.w) (A := X.A.in1) kd (I.ok.hd hc) it a (IsK.ne hit p) its.toArray
    rw [hl] at hit
    exact wpAny_pyNext_enum_endD D he ⟨hit, p⟩ fun h' eb => ⟨rfl, I.turned (t' := s.toks) (fun b o hb q => eb b o hb q) f0 f1 f3 f4 f5⟩
  self := fun A i s Q E st h => let ⟨⟨_, he⟩, _⟩ := st; wpAny_pyIter_enum he h
def iEnumK (K : PySem.W.Frag) (ta : TA) : TI := fun σ H R => ta σ H fun vs H1 => ∃ kd a xs, vs = [.ref a] ∧ SqK kd K H1 a xs ∧ R (IteK kd K a) H1
theorem pi_enumK {X : Cx} {e : Expr} {ta : TA} {p pos tpos : Pos} {elts : List Expr} {kk : Nat} (hg : Gl X "enumerate") (hm : X.mg "enumerate" = none) (ha : PA X [e] ta) (hs : starEach [e] X.env = [(false, eval e X.env)]) :
    PI X (.Tuple elts kk tpos) (.Call (.Name "enumerate" p) [e] [] pos) (iEnumK X.K ta) := by
  refine ⟨fun pins s σ H R I h => ?_⟩
  refine Call_ (ld_blt I hg hm boot_enumerate (PyProof.Rows.callWith_type1 (thn (ha.run pos pins s σ H _ I h) fun us s1 ⟨vs, H1, I1, r1, q1⟩ => ?_) hs rfl))
  obtain ⟨kd, a, xs, ex, hq, q⟩ := q1
  subst ex
  cases r1 with
  | cons r rr =>
    cases rr
    cases r
    obtain ⟨its, rv, p', hal⟩ := Inv.sqk I1 hq
    refine enum_begins1 (beginsK kd a its.toArray) p' fun h' he hit hsz hk => wpAny_pyIter_enum he ?_
    have I2 : Inv X pins σ H1 { s1 with heap := h' } := I1.kept (t' := s1.toks) hk
    refine ⟨s1.heap.objs.size + 1, [s1.heap.objs.size + 1, s1.heap.objs.size], _, _, H1, rfl, I2, turn_enumK kd a (s1.heap.objs.size + 1) s1.heap.objs.size, ⟨⟨.none, he⟩, itK_new hit, Nat.succ_ne_self _, Nat.ne_of_gt (Nat.lt_succ_of_lt hal)⟩, fun b hb => ?_, q⟩
    have e' : b = s1.heap.objs.size + 1 ∨ b = s1.heap.objs.size := by simpa using hb
    have hle : s1.heap.objs.size ≤ b := by
      rcases e' with z | z
      · rw [z]; exact Nat.le_add_right _ _
      · rw [z]; exact Nat.le_refl _
    exact I1.fpOk hle (I1.hok.fresh hle)

/-! ### zip of two -/
def ItzK (k1 k2 : Bool) (K : PySem.W.Frag) (a b : Addr) : L2.It :=
  ⟨fun i H => ∃ (xs ys : List V) (x y : V), SqK k1 K H a xs ∧ SqK k2 K H b ys ∧ xs[i]? = some x ∧ ys[i]? = some y,
    fun i H v H' => ∃ T x y, v = .ref T ∧ H T = none ∧ H' = upd H T (.tup [x, y]) ∧ (∀ xs, SqK k1 K H a xs → xs[i]? = some x) ∧ ∀ ys, SqK k2 K H b ys → ys[i]? = some y,
    fun i H => ∃ xs ys : List V, SqK k1 K H a xs ∧ SqK k2 K H b ys ∧ i ≤ xs.length ∧ i ≤ ys.length ∧ (xs.length = i ∨ ys.length = i)⟩
/-- the five objects of a zip lie apart, and from what is walked -/
structure Apart (z TI TO i1 i2 a b : Addr) : Prop where
  s : ZipSep2 z TI TO i1 i2 [i1, a] [i2, b]
theorem turn_zipK {P : Program} {w : World} {K : PySem.W.Frag} {elts : List Expr} {kk : Nat} {tpos : Pos} (k1 k2 : Bool) {a b z TI TO i1 i2 : Addr} (D : ZipSep2 z TI TO i1 i2 [i1, a] [i2, b]) :
    Turn P w K (.Tuple elts kk tpos) (ItzK k1 k2 K a b) [z, TI, TO, i1, i2] z (fun i h => IsZip h z TI TO .none ∧ IsTupOf2 h TI (.ref i1) (.ref i2) ∧ (∃ x y, IsTupOf2 h TO x y) ∧ ItK k1 h i1 a i ∧ ItK k2 h i2 b i) where
  mem := by simp
  obj := fun i h st c hc => by
    obtain ⟨hz, hTI, ⟨x, y, hTO⟩, h1, h2⟩ := st
    have e' : c = z ∨ c = TI ∨ c = TO ∨ c = i1 ∨ c = i2 := by simpa using hc
    rcases e' with q | q | q | q | q
    · rw [q]; exact ⟨_, hz, fun v q => nomatch q⟩
    · rw [q]; exact ⟨_, hTI, fun v q => nomatch q⟩
    · rw [q]; exact ⟨_, hTO, fun v q => nomatch q⟩
    · rw [q]; exact h1.obj
    · rw [q]; exact h2.obj
  keep := fun i h h' st k => by
    obtain ⟨hz, hTI, ⟨x, y, hTO⟩, h1, h2⟩ := st
    exact ⟨k z (by simp) _ hz, k TI (by simp) _ hTI, ⟨x, y, k TO (by simp) _ hTO⟩, h1.at_ fun o q => k i1 (by simp) o q, h2.at_ fun o q => k i2 (by simp) o q⟩
  item := by
    intro X hP hw hK hc i pins s σ H E I hf st hg
    subst hP hw hK
    obtain ⟨hz, hTI, ⟨x0, y0, hTO⟩, h1, h2⟩ := st
    obtain ⟨xs, ys, x, y, hqx, hqy, hx, hy⟩ := hg
    obtain ⟨its, rv, p, _⟩ := Inv.sqk I hqx
    obtain ⟨its2, rv2, p2, _⟩ := Inv.sqk I hqy
    obtain ⟨u, hu, ru⟩ := rv.get hx
    obtain ⟨u2, hu2, ru2⟩ := rv2.get hy
    have hzl : z < s.heap.objs.size := Heap.lt_size hz
    have l1 : i < its.toArray.size := by
      rw [List.size_toArray]
      exact (List.getElem?_eq_some_iff.mp hu).1
    have l2 : i < its2.toArray.size := by
      rw [List.size_toArray]
      exact (List.getElem?_eq_some_iff.mp hu2).1
    have D1 := drawsK (prog := X.prog) (w := X.w) (A := X.A.in1) k1 (I.ok.hd hc) i1 a (IsK.ne h1 p) its.toArray
    have D2 := drawsK (prog := X.prog) (w := X.w) (A := X.A.in1) k2 (I.ok.hd hc) i2 b (IsK.ne h2 p2) its2.toArray
    refine wpAny_pyNext_zipD2_item D D1 D2 hz hTI hTO ⟨h1, p⟩ ⟨h2, p2⟩ l1 l2 fun x1 x2 h' tk e1 e2 z' TO' h1' h2' hT hsz hk => ?_
    have eu : x1 = u := by
      have q : its.toArray[i]? = some u := by simpa using hu
      rw [q] at e1; exact (Option.some.inj e1).symm
    have eu2 : x2 = u2 := by
      have q : its2.toArray[i]? = some u2 := by simpa using hu2
      rw [q] at e2; exact (Option.some.inj e2).symm
    subst eu eu2
    refine ⟨_, rfl, wpAny_letOwnedTupleGo_zip (s := { s with heap := h', toks := tk }) z' fun h'' z'' sb => ?_⟩
    have hT2 : h''.get? s.heap.objs.size = some { cls := .type "tuple", data := .seq #[x1, x2] } := (sb.2 _ (Nat.ne_of_gt hzl)).trans hT
    have new : ObjOk X.prog X.w (upd H s.heap.objs.size (.tup [x, y])) h'' s.heap.objs.size (.tup [x, y]) :=
      ⟨by show 2 ≤ sizeLine; decide, [x1, x2], .cons ru (.cons ru2 .nil), ⟨_, hT2, rfl, _, rfl⟩⟩
    have I1 : Inv X pins σ (upd H s.heap.objs.size (.tup [x, y])) { s with heap := h'', toks := tk } :=
      I.turnedNew (ch := [z, TI, TO, i1, i2]) (fun c o hb q => (sb.2 c (fun q' => hb (by simp [q']))).trans (hk c o (fun q' => hb (by simp [q'])) (fun q' => hb (by simp [q'])) (fun q' => hb (by simp [q'])) (fun q' => hb (by simp [q'])) q)) hf (Nat.le_refl _) new
    refine ⟨.ref s.heap.objs.size, _, I1, rfl, ⟨_, x, y, rfl, I.hok.fresh (Nat.le_refl _), rfl, fun l hl => by rw [Inv.sqk_inj I hl hqx]; exact hx, fun l hl => by rw [Inv.sqk_inj I hl hqy]; exact hy⟩, ⟨z'', ?_, ⟨x1, x2, ?_⟩, ?_, ?_⟩, fun c hcm => ?_⟩
    · exact (sb.2 _ D.TIz).trans (hk _ _ D.TIz D.TITO D.TIi1 D.TIi2 hTI)
    · exact (sb.2 _ D.TOz).trans TO'
    · exact h1'.1.at_ fun o q => (sb.2 _ (Ne.symm D.zi1)).trans q
    · exact h2'.1.at_ fun o q => (sb.2 _ (Ne.symm D.zi2)).trans q
    · have hlt : c < s.heap.objs.size := by
        have e' : c = z ∨ c = TI ∨ c = TO ∨ c = i1 ∨ c = i2 := by simpa using hcm
        rcases e' with q | q | q | q | q
        · rw [q]; exact hzl
        · rw [q]; exact Heap.lt_size hTI
        · rw [q]; exact Heap.lt_size hTO
        · rw [q]; obtain ⟨_, e1, _⟩ := h1.obj; exact Heap.lt_size e1
        · rw [q]; obtain ⟨_, e2, _⟩ := h2.obj; exact Heap.lt_size e2
      rw [upd_ne (Nat.ne_of_lt hlt)]
      exact (hf c hcm).1
  done := by
    intro X hP hw hK hc i pins s σ H E I hf st hg
    subst hP hw hK
    obtain ⟨hz, hTI, ⟨x0, y0, hTO⟩, h1, h2⟩ := st
    obtain ⟨xs, ys, hqx, hqy, g1, g2, hend⟩ := hg
    obtain ⟨its, rv, p, _⟩ := Inv.sqk I hqx
    obtain ⟨its2, rv2, p2, _⟩ := Inv.sqk I hqy
    have l1 : xs.length = its.toArray.size := by rw [List.size_toArray]; exact rv.length
    have l2 : ys.length = its2.toArray.size := by rw [List.size_toArray]; exact rv2.length
    have D1 := drawsK (prog := X.prog) (w := X.w) (A := X.A.in1) k1 (I.ok.hd hc) i1 a (IsK.ne h1 p) its.toArray
    have D2 := drawsK (prog := X.prog) (w := X.w) (A := X.A.in1) k2 (I.ok.hd hc) i2 b (IsK.ne h2 p2) its2.toArray
    exact wpAny_pyNext_zipD2_end D D1 D2 hz hTI hTO ⟨h1, p⟩ ⟨h2, p2⟩ (by omega) (by omega) (by omega) fun h' tk hk => ⟨rfl, I.turnedL (ch := [z, TI, TO, i1, i2]) (fun c o hb q =>
      hk c o (fun q' => hb (by simp [q'])) (fun q' => hb (by simp [q'])) (fun q' => hb (by simp [q'])) (fun q' => hb (by simp [q'])) q) hf⟩
  self := fun A i s Q E st h => wpAny_pyIter_zip st.1 h
def iZipK (K : PySem.W.Frag) (ta : TA) : TI := fun σ H R => ta σ H fun vs H1 => ∃ k1 k2 a b xs ys, vs = [.ref a, .ref b] ∧ SqK k1 K H1 a xs ∧ SqK k2 K H1 b ys ∧ R (ItzK k1 k2 K a b) H1
theorem pi_zipK {X : Cx} {e e2 : Expr} {ta : TA} {p pos tpos : Pos} {elts : List Expr} {kk : Nat} (hg : Gl X "zip") (hm : X.mg "zip" = none) (ha : PA X [e, e2] ta)
    (hs : starEach [e, e2] X.env = (false, eval e X.env) :: starEach [e2] X.env) (hpl : (backTo pos (starEach [e2] X.env)).any (·.1) = false) :
    PI X (.Tuple elts kk tpos) (.Call (.Name "zip" p) [e, e2] [] pos) (iZipK X.K ta) := by
  refine ⟨fun pins s σ H R I h => ?_⟩
  refine Call_ (ld_blt I hg hm PyProof.Rows.boot_zip (PyProof.Rows.callWith_type1 (thn (ha.run pos pins s σ H _ I h) fun us s1 ⟨vs, H1, I1, r1, q1⟩ => ?_) hs hpl))
  obtain ⟨k1, k2, a, b, xs, ys, ex, hqx, hqy, q⟩ := q1
  subst ex
  cases r1 with
  | cons r rr =>
    cases rr with
    | cons r' rr =>
      cases rr
      cases r
      cases r'
      obtain ⟨its, rv, p1, la⟩ := Inv.sqk I1 hqx
      obtain ⟨its2, rv2, p2, lb⟩ := Inv.sqk I1 hqy
      refine zip_begins2 (beginsK k1 a its.toArray) (beginsK k2 b its2.toArray) p1 p2 fun h' hz hTI hTO h1 h2 hsz hk => wpAny_pyIter_zip hz ?_
      have I2 : Inv X pins σ H1 { s1 with heap := h' } := I1.kept (t' := s1.toks) hk
      have sep : ZipSep2 (s1.heap.objs.size + 4) (s1.heap.objs.size + 2) (s1.heap.objs.size + 3) s1.heap.objs.size (s1.heap.objs.size + 1) [s1.heap.objs.size, a] [s1.heap.objs.size + 1, b] :=
        zip_sep2 (fp1 := [a]) (fp2 := [b]) (fun c hc => by rw [List.mem_singleton.mp hc]; exact la) (fun c hc => by rw [List.mem_singleton.mp hc]; exact lb)
      refine ⟨s1.heap.objs.size + 4, [s1.heap.objs.size + 4, s1.heap.objs.size + 2, s1.heap.objs.size + 3, s1.heap.objs.size, s1.heap.objs.size + 1], _, _, H1, rfl, I2, turn_zipK k1 k2 sep, ⟨hz, hTI, ⟨_, _, hTO⟩, itK_new h1, itK_new h2⟩, fun c hcm => ?_, q⟩
      have e' : c = s1.heap.objs.size + 4 ∨ c = s1.heap.objs.size + 2 ∨ c = s1.heap.objs.size + 3 ∨ c = s1.heap.objs.size ∨ c = s1.heap.objs.size + 1 := by simpa using hcm
      have hle : s1.heap.objs.size ≤ c := by
        rcases e' with z | z | z | z | z
        · rw [z]; exact Nat.le_add_right _ _
        · rw [z]; exact Nat.le_add_right _ _
        · rw [z]; exact Nat.le_add_right _ _
        · rw [z]; exact Nat.le_refl _
        · rw [z]; exact Nat.le_add_right _ _
      exact I1.fpOk hle (I1.hok.fresh hle)
/-! ### a list or a tuple itself -/
def iSeq (K : PySem.W.Frag) (tl : TE) : TI := fun σ H R => tl σ H fun x H1 => ∃ a xs, x = .ref a ∧ ((SqL K H1 a xs ∧ R (Itl K a) H1) ∨ (SqT K H1 a xs ∧ R (Itt K a) H1))
theorem pi_seq {X : Cx} {tg l : Expr} {tl : TE} (hl : PE X l tl) : PI X tg l (iSeq X.K tl) := by
  refine ⟨fun pins s σ H R I h => ?_⟩
  refine thn (hl.run pins s σ H _ I h) fun v s1 ⟨x, H1, I1, r1, q1⟩ => ?_
  obtain ⟨a, xs, e, q⟩ := q1
  subst e
  cases r1
  have fp : ∀ b, b ∈ [s1.heap.objs.size] → FpOk X pins H1 b := fun b hb => by
    have e : b = s1.heap.objs.size := by simpa using hb
    subst e
    exact I1.fpOk (Nat.le_refl _) (I1.hok.fresh (Nat.le_refl _))
  rcases q with ⟨hq, q⟩ | ⟨hq, q⟩
  · obtain ⟨its, rv, p, hz⟩ := I1.list hq
    refine wpAny_pyIter_list p.isList ?_
    exact ⟨s1.heap.objs.size, [s1.heap.objs.size], _, _, H1, rfl, I1.kept (t' := s1.toks) fun b o e => Heap.get?_push_of_some _ e, turn_list a _, ⟨_, Heap.get?_push_size _ rfl, rfl, rfl⟩, fp, q⟩
  · obtain ⟨its, rv, p, hz⟩ := I1.tuple hq
    refine wpAny_pyIter_tuple (show s1.heap.IsTuple a its.toArray from p) ?_
    exact ⟨s1.heap.objs.size, [s1.heap.objs.size], _, _, H1, rfl, I1.kept (t' := s1.toks) fun b o e => Heap.get?_push_of_some _ e, turn_tuple a _, ⟨_, Heap.get?_push_size _ rfl, rfl, rfl⟩, fp, q⟩
end Y

set_option Elab.async false
set_option linter.all false
set_option maxRecDepth 100000
set_option maxHeartbeats 4000000
/-! Snd7: what is walked, targets, list comprehensions. -/
namespace Y
open PySem PySem.Spec PyProof.Rows L2
def wI (X : Cx) (tg iter : Expr) : TI := fun σ H R => ∀ (pins : List (Addr × Obj)) (s : Shared), Inv X pins σ H s → wpAny (model X.prog X.w) X.A (eval iter X.env) (fun v s1 => wpAny (model X.prog X.w) X.A (pyIter v) (PIE X pins σ tg R) X.xe s1) X.xe s
def wG (X : Cx) (tg : Expr) : TG := fun v σ H Q => ∀ (pins : List (Addr × Obj)) (s : Shared) (u : Value), Inv X pins σ H s → RelV v u → wpAny (model X.prog X.w) X.A (assign tg X.env u) (fun _ s' => ∃ σ' H', Inv X pins σ' H' s' ∧ Q σ' H') X.xe s
def wGs (X : Cx) (ts : List Expr) : TGs := fun vs σ H Q => ∀ (pins : List (Addr × Obj)) (s : Shared) (us : List Value), Inv X pins σ H s → Vals vs us → wpAny (model X.prog X.w) X.A (assignInOrder ((assignEach ts X.env).map (·.2)) us) (fun _ s' => ∃ σ' H', Inv X pins σ' H' s' ∧ Q σ' H') X.xe s
section
variable {X : Cx}
theorem pi_w {tg iter : Expr} : PI X tg iter (wI X tg iter) := ⟨fun pins s _ _ _ I h => h pins s I⟩
theorem pg_w {tg : Expr} : PG X tg (wG X tg) := ⟨fun pins s _ _ _ u _ I r h => h pins s u I r⟩
theorem pgs_w {ts : List Expr} : PGs X ts (wGs X ts) := ⟨fun pins s _ _ _ us _ I r h => h pins s us I r⟩
theorem PI.w {tg iter : Expr} {t : TI} (p : PI X tg iter t) {σ : L2.St} {H : Hp} {R : L2.It → Hp → Prop} (h : t σ H R) : wI X tg iter σ H R := fun pins s I => p.run pins s σ H R I h
theorem PG.w {tg : Expr} {t : TG} (p : PG X tg t) {v : V} {σ : L2.St} {H : Hp} {Q : L2.St → Hp → Prop} (h : t v σ H Q) : wG X tg v σ H Q := fun pins s u I r => p.run pins s σ H v u Q I r h
theorem PGs.w {ts : List Expr} {t : TGs} (p : PGs X ts t) {vs : List V} {σ : L2.St} {H : Hp} {Q : L2.St → Hp → Prop} (h : t vs σ H Q) : wGs X ts vs σ H Q := fun pins s us I r => p.run pins s σ H vs us Q I r h
end
/-- the machine's iterator J gives what I gives, from f0 h0 H0 on -/
def ItOk (K : PySem.W.Frag) (F : Adr) (b : Nat) (I : Iter) (J : L2.It) (f0 : Nat → Addr) (h0 : Heap) (H0 : Hp) : Prop := ∀ (f : Nat → Addr) (h : Heap) (H : Hp), Sim K F f H h → Ext b f0 h0 H0 f h H → ∀ i : Nat,
  (∀ v, I.turn i h = some (some v) → J.go i H ∧ ∀ x H', J.yld i H x H' → Sim K F f H' h ∧ Ext b f h H f h H' ∧ Rep K F f h.length H' v x) ∧ (I.turn i h = some none → J.stop i H)
structure SI (X : Cx) (F : Adr) (b : Nat) (tg iter : Expr) (m : DI) : Prop where
  run : ∀ (W : WX) (env : Env) (f : Nat → Addr) (h : Heap) (σ : L2.St) (H : Hp) (R : L2.It → Hp → Prop), At X F b W env f h σ H → Post X.K F b (wX W σ) f h H (m env h) (fun I f' h' H' => ∀ J, ItOk X.K F b I J f' h' H' → R J H') → wI X tg iter σ H R
section
variable {X : Cx} {F : Adr} {b : Nat} {K : PySem.W.Frag}
theorem getAt_some {xs : List Val} {i : Nat} {v : Val} (e : getAt xs i = some (some v)) : xs[i]? = some v := by
  unfold getAt at e
  cases h : xs[i]? with
  | some u => rw [h] at e; cases e; rfl
  | none =>
    rw [h] at e
    dsimp only at e
    split at e <;> cases e
theorem getAt_none {xs : List Val} {i : Nat} (e : getAt xs i = some none) : i = xs.length := by
  unfold getAt at e
  cases h : xs[i]? with
  | some u => rw [h] at e; cases e
  | none =>
    rw [h] at e
    dsimp only at e
    split at e
    · rename_i q; exact Nat.eq_of_beq_eq_true q
    · cases e
theorem getAt_le {xs : List Val} {i : Nat} {o : Option Val} (e : getAt xs i = some o) : i ≤ xs.length := by
  cases o with
  | none => exact Nat.le_of_eq (getAt_none e)
  | some v => exact Nat.le_of_lt (List.getElem?_eq_some_iff.mp (getAt_some e)).1
theorem upTo_get : ∀ (n : Nat) (lo : Int) (i : Nat), (upTo n lo)[i]? = if i < n then some (.int (lo + i)) else none
  | 0, lo, i => by simp [upTo]
  | n + 1, lo, 0 => by simp [upTo]
  | n + 1, lo, i + 1 => by
    have ih := upTo_get n (lo + 1) i
    show (Val.int lo :: upTo n (lo + 1))[i + 1]? = _
    rw [List.getElem?_cons_succ, ih]
    by_cases h : i < n
    · rw [if_pos h, if_pos (by omega)]
      congr 2
      omega
    · rw [if_neg h, if_neg (by omega)]
theorem upTo_len : ∀ (n : Nat) (lo : Int), (upTo n lo).length = n
  | 0, _ => rfl
  | n + 1, lo => by
    show (upTo n (lo + 1)).length + 1 = n + 1
    rw [upTo_len n]
theorem downTo_get : ∀ (n : Nat) (lo : Int) (i : Nat), (downTo n lo)[i]? = if i < n then some (.int (lo + i * (-1))) else none
  | 0, lo, i => by simp [downTo]
  | n + 1, lo, 0 => by simp [downTo]
  | n + 1, lo, i + 1 => by
    have ih := downTo_get n (lo - 1) i
    show (Val.int lo :: downTo n (lo - 1))[i + 1]? = _
    rw [List.getElem?_cons_succ, ih]
    by_cases h : i < n
    · rw [if_pos h, if_pos (by omega)]
      congr 2
      omega
    · rw [if_neg h, if_neg (by omega)]
theorem downTo_len : ∀ (n : Nat) (lo : Int), (downTo n lo).length = n
  | 0, _ => rfl
  | n + 1, lo => by
    show (downTo n (lo - 1)).length + 1 = n + 1
    rw [downTo_len n]
theorem itOk_range {lo : Int} {n : Nat} {f : Nat → Addr} {h : Heap} {H : Hp} : ItOk K F b (.one (.vals (upTo n lo))) (Itr lo n) f h H := fun f1 h1 H1 S E i => by
  refine ⟨fun v e => ?_, fun e => ?_⟩
  · have e1 := getAt_some (show getAt (upTo n lo) i = some (some v) from e)
    rw [upTo_get] at e1
    by_cases hi : i < n
    · rw [if_pos hi] at e1
      refine ⟨hi, fun x H' y => ?_⟩
      obtain ⟨y1, y2⟩ := y
      subst y1
      cases e1
      rw [y2]
      exact ⟨S, Ext.refl, .int _⟩
    · rw [if_neg hi] at e1; cases e1
  · have e1 := getAt_none (show getAt (upTo n lo) i = some none from e)
    rw [upTo_len] at e1
    exact Nat.le_of_eq e1.symm
theorem itOk_down {lo : Int} {n : Nat} {f : Nat → Addr} {h : Heap} {H : Hp} : ItOk K F b (.one (.vals (downTo n lo))) (Itc lo (-1) n) f h H := fun f1 h1 H1 S E i => by
  refine ⟨fun v e => ?_, fun e => ?_⟩
  · have e1 := getAt_some (show getAt (downTo n lo) i = some (some v) from e)
    rw [downTo_get] at e1
    by_cases hi : i < n
    · rw [if_pos hi] at e1
      refine ⟨hi, fun x H' y => ?_⟩
      obtain ⟨y1, y2⟩ := y
      subst y1
      cases e1
      rw [y2]
      exact ⟨S, Ext.refl, .int _⟩
    · rw [if_neg hi] at e1; cases e1
  · have e1 := getAt_none (show getAt (downTo n lo) i = some none from e)
    rw [downTo_len] at e1
    exact Nat.le_of_eq e1.symm
/-- a source and the object behind it -/
def SrcRel (K : PySem.W.Frag) (F : Adr) (s : Src) (f : Nat → Addr) (h : Heap) (H : Hp) (kd : Bool) (a : Addr) : Prop := match s with
  | .vals xs => kd = true ∧ ∃ vs, SqT K H a vs ∧ Reps K F f h.length H xs vs
  | .cell j => kd = false ∧ j < h.length ∧ a = f j
theorem SrcRel.ext {s : Src} {f f1 : Nat → Addr} {h h1 : Heap} {H H1 : Hp} {kd : Bool} {a : Addr} (S : Sim K F f H h) (E : Ext b f h H f1 h1 H1) (r : SrcRel K F s f h H kd a) : SrcRel K F s f1 h1 H1 kd a := by
  cases s with
  | vals xs =>
    obtain ⟨e, vs, q1, q2⟩ := r
    exact ⟨e, vs, E.sqt S _ _ q1, E.reps S q2⟩
  | cell j =>
    obtain ⟨e, q1, q2⟩ := r
    exact ⟨e, Nat.lt_of_lt_of_le q1 E.le, by rw [q2, E.agr j q1]⟩
theorem SrcRel.seq {s : Src} {f : Nat → Addr} {h : Heap} {H : Hp} {kd : Bool} {a : Addr} {i : Nat} {o : Option Val} (S : Sim K F f H h) (r : SrcRel K F s f h H kd a) (e : s.get i h = some o) :
    ∃ xs vs, SqK kd K H a vs ∧ Reps K F f h.length H xs vs ∧ getAt xs i = some o := by
  cases s with
  | vals xs =>
    obtain ⟨ek, vs, q1, q2⟩ := r
    subst ek
    exact ⟨xs, vs, q1, q2, e⟩
  | cell j =>
    obtain ⟨ek, q1, q2⟩ := r
    subst ek q2
    have e : (match listAt h j with
      | some xs => getAt xs i
      | none => none) = some o := e
    cases hl : listAt h j with
    | none => rw [hl] at e; cases e
    | some xs =>
      rw [hl] at e
      obtain ⟨vs, h1, h2⟩ := listAt_of S hl
      exact ⟨xs, vs, h1, h2, e⟩
theorem srcRel_of {f : Nat → Addr} {h : Heap} {H : Hp} {v : Val} {x : V} {s : Src} (S : Sim K F f H h) (r : Rep K F f h.length H v x) (e : srcOf v h = some s) : ∃ kd a vs, x = .ref a ∧ SqK kd K H a vs ∧ SrcRel K F s f h H kd a := by
  cases r with
  | tup q rs => cases e; exact ⟨true, _, _, rfl, q, rfl, _, q, rs⟩
  | @lst a p q ep =>
    have e : (if (listAt h a).isSome then some (Src.cell a) else none) = some s := e
    by_cases hs : (listAt h a).isSome = true
    · rw [if_pos hs] at e
      cases e
      obtain ⟨xs, hx⟩ := Option.isSome_iff_exists.mp hs
      obtain ⟨vs, h1, h2⟩ := listAt_of S hx
      exact ⟨false, p, vs, rfl, by rw [ep]; exact h1, rfl, q, ep⟩
    · rw [if_neg hs] at e; cases e
  | _ => cases e
theorem itOk_seqL {j : Nat} {f : Nat → Addr} {h : Heap} {H : Hp} {a : Addr} (S0 : Sim K F f H h) (r : SrcRel K F (.cell j) f h H false a) : ItOk K F b (.one (.cell j)) (Itl K a) f h H := fun f1 h1 H1 S E i => by
  have r1 := r.ext S0 E
  refine ⟨fun v e => ?_, fun e => ?_⟩
  · obtain ⟨xs, vs, q1, q2, q3⟩ := r1.seq S e
    obtain ⟨x, hx, rx⟩ := q2.get (getAt_some q3)
    refine ⟨⟨vs, x, q1, hx⟩, fun x' H' y => ?_⟩
    obtain ⟨y1, y2⟩ := y
    subst y1
    have := y2 vs q1
    rw [hx] at this
    cases this
    exact ⟨S, Ext.refl, rx⟩
  · obtain ⟨xs, vs, q1, q2, q3⟩ := r1.seq S e
    exact ⟨vs, q1, by rw [← q2.length]; exact Nat.le_of_eq (getAt_none q3).symm⟩
theorem itOk_seqT {zs : List Val} {f : Nat → Addr} {h : Heap} {H : Hp} {a : Addr} (S0 : Sim K F f H h) (r : SrcRel K F (.vals zs) f h H true a) : ItOk K F b (.one (.vals zs)) (Itt K a) f h H := fun f1 h1 H1 S E i => by
  have r1 := r.ext S0 E
  refine ⟨fun v e => ?_, fun e => ?_⟩
  · obtain ⟨xs, vs, q1, q2, q3⟩ := r1.seq S e
    obtain ⟨x, hx, rx⟩ := q2.get (getAt_some q3)
    refine ⟨⟨vs, x, q1, hx⟩, fun x' H' y => ?_⟩
    obtain ⟨y1, y2⟩ := y
    subst y1
    have := y2 vs q1
    rw [hx] at this
    cases this
    exact ⟨S, Ext.refl, rx⟩
  · obtain ⟨xs, vs, q1, q2, q3⟩ := r1.seq S e
    exact ⟨vs, q1, by rw [← q2.length]; exact Nat.le_of_eq (getAt_none q3).symm⟩
/-- a new pair -/
theorem pair_new {f : Nat → Addr} {h : Heap} {H : Hp} {u v : Val} {x y : V} {T : Addr} (S : Sim K F f H h) (hT : H T = none) (r1 : Rep K F f h.length H u x) (r2 : Rep K F f h.length H v y) :
    Sim K F f (upd H T (.tup [x, y])) h ∧ Ext b f h H f h (upd H T (.tup [x, y])) ∧ Rep K F f h.length (upd H T (.tup [x, y])) (.tup [u, v]) (.ref T) := by
  have E : Ext b f h H f h (upd H T (.tup [x, y])) := Ext.fresh hT
  exact ⟨S.fresh hT, E, .tup (.inl (.inl upd_same)) (.cons (E.rep S r1) (.cons (E.rep S r2) .nil))⟩
theorem itOk_enum {s : Src} {kd : Bool} {f : Nat → Addr} {h : Heap} {H : Hp} {a : Addr} (S0 : Sim K F f H h) (r : SrcRel K F s f h H kd a) : ItOk K F b (.enum s) (IteK kd K a) f h H := fun f1 h1 H1 S E i => by
  have r1 := r.ext S0 E
  have et : (Iter.enum s).turn i h1 = match s.get i h1 with
    | some (some v) => some (some (.tup [.int i, v]))
    | r => r := rfl
  refine ⟨fun v e => ?_, fun e => ?_⟩
  · rw [et] at e
    cases hg : s.get i h1 with
    | none => rw [hg] at e; cases e
    | some o =>
      cases o with
      | none => rw [hg] at e; cases e
      | some w =>
        rw [hg] at e
        cases e
        obtain ⟨xs, vs, q1, q2, q3⟩ := r1.seq S hg
        obtain ⟨x, hx, rx⟩ := q2.get (getAt_some q3)
        refine ⟨⟨vs, x, q1, hx⟩, fun x' H' y => ?_⟩
        obtain ⟨T, z, y1, y2, y3, y4⟩ := y
        have := y4 vs q1
        rw [hx] at this
        cases this
        rw [y1, y3]
        exact pair_new S y2 (.int _) rx
  · rw [et] at e
    cases hg : s.get i h1 with
    | none => rw [hg] at e; cases e
    | some o =>
      cases o with
      | some w => rw [hg] at e; cases e
      | none =>
        obtain ⟨xs, vs, q1, q2, q3⟩ := r1.seq S hg
        exact ⟨vs, q1, by rw [← q2.length]; exact (getAt_none q3).symm⟩
theorem itOk_zip {s t : Src} {k1 k2 : Bool} {f : Nat → Addr} {h : Heap} {H : Hp} {a c : Addr} (S0 : Sim K F f H h) (r : SrcRel K F s f h H k1 a) (r' : SrcRel K F t f h H k2 c) : ItOk K F b (.zip s t) (ItzK k1 k2 K a c) f h H := fun f1 h1 H1 S E i => by
  have r1 := r.ext S0 E
  have r2 := r'.ext S0 E
  have et : (Iter.zip s t).turn i h1 = match s.get i h1 with
    | some (some v) => (match t.get i h1 with
      | some (some u) => some (some (.tup [v, u]))
      | r => r)
    | some none => (match t.get i h1 with
      | some _ => some none
      | none => none)
    | none => none := rfl
  refine ⟨fun v e => ?_, fun e => ?_⟩
  · rw [et] at e
    cases hg : s.get i h1 with
    | none => rw [hg] at e; cases e
    | some o =>
      rw [hg] at e
      cases o with
      | none =>
        cases hg2 : t.get i h1 with
        | none => rw [hg2] at e; cases e
        | some _ => rw [hg2] at e; cases e
      | some w =>
        cases hg2 : t.get i h1 with
        | none => rw [hg2] at e; cases e
        | some o2 =>
          rw [hg2] at e
          cases o2 with
          | none => cases e
          | some w2 =>
            cases e
            obtain ⟨xs, vs, q1, q2, q3⟩ := r1.seq S hg
            obtain ⟨ys, ws, p1, p2, p3⟩ := r2.seq S hg2
            obtain ⟨x, hx, rx⟩ := q2.get (getAt_some q3)
            obtain ⟨y, hy, ry⟩ := p2.get (getAt_some p3)
            refine ⟨⟨vs, ws, x, y, q1, p1, hx, hy⟩, fun x' H' z => ?_⟩
            obtain ⟨T, z1, z2, y1, y2, y3, y4, y5⟩ := z
            have e1 := y4 vs q1
            have e2 := y5 ws p1
            rw [hx] at e1
            rw [hy] at e2
            cases e1
            cases e2
            rw [y1, y3]
            exact pair_new S y2 rx ry
  · rw [et] at e
    have fin : ∀ {o o2 : Option Val}, s.get i h1 = some o → t.get i h1 = some o2 → (o = none ∨ o2 = none) → (ItzK k1 k2 K a c).stop i H1 := fun {o o2} hg hg2 hn => by
      obtain ⟨xs, vs, q1, q2, q3⟩ := r1.seq S hg
      obtain ⟨ys, ws, p1, p2, p3⟩ := r2.seq S hg2
      refine ⟨vs, ws, q1, p1, by rw [← q2.length]; exact getAt_le q3, by rw [← p2.length]; exact getAt_le p3, ?_⟩
      rcases hn with e | e
      · subst e; exact .inl (by rw [← q2.length]; exact (getAt_none q3).symm)
      · subst e; exact .inr (by rw [← p2.length]; exact (getAt_none p3).symm)
    cases hg : s.get i h1 with
    | none => rw [hg] at e; cases e
    | some o =>
      rw [hg] at e
      cases o with
      | none =>
        cases hg2 : t.get i h1 with
        | none => rw [hg2] at e; cases e
        | some o2 => exact fin hg hg2 (.inl rfl)
      | some w =>
        cases hg2 : t.get i h1 with
        | none => rw [hg2] at e; cases e
        | some o2 =>
          rw [hg2] at e
          cases o2 with
          | none => exact fin hg hg2 (.inr rfl)
          | some w2 => cases e
/-! ### the forms -/
theorem small62 {i : Int} (e : rangeV.isSmall62 i = true) : -(2 ^ 62) ≤ i ∧ i < 2 ^ 62 := by
  unfold rangeV.isSmall62 at e
  obtain ⟨a, c⟩ := Bool.and_eq_true_iff.mp e
  exact ⟨of_decide_eq_true a, of_decide_eq_true c⟩
theorem rangeK_of {E : XK} {m n : Int} {f : Nat → Addr} {h : Heap} {H : Hp} {G : GG Iter} (p : Post K F b E f h H (rangeK m n h) G) : (-(2 ^ 62) ≤ m ∧ m < 2 ^ 62) ∧ (-(2 ^ 62) ≤ n ∧ n < 2 ^ 62) ∧ Post K F b E f h H (.ok (.one (.vals (upTo (n - m).toNat m))) h) G := by
  unfold rangeK rangeV at p
  by_cases e : (rangeV.isSmall62 m && rangeV.isSmall62 n) = true
  · rw [if_pos e] at p
    obtain ⟨e1, e2⟩ := Bool.and_eq_true_iff.mp e
    exact ⟨small62 e1, small62 e2, p⟩
  · rw [if_neg e] at p
    exact p.elim
theorem si_r1 {tg e : Expr} {m : DE} {p pos : Pos} (hg : Gl X "range") (hm : X.mg "range" = none) (hs : notStar e = true) (h1 : SE X F b e m) : SI X F b tg (.Call (.Name "range" p) [e] [] pos) (dR1 m) := by
  refine ⟨fun W env f h σ H R A P => PI.w (pi_range1 hg hm (pa_w (es := [e])) (star_no hs)) (wA_cons hs ?_)⟩
  refine h1.v W env f h σ H _ A ((Post.bind P).mono fun v f1 h1 H1 S1 E1 q x rx => fun pos pins s I => pa_nil.run pos pins s σ H1 _ I ?_)
  cases v with
  | int n =>
    cases rx
    obtain ⟨_, z2, q⟩ := rangeK_of q
    refine ⟨n, rfl, z2.1, z2.2, ?_⟩
    have q := q.ok S1
    rw [Int.sub_zero] at q
    exact q _ itOk_range
  | _ => exact q.elim
theorem si_r2 {tg e e2 : Expr} {m m2 : DE} {p pos : Pos} (hg : Gl X "range") (hm : X.mg "range" = none) (hs : notStar e = true) (hs2 : notStar e2 = true) (h1 : SE X F b e m) (h2 : SE X F b e2 m2) : SI X F b tg (.Call (.Name "range" p) [e, e2] [] pos) (dR2 m m2) := by
  refine ⟨fun W env f h σ H R A P => PI.w (pi_range2 hg hm (pa_w (es := [e, e2])) (by rw [star_no hs, star_no hs2]; rfl) (star_no hs2)) (wA_cons hs ?_)⟩
  refine h1.v W env f h σ H _ A ((Post.bind P).mono fun v f1 h1 H1 S1 E1 q x rx => wA_cons hs2 ?_)
  refine h2.v W env f1 h1 σ H1 _ (A.step S1 E1) ((Post.bind q).mono fun u f2 h2 H2 S2 E2 q y ry => fun pos pins s I => pa_nil.run pos pins s σ H2 _ I ?_)
  cases v with
  | int i => cases u with
    | int n =>
      cases rx; cases ry
      obtain ⟨z1, z2, q⟩ := rangeK_of q
      exact ⟨i, n, rfl, ⟨z1.1, z1.2, z2.1, z2.2⟩, (q.ok S2) _ itOk_range⟩
    | _ => exact q.elim
  | _ => exact q.elim
theorem si_down {tg e e2 : Expr} {m m2 : DE} {k : Nat} {p p2 p3 pos : Pos} (hg : Gl X "range") (hm : X.mg "range" = none) (hs : notStar e = true) (hs2 : notStar e2 = true) (h1 : SE X F b e m) (h2 : SE X F b e2 m2) :
    SI X F b tg (.Call (.Name "range" p) [e, e2, .UnaryOp .USub (.Constant (.int 1) k p2) p3] [] pos) (dDown m m2) := by
  refine ⟨fun W env f h σ H R A P => PI.w (pi_range3 hg hm (pa_w (es := [e, e2, .UnaryOp .USub (.Constant (.int 1) k p2) p3])) (star_no hs) (by rw [star_no hs2]; rfl)) (wA_cons hs ?_)⟩
  refine h1.v W env f h σ H _ A ((Post.bind P).mono fun v f1 h1 H1 S1 E1 q x rx => wA_cons hs2 ?_)
  refine h2.v W env f1 h1 σ H1 _ (A.step S1 E1) ((Post.bind q).mono fun u f2 h2 H2 S2 E2 q y ry => wA_cons rfl (PE.w (pe_un un_neg pe_int) ⟨1, rfl, fun pos pins s I => pa_nil.run pos pins s σ H2 _ I ?_⟩))
  cases v with
  | int i => cases u with
    | int n =>
      cases rx; cases ry
      obtain ⟨e, q⟩ := Post.ite (c := rangeV.isSmall62 i && rangeV.isSmall62 n) (r := Y.R.ok (Iter.one (.vals (downTo (i - n).toNat i))) h2) q
      obtain ⟨e1, e2⟩ := Bool.and_eq_true_iff.mp e
      have z1 := small62 e1
      have z2 := small62 e2
      exact ⟨i, n, -1, (i - n).toNat, rfl, RgC.neg z1.1 z1.2 z2.1 z2.2, (q.ok S2) _ itOk_down⟩
    | _ => exact q.elim
  | _ => exact q.elim
theorem iterOf_of {E : XK} {v : Val} {k : Src → Iter} {f : Nat → Addr} {h : Heap} {H : Hp} {G : GG Iter} (p : Post K F b E f h H (iterOf v h k) G) : ∃ s, srcOf v h = some s ∧ Post K F b E f h H (.ok (k s) h) G := by
  unfold iterOf at p
  cases hs : srcOf v h with
  | none => rw [hs] at p; exact p.elim
  | some s => rw [hs] at p; exact ⟨s, rfl, p⟩
theorem si_of {tg e : Expr} {m : DE} (h1 : SE X F b e m) : SI X F b tg e (fun env h => (m.v env h).bind fun x h1 => iterOf x h1 .one) := by
  refine ⟨fun W env f h σ H R A P => PI.w (pi_seq (pe_w (e := e))) ?_⟩
  refine h1.v W env f h σ H _ A ((Post.bind P).mono fun v f1 h1 H1 S1 E1 q x rx => ?_)
  obtain ⟨s, hs, q⟩ := iterOf_of q
  have q := q.ok S1
  obtain ⟨kd, a, vs, rfl, hq, hr⟩ := srcRel_of S1 rx hs
  cases s with
  | vals xs =>
    obtain ⟨ek, _⟩ := id hr
    subst ek
    exact ⟨a, vs, rfl, .inr ⟨hq, q _ (itOk_seqT S1 hr)⟩⟩
  | cell j =>
    obtain ⟨ek, _⟩ := id hr
    subst ek
    exact ⟨a, vs, rfl, .inl ⟨hq, q _ (itOk_seqL S1 hr)⟩⟩
theorem si_enum {e : Expr} {m : DE} {elts : List Expr} {kk : Nat} {tpos p pos : Pos} (hg : Gl X "enumerate") (hm : X.mg "enumerate" = none) (hs : notStar e = true) (h1 : SE X F b e m) :
    SI X F b (.Tuple elts kk tpos) (.Call (.Name "enumerate" p) [e] [] pos) (fun env h => (m.v env h).bind fun x h1 => iterOf x h1 .enum) := by
  refine ⟨fun W env f h σ H R A P => PI.w (pi_enumK hg hm (pa_w (es := [e])) (star_no hs)) (wA_cons hs ?_)⟩
  refine h1.v W env f h σ H _ A ((Post.bind P).mono fun v f1 h1 H1 S1 E1 q x rx => fun pos pins s I => pa_nil.run pos pins s σ H1 _ I ?_)
  obtain ⟨s, hs, q⟩ := iterOf_of q
  have q := q.ok S1
  obtain ⟨kd, a, vs, rfl, hq, hr⟩ := srcRel_of S1 rx hs
  exact ⟨kd, a, vs, rfl, hq, q _ (itOk_enum S1 hr)⟩
theorem si_zip {e e2 : Expr} {m m2 : DE} {elts : List Expr} {kk : Nat} {tpos p pos : Pos} (hg : Gl X "zip") (hm : X.mg "zip" = none) (hs : notStar e = true) (hs2 : notStar e2 = true) (h1 : SE X F b e m) (h2 : SE X F b e2 m2) :
    SI X F b (.Tuple elts kk tpos) (.Call (.Name "zip" p) [e, e2] [] pos) (dZip m m2) := by
  refine ⟨fun W env f h σ H R A P => PI.w (pi_zipK hg hm (pa_w (es := [e, e2])) (star_no hs) (star_any (by rw [List.all_cons, hs2]; rfl))) (wA_cons hs ?_)⟩
  refine h1.v W env f h σ H _ A ((Post.bind P).mono fun v f1 h1 H1 S1 E1 q x rx => wA_cons hs2 ?_)
  refine h2.v W env f1 h1 σ H1 _ (A.step S1 E1) ((Post.bind q).mono fun u f2 h2 H2 S2 E2 q y ry => fun pos pins s I => pa_nil.run pos pins s σ H2 _ I ?_)
  have q : Post X.K F b (wX W σ) f2 h2 H2 (match srcOf v h2, srcOf u h2 with
    | some s, some u => Y.R.ok (Iter.zip s u) h2
    | _, _ => .bad) _ := q
  cases hs1 : srcOf v h2 with
  | none => rw [hs1] at q; exact q.elim
  | some s => cases hs3 : srcOf u h2 with
    | none => rw [hs1, hs3] at q; exact q.elim
    | some t =>
      rw [hs1, hs3] at q
      have q := q.ok S2
      obtain ⟨k1, a, vs, e1, hq, hr⟩ := srcRel_of S2 (E2.rep S1 rx) hs1
      obtain ⟨k2, c, ws, e2, hq2, hr2⟩ := srcRel_of S2 ry hs3
      subst e1 e2
      exact ⟨k1, k2, a, c, vs, ws, rfl, hq, hq2, q _ (itOk_zip S2 hr hr2)⟩
end
end Y

set_option Elab.async false
set_option linter.all false
set_option maxRecDepth 100000
set_option maxHeartbeats 4000000
/-! Snd8: targets, list comprehensions. -/
namespace Y
open PySem PySem.Spec PyProof.Rows L2
/-! ### slots forgotten -/
theorem REnv.drop {K : PySem.W.Frag} {F : Adr} {f : Nat → Addr} {n : Nat} {H : Hp} {env : Env} {σ : L2.St} (i : Nat) (R : REnv K F f n H env σ) : REnv K F f n H (env.set i none) (σ.set i none) := by
  refine ⟨by rw [List.length_set, List.length_set]; exact R.len, fun j u e => ?_⟩
  by_cases hij : i = j
  · subst hij
    by_cases hlt : i < env.length
    · rw [List.getElem?_set_self hlt] at e; cases e
    · rw [List.getElem?_eq_none (by rw [List.length_set]; omega)] at e; cases e
  · rw [List.getElem?_set_ne hij] at e
    obtain ⟨y, h1, h2⟩ := R.at_ j u e
    exact ⟨y, by rw [List.getElem?_set_ne hij]; exact h1, h2⟩
theorem REnv.wipe {K : PySem.W.Frag} {F : Adr} {f : Nat → Addr} {n : Nat} {H : Hp} {env : Env} {σ : L2.St} (R : REnv K F f n H env σ) : ∀ own : List Nat, REnv K F f n H (Y.wipe env own) (L2.wipe σ own)
  | [] => R
  | i :: r => (REnv.wipe R r).drop i
theorem wipe_get (σ : L2.St) (j : Nat) : ∀ own : List Nat, (L2.wipe σ own)[j]? = if j ∈ own then (if j < σ.length then some none else none) else σ[j]?
  | [] => by simp [L2.wipe]
  | i :: r => by
    show ((L2.wipe σ r).set i none)[j]? = _
    have ih := wipe_get σ j r
    by_cases hij : i = j
    · subst hij
      rw [if_pos List.mem_cons_self]
      by_cases hlt : i < σ.length
      · rw [List.getElem?_set_self (by rw [wipe_length]; exact hlt), if_pos hlt]
      · rw [List.getElem?_eq_none (by rw [List.length_set, wipe_length]; omega), if_neg hlt]
    · rw [List.getElem?_set_ne hij, ih]
      by_cases hm : j ∈ r
      · rw [if_pos hm, if_pos (List.mem_cons_of_mem _ hm)]
      · rw [if_neg hm, if_neg (fun z => by rcases List.mem_cons.mp z with z | z; exact hij z.symm; exact hm z)]
theorem wipe_set {σ : L2.St} {i : Nat} {o : Option V} {own : List Nat} (hi : i ∈ own) : L2.wipe (σ.set i o) own = L2.wipe σ own := by
  refine List.ext_getElem? fun j => ?_
  rw [wipe_get, wipe_get, List.length_set]
  by_cases hm : j ∈ own
  · rw [if_pos hm, if_pos hm]
  · rw [if_neg hm, if_neg hm, List.getElem?_set_ne (fun (e : i = j) => hm (e ▸ hi))]
theorem wipe_wipe {σ : L2.St} {own : List Nat} : L2.wipe (L2.wipe σ own) own = L2.wipe σ own := by
  refine List.ext_getElem? fun j => ?_
  rw [wipe_get, wipe_get, wipe_length]
  by_cases hm : j ∈ own
  · rw [if_pos hm, if_pos hm]
  · rw [if_neg hm, if_neg hm]
/-! ### targets -/
abbrev GTg (K : PySem.W.Frag) (F : Adr) (sl : List Nat) (σ : L2.St) (Q : L2.St → Hp → Prop) : GG Env := fun env' f' h' H' => ∀ σ', REnv K F f' h'.length H' env' σ' → (∀ own : List Nat, (∀ i, i ∈ sl → i ∈ own) → L2.wipe σ' own = L2.wipe σ own) → Q σ' H'
structure ST (X : Cx) (F : Adr) (b : Nat) (tg : Expr) (m : DT) (sl : List Nat) : Prop where
  run : ∀ (W : WX) (env : Env) (f : Nat → Addr) (h : Heap) (σ : L2.St) (H : Hp) (v : Val) (x : V) (Q : L2.St → Hp → Prop), At X F b W env f h σ H → Rep X.K F f h.length H v x → Post X.K F b (wX W σ) f h H (m v env h) (GTg X.K F sl σ Q) → wG X tg x σ H Q
/-- .. targets where an exception is not wished for at the slots they have changed: they never raise -/
structure STs (X : Cx) (F : Adr) (b : Nat) (ts : List Expr) (m : DTs) (sl : List Nat) : Prop where
  run : ∀ (W : WX) (env : Env) (f : Nat → Addr) (h : Heap) (σ : L2.St) (H : Hp) (vs : List Val) (xs : List V) (Q : L2.St → Hp → Prop), At X F b W env f h σ H → Reps X.K F f h.length H vs xs → Post X.K F b (fun _ _ _ => False) f h H (m vs env h) (GTg X.K F sl σ Q) → wGs X ts xs σ H Q
theorem Post.noex {α : Type} {K : PySem.W.Frag} {F : Adr} {b : Nat} {E E' : XK} {f : Nat → Addr} {h : Heap} {H : Hp} {r : R α} {G : GG α} (hr : ∀ e h', r ≠ .ex e h') (p : Post K F b E f h H r G) : Post K F b E' f h H r G := by
  cases r with
  | ok a h' => exact p
  | ex e h' => exact absurd rfl (hr e h')
  | bad => exact p
section
variable {X : Cx} {F : Adr} {b : Nat}
theorem st_nm {i : Nat} {x : Str} {pos : Pos} (hN : X.N.Nodup) (hi : X.N[i]? = some x) (hx : Loc X.env.scope x) (hf : X.fn x = true ∨ X.env.scope.names.lookup x = some .local) : ST X F b (.Name x pos) (fun v env h => .ok (env.set i (some v)) h) [i] := by
  refine ⟨fun W env f h σ H v y Q A r p => PG.w (pg_name hN hi hx hf) ?_⟩
  exact p.ok A.sim _ (A.env.set r) fun own ho => wipe_set (ho i (List.mem_singleton.mpr rfl))
/-- targets that are names, or tuples of such: they never raise -/
def Calm (m : DT) : Prop := ∀ v env h e h', m v env h ≠ .ex e h'
def CalmS (m : DTs) : Prop := ∀ vs env h e h', m vs env h ≠ .ex e h'
theorem calm_nil : CalmS dTgNil := fun vs env h e h' z => by cases vs <;> cases z
theorem calm_cons {m : DT} {ms : DTs} (h1 : Calm m) (h2 : CalmS ms) : CalmS (dTgCons m ms) := fun vs env h e h' z => by
  cases vs with
  | nil => cases z
  | cons v vs =>
    have z : (m v env h).bind (fun env1 h1 => ms vs env1 h1) = .ex e h' := z
    cases hm : m v env h with
    | ok a h1' => rw [hm] at z; exact h2 vs a h1' e h' z
    | ex e' h' => exact h1 _ _ _ _ _ hm
    | bad => rw [hm] at z; cases z
theorem sts_nil : STs X F b [] dTgNil [] := by
  refine ⟨fun W env f h σ H vs xs Q A r p => PGs.w pgs_nil ?_⟩
  cases r with
  | nil => exact ⟨rfl, p.ok A.sim σ A.env fun _ _ => rfl⟩
  | cons _ _ => exact p.elim
theorem each_cons {e : Expr} {es : List Expr} {env : PySem.Env} (h : notStar e = true) : assignEach (e :: es) env = (false, assign e env) :: assignEach es env := by
  cases e <;> first | rfl | (simp [notStar] at h)
theorem sts_cons {e : Expr} {es : List Expr} {m : DT} {ms : DTs} {sl sl2 : List Nat} (hs : notStar e = true) (hc : Calm m) (h1 : ST X F b e m sl) (h2 : STs X F b es ms sl2) : STs X F b (e :: es) (dTgCons m ms) (sl ++ sl2) := by
  refine ⟨fun W env f h σ H vs xs Q A r p => PGs.w (pgs_cons (pg_w (tg := e)) (pgs_w (ts := es)) (by rw [each_cons hs]; rfl)) ?_⟩
  cases r with
  | nil => exact p.elim
  | @cons v x vs xs rv rs =>
    refine ⟨x, xs, rfl, ?_⟩
    have p : Post X.K F b (fun _ _ _ => False) f h H ((m v env h).bind fun env1 h1 => ms vs env1 h1) (GTg X.K F (sl ++ sl2) σ Q) := p
    refine h1.run W env f h σ H v x _ A rv (Post.noex (fun e h' => hc _ _ _ _ _) ((Post.bind p).mono fun env1 f1 h1 H1 S1 E1 q σ1 r1 w1 => ?_))
    refine h2.run W env1 f1 h1 σ1 H1 vs xs Q ⟨A.tk, Nat.le_trans A.le E1.le, S1, r1⟩ (E1.reps A.sim rs) (q.mono fun env2 f2 h2 H2 S2 E2 q2 σ2 r2 w2 => q2 σ2 r2 fun own ho => ?_)
    rw [w2 own fun i hi => ho i (List.mem_append_right _ hi), w1 own fun i hi => ho i (List.mem_append_left _ hi)]
theorem each_len {env : PySem.Env} : ∀ {es : List Expr}, es.all notStar = true → (assignEach es env).length = es.length ∧ (assignEach es env).findIdx? (·.1) = none
  | [], _ => ⟨rfl, rfl⟩
  | e :: es, h => by
    obtain ⟨h1, h2⟩ := all_cons h
    obtain ⟨k1, k2⟩ := each_len (env := env) h2
    rw [each_cons h1]
    refine ⟨congrArg Nat.succ k1, ?_⟩
    rw [List.findIdx?_cons]
    simp [k2]
theorem calm_tup {ms : DTs} (h : CalmS ms) : Calm (dTgTup ms) := fun v env h0 e h' z => by
  cases v with
  | tup xs => exact h xs env h0 e h' z
  | lst a =>
    have z : (match listAt h0 a with
      | some xs => ms xs env h0
      | none => .bad) = .ex e h' := z
    cases hl : listAt h0 a with
    | none => rw [hl] at z; cases z
    | some xs => rw [hl] at z; exact h xs env h0 e h' z
  | _ => cases z
theorem st_tup {es : List Expr} {k : Nat} {pos : Pos} {ms : DTs} {sl : List Nat} (hc : X.calm = true) (hs : es.all notStar = true) (hcm : CalmS ms) (hl : ∀ vs env h env' h', ms vs env h = .ok env' h' → vs.length = es.length) (h1 : STs X F b es ms sl) : ST X F b (.Tuple es k pos) (dTgTup ms) sl := by
  obtain ⟨k1, k2⟩ := each_len (env := X.env) hs
  have len : ∀ {E : XK} {f : Nat → Addr} {h : Heap} {H : Hp} {xs : List Val} {env : Env} {G : GG Env}, Post X.K F b E f h H (ms xs env h) G → xs.length = es.length := fun {E f h H xs env G} p => by
    cases hm : ms xs env h with
    | ok a h' => exact hl _ _ _ _ _ hm
    | ex e h' => exact absurd hm (hcm _ _ _ _ _)
    | bad => rw [hm] at p; exact p.elim
  refine ⟨fun W env f h σ H v x Q A r p => ?_⟩
  cases v with
  | tup xs =>
    obtain ⟨a, vs, rfl, hq, rs⟩ := r.tup_inv
    have p : Post X.K F b (wX W σ) f h H (ms xs env h) (GTg X.K F sl σ Q) := p
    refine PG.w (pg_tup hc (pgs_w (ts := es)) k1 k2) ⟨a, vs, rfl, hq, by rw [← rs.length]; exact len p, ?_⟩
    exact h1.run W env f h σ H xs vs Q A rs (Post.noex (fun e h' => hcm _ _ _ _ _) p)
  | lst a =>
    have p : Post X.K F b (wX W σ) f h H (match listAt h a with
      | some xs => ms xs env h
      | none => .bad) (GTg X.K F sl σ Q) := p
    obtain ⟨ea, _⟩ := r.lst_inv
    subst ea
    cases hla : listAt h a with
    | none => rw [hla] at p; exact p.elim
    | some xs =>
      rw [hla] at p
      obtain ⟨vs, hq, rs⟩ := listAt_of A.sim hla
      refine PG.w (pg_lst hc (pgs_w (ts := es)) k1 k2) ⟨f a, vs, rfl, hq, by rw [← rs.length]; exact len p, ?_⟩
      exact h1.run W env f h σ H xs vs Q A rs (Post.noex (fun e h' => hcm _ _ _ _ _) p)
  | _ => exact p.elim
/-- o[i] = v into a list of ours -/
theorem st_sub {e e2 : Expr} {m m2 : DE} {pos : Pos} (hs : notSlice e2 = true) (h1 : SE X F b e m) (h2 : SE X F b e2 m2) :
    ST X F b (.Subscript e e2 pos) (fun v env h => (m.v env h).bind fun x h1 => (m2.v env h1).bind fun y h2 => (putV b x y v h2).bind fun _ h3 => .ok env h3) [] := by
  refine ⟨fun W env f h σ H v z Q A r p => PG.w (pg_sub (pe_w (e := e)) (pe_w (e := e2)) set_list (fun v => by cases e2 <;> first | rfl | (simp [notSlice] at hs))) ?_⟩
  refine h1.v W env f h σ H _ A ((Post.bind p).mono fun x f1 h1 H1 S1 E1 q x' rx => ?_)
  have A1 := A.step S1 E1
  refine h2.v W env f1 h1 σ H1 _ A1 ((Post.bind q).mono fun y f2 h2 H2 S2 E2 q y' ry => ?_)
  have A2 := A1.step S2 E2
  have rx := E2.rep S1 rx
  have rz := (E1.trans S1 E2).rep A.sim r
  cases x with
  | lst a => cases y with
    | int k =>
      cases ry
      obtain ⟨ea, hlt⟩ := rx.lst_inv
      subst ea
      have q : Post X.K F b (wX W σ) f2 h2 H2 ((match h2[a]? with
        | some (.lst xs) => (match place xs.length k with
          | some j => if mayPut b a v then R.ok () (h2.set a (.lst (xs.set j v))) else .bad
          | none => .bad)
        | _ => .bad).bind fun _ h3 => .ok env h3) (GTg X.K F [] σ Q) := q
      cases hc : h2[a]? with
      | none => rw [hc] at q; exact q.elim
      | some c =>
        rw [hc] at q
        cases c with
        | ro xs => exact q.elim
        | lst xs =>
          cases hp : place xs.length k with
          | none =>
            have q : Post X.K F b (wX W σ) f2 h2 H2 ((match place xs.length k with
              | some j => if mayPut b a v then R.ok () (h2.set a (.lst (xs.set j v))) else .bad
              | none => .bad).bind fun _ h3 => .ok env h3) (GTg X.K F [] σ Q) := q
            rw [hp] at q; exact q.elim
          | some j =>
            have q : Post X.K F b (wX W σ) f2 h2 H2 ((match place xs.length k with
              | some j => if mayPut b a v then R.ok () (h2.set a (.lst (xs.set j v))) else .bad
              | none => .bad).bind fun _ h3 => .ok env h3) (GTg X.K F [] σ Q) := q
            rw [hp] at q
            obtain ⟨vs, hv, rs⟩ := S2.at_ a _ hc
            cases hm : mayPut b a v with
            | false =>
              have q : Post X.K F b (wX W σ) f2 h2 H2 ((if mayPut b a v then R.ok () (h2.set a (.lst (xs.set j v))) else .bad).bind fun _ h3 => .ok env h3) (GTg X.K F [] σ Q) := q
              rw [hm] at q; exact q.elim
            | true =>
              have q : Post X.K F b (wX W σ) f2 h2 H2 ((if mayPut b a v then R.ok () (h2.set a (.lst (xs.set j v))) else .bad).bind fun _ h3 => .ok env h3) (GTg X.K F [] σ Q) := q
              rw [hm] at q
              have q : Post X.K F b (wX W σ) f2 h2 H2 (.ok env (h2.set a (.lst (xs.set j v)))) (GTg X.K F [] σ Q) := q
              have hw := Reps.set rz j rs
              have S3 := S2.write hc hw
              have E3 : Ext b f2 h2 H2 f2 (h2.set a (.lst (xs.set j v))) (upd H2 (f2 a) (.lst (vs.set j z))) := Ext.write hc (may_set hm)
              refine ⟨f2 a, vs, k, j, rfl, rfl, hv, by rw [← rs.length]; exact place_ix hp, ?_⟩
              exact q _ _ S3 E3 σ (A2.step S3 E3).env fun _ _ => rfl
    | _ => exact q.elim
  | _ => cases y <;> exact q.elim
end
end Y

set_option Elab.async false
set_option linter.all false
set_option maxRecDepth 100000
set_option maxHeartbeats 4000000
/-! Snd9: list comprehensions. -/
namespace Y
open PySem PySem.Spec PyProof.Rows L2
def LenS (m : DTs) (n : Nat) : Prop := ∀ vs env h env' h', m vs env h = .ok env' h' → vs.length = n
theorem lenS_nil : LenS dTgNil 0 := fun vs env h env' h' e => by
  cases vs with
  | nil => rfl
  | cons _ _ => cases e
theorem lenS_cons {m : DT} {ms : DTs} {n : Nat} (h1 : LenS ms n) : LenS (dTgCons m ms) (n + 1) := fun vs env h env' h' e => by
  cases vs with
  | nil => cases e
  | cons v vs =>
    obtain ⟨a, h2, e1, e2⟩ := bind_ok (show (m v env h).bind (fun env1 h1 => ms vs env1 h1) = .ok env' h' from e)
    exact congrArg Nat.succ (h1 _ _ _ _ _ e2)
/-- a comprehension's block -/
abbrev blk (X : Cx) (scope : Scope) (s : Shared) (H : Hp) (C : Addr) (cl : List (Str × Addr)) (fp : List Addr) : Cx := X.blk s H scope (compEnvC scope cl C X.env) fp
/-- holds in each block -/
def InBlk (X : Cx) (scope : Scope) (P : Cx → Prop) : Prop := ∀ (s : Shared) (H : Hp) (C : Addr) (cl : List (Str × Addr)) (fp : List Addr), P (blk X scope s H C cl fp)

section
variable {K : PySem.W.Frag} {F : Adr} {b : Nat} {f : Nat → Addr} {h : Heap} {H : Hp} {D : Addr} {vs ws : List V}
theorem sqt_writeD (hD : H D = some (.lst vs)) (a : Addr) (us : List V) (q : SqT K H a us) : SqT K (upd H D (.lst ws)) a us := by
  rcases q with (q | ⟨u, q⟩) | q
  · exact .inl (.inl (by rw [upd_ne (ne_of q hD (by intro z; cases z))]; exact q))
  · exact .inl (.inr ⟨u, by rw [upd_ne (ne_of q hD (by intro z; cases z))]; exact q⟩)
  · exact .inr q
theorem Reps.writeD {xs : List Val} {us : List V} {n : Nat} (hD : H D = some (.lst vs)) (r : Reps K F f n H xs us) : Reps K F f n (upd H D (.lst ws)) xs us :=
  Reps.mono (sqt_writeD hD) (Nat.le_refl _) (fun _ _ => rfl) _ _ r
theorem Sim.writeD (S : Sim K F f H h) (hD : H D = some (.lst vs)) (hne : ∀ (i : Nat) (xs : List Val), h[i]? = some (.lst xs) → f i ≠ D) : Sim K F f (upd H D (.lst ws)) h := by
  refine ⟨S.inj, fun i c e => ?_⟩
  have q := S.at_ i c e
  cases c with
  | lst xs =>
    obtain ⟨us, h1, h2⟩ := q
    exact ⟨us, by rw [upd_ne (hne i xs e)]; exact h1, Reps.writeD hD h2⟩
  | ro xs =>
    obtain ⟨us, h1, h2⟩ := q
    refine ⟨us, ?_, Reps.writeD hD h2⟩
    rcases h1 with ⟨o, q⟩ | q
    · exact .inl ⟨o, by rw [upd_ne (ne_of q hD (by intro z; cases z))]; exact q⟩
    · exact .inr q
end
theorem Ext.writeD {b : Nat} {f f' : Nat → Addr} {h h' : Heap} {H H' : Hp} {D : Addr} {ws : List V} (hD : H D = none) (E : Ext b f h H f' h' H') : Ext b f h H f' h' (upd H' D (.lst ws)) :=
  ⟨E.le, E.agr, fun a o e hp => by rw [upd_ne (ne_of_none e hD)]; exact E.kp a o e hp, E.frs, E.bel, E.kind⟩
section
variable {X : Cx} {F : Adr} {b : Nat}
def bE (X : Cx) (scope : Scope) (e : Expr) : TE := fun σ H Q => ∀ (s : Shared) (H0 : Hp) (C : Addr) (cl : List (Str × Addr)) (fp : List Addr), wE (blk X scope s H0 C cl fp) e σ H Q
def bT (X : Cx) (scope : Scope) (e : Expr) : TT := fun σ H Q => ∀ (s : Shared) (H0 : Hp) (C : Addr) (cl : List (Str × Addr)) (fp : List Addr), wT (blk X scope s H0 C cl fp) e σ H Q
def bG (X : Cx) (scope : Scope) (e : Expr) : TG := fun v σ H Q => ∀ (s : Shared) (H0 : Hp) (C : Addr) (cl : List (Str × Addr)) (fp : List Addr), wG (blk X scope s H0 C cl fp) e v σ H Q
/-- the tests of a clause: none or one -/
def bTs (X : Cx) (scope : Scope) : List Expr → TT
  | [] => tYes
  | e :: _ => bT X scope e
def okTest (X : Cx) (F : Adr) (b : Nat) (scope : Scope) : List Expr → Option DE → Prop
  | [], none => True
  | [e], some d => InBlk X scope fun X' => SE X' F b e d
  | _, _ => False
/-- a turn's part: the target, the test, the element -/
def turnD (own : List Nat) (env : Env) (tg : DT) (c : Option DE) (e : DE) (v : Val) (h2 : Heap) : R (Option Val) := (tg v (Y.wipe env own) h2).bind fun env2 h3 => match c with
  | none => (e.v env2 h3).bind fun x h4 => .ok (some x) h4
  | some d => (d.t env2 h3).bind fun k h4 => if k then (e.v env2 h4).bind fun x h5 => .ok (some x) h5 else .ok none h4
theorem lcL_zero {elt : Val → Heap → R (Option Val)} {it : Iter} {i : Nat} {h : Heap} : lcL elt it 0 i h = match it.turn i h with
    | some none => .ok [] h
    | _ => .bad := rfl
theorem lcL_succ {elt : Val → Heap → R (Option Val)} {it : Iter} {n i : Nat} {h : Heap} : lcL elt it (n + 1) i h = match it.turn i h with
    | some (some v) => (match elt v h with
      | .ok (some x) h1 => (match lcL elt it n (i + 1) h1 with
        | .ok r h2 => .ok (x :: r) h2
        | _ => .bad)
      | .ok none h1 => lcL elt it n (i + 1) h1
      | .ex _ _ => .bad
      | .bad => .bad)
    | some none => .ok [] h
    | none => .bad := rfl
def finL (xs : List Val) (h : Heap) : R (List Val) := if isLen xs.length then .ok xs h else .bad
theorem lc_run {elt tg iter : Expr} {ifs : List Expr} {scope : Scope} {own : List (Str × Nat)} {sl : List Nat} {mt : DT} {mi : DI} {mc : Option DE} {me : DE} (hc : X.calm = true) (hN : X.N.Nodup) (ok : BlkOk X.N X.env.scope scope own)
    (hfs : ∀ x, foldedSetIterable iter X.env x = pure x) (hi : SI X F b tg iter mi) (ht : InBlk X scope fun X' => ST X' F b tg mt sl) (hcm : Calm mt) (hsl : ∀ i, i ∈ sl → i ∈ own.map (·.2)) (htest : okTest X F b scope ifs mc) (he : InBlk X scope fun X' => SE X' F b elt me)
    {σ : L2.St} {H : Hp} {Q : VK} {W : WX} {env : Env} {f : Nat → Addr} {h : Heap} (A : At X F b W env f h σ H) (P : Post X.K F b (wX W σ) f h H (dLc (own.map (·.2)) mt mi mc me env h) (GL X.K F H Q)) :
    tLc (wI X tg iter) (bG X scope tg) (bTs X scope ifs) (bE X scope elt) (own.map (·.2)) σ H Q := by
  refine hi.run W env f h σ H _ A ((Post.bind0 P).mono fun I f1 h1 H1 S1 E1 q J hJ => ?_)
  intro D hD
  have q : Post X.K F b (wX W σ) f h H ((lcL (turnD (own.map (·.2)) env mt mc me) I (I.len h1) 0 h1).bind finL) (GL X.K F H Q) := q
  have hD0 : H D = none := E1.none_of S1 hD
  -- what holds ahead of each turn
  refine ⟨fun i n H' => ∃ (f' : Nat → Addr) (h' : Heap) (acc : List Val) (vs : List V), H' D = some (.lst vs) ∧ (∀ (j : Nat) (ys : List Val), h'[j]? = some (.lst ys) → f' j ≠ D) ∧ Sim X.K F f' H' h' ∧ Ext b f1 h1 H1 f' h' H' ∧ Reps X.K F f' h'.length H' acc vs ∧
    Post X.K F b (wX W σ) f h H ((lcL (turnD (own.map (·.2)) env mt mc me) I n i h').bind fun r h2 => finL (acc ++ r) h2) (GL X.K F H Q), ?_, ?_⟩
  · refine ⟨I.len h1, f1, h1, [], [], upd_same, S1.ne_fresh hD, S1.fresh hD, Ext.fresh hD, .nil, ?_⟩
    exact q
  rintro i n H' ⟨f', h', acc, vs, hDv, hne, S', E', rs, p⟩
  have stop : I.turn i h' = some none → Post X.K F b (wX W σ) f h H (finL (acc ++ []) h') (GL X.K F H Q) → J.stop i H' ∧ Q (.ref D) H' := fun et p => by
    refine ⟨(hJ f' h' H' S' E' i).2 et, ?_⟩
    rw [List.append_nil] at p
    obtain ⟨_, p⟩ := Post.ite (c := isLen acc.length) (r := R.ok acc h') p
    exact p f' H' S' (E1.trans S1 E') D vs hDv hne hD0 rs
  cases n with
  | zero =>
    rw [lcL_zero] at p
    cases et : I.turn i h' with
    | none => rw [et] at p; exact p.elim
    | some o =>
      cases o with
      | some v => rw [et] at p; exact p.elim
      | none => rw [et] at p; exact .inl (stop et p)
  | succ n =>
    rw [lcL_succ] at p
    cases et : I.turn i h' with
    | none => rw [et] at p; exact p.elim
    | some o =>
      cases o with
      | none => rw [et] at p; exact .inl (stop et p)
      | some v =>
        rw [et] at p
        dsimp only at p
        refine .inr ⟨((hJ f' h' H' S' E' i).1 v et).1, _, fun H2 hw => ⟨n, Nat.lt_succ_self n, hw⟩, fun x H2 hy => ?_⟩
        obtain ⟨S2, E2, rx⟩ := ((hJ f' h' H' S' E' i).1 v et).2 x H2 hy
        have hDv2 : H2 D = some (.lst vs) := E2.kp D _ hDv hne
        -- the turn's parts are all right
        cases ee : turnD (own.map (·.2)) env mt mc me v h' with
        | bad => rw [ee] at p; exact p.elim
        | ex _ _ => rw [ee] at p; exact p.elim
        | ok o h3 =>
          rw [ee] at p
          obtain ⟨env2, h2, e1, e2⟩ := bind_ok ee
          intro s0 H0 C cl fp
          have A2 : At (blk X scope s0 H0 C cl fp) F b (fun _ _ _ _ => False) (Y.wipe env (own.map (·.2))) f' h' (L2.wipe σ (own.map (·.2))) H2 :=
            ⟨takes0, Nat.le_trans A.le (Nat.le_trans E1.le E'.le), S2, by
              have R := (A.step S1 E1).step S' E' |>.step S2 E2
              exact R.env.wipe _⟩
          refine (ht s0 H0 C cl fp).run _ _ f' h' _ H2 v x _ A2 rx ?_
          rw [e1]
          intro f3 H3 S3 E3 σ3 r3 w3
          have ew : L2.wipe σ3 (own.map (·.2)) = L2.wipe σ (own.map (·.2)) := by
            rw [w3 _ hsl, wipe_wipe]
          refine ⟨ew, ?_⟩
          have hDv3 : H3 D = some (.lst vs) := E3.kp D _ hDv2 hne
          -- from a state of the turn: how it ends
          have fin : ∀ {f4 : Nat → Addr} {H4 : Hp}, Sim X.K F f4 H4 h3 → Ext b f' h' H2 f4 h3 H4 → match o with
              | none => ∃ (f' : Nat → Addr) (h' : Heap) (acc : List Val) (vs : List V), H4 D = some (.lst vs) ∧ (∀ (j : Nat) (ys : List Val), h'[j]? = some (.lst ys) → f' j ≠ D) ∧ Sim X.K F f' H4 h' ∧ Ext b f1 h1 H1 f' h' H4 ∧ Reps X.K F f' h'.length H4 acc vs ∧
                  Post X.K F b (wX W σ) f h H ((lcL (turnD (own.map (·.2)) env mt mc me) I n (i + 1) h').bind fun r h2 => finL (acc ++ r) h2) (GL X.K F H Q)
              | some z => ∀ y, Rep X.K F f4 h3.length H4 z y → ∃ acc', H4 D = some (.lst acc') ∧ acc'.length < sizeLine ∧ ∃ (f' : Nat → Addr) (h' : Heap) (acc : List Val) (vs : List V), (upd H4 D (.lst (acc' ++ [y]))) D = some (.lst vs) ∧ (∀ (j : Nat) (ys : List Val), h'[j]? = some (.lst ys) → f' j ≠ D) ∧
                  Sim X.K F f' (upd H4 D (.lst (acc' ++ [y]))) h' ∧ Ext b f1 h1 H1 f' h' (upd H4 D (.lst (acc' ++ [y]))) ∧ Reps X.K F f' h'.length (upd H4 D (.lst (acc' ++ [y]))) acc vs ∧
                  Post X.K F b (wX W σ) f h H ((lcL (turnD (own.map (·.2)) env mt mc me) I n (i + 1) h').bind fun r h2 => finL (acc ++ r) h2) (GL X.K F H Q) := fun {f4 H4} S4 E4 => by
            have E04 : Ext b f' h' H' f4 h3 H4 := E2.trans S2 E4
            have hDv4 : H4 D = some (.lst vs) := E4.kp D _ hDv2 hne
            have hne4 : ∀ (j : Nat) (ys : List Val), h3[j]? = some (.lst ys) → f4 j ≠ D := fun j ys hj e => by
              by_cases hlt : j < h'.length
              · rw [E04.agr j hlt] at e
                cases hc : h'[j]? with
                | none => exact absurd (List.getElem?_eq_none_iff.mp hc) (by omega)
                | some c =>
                  cases c with
                  | lst us => exact hne j us hc e
                  | ro us =>
                    have := E04.kind j _ hc
                    have this : h3[j]? = some (.ro us) := this
                    rw [hj] at this; cases this
              · have z := E04.frs j (Nat.le_of_not_lt hlt) (List.getElem?_eq_some_iff.mp hj).1
                rw [e, hDv] at z; cases z
            have E14 : Ext b f1 h1 H1 f4 h3 H4 := E'.trans S' E04
            have rs4 := E04.reps S' rs
            cases o with
            | none => exact ⟨f4, h3, acc, vs, hDv4, hne4, S4, E14, rs4, p⟩
            | some z =>
              intro y ry
              have p : Post X.K F b (wX W σ) f h H (R.bind (α := List Val) (match lcL (turnD (own.map (·.2)) env mt mc me) I n (i + 1) h3 with
                | .ok r h2 => R.ok (z :: r) h2
                | _ => .bad) fun r h2 => finL (acc ++ r) h2) (GL X.K F H Q) := p
              cases hl : lcL (turnD (own.map (·.2)) env mt mc me) I n (i + 1) h3 with
              | ex _ _ => rw [hl] at p; exact p.elim
              | bad => rw [hl] at p; exact p.elim
              | ok r h5 =>
                rw [hl] at p
                have p : Post X.K F b (wX W σ) f h H (finL (acc ++ z :: r) h5) (GL X.K F H Q) := p
                obtain ⟨hlen, _⟩ := Post.ite (c := isLen (acc ++ z :: r).length) (r := R.ok (acc ++ z :: r) h5) p
                have hlen2 := isLen_le hlen
                rw [List.length_append, List.length_cons] at hlen2
                refine ⟨vs, hDv4, by rw [← rs4.length]; omega, f4, h3, acc ++ [z], vs ++ [y], upd_same, hne4, ?_, ?_, ?_, ?_⟩
                · exact Sim.writeD S4 hDv4 hne4
                · exact Ext.writeD hD E14
                · exact (Reps.writeD hDv4 (rs4.app (.cons ry .nil)))
                · rw [hl]
                  show Post X.K F b (wX W σ) f h H (finL ((acc ++ [z]) ++ r) h5) (GL X.K F H Q)
                  rw [List.append_assoc]
                  exact p
          have A3 : ∀ (s1 : Shared) (K1 : Hp) (C1 : Addr) (cl1 : List (Str × Addr)) (fp1 : List Addr), At (blk X scope s1 K1 C1 cl1 fp1) F b (fun _ _ _ _ => False) env2 f3 h2 σ3 H3 := fun s1 K1 C1 cl1 fp1 =>
            ⟨takes0, Nat.le_trans A.le (Nat.le_trans E1.le (Nat.le_trans E'.le E3.le)), S3, r3⟩
          -- the element
          have elem : ∀ {f4 : Nat → Addr} {h4 : Heap} {H4 : Hp} {z : Val}, o = some z → me.v env2 h4 = .ok z h3 → Sim X.K F f4 H4 h4 → Ext b f' h' H2 f4 h4 H4 → (∀ (s1 : Shared) (K1 : Hp) (C1 : Addr) (cl1 : List (Str × Addr)) (fp1 : List Addr), At (blk X scope s1 K1 C1 cl1 fp1) F b (fun _ _ _ _ => False) env2 f4 h4 σ3 H4) →
              bE X scope elt σ3 H4 fun y H5 => ∃ acc', H5 D = some (.lst acc') ∧ acc'.length < sizeLine ∧ ∃ (f' : Nat → Addr) (h' : Heap) (acc : List Val) (vs : List V), (upd H5 D (.lst (acc' ++ [y]))) D = some (.lst vs) ∧ (∀ (j : Nat) (ys : List Val), h'[j]? = some (.lst ys) → f' j ≠ D) ∧
                  Sim X.K F f' (upd H5 D (.lst (acc' ++ [y]))) h' ∧ Ext b f1 h1 H1 f' h' (upd H5 D (.lst (acc' ++ [y]))) ∧ Reps X.K F f' h'.length (upd H5 D (.lst (acc' ++ [y]))) acc vs ∧
                  Post X.K F b (wX W σ) f h H ((lcL (turnD (own.map (·.2)) env mt mc me) I n (i + 1) h').bind fun r h2 => finL (acc ++ r) h2) (GL X.K F H Q) := fun {f4 h4 H4 z} eo ev S4 E4 A4 s1 K1 C1 cl1 fp1 => by
            subst eo
            refine (he s1 K1 C1 cl1 fp1).v _ _ f4 h4 _ H4 _ (A4 s1 K1 C1 cl1 fp1) ?_
            rw [ev]
            intro f5 H5 S5 E5 y ry
            exact fin S5 (E4.trans S4 E5) y ry
          cases mc with
          | none =>
            cases ifs with
            | cons t0 ts0 => exact (show False by cases ts0 <;> exact htest).elim
            | nil =>
              obtain ⟨z, h4, e3, e4⟩ := bind_ok e2
              cases e4
              exact elem rfl e3 S3 E3 A3
          | some d =>
            cases ifs with
            | nil => exact (show False from htest).elim
            | cons t0 ts0 =>
              cases ts0 with
              | cons t0 ts0 => exact (show False by cases ts0 <;> exact htest).elim
              | nil =>
                obtain ⟨k, h4, e3, e4⟩ := bind_ok e2
                intro s1 K1 C1 cl1 fp1
                refine (htest s1 K1 C1 cl1 fp1).t _ _ f3 h2 _ H3 _ (A3 s1 K1 C1 cl1 fp1) ?_
                rw [e3]
                intro f4 H4 S4 E4
                have E34 := E3.trans S3 E4
                cases k with
                | true =>
                  rw [if_pos rfl] at e4
                  rw [if_pos rfl]
                  obtain ⟨z, h5, e5, e6⟩ := bind_ok e4
                  cases e6
                  exact elem rfl e5 S4 E34 fun s1 K1 C1 cl1 fp1 => (A3 s1 K1 C1 cl1 fp1).step S4 E4
                | false =>
                  rw [if_neg (by decide)] at e4
                  rw [if_neg (by decide)]
                  cases e4
                  exact fin S4 E34
/-- the block's parts -/
theorem pts_b {ifs : List Expr} {mc : Option DE} {scope : Scope} (h : okTest X F b scope ifs mc) : ∀ (s : Shared) (H : Hp) (C : Addr) (cl : List (Str × Addr)) (fp : List Addr), PTs (X.blk s H scope (compEnvC scope cl C X.env) fp) ifs (bTs X scope ifs) := by
  cases ifs with
  | nil => exact fun _ _ _ _ _ => pts_nil
  | cons t0 ts0 =>
    cases ts0 with
    | cons _ _ => exact (show False by cases mc <;> exact h).elim
    | nil => exact fun s H C cl fp => pts_one ⟨fun pins s1 σ H1 Q I q => pt_w.run pins s1 σ H1 Q I (q s H C cl fp)⟩
theorem sl_lc {elt tg iter : Expr} {ifs : List Expr} {scope : Scope} {own : List (Str × Nat)} {sl : List Nat} {pos : Pos} {mt : DT} {mi : DI} {mc : Option DE} {me : DE} (hc : X.calm = true) (hN : X.N.Nodup) (ok : BlkOk X.N X.env.scope scope own)
    (hfs : ∀ x, foldedSetIterable iter X.env x = pure x) (hi : SI X F b tg iter mi) (ht : InBlk X scope fun X' => ST X' F b tg mt sl) (hcm : Calm mt) (hsl : ∀ i, i ∈ sl → i ∈ own.map (·.2)) (htest : okTest X F b scope ifs mc) (he : InBlk X scope fun X' => SE X' F b elt me) : SL X F b (.ListComp elt [⟨tg, iter, ifs, 0⟩] scope pos) (dLc (own.map (·.2)) mt mi mc me) :=
  ⟨fun W env f h σ H Q A P => PE.w (pe_lc (wi := wI X tg iter) (g := bG X scope tg) (tt := bTs X scope ifs) (te := bE X scope elt) hc hN pi_w ok (fun s H C cl fp => ⟨fun pins s1 σ H1 v u Q I r q => pg_w.run pins s1 σ H1 v u Q I r (q s H C cl fp)⟩) (pts_b htest) (fun s H C cl fp => ⟨fun pins s1 σ H1 Q I q => pe_w.run pins s1 σ H1 Q I (q s H C cl fp)⟩) hfs)
    (lc_run hc hN ok hfs hi ht hcm hsl htest he A P)⟩
end
end Y

set_option Elab.async false
set_option linter.all false
set_option maxRecDepth 100000
set_option maxHeartbeats 4000000
/-! Snd10: statements. -/
namespace Y
open PySem PySem.Spec PyProof.Rows L2
def wS (X : Cx) (st : Stmt) : TS := fun D σ H => ∀ (pins : List (Addr × Obj)) (s : Shared), Inv X pins σ H s → wpAny (model X.prog X.w) X.A (exec st X.env) (SP X pins D) X.xe s
def wSs (X : Cx) (st : List Stmt) : TS := fun D σ H => ∀ (pins : List (Addr × Obj)) (s : Shared), Inv X pins σ H s → wpAny (model X.prog X.w) X.A (execs st X.env) (SP X pins D) X.xe s
theorem ps_w {X : Cx} {st : Stmt} : PS X st (wS X st) := ⟨fun pins s _ _ _ I h => h pins s I⟩
theorem pss_w {X : Cx} {st : List Stmt} : PSs X st (wSs X st) := ⟨fun pins s _ _ _ I h => h pins s I⟩
theorem PS.w {X : Cx} {st : Stmt} {t : TS} (p : PS X st t) {σ : L2.St} {H : Hp} {D : Ends} (h : t D σ H) : wS X st D σ H := fun pins s I => p.run pins s σ H D I h
theorem PSs.w {X : Cx} {st : List Stmt} {t : TS} (p : PSs X st t) {σ : L2.St} {H : Hp} {D : Ends} (h : t D σ H) : wSs X st D σ H := fun pins s I => p.run pins s σ H D I h
/-- what is promised behind a statement -/
def PostS (K : PySem.W.Frag) (F : Adr) (b : Nat) (W : WX) (f : Nat → Addr) (h : Heap) (H : Hp) (r : RS) (D : Ends) : Prop := match r with
  | .nx env h' => ∀ f' H' σ', Sim K F f' H' h' → Ext b f h H f' h' H' → REnv K F f' h'.length H' env σ' → D.nx σ' H'
  | .ret v h' => ∀ f' H' x, Sim K F f' H' h' → Ext b f h H f' h' H' → Rep K F f' h'.length H' v x → D.rt x H'
  | .brk env h' => ∀ f' H' σ', Sim K F f' H' h' → Ext b f h H f' h' H' → REnv K F f' h'.length H' env σ' → D.bk σ' H'
  | .ct env h' => ∀ f' H' σ', Sim K F f' H' h' → Ext b f h H f' h' H' → REnv K F f' h'.length H' env σ' → D.ct σ' H'
  | .ex e env h' => ∀ f' H' σ' cls d, Sim K F f' H' h' → Ext b f h H f' h' H' → REnv K F f' h'.length H' env σ' → RepX K F f' h'.length H' e cls d → W cls d σ' H'
  | .bad => False
section
variable {K : PySem.W.Frag} {F : Adr} {b : Nat} {W : WX} {f f1 : Nat → Addr} {h h1 : Heap} {H H1 : Hp} {r : RS} {D D' : Ends}
theorem PostS.shift (S : Sim K F f1 H1 h1) (x : Ext b f h H f1 h1 H1) (p : PostS K F b W f h H r D) : PostS K F b W f1 h1 H1 r D := by
  cases r with
  | nx env h' => exact fun f' H' σ' S' E' => p f' H' σ' S' (x.trans S E')
  | ret v h' => exact fun f' H' σ' S' E' => p f' H' σ' S' (x.trans S E')
  | brk env h' => exact fun f' H' σ' S' E' => p f' H' σ' S' (x.trans S E')
  | ct env h' => exact fun f' H' σ' S' E' => p f' H' σ' S' (x.trans S E')
  | ex e env h' => exact fun f' H' σ' cls d S' E' => p f' H' σ' cls d S' (x.trans S E')
  | bad => exact p
end
section
variable {X : Cx} {F : Adr} {b : Nat} {W : WX} {env : Env} {f : Nat → Addr} {h : Heap} {σ : L2.St} {H : Hp} {D : Ends}
theorem PostS.bind {α : Type} {r : R α} {k : α → Heap → RS} (A : At X F b W env f h σ H) (p : PostS X.K F b W f h H (r.then env k) D) : Post X.K F b (wX W σ) f h H r fun a f1 h1 H1 => PostS X.K F b W f1 h1 H1 (k a h1) D := by
  cases r with
  | ok a h' => exact fun f' H' S' E' => PostS.shift S' E' p
  | ex e h' => exact fun f' H' cls d S' E' rx => p f' H' σ cls d S' E' (A.step S' E').env rx
  | bad => exact p
theorem PostS.bind0 {α : Type} {r : R α} {k : α → Heap → RS} (A : At X F b W env f h σ H) (p : PostS X.K F b W f h H (r.then env k) D) : Post X.K F b (wX W σ) f h H r fun a _ h1 _ => PostS X.K F b W f h H (k a h1) D := by
  cases r with
  | ok a h' => exact fun f' H' S' E' => p
  | ex e h' => exact fun f' H' cls d S' E' rx => p f' H' σ cls d S' E' (A.step S' E').env rx
  | bad => exact p
theorem PostS.nx {env' : Env} {σ' : L2.St} (S : Sim X.K F f H h) (p : PostS X.K F b W f h H (.nx env' h) D) (R : REnv X.K F f h.length H env' σ') : D.nx σ' H := p f H σ' S Ext.refl R
end
structure SS (X : Cx) (F : Adr) (b : Nat) (st : Stmt) (m : DS) : Prop where
  run : ∀ (W : WX) (env : Env) (f : Nat → Addr) (h : Heap) (σ : L2.St) (H : Hp) (D : Ends), At X F b W env f h σ H → PostS X.K F b W f h H (m env h) D → wS X st D σ H
structure SSs (X : Cx) (F : Adr) (b : Nat) (st : List Stmt) (m : DS) : Prop where
  run : ∀ (W : WX) (env : Env) (f : Nat → Addr) (h : Heap) (σ : L2.St) (H : Hp) (D : Ends), At X F b W env f h σ H → PostS X.K F b W f h H (m env h) D → wSs X st D σ H
section
variable {X : Cx} {F : Adr} {b : Nat}
theorem ss_pass {pos : Pos} : SS X F b (.Pass pos) (fun env h => .nx env h) := ⟨fun W env f h σ H D A p => PS.w ps_pass (PostS.nx A.sim p A.env)⟩
theorem ss_brk {pos : Pos} : SS X F b (.Break pos) (fun env h => .brk env h) := ⟨fun W env f h σ H D A p => PS.w ps_break (p f H σ A.sim Ext.refl A.env)⟩
theorem ss_ct {pos : Pos} : SS X F b (.Continue pos) (fun env h => .ct env h) := ⟨fun W env f h σ H D A p => PS.w ps_continue (p f H σ A.sim Ext.refl A.env)⟩
theorem ss_doc {x j pos pos'} : SS X F b (.Expr (.Constant (.str x) j pos) pos') (fun env h => .nx env h) := ⟨fun W env f h σ H D A p => PS.w ps_doc (PostS.nx A.sim p A.env)⟩
theorem ss_never {st : Stmt} : SS X F b st (fun _ _ => .bad) := ⟨fun W env f h σ H D A p => p.elim⟩
theorem ss_expr {e : Expr} {m : DE} {pos : Pos} (hs : swapsWith e none pos.line X.env = pure false) (h1 : SE X F b e m) : SS X F b (.Expr e pos) (fun env h => (m.v env h).then env fun _ h1 => .nx env h1) :=
  ⟨fun W env f h σ H D A p => PS.w (ps_expr (pe_w (e := e)) hs) (h1.v W env f h σ H _ A ((PostS.bind A p).mono fun v f1 h1 H1 S1 E1 q x rx => q.nx S1 (A.step S1 E1).env))⟩
theorem ss_ret {e : Expr} {m : DE} {pos : Pos} (h1 : SE X F b e m) : SS X F b (.Return (some e) pos) (fun env h => (m.v env h).then env fun v h1 => .ret v h1) :=
  ⟨fun W env f h σ H D A p => PS.w (ps_ret (pe_w (e := e))) (h1.v W env f h σ H _ A ((PostS.bind A p).mono fun v f1 h1 H1 S1 E1 q x rx => q f1 H1 x S1 Ext.refl rx))⟩
theorem ss_retN {pos : Pos} : SS X F b (.Return none pos) (fun _ h => .ret .non h) := ⟨fun W env f h σ H D A p => PS.w ps_retN (p f H _ A.sim Ext.refl .non)⟩
theorem ss_ife {c : Expr} {mc : DE} {sa sb : List Stmt} {ma mb : DS} {pos : Pos} (hc : SE X F b c mc) (ha : SSs X F b sa ma) (hb : SSs X F b sb mb) : SS X F b (.If c sa sb pos) (fun env h => (mc.t env h).then env fun k h1 => if k then ma env h1 else mb env h1) := by
  refine ⟨fun W env f h σ H D A p => PS.w (ps_if (pt_w (e := c)) (pss_w (st := sa)) (pss_w (st := sb))) ?_⟩
  refine hc.t W env f h σ H _ A ((PostS.bind A p).mono fun k f1 h1 H1 S1 E1 q => ?_)
  cases k with
  | true => exact ha.run W env f1 h1 σ H1 D (A.step S1 E1) q
  | false => exact hb.run W env f1 h1 σ H1 D (A.step S1 E1) q
theorem sss_nil : SSs X F b [] (fun env h => .nx env h) := ⟨fun W env f h σ H D A p => PSs.w pss_nil (PostS.nx A.sim p A.env)⟩
theorem sss_cons {st : Stmt} {rest : List Stmt} {m r : DS} (h1 : SS X F b st m) (h2 : SSs X F b rest r) : SSs X F b (st :: rest) (s_cons m r) := by
  refine ⟨fun W env f h σ H D A p => PSs.w (pss_cons (ps_w (st := st)) (pss_w (st := rest))) ?_⟩
  refine h1.run W env f h σ H _ A ?_
  have p : PostS X.K F b W f h H (match m env h with
    | .nx env' h' => r env' h'
    | q => q) D := p
  cases hm : m env h with
  | nx env' h' =>
    rw [hm] at p
    intro f' H' σ' S' E' R'
    exact h2.run W env' f' h' σ' H' D ⟨A.tk, Nat.le_trans A.le E'.le, S', R'⟩ (PostS.shift S' E' p)
  | ret v h' => rw [hm] at p; exact p
  | brk env' h' => rw [hm] at p; exact p
  | ct env' h' => rw [hm] at p; exact p
  | ex e env' h' => rw [hm] at p; exact p
  | bad => rw [hm] at p; exact p.elim
/-- target = value -/
theorem ss_asg {tg e : Expr} {m : DE} {mt : DT} {sl : List Nat} {pos : Pos} (hs : swapsWithSole [tg] e pos.line X.env = pure false) (hw : swappedStores [tg] e X.env = pure none) (hn : notStar tg = true) (h1 : SE X F b e m) (h2 : ST X F b tg mt sl) :
    SS X F b (.Assign [tg] e pos) (fun env h => (m.v env h).then env fun v h1 => asgV v env h1 mt) := by
  refine ⟨fun W env f h σ H D A p => PS.w (ps_asg (pe_w (e := e)) (pg_w (tg := tg)) hs hw (by rw [each_cons hn]; rfl)) ?_⟩
  refine h1.v W env f h σ H _ A ((PostS.bind A p).mono fun v f1 h1 H1 S1 E1 q x rx => ?_)
  have A1 := A.step S1 E1
  exact h2.run W env f1 h1 σ H1 v x _ A1 rx ((PostS.bind A1 q).mono fun env2 f2 h2 H2 S2 E2 q2 σ' R' _ => q2.nx S2 R')
/-- name = value -/
theorem ss_set {i : Nat} {x : Str} {e : Expr} {m : DE} {pos pos' : Pos} (hN : X.N.Nodup) (hi : X.N[i]? = some x) (hx : Loc X.env.scope x) (hf : X.fn x = true ∨ X.env.scope.names.lookup x = some .local) (hs : swapsWith e (some (.Name x pos')) pos.line X.env = pure false) (h1 : SE X F b e m) :
    SS X F b (.Assign [.Name x pos'] e pos) (fun env h => (m.v env h).then env fun v h1 => asgV v env h1 fun v env h => .ok (env.set i (some v)) h) := by
  refine ⟨fun W env f h σ H D A p => PS.w (ps_set hN hi hx (pe_w (e := e)) hs hf) ?_⟩
  refine h1.v W env f h σ H _ A ((PostS.bind A p).mono fun v f1 h1 H1 S1 E1 q x rx => ?_)
  exact q.nx S1 ((A.step S1 E1).env.set rx)
/-- name = [..], the two at one line -/
theorem ss_setLc {i : Nat} {x : Str} {pos pos' : Pos} (hi : X.N[i]? = some x) (hxl : X.env.scope.names.lookup x = some .local) {elt tg iter : Expr} {ifs : List Expr} {scope : Scope} {own : List (Str × Nat)} {sl : List Nat} {mt : DT} {mi : DI} {mc : Option DE} {me : DE} {lpos : Pos} (hc : X.calm = true) (hN : X.N.Nodup) (ok : BlkOk X.N X.env.scope scope own)
    (hsw : swapsWith (.ListComp elt [⟨tg, iter, ifs, 0⟩] scope lpos) (some (.Name x pos')) pos.line X.env = pure true)
    (hfs : ∀ x, foldedSetIterable iter X.env x = pure x) (hit : SI X F b tg iter mi) (ht : InBlk X scope fun X' => ST X' F b tg mt sl) (hcm : Calm mt) (hsl : ∀ i, i ∈ sl → i ∈ own.map (·.2)) (htest : okTest X F b scope ifs mc) (he : InBlk X scope fun X' => SE X' F b elt me) :
    SS X F b (.Assign [.Name x pos'] (.ListComp elt [⟨tg, iter, ifs, 0⟩] scope lpos) pos) (fun env h => ((byV fun env h => (dLc (own.map (·.2)) mt mi mc me env h).bind new).v env h).then env fun v h1 => asgV v env h1 fun v env h => .ok (env.set i (some v)) h) := by
  refine ⟨fun W env f h σ H D A p => PS.w (ps_setLc (wi := wI X tg iter) (g := bG X scope tg) (tt := bTs X scope ifs) (te := bE X scope elt) hc hN hi hxl hsw pi_w ok (fun s H C cl fp => ⟨fun pins s1 σ H1 v u Q I r q => pg_w.run pins s1 σ H1 v u Q I r (q s H C cl fp)⟩) (pts_b htest) (fun s H C cl fp => ⟨fun pins s1 σ H1 Q I q => pe_w.run pins s1 σ H1 Q I (q s H C cl fp)⟩) hfs) ?_⟩
  refine lc_run hc hN ok hfs hit ht hcm hsl htest he A (W := W) ?_
  have p1 := PostS.bind0 A p
  refine (Post.bind0 p1).mono fun xs f1 h1 H1 S1 E1 q L vs hL hne hL0 rs => ?_
  have S2 := S1.take_in hL hne rs
  have E2 : Ext b f h H (addr f1 h1.length L) (h1 ++ [.lst xs]) H1 := Ext.take_in S1 E1 hL0 A.le
  exact q _ _ S2 E2 _ _ _ S2 E2 ((A.step S2 E2).env.set Rep.taken)
/-- a, b = x, y -/
theorem ss_par2 {i j : Nat} {x y : Str} {e1 e2 : Expr} {m1 m2 : DE} {px py pt pos : Pos} {kt k2 pt2} (hc : X.calm = true) (hN : X.N.Nodup) (hi : X.N[i]? = some x) (hj : X.N[j]? = some y) (hij : i ≠ j)
    (hx : X.env.scope.names.lookup x = some .local) (hy : X.env.scope.names.lookup y = some .local)
    (hw : swappedStores [.Tuple [.Name x px, .Name y py] kt pt] (.Tuple [e1, e2] k2 pt2) X.env = pure (some [x, y]))
    (hs : swapsWithSole [.Tuple [.Name x px, .Name y py] kt pt] (.Tuple [e1, e2] k2 pt2) pos.line X.env = pure false)
    (n1 : notStar e1 = true) (n2 : notStar e2 = true) (h1 : SE X F b e1 m1) (h2 : SE X F b e2 m2) :
    SS X F b (.Assign [.Tuple [.Name x px, .Name y py] kt pt] (.Tuple [e1, e2] k2 pt2) pos) (fun env h => (m1.v env h).then env fun v h1 => (m2.v env h1).then env fun u h2 => .nx ((env.set i (some v)).set j (some u)) h2) := by
  refine ⟨fun W env f h σ H D A p => PS.w (ps_par hc hN hi hj hij hx hy (pa_cons (pe_w (e := e1)) (pa_cons (pe_w (e := e2)) pa_nil (star_no n2)) (star_no n1)) hw hs) ?_⟩
  refine h1.v W env f h σ H _ A ((PostS.bind A p).mono fun v f1 h1 H1 S1 E1 q v' rv => ?_)
  have A1 := A.step S1 E1
  refine h2.v W env f1 h1 σ H1 _ A1 ((PostS.bind A1 q).mono fun u f2 h2 H2 S2 E2 q u' ru => ?_)
  exact ⟨v', u', rfl, q.nx S2 (((A1.step S2 E2).env.set (E2.rep S1 rv)).set ru)⟩
theorem ss_par3 {i j l : Nat} {x y z : Str} {e1 e2 e3 : Expr} {m1 m2 m3 : DE} {px py pz pt pos : Pos} {kt k2 pt2} (hc : X.calm = true) (hN : X.N.Nodup) (hi : X.N[i]? = some x) (hj : X.N[j]? = some y) (hl : X.N[l]? = some z) (hij : i ≠ j) (hil : i ≠ l) (hjl : j ≠ l)
    (hx : X.env.scope.names.lookup x = some .local) (hy : X.env.scope.names.lookup y = some .local) (hz : X.env.scope.names.lookup z = some .local)
    (hw : swappedStores [.Tuple [.Name x px, .Name y py, .Name z pz] kt pt] (.Tuple [e1, e2, e3] k2 pt2) X.env = pure (some [x, y, z]))
    (hs : swapsWithSole [.Tuple [.Name x px, .Name y py, .Name z pz] kt pt] (.Tuple [e1, e2, e3] k2 pt2) pos.line X.env = pure false)
    (n1 : notStar e1 = true) (n2 : notStar e2 = true) (n3 : notStar e3 = true) (h1 : SE X F b e1 m1) (h2 : SE X F b e2 m2) (h3 : SE X F b e3 m3) :
    SS X F b (.Assign [.Tuple [.Name x px, .Name y py, .Name z pz] kt pt] (.Tuple [e1, e2, e3] k2 pt2) pos) (fun env h => (m1.v env h).then env fun v h1 => (m2.v env h1).then env fun u h2 => (m3.v env h2).then env fun w h3 => .nx (((env.set i (some v)).set j (some u)).set l (some w)) h3) := by
  refine ⟨fun W env f h σ H D A p => PS.w (ps_par3 hc hN hi hj hl hij hil hjl hx hy hz (pa_cons (pe_w (e := e1)) (pa_cons (pe_w (e := e2)) (pa_cons (pe_w (e := e3)) pa_nil (star_no n3)) (star_no n2)) (star_no n1)) hw hs) ?_⟩
  refine h1.v W env f h σ H _ A ((PostS.bind A p).mono fun v f1 h1 H1 S1 E1 q v' rv => ?_)
  have A1 := A.step S1 E1
  refine h2.v W env f1 h1 σ H1 _ A1 ((PostS.bind A1 q).mono fun u f2 h2 H2 S2 E2 q u' ru => ?_)
  have A2 := A1.step S2 E2
  refine h3.v W env f2 h2 σ H2 _ A2 ((PostS.bind A2 q).mono fun w f3 h3 H3 S3 E3 q w' rw' => ?_)
  exact ⟨v', u', w', rfl, q.nx S3 ((((A2.step S3 E3).env.set (E3.rep S2 (E2.rep S1 rv))).set (E3.rep S2 ru)).set rw')⟩
def augOp : Operator → Bool
  | .Add => true
  | .Sub => true
  | .FloorDiv => true
  | _ => false
/-- name op= value -/
theorem ss_aug {i : Nat} {x : Str} {op : Operator} {e : Expr} {m : DE} {pos pos' : Pos} (ho : augOp op = true) (hN : X.N.Nodup) (hi : X.N[i]? = some x) (hx : Loc X.env.scope x) (hf : X.fn x = true ∨ X.env.scope.names.lookup x = some .local) (h1 : SE X F b e m) :
    SS X F b (.AugAssign (.Name x pos') op e pos) (fun env h => match env.get i with
      | some x => (m.v env h).then env fun y h1 => (augV op x y h1).then env fun z h2 => .nx (env.set i (some z)) h2
      | none => .bad) := by
  refine ⟨fun W env f h σ H D A p => ?_⟩
  cases hg : env.get i with
  | none => rw [hg] at p; exact p.elim
  | some v =>
    rw [hg] at p
    have e2 : env[i]? = some (some v) := by
      unfold Env.get at hg
      split at hg
      · rename_i u hu
        rw [hu, hg]
      · cases hg
    obtain ⟨x', k1, k2⟩ := A.env.at_ i v e2
    have go : ∀ {ti : TIp} (ho : PIp X op ti) (hh : ∀ y y' f1 h1 H1, At X F b W env f1 h1 σ H1 → Rep X.K F f1 h1.length H1 v x' → Rep X.K F f1 h1.length H1 y y' → PostS X.K F b W f1 h1 H1 ((augV op v y h1).then env fun z h2 => .nx (env.set i (some z)) h2) D → ti x' y' H1 fun z H2 => D.nx (σ.set i (some z)) H2), wS X (.AugAssign (.Name x pos') op e pos) D σ H := fun {ti} ho hh => by
      refine PS.w (ps_aug hN hi hx (pe_w (e := e)) ho hf) ⟨x', k1, ?_⟩
      refine h1.v W env f h σ H _ A ((PostS.bind A p).mono fun y f1 h1 H1 S1 E1 q y' ry => ?_)
      exact hh y y' f1 h1 H1 (A.step S1 E1) (E1.rep A.sim k2) ry q
    cases op with
    | Add =>
      refine go ip_add fun y y' f1 h1 H1 A1 rv ry q => ?_
      cases v with
      | int n => cases y with
        | int k =>
          cases rv; cases ry
          exact ⟨n, k, rfl, rfl, q.nx A1.sim (A1.env.set (.int _))⟩
        | _ => exact q.elim
      | _ => exact q.elim
    | Sub =>
      refine go ip_sub fun y y' f1 h1 H1 A1 rv ry q => ?_
      cases v with
      | int n => cases y with
        | int k =>
          cases rv; cases ry
          exact ⟨n, k, rfl, rfl, q.nx A1.sim (A1.env.set (.int _))⟩
        | _ => exact q.elim
      | _ => exact q.elim
    | FloorDiv =>
      refine go iop_fdiv fun y y' f1 h1 H1 A1 rv ry q => ?_
      cases v with
      | int n => cases y with
        | int k =>
          cases rv; cases ry
          have q : PostS X.K F b W f1 h1 H1 ((if decide (0 < k) && decide (k < 1073741824) then R.ok (Val.int (n / k)) h1 else .bad).then env fun z h2 => .nx (env.set i (some z)) h2) D := q
          cases hl : decide (0 < k) && decide (k < 1073741824) with
          | false => rw [hl] at q; exact q.elim
          | true =>
            rw [hl] at q
            obtain ⟨a, c⟩ := Bool.and_eq_true_iff.mp hl
            have q : PostS X.K F b W f1 h1 H1 (.nx (env.set i (some (.int (n / k)))) h1) D := q
            exact ⟨n, k, rfl, rfl, ⟨of_decide_eq_true a, of_decide_eq_true c⟩, q.nx A1.sim (A1.env.set (.int _))⟩
        | _ => exact q.elim
      | _ => exact q.elim
    | _ => cases ho
theorem whileL_succ {test : Env → Heap → R Bool} {body : Env → Heap → RS} {n : Nat} {env : Env} {h : Heap} : whileL test body (n + 1) env h = (test env h).then env fun k h1 => if k then (match body env h1 with
      | .nx env' h' => whileL test body n env' h'
      | .ct env' h' => whileL test body n env' h'
      | .brk env' h' => .nx env' h'
      | .ret v h' => .ret v h'
      | .ex e env' h' => .ex e env' h'
      | .bad => .bad) else .nx env h1 := by
  show (match test env h with
    | .ok true h1 => (match body env h1 with
      | .nx env' h' => whileL test body n env' h'
      | .ct env' h' => whileL test body n env' h'
      | .brk env' h' => .nx env' h'
      | .ret v h' => .ret v h'
      | .ex e env' h' => .ex e env' h'
      | .bad => .bad)
    | .ok false h1 => .nx env h1
    | .ex e h1 => .ex e env h1
    | .bad => .bad) = _
  cases test env h with
  | ok k h1 => cases k <;> rfl
  | ex e h1 => rfl
  | bad => rfl
theorem ss_whl {c : Expr} {mc : DE} {sb : List Stmt} {mb : DS} {pos : Pos} (hp : PassesOwn (model X.prog X.w) X.A X.env X.xe) (hc : SE X F b c mc) (hb : SSs X F b sb mb) : SS X F b (.While c sb [] pos) (fun env h => whileL mc.t mb fuelW env h) := by
  refine ⟨fun W env f h σ H D A p => PS.w (ps_while hp (pt_w (e := c)) (pss_w (st := sb))) ?_⟩
  have p : PostS X.K F b W f h H (whileL mc.t mb fuelW env h) D := p
  generalize fuelW = n at p
  refine ⟨fun n σ' H' => ∃ f' h' env', At X F b W env' f' h' σ' H' ∧ PostS X.K F b W f' h' H' (whileL mc.t mb n env' h') D, ⟨n, f, h, env, A, p⟩, ?_⟩
  rintro m σ' H' ⟨f', h', env', A', p⟩
  cases m with
  | zero => exact p.elim
  | succ m =>
    rw [whileL_succ] at p
    refine hc.t W env' f' h' σ' H' _ A' ((PostS.bind A' p).mono fun k f1 h1 H1 S1 E1 q => ?_)
    have A1 := A'.step S1 E1
    cases k with
    | false => rw [if_neg (by decide)] at q ⊢; exact q.nx S1 A1.env
    | true =>
      rw [if_pos rfl] at q ⊢
      refine ⟨_, fun σ2 H2 z => ⟨m, Nat.lt_succ_self m, z⟩, ?_⟩
      refine hb.run W env' f1 h1 σ' H1 _ A1 ?_
      cases hm : mb env' h1 with
      | nx env2 h2 => rw [hm] at q; exact fun f2 H2 σ2 S2 E2 R2 => ⟨f2, h2, env2, ⟨A1.tk, Nat.le_trans A1.le E2.le, S2, R2⟩, q.shift S2 E2⟩
      | ct env2 h2 => rw [hm] at q; exact fun f2 H2 σ2 S2 E2 R2 => ⟨f2, h2, env2, ⟨A1.tk, Nat.le_trans A1.le E2.le, S2, R2⟩, q.shift S2 E2⟩
      | brk env2 h2 => rw [hm] at q; exact q
      | ret v h2 => rw [hm] at q; exact q
      | ex e env2 h2 => rw [hm] at q; exact q
      | bad => rw [hm] at q; exact q.elim
theorem forL_zero {body : Val → Env → Heap → RS} {it : Iter} {i : Nat} {env : Env} {h : Heap} : forL body it 0 i env h = match it.turn i h with
    | some none => .nx env h
    | _ => .bad := rfl
theorem forL_succ {body : Val → Env → Heap → RS} {it : Iter} {n i : Nat} {env : Env} {h : Heap} : forL body it (n + 1) i env h = match it.turn i h with
    | some (some v) => (match body v env h with
      | .nx env' h' => forL body it n (i + 1) env' h'
      | .ct env' h' => forL body it n (i + 1) env' h'
      | .brk env' h' => .nx env' h'
      | .ret v h' => .ret v h'
      | .ex e env' h' => .ex e env' h'
      | .bad => .bad)
    | some none => .nx env h
    | none => .bad := rfl
/-- what is to be wished for behind a loop's body -/
def PostL (X : Cx) (F : Adr) (b : Nat) (W : WX) (f : Nat → Addr) (h : Heap) (H : Hp) (r : RS) (k : Env → Heap → RS) (D : Ends) : Prop := PostS X.K F b W f h H (match r with
      | .nx env' h' => k env' h'
      | .ct env' h' => k env' h'
      | .brk env' h' => .nx env' h'
      | .ret v h' => .ret v h'
      | .ex e env' h' => .ex e env' h'
      | .bad => .bad) D
theorem PostL.at_ {W : WX} {f : Nat → Addr} {h : Heap} {H : Hp} {r : RS} {k : Env → Heap → RS} {D : Ends} {N : L2.St → Hp → Prop} (q : PostL X F b W f h H r k D) (hN : ∀ f2 h2 H2 env2 σ2, Sim X.K F f2 H2 h2 → Ext b f h H f2 h2 H2 → REnv X.K F f2 h2.length H2 env2 σ2 → PostS X.K F b W f2 h2 H2 (k env2 h2) D → N σ2 H2) : PostS X.K F b W f h H r { D with nx := N, ct := N, bk := D.nx } := by
  cases r with
  | nx env2 h2 => exact fun f2 H2 σ2 S2 E2 R2 => hN f2 h2 H2 env2 σ2 S2 E2 R2 (PostS.shift S2 E2 q)
  | ct env2 h2 => exact fun f2 H2 σ2 S2 E2 R2 => hN f2 h2 H2 env2 σ2 S2 E2 R2 (PostS.shift S2 E2 q)
  | brk env2 h2 => exact q
  | ret v h2 => exact q
  | ex e env2 h2 => exact q
  | bad => exact q.elim
theorem ss_for {tg iter : Expr} {mi : DI} {mt : DT} {sl : List Nat} {sb : List Stmt} {mb : DS} {pos : Pos} (hp : PassesOwn (model X.prog X.w) X.A X.env X.xe) (hc : X.calm = true) (hfs : ∀ x, foldedSetIterable iter X.env x = pure x) (hi : SI X F b tg iter mi) (ht : ST X F b tg mt sl) (hb : SSs X F b sb mb) :
    SS X F b (.For tg iter sb [] pos) (fun env h => (mi env h).then env fun I h1 => forL (fun v env2 h2 => (mt v env2 h2).then env2 fun env3 h3 => mb env3 h3) I (I.len h1) 0 env h1) := by
  refine ⟨fun W env f h σ H D A p => PS.w (ps_for hp hc (pi_w (tg := tg) (iter := iter)) (pg_w (tg := tg)) (pss_w (st := sb)) hfs) ?_⟩
  refine hi.run W env f h σ H _ A ((PostS.bind A p).mono fun I f1 h1 H1 S1 E1 q J hJ => ?_)
  have A1 := A.step S1 E1
  have q : PostS X.K F b W f1 h1 H1 (forL (fun v env2 h2 => (mt v env2 h2).then env2 fun env3 h3 => mb env3 h3) I (I.len h1) 0 env h1) D := q
  refine ⟨fun i n σ' H' => ∃ f' h' env', At X F b W env' f' h' σ' H' ∧ Ext b f1 h1 H1 f' h' H' ∧ PostS X.K F b W f' h' H' (forL (fun v env2 h2 => (mt v env2 h2).then env2 fun env3 h3 => mb env3 h3) I n i env' h') D, ⟨I.len h1, f1, h1, env, A1, Ext.refl, q⟩, ?_⟩
  rintro i n σ' H' ⟨f', h', env', A', E', p⟩
  have hj := hJ f' h' H' A'.sim E' i
  cases n with
  | zero =>
    rw [forL_zero] at p
    cases et : I.turn i h' with
    | none => rw [et] at p; exact p.elim
    | some o =>
      cases o with
      | some v => rw [et] at p; exact p.elim
      | none => rw [et] at p; exact .inl ⟨hj.2 et, p.nx A'.sim A'.env⟩
  | succ n =>
    rw [forL_succ] at p
    cases et : I.turn i h' with
    | none => rw [et] at p; exact p.elim
    | some o =>
      cases o with
      | none => rw [et] at p; exact .inl ⟨hj.2 et, p.nx A'.sim A'.env⟩
      | some v =>
        rw [et] at p
        obtain ⟨go, yl⟩ := hj.1 v et
        refine .inr ⟨go, _, fun σ2 H2 z => ⟨n, Nat.lt_succ_self n, z⟩, fun x H2 hy => ?_⟩
        obtain ⟨S2, E2, rx⟩ := yl x H2 hy
        have A2 := A'.step S2 E2
        have p : PostL X F b W f' h' H' ((mt v env' h').then env' fun env3 h3 => mb env3 h3) (fun env' h' => forL (fun v env2 h2 => (mt v env2 h2).then env2 fun env3 h3 => mb env3 h3) I n (i + 1) env' h') D := p
        have p := PostS.shift S2 E2 (p.at_ (N := fun σ' H' => ∃ f' h' env', At X F b W env' f' h' σ' H' ∧ Ext b f1 h1 H1 f' h' H' ∧ PostS X.K F b W f' h' H' (forL (fun v env2 h2 => (mt v env2 h2).then env2 fun env3 h3 => mb env3 h3) I n (i + 1) env' h') D) fun f3 h3 H3 env3 σ3 S3 E3 R3 p3 =>
          ⟨f3, h3, env3, ⟨A'.tk, Nat.le_trans A'.le E3.le, S3, R3⟩, E'.trans A'.sim E3, p3⟩)
        refine ht.run W env' f' h' σ' H2 v x _ A2 rx ((PostS.bind A2 p).mono fun env3 f3 h3 H3 S3 E3 q3 σ3 R3 _ => ?_)
        exact hb.run W env3 f3 h3 σ3 H3 _ ⟨A'.tk, Nat.le_trans A2.le E3.le, S3, R3⟩ q3
end
end Y

set_option Elab.async false
set_option linter.all false
set_option maxRecDepth 100000
set_option maxHeartbeats 4000000
/-! Snd11: tuple(zip(*rows)). -/
namespace Y
open PySem PySem.Spec PyProof.Rows L2
section
variable {K : PySem.W.Frag} {F : Adr} {b n : Nat} {f : Nat → Addr} {h : Heap} {H HN : Hp}
theorem sqT_grow (g : Grow H HN) (a : Addr) (vs : List V) (q : SqT K H a vs) : SqT K HN a vs := by
  rcases q with (q | ⟨o, q⟩) | q
  · exact .inl (.inl (g _ _ q))
  · exact .inl (.inr ⟨o, g _ _ q⟩)
  · exact .inr q
theorem Sim.grow (S : Sim K F f H h) (g : Grow H HN) : Sim K F f HN h := by
  refine ⟨S.inj, fun i c e => ?_⟩
  have q := S.at_ i c e
  cases c with
  | lst xs =>
    obtain ⟨vs, h1, h2⟩ := q
    exact ⟨vs, g _ _ h1, Reps.mono (sqT_grow g) (Nat.le_refl _) (fun _ _ => rfl) _ _ h2⟩
  | ro xs =>
    obtain ⟨vs, h1, h2⟩ := q
    refine ⟨vs, ?_, Reps.mono (sqT_grow g) (Nat.le_refl _) (fun _ _ => rfl) _ _ h2⟩
    rcases h1 with ⟨u, q⟩ | q
    · exact .inl ⟨u, g _ _ q⟩
    · exact .inr q
theorem Ext.grow (g : Grow H HN) : Ext b f h H f h HN :=
  ⟨Nat.le_refl _, fun _ _ => rfl, fun a u e _ => g a u e, fun i a b => absurd (Nat.lt_of_lt_of_le b a) (Nat.lt_irrefl _), fun _ _ h => h, Kind.refl h⟩
theorem rows_inv : ∀ {rs : List Val} {xss : List (List Val)} {vs : List V}, Reps K F f n H rs vs → rowsOf rs = some xss → ∃ ls : List Nat, vs = ls.map (fun l => V.ref l) ∧ ls.length = xss.length ∧ ∀ (j l : Nat), ls[j]? = some l → ∃ (ws : List V) (xs : List Val), xss[j]? = some xs ∧ SqT K H l ws ∧ Reps K F f n H xs ws
  | [], xss, vs, r, e => by
    cases r
    cases e
    exact ⟨[], rfl, rfl, fun j l hj => by simp at hj⟩
  | x :: rs, xss, vs, r, e => by
    cases r with
    | cons r q =>
      cases x with
      | tup xs =>
        obtain ⟨a, ws, ex, sq, rr⟩ := r.tup_inv
        obtain ⟨yss, e2, e3⟩ := Option.map_eq_some_iff.mp (show (rowsOf rs).map (xs :: ·) = some xss from e)
        obtain ⟨ls, h1, h2, h3⟩ := rows_inv q e2
        subst e3
        refine ⟨a :: ls, by rw [ex, h1]; rfl, by simp [h2], fun j l hj => ?_⟩
        cases j with
        | zero =>
          cases (show some a = some l from hj)
          exact ⟨ws, xs, rfl, sq, rr⟩
        | succ j => exact h3 j l hj
      | _ => cases e
theorem reps_at : ∀ {xs : List Val} {vs : List V}, xs.length = vs.length → (∀ (j : Nat) (x : Val) (v : V), xs[j]? = some x → vs[j]? = some v → Rep K F f n H x v) → Reps K F f n H xs vs
  | [], [], _, _ => .nil
  | [], _ :: _, h, _ => by simp at h
  | _ :: _, [], h, _ => by simp at h
  | x :: xs, v :: vs, h, g => .cons (g 0 x v rfl rfl) (reps_at (by simpa using h) fun j y w h1 h2 => g (j + 1) y w (by simpa using h1) (by simpa using h2))
end
section
variable {X : Cx} {F : Adr} {b : Nat}
theorem se_xch {e : Expr} {m : DE} {p1 p2 p3 p4 p5 : Pos} (hc : X.calm = true) (hg : Gl X "tuple") (hm : X.mg "tuple" = none) (hg2 : Gl X "zip") (hm2 : X.mg "zip" = none) (h1 : SE X F b e m) :
    SE X F b (.Call (.Name "tuple" p1) [.Call (.Name "zip" p2) [.Starred e p3] [] p4] [] p5) (d1 m xchV) := by
  refine se_byV rfl fun W env f h σ H Q A P => ?_
  refine PE.w (pe_xch hc hg hm hg2 hm2 (pe_w (e := e))) ?_
  refine d1_v A h1 P fun v x f2 h2 H2 A2 E2 rx q => ?_
  cases v with
  | tup rs =>
    have q : Post X.K F b (wX W σ) f2 h2 H2 (match rowsOf rs with
      | some xss => if (Nat.ble 1 xss.length && Nat.ble xss.length 12) && ((Nat.ble 1 (xss.headD []).length && Nat.ble (xss.headD []).length 1000) && xss.all fun r => Nat.beq r.length (xss.headD []).length) then
          R.ok (Val.tup ((List.range (xss.headD []).length).map fun i => Val.tup (xss.map fun r => r.getD i .non))) h2 else .bad
      | none => .bad) (GV X.K F Q) := q
    cases hr : rowsOf rs with
    | none => rw [hr] at q; exact q.elim
    | some xss =>
      rw [hr] at q
      have q : Post X.K F b (wX W σ) f2 h2 H2 (if (Nat.ble 1 xss.length && Nat.ble xss.length 12) && ((Nat.ble 1 (xss.headD []).length && Nat.ble (xss.headD []).length 1000) && xss.all fun r => Nat.beq r.length (xss.headD []).length) then
          R.ok (Val.tup ((List.range (xss.headD []).length).map fun i => Val.tup (xss.map fun r => r.getD i .non))) h2 else .bad) (GV X.K F Q) := q
      generalize hmm : (xss.headD []).length = mm at q
      obtain ⟨hl, q⟩ := Post.ite (c := (Nat.ble 1 xss.length && Nat.ble xss.length 12) && ((Nat.ble 1 mm && Nat.ble mm 1000) && xss.all fun r => Nat.beq r.length mm)) (r := R.ok (Val.tup ((List.range mm).map fun i => Val.tup (xss.map fun r => r.getD i .non))) h2) q
      obtain ⟨c1, c2⟩ := Bool.and_eq_true_iff.mp hl
      obtain ⟨c1, c3⟩ := Bool.and_eq_true_iff.mp c1
      obtain ⟨c2, c4⟩ := Bool.and_eq_true_iff.mp c2
      obtain ⟨c2, c5⟩ := Bool.and_eq_true_iff.mp c2
      obtain ⟨a, vs, ex, sq, rr⟩ := rx.tup_inv
      obtain ⟨ls, ev, ll, hrow⟩ := rows_inv rr hr
      rw [ev] at sq
      have hch : ∀ j : Nat, ∃ ws : List V, ∀ l, ls[j]? = some l → ∃ xs : List Val, xss[j]? = some xs ∧ SqT X.K H2 l ws ∧ Reps X.K F f2 h2.length H2 xs ws := fun j => by
        cases hj : ls[j]? with
        | none => exact ⟨[], fun l hl => by cases hl⟩
        | some l =>
          obtain ⟨ws, xs, k1, k2, k3⟩ := hrow j l hj
          exact ⟨ws, fun l' hl' => by cases hl'; exact ⟨xs, k1, k2, k3⟩⟩
      obtain ⟨cols, hcols⟩ := Classical.axiomOfChoice hch
      have len : ∀ (j : Nat) (xs : List Val), xss[j]? = some xs → xs.length = mm := fun j xs hj => Nat.eq_of_beq_eq_true (List.all_eq_true.mp c4 xs (List.mem_of_getElem? hj))
      refine ⟨a, ls, cols, mm, ex, sq, by rw [ll]; exact Nat.le_of_ble_eq_true c1, by rw [ll]; exact Nat.le_of_ble_eq_true c3, Nat.le_of_ble_eq_true c2, Nat.le_of_ble_eq_true c5, fun j l hj => ?_, fun HN qq ts g hq ht => ?_⟩
      · obtain ⟨xs, k1, k2, k3⟩ := hcols j l hj
        exact ⟨k2, by rw [← k3.length]; exact len j xs k1⟩
      · have E' : Ext b f2 h2 H2 f2 h2 HN := Ext.grow g
        refine q f2 HN (A2.sim.grow g) E' _ (.tup (.inl (.inl hq)) (reps_at (by simp) fun i y w h1 h2 => ?_))
        have hi : i < mm := by
          have := (List.getElem?_eq_some_iff.mp h1).1
          simpa using this
        simp [hi] at h1 h2
        subst h1 h2
        obtain ⟨row, r1, r2, r3⟩ := ht i hi
        refine .tup (.inl (.inl r1)) (reps_at (by simp [r2, ll]) fun j y w h1 h2 => ?_)
        have hj : j < ls.length := by
          have := (List.getElem?_eq_some_iff.mp h2).1
          omega
        obtain ⟨xs, k1, k2, k3⟩ := hcols j _ (List.getElem?_eq_getElem hj)
        rw [r3 j hj] at h2
        rw [List.getElem?_map, k1] at h1
        have hxi : i < xs.length := by rw [len j xs k1]; exact hi
        obtain ⟨u, u1, u2⟩ := k3.get (List.getElem?_eq_getElem hxi)
        rw [u1] at h2
        cases h2
        have : y = xs[i] := by
          have e1 : xs.getD i .non = y := Option.some.inj h1
          rw [← e1, List.getD_eq_getElem?_getD, List.getElem?_eq_getElem hxi]; rfl
        rw [this]
        exact E'.rep A2.sim u2
  | _ => exact q.elim
end
end Y

set_option Elab.async false
set_option linter.all false
set_option maxRecDepth 100000
set_option maxHeartbeats 4000000
/-! Cmp: from the text's tree to the small language. -/
namespace Y
open PySem PySem.Spec PyProof.Rows L2
/-! ### names -/
def lEq : List Nat → List Nat → Bool
  | [], [] => true
  | a :: x, b :: y => Nat.beq a b && lEq x y
  | _, _ => false
theorem lEq_eq : ∀ {x y : List Nat}, lEq x y = true → x = y
  | [], [], _ => rfl
  | [], _ :: _, h => by cases h
  | _ :: _, [], h => by cases h
  | a :: x, b :: y, h => by
    obtain ⟨h1, h2⟩ := Bool.and_eq_true_iff.mp (show (Nat.beq a b && lEq x y) = true from h)
    rw [Nat.eq_of_beq_eq_true h1, lEq_eq h2]
theorem lEq_refl : ∀ x : List Nat, lEq x x = true
  | [] => rfl
  | a :: x => by
    show (Nat.beq a a && lEq x x) = true
    rw [lEq_refl x, Nat.beq_refl]; rfl
def seq (a b : Str) : Bool := lEq a.cps.toList b.cps.toList
theorem seq_eq {a b : Str} (h : seq a b = true) : a = b := by
  obtain ⟨⟨a⟩⟩ := a
  obtain ⟨⟨b⟩⟩ := b
  have := lEq_eq h
  have e : a = b := this
  rw [e]
theorem seq_refl (a : Str) : seq a a = true := lEq_refl _
theorem seq_ne {a b : Str} (h : seq a b = false) : a ≠ b := fun e => by rw [e, seq_refl] at h; cases h
theorem seq_beq {a b : Str} : (a == b) = seq a b := by
  cases h : seq a b with
  | true => rw [seq_eq h]; exact beq_self_eq_true b
  | false => exact beq_eq_false_iff_ne.mpr (seq_ne h)
def lk {α : Type} : List (Str × α) → Str → Option α
  | [], _ => none
  | (n, k) :: r, x => if seq x n then some k else lk r x
theorem lk_eq {α : Type} {x : Str} : ∀ (l : List (Str × α)), l.lookup x = lk l x
  | [] => rfl
  | (n, k) :: r => by
    show (match x == n with
      | true => some k
      | false => r.lookup x) = if seq x n then some k else lk r x
    rw [seq_beq, ← lk_eq r]
    cases seq x n <;> rfl
/-- a name's place -/
def ixFrom : List Str → Str → Nat → Option Nat
  | [], _, _ => none
  | n :: r, x, i => if seq x n then some i else ixFrom r x (i + 1)
def ix (N : List Str) (x : Str) : Option Nat := ixFrom N x 0
theorem ixFrom_some {x : Str} : ∀ {N : List Str} {i j : Nat}, ixFrom N x i = some j → ∃ k, j = i + k ∧ N[k]? = some x
  | [], _, _, h => by cases h
  | n :: r, i, j, h => by
    have h : (if seq x n then some i else ixFrom r x (i + 1)) = some j := h
    cases e : seq x n with
    | true =>
      rw [e, if_pos rfl] at h
      cases h
      exact ⟨0, rfl, by rw [seq_eq e]; rfl⟩
    | false =>
      rw [e, if_neg (by decide)] at h
      obtain ⟨k, h1, h2⟩ := ixFrom_some h
      exact ⟨k + 1, by omega, by simpa using h2⟩
theorem ix_some {N : List Str} {x : Str} {j : Nat} (h : ix N x = some j) : N[j]? = some x := by
  obtain ⟨k, h1, h2⟩ := ixFrom_some h
  have : j = k := by omega
  rw [this]; exact h2
theorem ixFrom_none {x : Str} : ∀ {N : List Str} {i : Nat}, ixFrom N x i = none → x ∉ N
  | [], _, _, h => by cases h
  | n :: r, i, h, hm => by
    have h : (if seq x n then some i else ixFrom r x (i + 1)) = none := h
    cases e : seq x n with
    | true => rw [e, if_pos rfl] at h; cases h
    | false =>
      rw [e, if_neg (by decide)] at h
      cases hm with
      | head => exact absurd rfl (seq_ne e)
      | tail _ hm => exact ixFrom_none h hm
def nodupB : List Str → Bool
  | [] => true
  | x :: r => (ix r x).isNone && nodupB r
theorem nodup_of : ∀ {N : List Str}, nodupB N = true → N.Nodup
  | [], _ => List.nodup_nil
  | x :: r, h => by
    obtain ⟨h1, h2⟩ := Bool.and_eq_true_iff.mp (show ((ix r x).isNone && nodupB r) = true from h)
    exact List.nodup_cons.mpr ⟨ixFrom_none (Option.isNone_iff_eq_none.mp h1), nodup_of h2⟩
/-- what the compiler knows of the module: the defs with the number of their parameters, the constants, the built-ins that no name of the module hides -/
structure GI where
  defs : List (Str × Nat)
  gls : List Str
  blts : List Str
/-- .. of the block: its names, the slots -/
structure SC where
  names : List (Str × NameKind)
  N : List Str
  body : Str → Bool
def isBlt (g : GI) (x : Str) : Bool := (ix g.blts x).isSome
def defFrom : List (Str × Nat) → Str → Nat → Option (Nat × Nat)
  | [], _, _ => none
  | (n, k) :: r, x, i => if seq x n then some (i, k) else defFrom r x (i + 1)
theorem defFrom_some {x : Str} {np : Nat} : ∀ {l : List (Str × Nat)} {i j : Nat}, defFrom l x i = some (j, np) → ∃ k, j = i + k ∧ l[k]? = some (x, np)
  | [], _, _, h => by cases h
  | (n, q) :: r, i, j, h => by
    have h : (if seq x n then some (i, q) else defFrom r x (i + 1)) = some (j, np) := h
    cases e : seq x n with
    | true =>
      rw [e, if_pos rfl] at h
      cases h
      exact ⟨0, rfl, by rw [seq_eq e]; rfl⟩
    | false =>
      rw [e, if_neg (by decide)] at h
      obtain ⟨k, h1, h2⟩ := defFrom_some h
      exact ⟨k + 1, by omega, by simpa using h2⟩
def isVar : NameKind → Bool
  | .local => true
  | .cell => true
  | .free => true
  | _ => false
def isLoc : NameKind → Bool
  | .local => true
  | .cell => true
  | _ => false
def isGlo : NameKind → Bool
  | .globalImplicit => true
  | _ => false
def notMagic (x : Str) : Bool := !(seq x "__debug__") && !(seq x "__classdict__")
/-- is the name a global's? -/
def glob (sc : SC) (x : Str) : Bool := match lk sc.names x with
  | some k => isGlo k
  | none => false
def nmE (g : GI) (sc : SC) (x : Str) : Option Ex := if notMagic x then (match lk sc.names x with
  | some k => if isVar k then (ix sc.N x).map .var else if isGlo k then (ix g.gls x).map .glo else none
  | none => none) else none
/-- what holds of a context, for the compiler's knowledge -/
structure Fit (g : GI) (t : T) (F : Adr) (sc : SC) (X : Cx) : Prop where
  calm : X.calm = true
  nd : X.N.Nodup
  N : X.N = sc.N
  names : X.env.scope.names = sc.names
  kind : X.env.scope.kind = .function
  fn : ∀ x, sc.body x = true → X.fn x = true
  units : X.A.units + 64 < cLine
  blt : ∀ x ∈ g.blts, X.mg x = none
  gl : ∀ (k : Nat) (x : Str), g.gls[k]? = some x → ∃ (v : Val) (y : V) (u : Value), t.gl[k]? = some v ∧ X.mg x = some u ∧ RelV y u ∧ Rep X.K F (fun _ => 0) 0 (fun _ => none) v y
  defs : ∀ (i : Nat) (x : Str) (np : Nat), g.defs[i]? = some (x, np) → ∃ (k : Nat) (fd : FuncData) (ps : List Str), X.mg x = some (.ref (F.fn i)) ∧ FnOk X.prog X.w X.K X.mg X.base (L2.CX X.prog X.w) k (F.fn i) fd ps (spT X.K F t i np) ∧ Room k X.A ∧ PySem.W.keepIn X.K (.ref (F.fn i)) = true ∧ Binds X.K fd ps [] ∧
    ∀ args h, t.call i args h ≠ .bad → args.length = np
section
variable {g : GI} {t : T} {F : Adr} {sc : SC} {X : Cx} {b : Nat}
theorem Fit.look (f : Fit g t F sc X) (x : Str) : X.env.scope.names.lookup x = lk sc.names x := by rw [f.names, lk_eq]
theorem Fit.glob (f : Fit g t F sc X) {x : Str} (h : Y.glob sc x = true) : Gl X x := by
  unfold Y.glob at h
  show X.env.scope.names.lookup x = _
  rw [f.look x]
  cases e : lk sc.names x with
  | none => rw [e] at h; cases h
  | some k => rw [e] at h; cases k <;> first | rfl | cases h
theorem Fit.bltin (f : Fit g t F sc X) {x : Str} (h : isBlt g x = true) : X.mg x = none := by
  obtain ⟨j, hj⟩ := Option.isSome_iff_exists.mp h
  exact f.blt x (List.mem_of_getElem? (ix_some hj))
theorem magic {x : Str} (h : notMagic x = true) : (x == ("__debug__" : Str)) = false ∧ (x == ("__classdict__" : Str)) = false := by
  obtain ⟨h1, h2⟩ := Bool.and_eq_true_iff.mp h
  rw [seq_beq, seq_beq]
  exact ⟨by simpa using h1, by simpa using h2⟩
theorem nm_ok (f : Fit g t F sc X) {x : Str} {pos : Pos} {ir : Ex} (h : nmE g sc x = some ir) : SE X F b (.Name x pos) (den t b ir) := by
  unfold nmE at h
  split at h
  · rename_i hm
    obtain ⟨h1, h2⟩ := magic hm
    cases e : lk sc.names x with
    | none => rw [e] at h; cases h
    | some k =>
      rw [e] at h
      have h : (if isVar k then (ix sc.N x).map Ex.var else if isGlo k then (ix g.gls x).map .glo else none) = some ir := h
      cases hv : isVar k with
      | true =>
        rw [hv, if_pos rfl] at h
        obtain ⟨i, hi, rfl⟩ := Option.map_eq_some_iff.mp h
        refine se_var (by rw [f.N]; exact ix_some hi) ?_ h1 h2
        have := f.look x
        rw [e] at this
        cases k <;> first | exact .inl this | exact .inr (.inl this) | exact .inr (.inr this) | cases hv
      | false =>
        rw [hv, if_neg (by decide)] at h
        cases hg : isGlo k with
        | false => rw [hg, if_neg (by decide)] at h; cases h
        | true =>
          rw [hg, if_pos rfl] at h
          obtain ⟨i, hi, rfl⟩ := Option.map_eq_some_iff.mp h
          obtain ⟨v, y, u, k1, k2, k3, k4⟩ := f.gl i x (ix_some hi)
          have : den t b (.glo i) = byV fun _ h => .ok v h := by
            rw [den_glo]
            unfold m_Ex_glo
            rw [k1]
            rfl
          rw [this]
          exact se_glob (f.glob (by unfold Y.glob; rw [e]; exact hg)) k2 k3 k4 h1
  · cases h
end
end Y

set_option Elab.async false
set_option linter.all false
set_option maxRecDepth 100000
set_option maxHeartbeats 4000000
/-! Cmp2: expressions. -/
namespace Y
open PySem PySem.Spec PyProof.Rows L2
structure C4 where
  e : SC → Expr → Option Ex
  l : SC → Expr → Option Le
  x : SC → List Expr → Option Exs
  i : SC → Expr → Expr → Option It
  g : SC → Expr → Option (Tg × List Nat × Bool)
  gs : SC → List Expr → Option (Tgs × List Nat)
structure Good (gi : GI) (c : C4) : Prop where
  e : ∀ {t : T} {F : Adr} {sc : SC} {X : Cx} {b : Nat}, Fit gi t F sc X → ∀ {e : Expr} {ir : Ex}, c.e sc e = some ir → SE X F b e (den t b ir)
  l : ∀ {t : T} {F : Adr} {sc : SC} {X : Cx} {b : Nat}, Fit gi t F sc X → ∀ {e : Expr} {ir : Le}, c.l sc e = some ir → SL X F b e (denL t b ir)
  x : ∀ {t : T} {F : Adr} {sc : SC} {X : Cx} {b : Nat}, Fit gi t F sc X → ∀ {es : List Expr} {ir : Exs}, c.x sc es = some ir → SX X F b es (denX t b ir)
  i : ∀ {t : T} {F : Adr} {sc : SC} {X : Cx} {b : Nat}, Fit gi t F sc X → ∀ {tg e : Expr} {ir : It}, c.i sc tg e = some ir → SI X F b tg e (denI t b ir)
  g : ∀ {t : T} {F : Adr} {sc : SC} {X : Cx} {b : Nat}, Fit gi t F sc X → ∀ {tg : Expr} {ir : Tg} {sl : List Nat} {k : Bool}, c.g sc tg = some (ir, sl, k) → ST X F b tg (denT t b ir) sl ∧ (k = true → Calm (denT t b ir)) ∧ notStar tg = true
  gs : ∀ {t : T} {F : Adr} {sc : SC} {X : Cx} {b : Nat}, Fit gi t F sc X → ∀ {ts : List Expr} {ir : Tgs} {sl : List Nat}, c.gs sc ts = some (ir, sl) → STs X F b ts (denTs t b ir) sl ∧ CalmS (denTs t b ir) ∧ ts.all notStar = true ∧ ∀ vs env h env' h', denTs t b ir vs env h = .ok env' h' → vs.length = ts.length
def bindO {α β : Type} (o : Option α) (k : α → Option β) : Option β := match o with
  | some a => k a
  | none => none
theorem bindO_some {α β : Type} {o : Option α} {k : α → Option β} {r : β} (h : bindO o k = some r) : ∃ a, o = some a ∧ k a = some r := by
  cases o with
  | none => cases h
  | some a => exact ⟨a, rfl, h⟩
def orE {α : Type} (o p : Option α) : Option α := match o with
  | some a => some a
  | none => p
theorem orE_some {α : Type} {o p : Option α} {r : α} (h : orE o p = some r) : o = some r ∨ p = some r := by
  cases o with
  | none => exact .inr h
  | some a => exact .inl h
def iff {α : Type} (c : Bool) (o : Option α) : Option α := match c with
  | true => o
  | false => none
theorem iff_some {α : Type} {c : Bool} {o : Option α} {r : α} (h : iff c o = some r) : c = true ∧ o = some r := by
  cases c with
  | true => exact ⟨rfl, h⟩
  | false => cases h
/-! ### lists -/
def cL (c : C4) (g : GI) (sc : SC) : Expr → Option Le
  | .List es _ => (c.x sc es).map .disp
  | .BinOp a op b _ => (match op with
    | .Mult => bindO (c.l sc a) fun l => (c.e sc b).map fun x => .mul l x
    | .Add => bindO (c.l sc a) fun l => (c.l sc b).map fun m => .add l m
    | _ => none)
  | .Call f args kws _ => (match f, args, kws with
    | .Name x _, [e], [] => iff (seq x "list" && (glob sc "list" && (isBlt g "list" && notStar e))) ((c.e sc e).map .of)
    | _, _, _ => none)
  | _ => none
def relN (inner outer : List (Str × NameKind)) : List (Str × NameKind) := inner.map fun p => match p.2 with
  | .free => (match lk outer p.1 with
    | some .cell => (p.1, .cell)
    | _ => p)
  | _ => p
/-- the block's own cells -/
def ownC (names : List (Str × NameKind)) (x : Str) : Bool := match lk names x with
  | some .cell => true
  | _ => false
/-! ### argument lists -/
def cX (c : C4) (sc : SC) : List Expr → Option Exs
  | [] => some .nil
  | e :: r => (match e with
    | .Starred a _ => bindO (c.x sc r) fun ir => orE ((c.l sc a).map fun l => .starL l ir) ((c.e sc a).map fun x => .star x ir)
    | e => bindO (c.x sc r) fun ir => (c.e sc e).map fun x => .cons x ir)
theorem cX_ok {g : GI} {c : C4} (G : Good g c) {t : T} {F : Adr} {sc : SC} {X : Cx} {b : Nat} (f : Fit g t F sc X) {es : List Expr} {ir : Exs} (h : cX c sc es = some ir) : SX X F b es (denX t b ir) := by
  cases es with
  | nil => cases h; exact sx_nil
  | cons e r =>
    have key : notStar e = true → (bindO (c.x sc r) fun ir => (c.e sc e).map fun x => Exs.cons x ir) = some ir → SX X F b (e :: r) (denX t b ir) := fun hs h => by
      obtain ⟨xs, h1, h2⟩ := bindO_some h
      obtain ⟨x, h3, rfl⟩ := Option.map_eq_some_iff.mp h2
      exact sx_cons hs (G.e f h3) (G.x f h1)
    cases e with
    | Starred a p =>
      have h : (bindO (c.x sc r) fun ir => orE ((c.l sc a).map fun l => Exs.starL l ir) ((c.e sc a).map fun x => .star x ir)) = some ir := h
      obtain ⟨xs, h1, h2⟩ := bindO_some h
      rcases orE_some h2 with h2 | h2
      · obtain ⟨l, h3, rfl⟩ := Option.map_eq_some_iff.mp h2
        exact sx_starL (G.l f h3) (G.x f h1)
      · obtain ⟨x, h3, rfl⟩ := Option.map_eq_some_iff.mp h2
        exact sx_star (G.e f h3) (G.x f h1)
    | _ => exact key rfl h
theorem cL_ok {g : GI} {c : C4} (G : Good g c) {t : T} {F : Adr} {sc : SC} {X : Cx} {b : Nat} (f : Fit g t F sc X) {e : Expr} {ir : Le} (h : cL c g sc e = some ir) : SL X F b e (denL t b ir) := by
  cases e with
  | List es p =>
    obtain ⟨xs, h1, rfl⟩ := Option.map_eq_some_iff.mp h
    exact sl_disp (G.x f h1)
  | BinOp a op c' p =>
    cases op with
    | Mult =>
      obtain ⟨l, h1, h2⟩ := bindO_some h
      obtain ⟨x, h3, rfl⟩ := Option.map_eq_some_iff.mp h2
      exact sl_mul (G.l f h1) (G.e f h3)
    | Add =>
      obtain ⟨l, h1, h2⟩ := bindO_some h
      obtain ⟨x, h3, rfl⟩ := Option.map_eq_some_iff.mp h2
      exact sl_add (G.l f h1) (G.l f h3)
    | _ => cases h
  | Call fn args kws pos =>
    cases fn with
    | Name x p =>
      cases args with
      | nil => cases h
      | cons e r =>
        cases r with
        | cons _ _ => cases h
        | nil =>
          cases kws with
          | cons _ _ => cases h
          | nil =>
            obtain ⟨hc, h⟩ := iff_some h
            obtain ⟨h1, hc⟩ := Bool.and_eq_true_iff.mp hc
            obtain ⟨h2, hc⟩ := Bool.and_eq_true_iff.mp hc
            obtain ⟨h3, h4⟩ := Bool.and_eq_true_iff.mp hc
            obtain ⟨y, h5, rfl⟩ := Option.map_eq_some_iff.mp h
            rw [seq_eq h1]
            exact sl_of (f.glob h2) (f.bltin h3) h4 (G.e f h5)
    | _ => cases h
  | _ => cases h
/-! ### targets -/
def slotL (sc : SC) (x : Str) : Option Nat := match lk sc.names x with
  | some .local => ix sc.N x
  | _ => none
def slotOf (sc : SC) (x : Str) : Option Nat := match lk sc.names x with
  | some .local => ix sc.N x
  | some .cell => iff (sc.body x) (ix sc.N x)
  | _ => none
/-- expressions that never raise -/
def atomE : Ex → Bool
  | .var _ => true
  | .cst _ => true
  | _ => false
def calmE (e : Ex) : Bool := match e with
  | .idx x y => atomE x && atomE y
  | _ => atomE e
theorem of_noex {α : Type} {o : Option α} {h : Heap} {e : Exn} {h' : Heap} : R.of o h ≠ .ex e h' := fun z => by cases o <;> cases z
theorem atom_ok {t : T} {b : Nat} {x : Ex} (hx : atomE x = true) (env : Env) (h : Heap) (e : Exn) (h' : Heap) : (den t b x).v env h ≠ .ex e h' := by
  cases x with
  | var i => exact of_noex
  | cst v => exact fun z => by cases (show R.ok v h = .ex e h' from z)
  | _ => cases hx
theorem bind_noex {α β : Type} {r : R α} {k : α → Heap → R β} {e : Exn} {h' : Heap} (h1 : ∀ h2, r ≠ .ex e h2) (h3 : ∀ a h2, k a h2 ≠ .ex e h') : r.bind k ≠ .ex e h' := fun z => by
  cases r with
  | ok a h2 => exact h3 a h2 z
  | ex e2 h2 =>
    cases (show R.ex e2 h2 = (R.ex e h' : R β) from z)
    exact h1 _ rfl
  | bad => cases z
theorem idx_noex {x y : Val} {h : Heap} {e : Exn} {h' : Heap} : idxV x y h ≠ .ex e h' := by
  unfold idxV
  split
  · exact of_noex
  · exact fun z => by cases z
theorem calmE_ok {t : T} {b : Nat} {x : Ex} (hx : calmE x = true) (env : Env) (h : Heap) (e : Exn) (h' : Heap) : (den t b x).v env h ≠ .ex e h' := by
  cases x with
  | idx x y =>
    obtain ⟨h1, h2⟩ := Bool.and_eq_true_iff.mp (show (atomE x && atomE y) = true from hx)
    show (((den t b x).v env h).bind fun x h1 => ((den t b y).v env h1).bind fun y h2 => idxV x y h2) ≠ _
    exact bind_noex (atom_ok h1 env h e) fun a h2' => bind_noex (atom_ok h2 env h2' e) fun a2 h3 => idx_noex
  | var i => exact atom_ok (x := .var i) rfl env h e h'
  | cst v => exact atom_ok (x := .cst v) rfl env h e h'
  | _ => cases hx
theorem put_noex {b : Nat} {x i v : Val} {h : Heap} {e : Exn} {h' : Heap} : putV b x i v h ≠ .ex e h' := by
  unfold putV
  split
  · split
    · split
      · split <;> exact fun z => by cases z
      · exact fun z => by cases z
    · exact fun z => by cases z
  · exact fun z => by cases z
theorem calm_sub {t : T} {b : Nat} {x y : Ex} (hx : calmE x = true) (hy : calmE y = true) : Calm (denT t b (.sub x y)) := fun v env h e h' => by
  show (((den t b x).v env h).bind fun x h1 => ((den t b y).v env h1).bind fun y h2 => (putV b x y v h2).bind fun _ h3 => .ok env h3) ≠ _
  exact bind_noex (calmE_ok hx env h e) fun a h2 => bind_noex (calmE_ok hy env h2 e) fun a2 h3 => bind_noex (fun h4 => put_noex) fun _ h4 => fun z => by cases z
def cG (c : C4) (sc : SC) : Expr → Option (Tg × List Nat × Bool)
  | .Name x _ => (slotOf sc x).map fun i => (.nm i, [i], true)
  | .Tuple es _ _ => (c.gs sc es).map fun p => (.tup p.1, p.2, true)
  | .Subscript a i _ => iff (notSlice i) (bindO (c.e sc a) fun x => (c.e sc i).map fun y => (.sub x y, [], calmE x && calmE y))
  | _ => none
def cGs (c : C4) (sc : SC) : List Expr → Option (Tgs × List Nat)
  | [] => some (.nil, [])
  | e :: r => bindO (c.g sc e) fun p => bindO (c.gs sc r) fun q => iff p.2.2 (some (.cons p.1 q.1, p.2.1 ++ q.2))
theorem slotL_ok {g : GI} {t : T} {F : Adr} {sc : SC} {X : Cx} (f : Fit g t F sc X) {x : Str} {i : Nat} (h : slotL sc x = some i) : X.N[i]? = some x ∧ X.env.scope.names.lookup x = some .local := by
  unfold slotL at h
  cases e : lk sc.names x with
  | none => rw [e] at h; cases h
  | some k =>
    rw [e] at h
    cases k with
    | «local» => exact ⟨by rw [f.N]; exact ix_some h, by rw [f.look, e]⟩
    | _ => cases h
theorem slot_ok {g : GI} {t : T} {F : Adr} {sc : SC} {X : Cx} (f : Fit g t F sc X) {x : Str} {i : Nat} (h : slotOf sc x = some i) : X.N[i]? = some x ∧ Loc X.env.scope x ∧ (X.fn x = true ∨ X.env.scope.names.lookup x = some .local) := by
  unfold slotOf at h
  cases e : lk sc.names x with
  | none => rw [e] at h; cases h
  | some k =>
    rw [e] at h
    have el := f.look x
    rw [e] at el
    cases k with
    | «local» => exact ⟨by rw [f.N]; exact ix_some h, .inl el, .inr el⟩
    | cell =>
      obtain ⟨h1, h2⟩ := iff_some h
      exact ⟨by rw [f.N]; exact ix_some h2, .inr el, .inl (f.fn x h1)⟩
    | _ => cases h
theorem cG_ok {g : GI} {c : C4} (G : Good g c) {t : T} {F : Adr} {sc : SC} {X : Cx} {b : Nat} (f : Fit g t F sc X) {tg : Expr} {ir : Tg} {sl : List Nat} {k : Bool} (h : cG c sc tg = some (ir, sl, k)) :
    ST X F b tg (denT t b ir) sl ∧ (k = true → Calm (denT t b ir)) ∧ notStar tg = true := by
  cases tg with
  | Name x p =>
    obtain ⟨i, h1, h2⟩ := Option.map_eq_some_iff.mp h
    cases h2
    obtain ⟨h3, h4, h5⟩ := slot_ok f h1
    exact ⟨st_nm f.nd h3 h4 h5, fun _ => fun v env h e h' z => (by cases z), rfl⟩
  | Tuple es kk p =>
    obtain ⟨q, h1, h2⟩ := Option.map_eq_some_iff.mp h
    cases h2
    obtain ⟨k1, k2, k3, k4⟩ := G.gs (b := b) f h1
    exact ⟨st_tup f.calm k3 k2 k4 k1, fun _ => calm_tup k2, rfl⟩
  | Subscript a i p =>
    obtain ⟨hs, h⟩ := iff_some h
    obtain ⟨x, h1, h2⟩ := bindO_some h
    obtain ⟨y, h3, h4⟩ := Option.map_eq_some_iff.mp h2
    cases h4
    exact ⟨st_sub hs (G.e f h1) (G.e f h3), fun z => (by
      obtain ⟨z1, z2⟩ := Bool.and_eq_true_iff.mp z
      exact calm_sub z1 z2), rfl⟩
  | _ => cases h
theorem cGs_ok {g : GI} {c : C4} (G : Good g c) {t : T} {F : Adr} {sc : SC} {X : Cx} {b : Nat} (f : Fit g t F sc X) {ts : List Expr} {ir : Tgs} {sl : List Nat} (h : cGs c sc ts = some (ir, sl)) :
    STs X F b ts (denTs t b ir) sl ∧ CalmS (denTs t b ir) ∧ ts.all notStar = true ∧ ∀ vs env h env' h', denTs t b ir vs env h = .ok env' h' → vs.length = ts.length := by
  cases ts with
  | nil => cases h; exact ⟨sts_nil, calm_nil, rfl, lenS_nil⟩
  | cons e r =>
    obtain ⟨⟨p1, p2, p3⟩, h1, h⟩ := bindO_some h
    obtain ⟨⟨q1, q2⟩, h2, h⟩ := bindO_some h
    obtain ⟨hk, h⟩ := iff_some h
    cases h
    obtain ⟨a1, a2, a3⟩ := G.g (b := b) f h1
    obtain ⟨b1, b2, b3, b4⟩ := G.gs (b := b) f h2
    exact ⟨sts_cons a3 (a2 hk) a1 b1, calm_cons (a2 hk) b2, by rw [List.all_cons, a3, b3]; rfl, lenS_cons (m := denT t b p1) b4⟩
/-! ### what is walked -/
def isTup : Expr → Bool
  | .Tuple _ _ _ => true
  | _ => false
def cI (c : C4) (g : GI) (sc : SC) (tg : Expr) : Expr → Option It
  | .Call f args kws pos => (match f, kws with
    | .Name x _, [] => if glob sc x && isBlt g x then (if seq x "range" then (match args with
        | [a] => iff (notStar a) ((c.e sc a).map .r1)
        | [a, b] => iff (notStar a && notStar b) (bindO (c.e sc a) fun x => (c.e sc b).map fun y => .r2 x y)
        | [a, b, .UnaryOp .USub (.Constant (.int 1) _ _) _] => iff (notStar a && notStar b) (bindO (c.e sc a) fun x => (c.e sc b).map fun y => .down x y)
        | _ => none)
      else if seq x "enumerate" then (match args with
        | [a] => iff (notStar a && isTup tg) ((c.e sc a).map .enum)
        | _ => none)
      else if seq x "zip" then (match args with
        | [a, b] => iff (notStar a && (notStar b && isTup tg)) (bindO (c.e sc a) fun x => (c.e sc b).map fun y => .zip x y)
        | _ => none)
      else (c.e sc (.Call f args kws pos)).map .of)
      else (c.e sc (.Call f args kws pos)).map .of
    | _, _ => (c.e sc (.Call f args kws pos)).map .of)
  | e => (c.e sc e).map .of
theorem rangeArg {args : List Expr} {o1 : Expr → Option It} {o2 o3 : Expr → Expr → Option It} {ir : It} (h : (match args with
        | [a] => o1 a
        | [a, b] => o2 a b
        | [a, b, .UnaryOp .USub (.Constant (.int 1) _ _) _] => o3 a b
        | _ => none) = some ir) : (∃ a, args = [a] ∧ o1 a = some ir) ∨ (∃ a b, args = [a, b] ∧ o2 a b = some ir) ∨ ∃ a b k p2 p3, args = [a, b, .UnaryOp .USub (.Constant (.int 1) k p2) p3] ∧ o3 a b = some ir := by
  split at h
  · exact .inl ⟨_, rfl, h⟩
  · exact .inr (.inl ⟨_, _, rfl, h⟩)
  · exact .inr (.inr ⟨_, _, _, _, _, rfl, h⟩)
  · cases h
theorem and3 {a b : Bool} (h : (a && b) = true) : a = true ∧ b = true := Bool.and_eq_true_iff.mp h
theorem ite_or {α : Type} {c : Bool} {x y : Option α} {r : α} (h : (if c then x else y) = some r) : (c = true ∧ x = some r) ∨ y = some r := by
  cases c with
  | true => exact .inl ⟨rfl, h⟩
  | false => exact .inr h
theorem cI_ok {g : GI} {c : C4} (G : Good g c) {t : T} {F : Adr} {sc : SC} {X : Cx} {b : Nat} (f : Fit g t F sc X) {tg e : Expr} {ir : It} (h : cI c g sc tg e = some ir) : SI X F b tg e (denI t b ir) := by
  have key : ∀ {e : Expr}, (c.e sc e).map It.of = some ir → SI X F b tg e (denI t b ir) := fun {e} h => by
    obtain ⟨x, h1, rfl⟩ := Option.map_eq_some_iff.mp h
    exact si_of (G.e f h1)
  cases e with
  | Call fn args kws pos =>
    cases fn with
    | Name x p =>
      cases kws with
      | cons _ _ => exact key h
      | nil =>
        rcases ite_or h with ⟨hc, h⟩ | h
        rotate_left
        · exact key h
        obtain ⟨hg, hb⟩ := and3 hc
        have hg := f.glob hg
        have hb := f.bltin hb
        split at h
        · rename_i hx
          have ex := seq_eq hx
          revert h
          subst ex
          intro h
          rcases rangeArg h with ⟨a, rfl, h⟩ | ⟨a, c', rfl, h⟩ | ⟨a, c', k, p2, p3, rfl, h⟩
          · obtain ⟨h1, h⟩ := iff_some h
            obtain ⟨x, h2, rfl⟩ := Option.map_eq_some_iff.mp h
            exact si_r1 hg hb h1 (G.e f h2)
          · obtain ⟨h1, h⟩ := iff_some h
            obtain ⟨h1, h1'⟩ := and3 h1
            obtain ⟨x, h2, h⟩ := bindO_some h
            obtain ⟨y, h3, rfl⟩ := Option.map_eq_some_iff.mp h
            exact si_r2 hg hb h1 h1' (G.e f h2) (G.e f h3)
          · obtain ⟨h1, h⟩ := iff_some h
            obtain ⟨h1, h1'⟩ := and3 h1
            obtain ⟨x, h2, h⟩ := bindO_some h
            obtain ⟨y, h3, rfl⟩ := Option.map_eq_some_iff.mp h
            exact si_down hg hb h1 h1' (G.e f h2) (G.e f h3)
        split at h
        · rename_i hx
          have ex := seq_eq hx
          revert h
          subst ex
          intro h
          split at h
          · obtain ⟨k1, h⟩ := iff_some h
            obtain ⟨k2, k3⟩ := and3 k1
            obtain ⟨x, h2, rfl⟩ := Option.map_eq_some_iff.mp h
            cases tg with
            | Tuple es k p => exact si_enum hg hb k2 (G.e f h2)
            | _ => cases k3
          · cases h
        split at h
        · rename_i hx
          have ex := seq_eq hx
          revert h
          subst ex
          intro h
          split at h
          · obtain ⟨k1, h⟩ := iff_some h
            obtain ⟨k2, k3⟩ := and3 k1
            obtain ⟨k4, k5⟩ := and3 k3
            obtain ⟨x, h2, h⟩ := bindO_some h
            obtain ⟨y, h3, rfl⟩ := Option.map_eq_some_iff.mp h
            cases tg with
            | Tuple es k p => exact si_zip hg hb k2 k4 (G.e f h2) (G.e f h3)
            | _ => cases k5
          · cases h
        · exact key h
    | _ => exact key h
  | _ => exact key h
/-! ### calls -/
def biOf (x : Str) : Option Bi := if seq x "len" then some .len else if seq x "int" then some .int else if seq x "tuple" then some .tuple else if seq x "sum" then some .sum else if seq x "all" then some .all
  else if seq x "max" then some .max else if seq x "min" then some .min else none
theorem biOf_some {x : Str} {k : Bi} (h : biOf x = some k) : x = k.name := by
  unfold biOf at h
  repeat (split at h; · rename_i e; cases h; exact seq_eq e)
  cases h
def tyOf (x : Str) : Option Ty := if seq x "int" then some .int else if seq x "bool" then some .bool else if seq x "str" then some .str else if seq x "tuple" then some .tuple else if seq x "list" then some .list else none
theorem tyOf_some {x : Str} {k : Ty} (h : tyOf x = some k) : ∃ T : String, bootBuiltins x = some (.type T) ∧ x ≠ "__name__" ∧ (x == ("__debug__" : Str)) = false ∧ ∀ h v c, isTy h k v = some c → kitB (tyName v) T = some c := by
  unfold tyOf at h
  split at h
  · rename_i e
    cases h; rw [seq_eq e]
    exact ⟨"int", boot_int_, by decide, by decide, fun h v c e => isTy_kit e⟩
  split at h
  · rename_i e
    cases h; rw [seq_eq e]
    exact ⟨"bool", boot_bool_, by decide, by decide, fun h v c e => isTy_kit e⟩
  split at h
  · rename_i e
    cases h; rw [seq_eq e]
    exact ⟨"str", boot_str_, by decide, by decide, fun h v c e => isTy_kit e⟩
  split at h
  · rename_i e
    cases h; rw [seq_eq e]
    exact ⟨"tuple", boot_tuple_, by decide, by decide, fun h v c e => isTy_kit e⟩
  split at h
  · rename_i e
    cases h; rw [seq_eq e]
    exact ⟨"list", boot_list_, by decide, by decide, fun h v c e => isTy_kit e⟩
  · cases h
def isiE (c : C4) (g : GI) (sc : SC) (a : Expr) : Expr → Option Ex
  | .Name y _ => iff (glob sc y && (isBlt g y && notStar a)) (bindO (tyOf y) fun ty => (c.e sc a).map fun x => .isi ty x)
  | .Tuple es _ _ => (match es with
    | [.Name y _, .Name z _] => iff ((seq y "tuple" && seq z "list") && ((glob sc "tuple" && isBlt g "tuple") && ((glob sc "list" && isBlt g "list") && notStar a))) ((c.e sc a).map fun x => .isi .seq x)
    | _ => none)
  | _ => none
def xchE (c : C4) (g : GI) (sc : SC) (x : Str) (a : Expr) : Option Ex := match a with
  | .Call (.Name y _) [.Starred e _] [] _ => iff (seq x "tuple" && (seq y "zip" && (glob sc "zip" && isBlt g "zip"))) ((c.e sc e).map .xch)
  | _ => none
def bltE (c : C4) (g : GI) (sc : SC) (x : Str) (args : List Expr) : Option Ex := match args with
  | [a] => orE (xchE c g sc x a) <| iff (notStar a) (bindO (biOf x) fun k => orE ((c.l sc a).map fun l => .biL k l) ((c.e sc a).map fun e => .bi k e))
  | [a, b] => if seq x "isinstance" then isiE c g sc a b else iff (notStar a && notStar b) (if seq x "max" then bindO (c.e sc a) fun x => (c.e sc b).map fun y => .max2 x y else if seq x "min" then bindO (c.e sc a) fun x => (c.e sc b).map fun y => .min2 x y else none)
  | _ => none
def callE (c : C4) (g : GI) (sc : SC) (x : Str) (args : List Expr) : Option Ex := iff (glob sc x && notMagic x) (if isBlt g x then bltE c g sc x args else bindO (defFrom g.defs x 0) fun p => iff (args.all notStar) (match args with
    | [] => some (.call p.1 .nil)
    | e :: r => (c.x sc (e :: r)).map fun xs => .call p.1 xs))
theorem isiE_ok {g : GI} {c : C4} (G : Good g c) {t : T} {F : Adr} {sc : SC} {X : Cx} {b : Nat} (f : Fit g t F sc X) {a e : Expr} {p pos : Pos} {ir : Ex} (hg : Gl X "isinstance") (hm : X.mg "isinstance" = none) (h : isiE c g sc a e = some ir) :
    SE X F b (.Call (.Name "isinstance" p) [a, e] [] pos) (den t b ir) := by
  cases e with
  | Name y p2 =>
    obtain ⟨hc, h⟩ := iff_some h
    obtain ⟨h1, hc⟩ := and3 hc
    obtain ⟨h2, h3⟩ := and3 hc
    obtain ⟨ty, h4, h⟩ := bindO_some h
    obtain ⟨x, h5, rfl⟩ := Option.map_eq_some_iff.mp h
    obtain ⟨T, k1, k2, k3, k4⟩ := tyOf_some h4
    exact se_isi1 hg hm (f.glob h1) (f.bltin h2) k1 k2 k3 k4 h3 (G.e f h5)
  | Tuple es k p2 =>
    unfold isiE at h
    dsimp only at h
    split at h
    · obtain ⟨hc, h⟩ := iff_some h
      obtain ⟨h1, hc⟩ := and3 hc
      obtain ⟨h2, hc⟩ := and3 hc
      obtain ⟨h3, h4⟩ := and3 hc
      obtain ⟨e1, e2⟩ := and3 h1
      obtain ⟨x, h5, rfl⟩ := Option.map_eq_some_iff.mp h
      rw [seq_eq e1, seq_eq e2]
      exact se_isi2 hg hm (f.glob (and3 h2).1) (f.bltin (and3 h2).2) (f.glob (and3 h3).1) (f.bltin (and3 h3).2) h4 (G.e f h5)
    · cases h
  | _ => cases h
theorem xchE_ok {g : GI} {c : C4} (G : Good g c) {t : T} {F : Adr} {sc : SC} {X : Cx} {b : Nat} (f : Fit g t F sc X) {x : Str} {a : Expr} {p pos : Pos} {ir : Ex} (hg : Gl X x) (hm : X.mg x = none) (h : xchE c g sc x a = some ir) :
    SE X F b (.Call (.Name x p) [a] [] pos) (den t b ir) := by
  unfold xchE at h
  split at h
  · obtain ⟨hc, h⟩ := iff_some h
    obtain ⟨h1, hc⟩ := and3 hc
    obtain ⟨h2, hc⟩ := and3 hc
    obtain ⟨h3, h4⟩ := and3 hc
    obtain ⟨y, h5, rfl⟩ := Option.map_eq_some_iff.mp h
    have e1 := seq_eq h1
    have e2 := seq_eq h2
    subst e1
    rw [e2]
    exact se_xch f.calm hg hm (f.glob h3) (f.bltin h4) (G.e f h5)
  · cases h
theorem bltE_ok {g : GI} {c : C4} (G : Good g c) {t : T} {F : Adr} {sc : SC} {X : Cx} {b : Nat} (f : Fit g t F sc X) {x : Str} {args : List Expr} {p pos : Pos} {ir : Ex} (hg : Gl X x) (hm : X.mg x = none) (h : bltE c g sc x args = some ir) :
    SE X F b (.Call (.Name x p) args [] pos) (den t b ir) := by
  unfold bltE at h
  split at h
  · rcases orE_some h with h | h
    · exact xchE_ok G f hg hm h
    obtain ⟨h1, h⟩ := iff_some h
    obtain ⟨k, h2, h⟩ := bindO_some h
    have := biOf_some h2
    revert h
    subst this
    intro h
    rcases orE_some h with h | h
    · obtain ⟨l, h3, rfl⟩ := Option.map_eq_some_iff.mp h
      exact se_biL f.calm hg hm h1 (G.l f h3)
    · obtain ⟨l, h3, rfl⟩ := Option.map_eq_some_iff.mp h
      exact se_bi f.calm hg hm h1 (G.e f h3)
  · split at h
    · rename_i e
      have := seq_eq e
      revert h
      subst this
      intro h
      exact isiE_ok G f hg hm h
    · obtain ⟨h1, h⟩ := iff_some h
      obtain ⟨h1, h2⟩ := and3 h1
      split at h
      · rename_i e
        have := seq_eq e
        revert h
        subst this
        intro h
        obtain ⟨x, h3, h⟩ := bindO_some h
        obtain ⟨y, h4, rfl⟩ := Option.map_eq_some_iff.mp h
        exact se_max2 f.calm hg hm h1 h2 (G.e f h3) (G.e f h4)
      · split at h
        · rename_i e
          have := seq_eq e
          revert h
          subst this
          intro h
          obtain ⟨x, h3, h⟩ := bindO_some h
          obtain ⟨y, h4, rfl⟩ := Option.map_eq_some_iff.mp h
          exact se_min2 f.calm hg hm h1 h2 (G.e f h3) (G.e f h4)
        · cases h
  · cases h
theorem callE_ok {g : GI} {c : C4} (G : Good g c) {t : T} {F : Adr} {sc : SC} {X : Cx} {b : Nat} (f : Fit g t F sc X) {x : Str} {args : List Expr} {p pos : Pos} {ir : Ex} (h : callE c g sc x args = some ir) :
    SE X F b (.Call (.Name x p) args [] pos) (den t b ir) := by
  obtain ⟨h1, h⟩ := iff_some h
  obtain ⟨h1, h2⟩ := and3 h1
  split at h
  · rename_i hb
    exact bltE_ok G f (f.glob h1) (f.bltin hb) h
  · obtain ⟨⟨i, np⟩, h3, h⟩ := bindO_some h
    obtain ⟨h4, h⟩ := iff_some h
    obtain ⟨j, hj, h6⟩ := defFrom_some h3
    have hj : i = j := by omega
    rw [← hj] at h6
    obtain ⟨k, fd, ps, k1, k2, k3, k4, k5, k6⟩ := f.defs _ _ _ h6
    cases args with
    | nil =>
      cases h
      exact se_call0 k2 k3 (f.glob h1) k1 k4 k5 k6 (magic h2).1
    | cons e es =>
      obtain ⟨xs, h5, rfl⟩ := Option.map_eq_some_iff.mp h
      exact se_call k2 k3 (f.glob h1) k1 k4 k5 k6 (magic h2).1 h4 (G.x f h5)

/-! ### expressions -/
def boolOf : BoolOp → Ex → Ex → Ex
  | .And, a, d => .and a d
  | .Or, a, d => .or a d
def boolE (c : C4) (sc : SC) (op : BoolOp) : List Expr → Option Ex
  | [] => none
  | x :: r => (match r with
    | [] => c.e sc x
    | _ :: _ => bindO (c.e sc x) fun a => (boolE c sc op r).map fun d => boolOf op a d)
theorem boolE_ok {g : GI} {c : C4} (G : Good g c) {t : T} {F : Adr} {sc : SC} {X : Cx} {b : Nat} (f : Fit g t F sc X) {op : BoolOp} {pos : Pos} : ∀ {es : List Expr} {ir : Ex}, boolE c sc op es = some ir → SW X F b (.BoolOp op es pos) (den t b ir)
  | [], _, h => by cases h
  | [x], _, h => SW.one (G.e f h)
  | x :: y :: r, ir, h => by
    obtain ⟨a, h1, h⟩ := bindO_some (show (bindO (c.e sc x) fun a => (boolE c sc op (y :: r)).map fun d => boolOf op a d) = some ir from h)
    obtain ⟨d, h2, rfl⟩ := Option.map_eq_some_iff.mp h
    have ih := boolE_ok G f (b := b) (pos := pos) h2
    cases op with
    | And => exact SW.and (G.e f h1) ih
    | Or => exact SW.or (G.e f h1) ih
def cO (c : C4) (sc : SC) : Option Expr → Option Oe
  | none => some .none
  | some e => (c.e sc e).map .some
theorem cO_ok {g : GI} {c : C4} (G : Good g c) {t : T} {F : Adr} {sc : SC} {X : Cx} {b : Nat} (f : Fit g t F sc X) {e : Option Expr} {ir : Oe} (h : cO c sc e = some ir) : SO X F b e (denO t b ir).1 := by
  cases e with
  | none => cases h; exact so_none
  | some e =>
    obtain ⟨x, h1, rfl⟩ := Option.map_eq_some_iff.mp h
    exact so_some (G.e f h1)
def subE (c : C4) (sc : SC) (a : Expr) : Expr → Option Ex
  | .Slice lo hi st _ => (match st with
    | none => bindO (c.e sc a) fun x => bindO (cO c sc lo) fun l => (cO c sc hi).map fun h => .sl x l h
    | some _ => none)
  | i => bindO (c.e sc a) fun x => (c.e sc i).map fun y => .idx x y
theorem subE_ok {g : GI} {c : C4} (G : Good g c) {t : T} {F : Adr} {sc : SC} {X : Cx} {b : Nat} (f : Fit g t F sc X) {a i : Expr} {pos : Pos} {ir : Ex} (h : subE c sc a i = some ir) : SE X F b (.Subscript a i pos) (den t b ir) := by
  have key : notSlice i = true → (bindO (c.e sc a) fun x => (c.e sc i).map fun y => Ex.idx x y) = some ir → SE X F b (.Subscript a i pos) (den t b ir) := fun hs h => by
    obtain ⟨x, h1, h⟩ := bindO_some h
    obtain ⟨y, h2, rfl⟩ := Option.map_eq_some_iff.mp h
    exact se_idx hs (G.e f h1) (G.e f h2)
  cases i with
  | Slice lo hi st p =>
    cases st with
    | some _ => cases h
    | none =>
      obtain ⟨x, h1, h⟩ := bindO_some h
      obtain ⟨l, h2, h⟩ := bindO_some h
      obtain ⟨u, h3, rfl⟩ := Option.map_eq_some_iff.mp h
      exact se_sl (G.e f h1) (cO_ok G f h2) (cO_ok G f h3)
  | _ => exact key rfl h
def cmpE (c : C4) (sc : SC) (a : Expr) (ops : List CmpOp) (cs : List Expr) : Option Ex := match ops, cs with
  | [op], [d] => iff (!behindInMarks op d) (bindO (c.e sc a) fun x => (c.e sc d).map fun y => .cmp op x y)
  | [op, op2], [d, e] => iff (!lastMarks [op, op2] [d, e]) (bindO (c.e sc a) fun x => bindO (c.e sc d) fun y => (c.e sc e).map fun z => .cmp2 op op2 x y z)
  | _, _ => none
theorem cmpE_ok {g : GI} {c : C4} (G : Good g c) {t : T} {F : Adr} {sc : SC} {X : Cx} {b : Nat} (f : Fit g t F sc X) {a : Expr} {ops : List CmpOp} {cs : List Expr} {pos : Pos} {ir : Ex} (h : cmpE c sc a ops cs = some ir) : SE X F b (.Compare a ops cs pos) (den t b ir) := by
  unfold cmpE at h
  split at h
  · obtain ⟨hm, h⟩ := iff_some h
    obtain ⟨x, h1, h⟩ := bindO_some h
    obtain ⟨y, h2, rfl⟩ := Option.map_eq_some_iff.mp h
    exact se_cmp f.units (by simpa using hm) (G.e f h1) (G.e f h2)
  · obtain ⟨hm, h⟩ := iff_some h
    obtain ⟨x, h1, h⟩ := bindO_some h
    obtain ⟨y, h2, h⟩ := bindO_some h
    obtain ⟨z, h3, rfl⟩ := Option.map_eq_some_iff.mp h
    exact se_cmp2 f.units (by simpa using hm) (G.e f h1) (G.e f h2) (G.e f h3)
  · cases h
def methE (c : C4) (sc : SC) (o : Expr) (a : Str) (apos pos : Pos) (args : List Expr) : Option Ex := if seq a "append" then (match args with
  | [e] => iff ((apos.endLine == pos.line) && (notStar e && notCall o)) (bindO (c.e sc o) fun x => (c.e sc e).map fun y => .app x y)
  | _ => none) else none
def cE (c : C4) (g : GI) (sc : SC) (e : Expr) : Option Ex := orE (iff (plainT e) ((c.l sc e).map .new)) (match e with
  | .Name x _ => nmE g sc x
  | .Constant v _ _ => (constOf v).map .cst
  | .BinOp a op d _ => bindO (c.e sc a) fun x => (c.e sc d).map fun y => .bin op x y
  | .UnaryOp op a _ => (match op with
    | .USub => (c.e sc a).map .neg
    | .Not => (c.e sc a).map .not
    | _ => none)
  | .BoolOp op es _ => boolE c sc op es
  | .IfExp q a d _ => bindO (c.e sc q) fun z => bindO (c.e sc a) fun x => (c.e sc d).map fun y => .ife z x y
  | .Compare a ops cs _ => cmpE c sc a ops cs
  | .Tuple es _ _ => (c.x sc es).map .tup
  | .Subscript a i _ => subE c sc a i
  | .Call f args kws pos => (match kws with
    | [] => (match f with
      | .Name x _ => callE c g sc x args
      | .Attribute o a apos => methE c sc o a apos pos args
      | _ => none)
    | _ :: _ => none)
  | _ => none)
theorem cE_ok {g : GI} {c : C4} (G : Good g c) {t : T} {F : Adr} {sc : SC} {X : Cx} {b : Nat} (f : Fit g t F sc X) {e : Expr} {ir : Ex} (h : cE c g sc e = some ir) : SE X F b e (den t b ir) := by
  rcases orE_some h with h | h
  · obtain ⟨hp, h⟩ := iff_some h
    obtain ⟨l, h1, rfl⟩ := Option.map_eq_some_iff.mp h
    exact se_new hp (G.l f h1)
  cases e with
  | Name x p => exact nm_ok f h
  | Constant v k p =>
    obtain ⟨v, h1, rfl⟩ := Option.map_eq_some_iff.mp h
    exact se_cst h1
  | BinOp a op d p =>
    obtain ⟨x, h1, h⟩ := bindO_some h
    obtain ⟨y, h2, rfl⟩ := Option.map_eq_some_iff.mp h
    exact se_bin (G.e f h1) (G.e f h2)
  | UnaryOp op a p =>
    cases op with
    | USub =>
      obtain ⟨x, h1, rfl⟩ := Option.map_eq_some_iff.mp h
      exact se_neg (G.e f h1)
    | Not =>
      obtain ⟨x, h1, rfl⟩ := Option.map_eq_some_iff.mp h
      exact se_not (G.e f h1)
    | _ => cases h
  | BoolOp op es p => exact (boolE_ok G f h).toSE
  | IfExp q a d p =>
    obtain ⟨z, h1, h⟩ := bindO_some h
    obtain ⟨x, h2, h⟩ := bindO_some h
    obtain ⟨y, h3, rfl⟩ := Option.map_eq_some_iff.mp h
    exact se_ife (G.e f h1) (G.e f h2) (G.e f h3)
  | Compare a ops cs p => exact cmpE_ok G f h
  | Tuple es k p =>
    obtain ⟨xs, h1, rfl⟩ := Option.map_eq_some_iff.mp h
    exact se_tup (G.x f h1)
  | Subscript a i p => exact subE_ok G f h
  | Call fn args kws pos =>
    cases kws with
    | cons _ _ => cases h
    | nil =>
      cases fn with
      | Name x p => exact callE_ok G f h
      | Attribute o a apos =>
        have h : methE c sc o a apos pos args = some ir := h
        unfold methE at h
        split at h
        · rename_i e
          rw [seq_eq e]
          split at h
          · obtain ⟨h1, h⟩ := iff_some h
            obtain ⟨h1, h2⟩ := and3 h1
            obtain ⟨h2, h3⟩ := and3 h2
            obtain ⟨x, h4, h⟩ := bindO_some h
            obtain ⟨y, h5, rfl⟩ := Option.map_eq_some_iff.mp h
            exact se_app h1 h2 h3 (G.e f h4) (G.e f h5)
          · cases h
        · cases h
      | _ => cases h
  | _ => cases h
end Y

set_option Elab.async false
set_option linter.all false
set_option maxRecDepth 100000
set_option maxHeartbeats 4000000
/-! Cmp3: list comprehensions; statements. -/
namespace Y
open PySem PySem.Spec PyProof.Rows L2
theorem Fit.blk {g : GI} {t : T} {F : Adr} {sc : SC} {X : Cx} (f : Fit g t F sc X) {scope : Scope} (hk : scope.kind = .function) : InBlk X scope fun X' => Fit g t F ⟨relN scope.names sc.names, sc.N, ownC scope.names⟩ X' := by
  intro s H C cl fp
  refine ⟨f.calm, f.nd, f.N, ?_, hk, fun x z => ?_, f.units, f.blt, f.gl, f.defs⟩
  rotate_left
  · show (scope.names.lookup x == some .cell) = true
    have z : (match lk scope.names x with
      | some .cell => true
      | _ => false) = true := z
    rw [lk_eq]
    cases e : lk scope.names x with
    | none => rw [e] at z; cases z
    | some k =>
      rw [e] at z
      cases k <;> first | rfl | cases z
  show (scope.names.map fun (p : Str × NameKind) => if (p.2 == NameKind.free && X.env.scope.kind == .function && X.env.kindOf p.1 == some .cell) then (p.1, NameKind.cell) else (p.1, p.2)) = relN scope.names sc.names
  unfold relN
  refine List.map_congr_left fun p _ => ?_
  obtain ⟨n, k⟩ := p
  have e : X.env.kindOf n = lk sc.names n := f.look n
  dsimp only
  rw [f.kind, e]
  cases k <;> first | rfl | skip
  cases lk sc.names n with
  | none => rfl
  | some k' => cases k' <;> rfl
def kEq : NameKind → NameKind → Bool
  | .local, .local => true
  | .cell, .cell => true
  | .free, .free => true
  | .globalExplicit, .globalExplicit => true
  | .globalImplicit, .globalImplicit => true
  | _, _ => false
theorem kEq_eq {a b : NameKind} (h : kEq a b = true) : a = b := by cases a <;> cases b <;> first | rfl | cases h
def ownOf (N : List Str) : List (Str × NameKind) → List (Str × Nat)
  | [] => []
  | (n, k) :: r => match isLoc k with
    | true => (match ix N n with
      | some i => (n, i) :: ownOf N r
      | none => ownOf N r)
    | false => ownOf N r
theorem ownOf_ok {N : List Str} : ∀ {l : List (Str × NameKind)}, (∀ p ∈ ownOf N l, N[p.2]? = some p.1) ∧ ∀ y ∈ l, isLoc y.2 = true → y.1 ∈ (ownOf N l).map (·.1) ∨ y.1 ∉ N
  | [] => ⟨fun p hp => absurd hp List.not_mem_nil, fun y hy => absurd hy List.not_mem_nil⟩
  | (n, k) :: r => by
    obtain ⟨k1, k2⟩ := ownOf_ok (N := N) (l := r)
    have e : ownOf N ((n, k) :: r) = match isLoc k with
      | true => (match ix N n with
        | some i => (n, i) :: ownOf N r
        | none => ownOf N r)
      | false => ownOf N r := rfl
    cases hk : isLoc k with
    | true =>
      rw [hk] at e
      cases hi : ix N n with
      | some i =>
        rw [hi] at e
        rw [e]
        refine ⟨fun p hp => ?_, fun y hy hl => ?_⟩
        · rcases List.mem_cons.mp hp with e | hp
          · rw [e]; exact ix_some hi
          · exact k1 p hp
        · rcases List.mem_cons.mp hy with e | hy
          · rw [e]; exact .inl List.mem_cons_self
          · rcases k2 y hy hl with z | z
            · exact .inl (List.mem_cons_of_mem _ z)
            · exact .inr z
      | none =>
        rw [hi] at e
        rw [e]
        refine ⟨k1, fun y hy hl => ?_⟩
        rcases List.mem_cons.mp hy with e | hy
        · rw [e]; exact .inr (ixFrom_none hi)
        · exact k2 y hy hl
    | false =>
      rw [hk] at e
      rw [e]
      refine ⟨k1, fun y hy hl => ?_⟩
      rcases List.mem_cons.mp hy with e | hy
      · rw [e] at hl
        rw [show isLoc (n, k).2 = isLoc k from rfl, hk] at hl
        cases hl
      · exact k2 y hy hl
def isFun : ScopeKind → Bool
  | .function => true
  | _ => false
def uniqB (l : List (Str × NameKind)) : Bool := l.all fun p => match lk l p.1 with
  | some k => kEq k p.2
  | none => false
def freeB (sc : SC) (l : List (Str × NameKind)) : Bool := l.all fun p => match p.2 with
  | .free => (match lk sc.names p.1 with
    | some .cell => true
    | some .free => true
    | _ => false)
  | _ => true
def blkB (sc : SC) (scope : Scope) : Bool := isFun scope.kind && (uniqB scope.names && freeB sc scope.names)
theorem blkB_ok {g : GI} {t : T} {F : Adr} {sc : SC} {X : Cx} (f : Fit g t F sc X) {scope : Scope} (h : blkB sc scope = true) : BlkOk X.N X.env.scope scope (ownOf sc.N scope.names) := by
  obtain ⟨h1, h⟩ := and3 h
  obtain ⟨h2, h3⟩ := and3 h
  obtain ⟨k1, k2⟩ := ownOf_ok (N := sc.N) (l := scope.names)
  refine ⟨?_, fun y hy => ?_, fun p hp => by rw [f.N]; exact k1 p hp, fun y hy e => ?_, fun y hy e => by rw [f.N]; exact k2 y hy (by rcases e with e | e <;> rw [e] <;> rfl)⟩
  · cases e : scope.kind <;> first | rfl | (rw [e] at h1; cases h1)
  · have z := List.all_eq_true.mp h2 y hy
    rw [lk_eq]
    cases e : lk scope.names y.1 with
    | none => rw [e] at z; cases z
    | some k => rw [e] at z; rw [kEq_eq z]
  · have z := List.all_eq_true.mp h3 y hy
    rw [e] at z
    rw [f.look]
    cases e2 : lk sc.names y.1 with
    | none => rw [e2] at z; cases z
    | some k =>
      rw [e2] at z
      cases k <;> first | exact .inl rfl | exact .inr rfl | cases z
def notSet : Expr → Bool
  | .Set _ _ _ => false
  | _ => true
theorem notSet_ok {e : Expr} {env : PySem.Env} (h : notSet e = true) : ∀ x, foldedSetIterable e env x = pure x := fun x => by
  cases e <;> first | rfl | cases h
def memB (i : Nat) : List Nat → Bool
  | [] => false
  | j :: r => Nat.beq i j || memB i r
theorem memB_ok {i : Nat} : ∀ {l : List Nat}, memB i l = true → i ∈ l
  | [], h => by cases h
  | j :: r, h => by
    rcases Bool.or_eq_true_iff.mp (show (Nat.beq i j || memB i r) = true from h) with h | h
    · rw [Nat.eq_of_beq_eq_true h]; exact List.mem_cons_self
    · exact List.mem_cons_of_mem _ (memB_ok h)
structure LC where
  own : List (Str × Nat)
  tg : Tg
  sl : List Nat
  it : It
  c : Oe
  x : Ex
def LC.le (l : LC) : Le := .lc (l.own.map (·.2)) l.tg l.it l.c l.x
def testE (c : C4) (sc : SC) : List Expr → Option Oe
  | [] => some .none
  | e :: r => (match r with
    | [] => (c.e sc e).map .some
    | _ :: _ => none)
def cLC (c : C4) (sc : SC) (elt tg iter : Expr) (ifs : List Expr) (scope : Scope) : Option LC :=
  iff (blkB sc scope && notSet iter) (bindO (some (ownOf sc.N scope.names)) fun own => bindO (c.i sc tg iter) fun it => bindO (c.g ⟨relN scope.names sc.names, sc.N, ownC scope.names⟩ tg) fun p => iff (p.2.2 && p.2.1.all fun i => memB i (own.map (·.2)))
    (bindO (testE c ⟨relN scope.names sc.names, sc.N, ownC scope.names⟩ ifs) fun co => (c.e ⟨relN scope.names sc.names, sc.N, ownC scope.names⟩ elt).map fun x => ⟨own, p.1, p.2.1, it, co, x⟩))
structure LCOk (X : Cx) (F : Adr) (t : T) (b : Nat) (elt tg iter : Expr) (ifs : List Expr) (scope : Scope) (l : LC) : Prop where
  ok : BlkOk X.N X.env.scope scope l.own
  hfs : ∀ x, foldedSetIterable iter X.env x = pure x
  hi : SI X F b tg iter (denI t b l.it)
  ht : InBlk X scope fun X' => ST X' F b tg (denT t b l.tg) l.sl
  hcm : Calm (denT t b l.tg)
  hsl : ∀ i, i ∈ l.sl → i ∈ l.own.map (·.2)
  htest : okTest X F b scope ifs (denO t b l.c).2
  he : InBlk X scope fun X' => SE X' F b elt (den t b l.x)
theorem cLC_ok {g : GI} {c : C4} (G : Good g c) {t : T} {F : Adr} {sc : SC} {X : Cx} {b : Nat} (f : Fit g t F sc X) {elt tg iter : Expr} {ifs : List Expr} {scope : Scope} {l : LC} (h : cLC c sc elt tg iter ifs scope = some l) : LCOk X F t b elt tg iter ifs scope l := by
  obtain ⟨hc, h⟩ := iff_some h
  obtain ⟨h1, h2⟩ := and3 hc
  obtain ⟨own, h3, h⟩ := bindO_some h
  cases h3
  obtain ⟨it, h4, h⟩ := bindO_some h
  obtain ⟨⟨tgI, sl, k⟩, h5, h⟩ := bindO_some h
  obtain ⟨hc, h⟩ := iff_some h
  obtain ⟨h6, h7⟩ := and3 hc
  obtain ⟨co, h8, h⟩ := bindO_some h
  obtain ⟨x, h9, rfl⟩ := Option.map_eq_some_iff.mp h
  have ok := blkB_ok f h1
  have fb := f.blk ok.kind
  refine ⟨ok, notSet_ok h2, G.i f h4, fun s H C cl fp => (G.g (fb s H C cl fp) h5).1, (G.g (b := b) (fb X.s_0 X.H_0 0 [] []) h5).2.1 h6, fun i hi => memB_ok (List.all_eq_true.mp h7 i hi), ?_, fun s H C cl fp => G.e (fb s H C cl fp) h9⟩
  cases ifs with
  | nil => cases h8; exact trivial
  | cons q r =>
    cases r with
    | cons _ _ => cases h8
    | nil =>
      obtain ⟨d, h10, rfl⟩ := Option.map_eq_some_iff.mp h8
      exact fun s H C cl fp => G.e (fb s H C cl fp) h10
/-- the generators of a comprehension: one, not async -/
def cLCg (c : C4) (sc : SC) (elt : Expr) (gs : List Comprehension) (scope : Scope) : Option LC := match gs with
  | [⟨tg, iter, ifs, a⟩] => (match a with
    | .ofNat n => (match n with
      | 0 => cLC c sc elt tg iter ifs scope
      | _ + 1 => none)
    | .negSucc _ => none)
  | _ => none
theorem cLCg_ok {c : C4} {sc : SC} {elt : Expr} {gs : List Comprehension} {scope : Scope} {l : LC} (h : cLCg c sc elt gs scope = some l) : ∃ tg iter ifs, gs = [⟨tg, iter, ifs, 0⟩] ∧ cLC c sc elt tg iter ifs scope = some l := by
  unfold cLCg at h
  split at h
  · split at h
    · split at h
      · exact ⟨_, _, _, rfl, h⟩
      · cases h
    · cases h
  · cases h
def cLL (c : C4) (g : GI) (sc : SC) (e : Expr) : Option Le := match e with
  | .ListComp elt gs scope _ => (cLCg c sc elt gs scope).map LC.le
  | e => cL c g sc e
theorem cLL_ok {g : GI} {c : C4} (G : Good g c) {t : T} {F : Adr} {sc : SC} {X : Cx} {b : Nat} (f : Fit g t F sc X) {e : Expr} {ir : Le} (h : cLL c g sc e = some ir) : SL X F b e (denL t b ir) := by
  cases e with
  | ListComp elt gs scope p =>
    obtain ⟨l, h1, rfl⟩ := Option.map_eq_some_iff.mp (show (cLCg c sc elt gs scope).map LC.le = some ir from h)
    obtain ⟨tg, iter, ifs, rfl, h2⟩ := cLCg_ok h1
    have L := cLC_ok G f h2 (b := b)
    exact sl_lc f.calm f.nd L.ok L.hfs L.hi L.ht L.hcm L.hsl L.htest L.he
  | _ => exact cL_ok G f h
/-! ### all together -/
def stepC (g : GI) (c : C4) : C4 := ⟨cE c g, cLL c g, cX c, cI c g, cG c, cGs c⟩
def comp (g : GI) : Nat → C4
  | 0 => ⟨fun _ _ => none, fun _ _ => none, fun _ _ => none, fun _ _ _ => none, fun _ _ => none, fun _ _ => none⟩
  | n + 1 => stepC g (comp g n)
theorem comp_ok (g : GI) : ∀ n, Good g (comp g n)
  | 0 => by
    refine ⟨?_, ?_, ?_, ?_, ?_, ?_⟩ <;> intros <;> rename_i h <;> cases h
  | n + 1 => by
    have G := comp_ok g n
    refine ⟨?_, ?_, ?_, ?_, ?_, ?_⟩
    · intro _ _ _ _ _ f _ _ h; exact cE_ok G f h
    · intro _ _ _ _ _ f _ _ h; exact cLL_ok G f h
    · intro _ _ _ _ _ f _ _ h; exact cX_ok G f h
    · intro _ _ _ _ _ f _ _ _ h; exact cI_ok G f h
    · intro _ _ _ _ _ f _ _ _ _ h; exact cG_ok G f h
    · intro _ _ _ _ _ f _ _ _ h; exact cGs_ok G f h
end Y

set_option Elab.async false
set_option linter.all false
set_option maxRecDepth 100000
set_option maxHeartbeats 4000000
/-! Cmp4: statements. -/
namespace Y
open PySem PySem.Spec PyProof.Rows L2
def isComp : Expr → Bool
  | .ListComp _ _ _ _ => true
  | .SetComp _ _ _ _ => true
  | .DictComp _ _ _ _ _ => true
  | _ => false
theorem swaps_no {e : Expr} {tg : Option Expr} {n : Nat} {env : PySem.Env} (h : isComp e = false) : swapsWith e tg n env = pure false := by
  cases e <;> first | rfl | cases h
def isName : Expr → Bool
  | .Name _ _ => true
  | _ => false
theorem swaps_tg {e tg : Expr} {n : Nat} {env : PySem.Env} (h : isName tg = false) : swapsWith e (some tg) n env = pure false := by
  cases e <;> first | rfl | (cases tg <;> first | rfl | cases h)
def swapB (x : Str) (p lpos : Pos) (names : List (Str × NameKind)) : Bool := p.line == lpos.line && !(names.any fun q => seq q.1 x && isLoc q.2)
def isLcl (sc : SC) (x : Str) : Bool := match lk sc.names x with
  | some k => kEq k .local
  | none => false
theorem swaps_lc {g : GI} {t : T} {F : Adr} {sc : SC} {X : Cx} (f : Fit g t F sc X) {x : Str} {elt : Expr} {gs : List Comprehension} {scope : Scope} {lpos p : Pos} {n : Nat} :
    swapsWith (.ListComp elt gs scope lpos) (some (.Name x p)) n X.env = pure (isLcl sc x && swapB x p lpos scope.names) := by
  show (pure (X.env.blockKind == .function && X.env.kindOf x == some .local && p.line == lpos.line && !(scope.names.any fun q => q.1 == x && (q.2 == .local || q.2 == .cell))) : Sem Bool) = _
  have e1 : X.env.blockKind = .function := by
    unfold PySem.Env.blockKind
    rw [f.kind]; rfl
  have e2 : (X.env.kindOf x == some .local) = isLcl sc x := by
    show (X.env.scope.names.lookup x == some .local) = _
    unfold isLcl
    rw [f.look]
    cases lk sc.names x with
    | none => rfl
    | some k => cases k <;> rfl
  have e3 : (fun (q : Str × NameKind) => q.1 == x && (q.2 == .local || q.2 == .cell)) = fun q => seq q.1 x && isLoc q.2 := by
    funext q
    obtain ⟨n, k⟩ := q
    rw [seq_beq]
    cases k <;> rfl
  rw [e1, e2, e3]
  unfold swapB
  rw [← Bool.and_assoc]
  rfl
def isStarB : Expr → Bool
  | .Starred _ _ => true
  | _ => false
def namesOf (sc : SC) (line : Nat) : List Expr → List Str
  | [] => []
  | e :: r => (match e with
    | .Name x p => if (match lk sc.names x with
      | some k => kEq k .local
      | none => false) && p.line == line then x :: namesOf sc line r else namesOf sc line r
    | _ => namesOf sc line r)
def lineOf (ts : List Expr) : Nat := (ts.head?.map (·.pos.line)).getD 0
/-- which stores are swapped: none: it cannot be said -/
def swB (sc : SC) (ts vs : List Expr) : Option (Option (List Str)) :=
  if !(ts.length == 2 || ts.length == 3) || vs.length != ts.length then some none
  else if vs.any isStarB then some none
  else if (namesOf sc (lineOf ts) ts).length != ts.length || (namesOf sc (lineOf ts) ts).eraseDups.length != (namesOf sc (lineOf ts) ts).length then some none
  else if vs.all (foldedForSure 8) then some none
  else if vs.all (constantsAlone 8) then none
  else some (some (namesOf sc (lineOf ts) ts))
def nameIn (env : PySem.Env) (line : Nat) : Expr → Option Str
  | .Name id pos => if env.kindOf id == some .local && pos.line == line then some id else none
  | _ => none
theorem names_of {g : GI} {t : T} {F : Adr} {sc : SC} {X : Cx} (f : Fit g t F sc X) (line : Nat) : ∀ ts : List Expr, ts.filterMap (nameIn X.env line) = namesOf sc line ts
  | [] => rfl
  | e :: r => by
    have ih := names_of f line r
    cases e with
    | Name x p =>
      have e : X.env.kindOf x = lk sc.names x := f.look x
      have e2 : (X.env.kindOf x == some .local) = (match lk sc.names x with
        | some k => kEq k .local
        | none => false) := by
        rw [e]
        cases lk sc.names x with
        | none => rfl
        | some k => cases k <;> rfl
      have e3 : nameIn X.env line (.Name x p) = if (match lk sc.names x with
        | some k => kEq k .local
        | none => false) && p.line == line then some x else none := by
        rw [← e2]; rfl
      rw [List.filterMap_cons, e3, ih]
      show _ = if (match lk sc.names x with
          | some k => kEq k .local
          | none => false) && p.line == line then x :: namesOf sc line r else namesOf sc line r
      cases ((match lk sc.names x with
          | some k => kEq k .local
          | none => false) && p.line == line) <;> rfl
    | _ => rw [List.filterMap_cons]; exact ih
theorem sw_ok {g : GI} {t : T} {F : Adr} {sc : SC} {X : Cx} (f : Fit g t F sc X) {ts vs : List Expr} {k k2 : Nat} {p p2 : Pos} {r : Option (List Str)} (h : swB sc ts vs = some r) : swappedStores [.Tuple ts k p] (.Tuple vs k2 p2) X.env = pure r := by
  have e1 : X.env.blockKind = .function := by
    unfold PySem.Env.blockKind
    rw [f.kind]; rfl
  have e2 : (X.env.blockKind != .function) = false := by rw [e1]; rfl
  have e3 : swappedStores [.Tuple ts k p] (.Tuple vs k2 p2) X.env =
    if !(ts.length == 2 || ts.length == 3) || vs.length != ts.length || X.env.blockKind != .function then pure none
    else if vs.any isStarB then pure none
    else if (ts.filterMap (nameIn X.env (lineOf ts))).length != ts.length || (ts.filterMap (nameIn X.env (lineOf ts))).eraseDups.length != (ts.filterMap (nameIn X.env (lineOf ts))).length then pure none
    else if vs.all (foldedForSure 8) then pure none
    else if vs.all (constantsAlone 8) then (unsupported "assign.tuple-of-constant-expressions:order-of-the-stores" : Sem PUnit) >>= fun _ => pure (some (ts.filterMap (nameIn X.env (lineOf ts)))) else pure (some (ts.filterMap (nameIn X.env (lineOf ts)))) := rfl
  rw [e3, e2, Bool.or_false, names_of f]
  unfold swB at h
  split at h
  · rename_i h1; cases h; rw [if_pos h1]
  rename_i h1
  rw [if_neg h1]
  split at h
  · rename_i h2; cases h; rw [if_pos h2]
  rename_i h2
  rw [if_neg h2]
  split at h
  · rename_i h3; cases h; rw [if_pos h3]
  rename_i h3
  rw [if_neg h3]
  split at h
  · rename_i h4; cases h; rw [if_pos h4]
  rename_i h4
  rw [if_neg h4]
  split at h
  · cases h
  rename_i h5
  rw [if_neg h5]
  cases h
  rfl
/-! ### statements -/
structure S2 where
  s : SC → Stmt → St
  ss : SC → List Stmt → Sts
structure GoodS (gi : GI) (d : S2) : Prop where
  s : ∀ {t : T} {F : Adr} {sc : SC} {X : Cx} {b : Nat}, Fit gi t F sc X → PassesOwn (model X.prog X.w) X.A X.env X.xe → ∀ (st : Stmt), SS X F b st (denS t b (d.s sc st))
  ss : ∀ {t : T} {F : Adr} {sc : SC} {X : Cx} {b : Nat}, Fit gi t F sc X → PassesOwn (model X.prog X.w) X.A X.env X.xe → ∀ (st : List Stmt), SSs X F b st (denSs t b (d.ss sc st))
def isDoc : Expr → Bool
  | .Constant (.str _) _ _ => true
  | _ => false
/-- target = value -/
def asgE (c : C4) (sc : SC) (tg e : Expr) : Option St := iff (!(isName tg && isComp e)) (bindO (c.e sc e) fun x => (c.g sc tg).map fun p => .asg p.1 x)
/-- (…) = (…) -/
def parE (c : C4) (sc : SC) (tg : Expr) (ts : List Expr) (e : Expr) (vs : List Expr) : Option St := bindO (swB sc ts vs) fun r => match r with
  | none => asgE c sc tg e
  | some names => (match ts, vs, names with
    | [.Name x _, .Name y _], [e1, e2], [x', y'] => iff ((seq x x' && seq y y') && (notStar e1 && notStar e2)) (bindO (slotL sc x) fun i => bindO (slotL sc y) fun j => iff (!(Nat.beq i j)) (bindO (c.e sc e1) fun a => (c.e sc e2).map fun d => .par2 i j a d))
    | [.Name x _, .Name y _, .Name z _], [e1, e2, e3], [x', y', z'] => iff ((seq x x' && (seq y y' && seq z z')) && (notStar e1 && (notStar e2 && notStar e3))) (bindO (slotL sc x) fun i => bindO (slotL sc y) fun j => bindO (slotL sc z) fun l => iff (!(Nat.beq i j) && (!(Nat.beq i l) && !(Nat.beq j l)))
        (bindO (c.e sc e1) fun a => bindO (c.e sc e2) fun d => (c.e sc e3).map fun q => .par3 i j l a d q))
    | _, _, _ => none)
def asg1 (c : C4) (sc : SC) (tg e : Expr) : Option St := match tg with
  | .Name x _ => (match e with
    | .ListComp elt gs scope _ => bindO (slotOf sc x) fun i => (cLCg c sc elt gs scope).map fun l => .asg (.nm i) (.new l.le)
    | e => asgE c sc tg e)
  | .Tuple ts _ _ => (match e with
    | .Tuple vs _ _ => parE c sc tg ts e vs
    | e => asgE c sc tg e)
  | .List _ _ => none
  | tg => asgE c sc tg e
def cS (c : C4) (d : S2) (sc : SC) (st : Stmt) : Option St := match st with
  | .Pass _ => some .pass
  | .Break _ => some .brk
  | .Continue _ => some .ct
  | .Return e _ => (match e with
    | some e => (c.e sc e).map .ret
    | none => some .retN)
  | .Expr e _ => if isDoc e then some .pass else iff (!(isComp e)) ((c.e sc e).map .expr)
  | .If q a e _ => (c.e sc q).map fun x => .ife x (d.ss sc a) (d.ss sc e)
  | .While q a e _ => (match e with
    | [] => (c.e sc q).map fun x => .whl x (d.ss sc a)
    | _ :: _ => none)
  | .For tg iter a e _ => (match e with
    | [] => iff (notSet iter) (bindO (c.i sc tg iter) fun it => (c.g sc tg).map fun p => .for_ p.1 it (d.ss sc a))
    | _ :: _ => none)
  | .Assign tgs e _ => (match tgs with
    | [tg] => asg1 c sc tg e
    | _ => none)
  | .AugAssign tg op e _ => (match tg with
    | .Name x _ => iff (augOp op) (bindO (slotOf sc x) fun i => (c.e sc e).map fun y => .aug i op y)
    | _ => none)
  | _ => none
section
variable {g : GI} {c : C4} {d : S2} {t : T} {F : Adr} {sc : SC} {X : Cx} {b : Nat}
theorem asgE_ok (G : Good g c) (f : Fit g t F sc X) {tg e : Expr} {pos : Pos} {ir : St} (hw : swappedStores [tg] e X.env = pure none) (h : asgE c sc tg e = some ir) : SS X F b (.Assign [tg] e pos) (denS t b ir) := by
  obtain ⟨hc, h⟩ := iff_some h
  obtain ⟨x, h1, h⟩ := bindO_some h
  obtain ⟨⟨tgI, sl, k⟩, h2, rfl⟩ := Option.map_eq_some_iff.mp h
  obtain ⟨k1, k2, k3⟩ := G.g (b := b) f h2
  refine ss_asg ?_ hw k3 (G.e f h1) k1
  show swapsWith e (some tg) pos.line X.env = pure false
  cases e1 : isName tg with
  | false => exact swaps_tg e1
  | true =>
    rw [e1] at hc
    cases e2 : isComp e with
    | false => exact swaps_no e2
    | true => rw [e2] at hc; cases hc
theorem slot_ne {x y : Str} {i j : Nat} (h : (!(Nat.beq i j)) = true) : i ≠ j := fun e => by
  subst e
  rw [Nat.beq_refl] at h; cases h
theorem parE_ok (G : Good g c) (f : Fit g t F sc X) {ts vs : List Expr} {k k2 : Nat} {p p2 pos : Pos} {ir : St} (h : parE c sc (.Tuple ts k p) ts (.Tuple vs k2 p2) vs = some ir) : SS X F b (.Assign [.Tuple ts k p] (.Tuple vs k2 p2) pos) (denS t b ir) := by
  obtain ⟨r, h1, h⟩ := bindO_some h
  have sw := sw_ok f (k := k) (k2 := k2) (p := p) (p2 := p2) h1
  cases r with
  | none => exact asgE_ok G f sw h
  | some names =>
    dsimp only at h
    split at h
    · obtain ⟨hc, h⟩ := iff_some h
      obtain ⟨h2, h3⟩ := and3 hc
      obtain ⟨i, h4, h⟩ := bindO_some h
      obtain ⟨j, h5, h⟩ := bindO_some h
      obtain ⟨h6, h⟩ := iff_some h
      obtain ⟨a, h7, h⟩ := bindO_some h
      obtain ⟨q, h8, rfl⟩ := Option.map_eq_some_iff.mp h
      rw [← seq_eq (and3 h2).1, ← seq_eq (and3 h2).2] at sw
      obtain ⟨i1, i2⟩ := slotL_ok f h4
      obtain ⟨j1, j2⟩ := slotL_ok f h5
      exact ss_par2 f.calm f.nd i1 j1 (slot_ne (x := "") (y := "") h6) i2 j2 sw rfl (and3 h3).1 (and3 h3).2 (G.e f h7) (G.e f h8)
    · obtain ⟨hc, h⟩ := iff_some h
      obtain ⟨h2, h3⟩ := and3 hc
      obtain ⟨i, h4, h⟩ := bindO_some h
      obtain ⟨j, h5, h⟩ := bindO_some h
      obtain ⟨l, h5', h⟩ := bindO_some h
      obtain ⟨h6, h⟩ := iff_some h
      obtain ⟨a, h7, h⟩ := bindO_some h
      obtain ⟨q, h8, h⟩ := bindO_some h
      obtain ⟨r, h9, rfl⟩ := Option.map_eq_some_iff.mp h
      obtain ⟨e1, e2⟩ := and3 h2
      rw [← seq_eq e1, ← seq_eq (and3 e2).1, ← seq_eq (and3 e2).2] at sw
      obtain ⟨i1, i2⟩ := slotL_ok f h4
      obtain ⟨j1, j2⟩ := slotL_ok f h5
      obtain ⟨l1, l2⟩ := slotL_ok f h5'
      exact ss_par3 f.calm f.nd i1 j1 l1 (slot_ne (x := "") (y := "") (and3 h6).1) (slot_ne (x := "") (y := "") (and3 (and3 h6).2).1) (slot_ne (x := "") (y := "") (and3 (and3 h6).2).2) i2 j2 l2 sw rfl (and3 h3).1 (and3 (and3 h3).2).1 (and3 (and3 h3).2).2 (G.e f h7) (G.e f h8) (G.e f h9)
    · cases h
theorem asg1_ok (G : Good g c) (f : Fit g t F sc X) {tg e : Expr} {pos : Pos} {ir : St} (h : asg1 c sc tg e = some ir) : SS X F b (.Assign [tg] e pos) (denS t b ir) := by
  cases tg with
  | Name x p =>
    cases e with
    | ListComp elt gs scope lpos =>
      obtain ⟨i, h1, h⟩ := bindO_some (show (bindO (slotOf sc x) fun i => (cLCg c sc elt gs scope).map fun l => St.asg (.nm i) (.new l.le)) = some ir from h)
      obtain ⟨l, h2, rfl⟩ := Option.map_eq_some_iff.mp h
      obtain ⟨tg, iter, ifs, rfl, h3⟩ := cLCg_ok h2
      obtain ⟨i1, i2, i3⟩ := slot_ok f h1
      have L := cLC_ok G f h3 (b := b)
      have sw := swaps_lc f (x := x) (elt := elt) (gs := [⟨tg, iter, ifs, 0⟩]) (scope := scope) (lpos := lpos) (p := p) (n := pos.line)
      cases hb : isLcl sc x && swapB x p lpos scope.names with
      | true =>
        rw [hb] at sw
        have hl : X.env.scope.names.lookup x = some .local := by
          have z := (and3 hb).1
          unfold isLcl at z
          rw [f.look]
          cases e : lk sc.names x with
          | none => rw [e] at z; cases z
          | some k => rw [e] at z; rw [kEq_eq z]
        exact ss_setLc i1 hl f.calm f.nd L.ok sw L.hfs L.hi L.ht L.hcm L.hsl L.htest L.he
      | false =>
        rw [hb] at sw
        exact ss_set f.nd i1 i2 i3 sw (se_new rfl (sl_lc f.calm f.nd L.ok L.hfs L.hi L.ht L.hcm L.hsl L.htest L.he))
    | _ => exact asgE_ok G f rfl h
  | Tuple ts k p =>
    cases e with
    | Tuple vs k2 p2 => exact parE_ok G f h
    | _ => exact asgE_ok G f rfl h
  | List _ _ => cases h
  | _ => exact asgE_ok G f rfl h
theorem cS_ok (G : Good g c) (D : GoodS g d) (f : Fit g t F sc X) (hp : PassesOwn (model X.prog X.w) X.A X.env X.xe) {st : Stmt} {ir : St} (h : cS c d sc st = some ir) : SS X F b st (denS t b ir) := by
  cases st with
  | Pass p => cases h; exact ss_pass
  | Break p => cases h; exact ss_brk
  | Continue p => cases h; exact ss_ct
  | Return e p =>
    cases e with
    | none => cases h; exact ss_retN
    | some e =>
      obtain ⟨x, h1, rfl⟩ := Option.map_eq_some_iff.mp (show (c.e sc e).map St.ret = some ir from h)
      exact ss_ret (G.e f h1)
  | Expr e p =>
    have h : (if isDoc e then some St.pass else iff (!(isComp e)) ((c.e sc e).map .expr)) = some ir := h
    split at h
    · rename_i hd
      cases h
      cases e with
      | Constant v k q =>
        cases v with
        | str s => exact ss_doc
        | _ => cases hd
      | _ => cases hd
    · obtain ⟨hc, h⟩ := iff_some h
      obtain ⟨x, h1, rfl⟩ := Option.map_eq_some_iff.mp h
      exact ss_expr (swaps_no (by simpa using hc)) (G.e f h1)
  | If q a e p =>
    obtain ⟨x, h1, rfl⟩ := Option.map_eq_some_iff.mp (show ((c.e sc q).map fun x => St.ife x (d.ss sc a) (d.ss sc e)) = some ir from h)
    exact ss_ife (G.e f h1) (D.ss f hp a) (D.ss f hp e)
  | While q a e p =>
    cases e with
    | cons _ _ => cases h
    | nil =>
      obtain ⟨x, h1, rfl⟩ := Option.map_eq_some_iff.mp (show ((c.e sc q).map fun x => St.whl x (d.ss sc a)) = some ir from h)
      exact ss_whl hp (G.e f h1) (D.ss f hp a)
  | For tg iter a e p =>
    cases e with
    | cons _ _ => cases h
    | nil =>
      obtain ⟨hn, h⟩ := iff_some (show iff (notSet iter) (bindO (c.i sc tg iter) fun it => (c.g sc tg).map fun p => St.for_ p.1 it (d.ss sc a)) = some ir from h)
      obtain ⟨it, h1, h⟩ := bindO_some h
      obtain ⟨⟨tgI, sl, k⟩, h2, rfl⟩ := Option.map_eq_some_iff.mp h
      exact ss_for hp f.calm (notSet_ok hn) (G.i f h1) (G.g f h2).1 (D.ss f hp a)
  | Assign tgs e p =>
    cases tgs with
    | nil => cases h
    | cons tg r =>
      cases r with
      | nil => exact asg1_ok G f h
      | cons _ _ => cases h
  | AugAssign tg op e p =>
    cases tg with
    | Name x q =>
      obtain ⟨ho, h⟩ := iff_some (show iff (augOp op) (bindO (slotOf sc x) fun i => (c.e sc e).map fun y => St.aug i op y) = some ir from h)
      obtain ⟨i, h1, h⟩ := bindO_some h
      obtain ⟨y, h2, rfl⟩ := Option.map_eq_some_iff.mp h
      obtain ⟨i1, i2, i3⟩ := slot_ok f h1
      exact ss_aug ho f.nd i1 i2 i3 (G.e f h2)
    | _ => cases h
  | _ => cases h
end
def stepS (c : C4) (d : S2) : S2 := ⟨fun sc st => match cS c d sc st with
  | some ir => ir
  | none => .never, fun sc l => match l with
  | [] => .nil
  | st :: r => .cons (d.s sc st) (d.ss sc r)⟩
def compS (g : GI) : Nat → S2
  | 0 => ⟨fun _ _ => .never, fun _ _ => .cons .never .nil⟩
  | n + 1 => stepS (comp g n) (compS g n)
theorem sss_never {X : Cx} {F : Adr} {b : Nat} {t : T} {st : List Stmt} : SSs X F b st (denSs t b (.cons .never .nil)) := ⟨fun W env f h σ H D A p => (show False from p).elim⟩
theorem compS_ok (g : GI) : ∀ n, GoodS g (compS g n)
  | 0 => by
    refine ⟨?_, ?_⟩
    · intro _ _ _ _ _ f hp st; exact ss_never
    · intro _ _ _ _ _ f hp st; exact sss_never
  | n + 1 => by
    have G := comp_ok g n
    have D := compS_ok g n
    refine ⟨?_, ?_⟩
    · intro t F sc X b f hp st
      show SS X F b st (denS t b (match cS (comp g n) (compS g n) sc st with
        | some ir => ir
        | none => .never))
      cases h : cS (comp g n) (compS g n) sc st with
      | none => exact ss_never
      | some ir => exact cS_ok G D f hp h
    · intro t F sc X b f hp st
      cases st with
      | nil => exact sss_nil
      | cons s r => exact sss_cons (D.s f hp s) (D.ss f hp r)
end Y

set_option Elab.async false
set_option linter.all false
set_option maxRecDepth 100000
set_option maxHeartbeats 4000000
/-! Knot: each def does what the tables say. -/
namespace Y
open PySem PySem.Spec PyProof.Rows L2
section
variable {K : PySem.W.Frag} {F : Adr} {f f' : Nat → Addr} {h h' : Heap} {H H' : Hp}
theorem Sim.below (S : Sim K F f H h) : Below h.length h := fun i c _ e => by
  have q := S.at_ i c e
  cases c with
  | lst xs => obtain ⟨vs, _, r⟩ := q; exact Reps.bel xs vs r
  | ro xs => obtain ⟨vs, _, r⟩ := q; exact Reps.bel xs vs r
theorem Sim.take {n : Nat} (S : Sim K F f H h) (hn : n ≤ h.length) (hb : Below n h) : Sim K F f H (h.take n) := by
  have old : ∀ {i : Nat} {c : Cell}, (h.take n)[i]? = some c → i < n ∧ h[i]? = some c := fun {i c} e => by
    have hi : i < (h.take n).length := (List.getElem?_eq_some_iff.mp e).1
    rw [List.length_take] at hi
    have h1 : i < n := by omega
    rw [List.getElem?_take_of_lt h1] at e
    exact ⟨h1, e⟩
  have hl : (h.take n).length = n := by rw [List.length_take]; omega
  refine ⟨fun i j us ws hi hj e => S.inj i j us ws (old hi).2 (old hj).2 e, fun i c e => ?_⟩
  obtain ⟨h1, h2⟩ := old e
  have q := S.at_ i c h2
  have bl := hb i c h1 h2
  rw [hl]
  cases c with
  | lst xs => obtain ⟨vs, k1, k2⟩ := q; exact ⟨vs, k1, Reps.cutd xs vs k2 bl⟩
  | ro xs => obtain ⟨vs, k1, k2⟩ := q; exact ⟨vs, k1, Reps.cutd xs vs k2 bl⟩
theorem Ext.cut (S : Sim K F f H h) (E : Ext h.length f h H f' h' H') : Ext h.length f h H f' (h'.take h.length) H' := by
  have hl : (h'.take h.length).length = h.length := by rw [List.length_take]; exact Nat.min_eq_left E.le
  refine ⟨by rw [hl]; exact Nat.le_refl _, E.agr, E.kp, fun i h1 h2 => by rw [hl] at h2; exact absurd (Nat.lt_of_lt_of_le h2 h1) (Nat.lt_irrefl _), fun k hk q i c hi e => ?_, fun i c e => ?_⟩
  · have h1 : i < h.length := Nat.lt_of_lt_of_le hi hk
    rw [List.getElem?_take_of_lt h1] at e
    exact E.bel k hk q i c hi e
  · have h1 : i < h.length := (List.getElem?_eq_some_iff.mp e).1
    have q := E.kind i c e
    cases c with
    | lst xs => obtain ⟨ys, q⟩ := q; exact ⟨ys, by rw [List.getElem?_take_of_lt h1]; exact q⟩
    | ro xs => show (h'.take h.length)[i]? = _; rw [List.getElem?_take_of_lt h1]; exact q
end
/-- what a body's end gives -/
theorem leave_ok {K : PySem.W.Frag} {F : Adr} {f : Nat → Addr} {h : Heap} {H : Hp} {E : XK} {Q : VK} {r : RS} (S : Sim K F f H h) (p : Post K F h.length E f h H (leave h.length r) (GV K F Q)) :
    PostS K F h.length (fun cls d _ H => E cls d H) f h H r { nx := fun _ H' => Q .non H', rt := Q } := by
  have tk : ∀ {f' : Nat → Addr} {h' : Heap} {H' : Hp}, Sim K F f' H' h' → Ext h.length f h H f' h' H' → Sim K F f' H' (h'.take h.length) ∧ Ext h.length f h H f' (h'.take h.length) H' ∧ (h'.take h.length).length = h.length := fun {f' h' H'} S' E' =>
    ⟨S'.take E'.le (E'.bel _ (Nat.le_refl _) S.below), Ext.cut S E', by rw [List.length_take]; exact Nat.min_eq_left E'.le⟩
  cases r with
  | nx env h' =>
    have p : Post K F h.length E f h H (.ok .non (h'.take h.length)) (GV K F Q) := p
    intro f' H' σ' S' E' R'
    obtain ⟨S2, E2, _⟩ := tk S' E'
    exact p f' H' S2 E2 _ .non
  | ret v h' =>
    have p : Post K F h.length E f h H (if below h.length v then .ok v (h'.take h.length) else .ok v h') (GV K F Q) := p
    intro f' H' x S' E' r
    cases hb : below h.length v with
    | true =>
      rw [hb, if_pos rfl] at p
      obtain ⟨S2, E2, el⟩ := tk S' E'
      exact p f' H' S2 E2 x (by rw [el]; exact Rep.cutd v x r hb)
    | false =>
      rw [hb, if_neg (by decide)] at p
      exact p f' H' S' E' x r
  | brk env h' => exact (show False from p).elim
  | ct env h' => exact (show False from p).elim
  | ex e env h' =>
    obtain ⟨c, v⟩ := e
    intro f' H' σ' cls d S' E' R' rx
    obtain ⟨S2, E2, el⟩ := tk S' E'
    cases v with
    | none =>
      have p : Post K F h.length E f h H (.ex ⟨c, none⟩ (h'.take h.length)) (GV K F Q) := p
      exact p f' H' cls d S2 E2 rx
    | some v =>
      have p : Post K F h.length E f h H (if below h.length v then .ex ⟨c, some v⟩ (h'.take h.length) else .bad) (GV K F Q) := p
      cases hb : below h.length v with
      | false => rw [hb, if_neg (by decide)] at p; exact p.elim
      | true =>
        rw [hb, if_pos rfl] at p
        refine p f' H' cls d S2 E2 ?_
        obtain ⟨e1, dd, x, e2, e3, e4⟩ := rx
        exact ⟨e1, dd, x, e2, e3, by rw [el]; exact Rep.cutd v x e4 hb⟩
  | bad => exact (show False from p).elim
/-! ### a def's text and its meaning -/
structure DT1 where
  st : Stmt
  ps : List Str
  N : List Str
def DT1.nm (d : DT1) : Str := match d.st with
  | .FunctionDef name _ _ _ _ _ _ _ _ _ => name
  | _ => ""
def defG (ds : List DT1) (gls blts : List Str) : GI := ⟨ds.map fun d => (d.nm, d.ps.length), gls, blts⟩
def fuelC : Nat := 100
def defI (g : GI) (d : DT1) : Def := ⟨d.nm, d.ps.length, d.N.length, (compS g fuelC).ss ⟨(defScope d.st).names, d.N, fun _ => true⟩ (defBody d.st)⟩
def irs (ds : List DT1) (gls blts : List Str) : List Def := ds.map (defI (defG ds gls blts))
def notGen (sc : Scope) : Bool := !sc.isGenerator && !sc.isCoroutine
def noFree (l : List (Str × NameKind)) : Bool := l.all fun p => match p.2 with
  | .free => false
  | _ => true
def preB : List Str → List Str → Bool
  | [], _ => true
  | p :: ps, n :: N => seq p n && preB ps N
  | _ :: _, [] => false
theorem preB_ok : ∀ {ps N : List Str}, preB ps N = true → N.take ps.length = ps
  | [], _, _ => rfl
  | p :: ps, n :: N, h => by
    obtain ⟨h1, h2⟩ := and3 (show (seq p n && preB ps N) = true from h)
    rw [seq_eq h1]
    show n :: N.take ps.length = n :: ps
    rw [preB_ok h2]
  | _ :: _, [], h => by cases h
/-- the scope's side conditions -/
def scB (d : DT1) : Bool := isFun (defScope d.st).kind && (notGen (defScope d.st) && (nodupB d.N && (preB d.ps d.N && (noFree (defScope d.st).names && d.ps.all fun x => match lk (defScope d.st).names x with
  | some k => isLoc k
  | none => false))))
theorem scB_ok {d : DT1} (h : scB d = true) : FnScope d.N d.ps (defScope d.st) := by
  obtain ⟨h1, h⟩ := and3 h
  obtain ⟨h2, h⟩ := and3 h
  obtain ⟨h3, h⟩ := and3 h
  obtain ⟨h4, h⟩ := and3 h
  obtain ⟨h5, h6⟩ := and3 h
  obtain ⟨h7, h8⟩ := and3 h2
  refine ⟨?_, by simpa using h8, by simpa using h7, nodup_of h3, preB_ok h4, fun x hx => ?_, fun y hy e => ?_⟩
  · cases e : (defScope d.st).kind <;> first | rfl | (rw [e] at h1; cases h1)
  · have z := List.all_eq_true.mp h6 x hx
    rw [lk_eq]
    cases e : lk (defScope d.st).names x with
    | none => rw [e] at z; cases z
    | some k => rw [e] at z; cases k <;> first | exact .inl rfl | exact .inr rfl | cases z
  · have z := List.all_eq_true.mp h5 y hy
    rw [e] at z; cases z
/-- what the head gives: each def's function object, the constants, the free names -/
structure Hd (K : PySem.W.Frag) (mg : Str → Option Value) (F : Adr) (ds : List DT1) (gls blts : List Str) (gl : List Val) : Prop where
  fns : ∀ (i : Nat) (d : DT1), ds[i]? = some d → ∃ (qual : Str) (params : Arguments) (fd : FuncData), FunD K d.nm qual params (defBody d.st) (defScope d.st) [] [] (F.fn i) fd ∧ mg d.nm = some (.ref (F.fn i)) ∧ Binds K fd d.ps []
  sc : ∀ (i : Nat) (d : DT1), ds[i]? = some d → scB d = true
  blt : ∀ x ∈ blts, mg x = none
  gl : ∀ (k : Nat) (x : Str), gls[k]? = some x → ∃ (v : Val) (y : V) (u : Value), gl[k]? = some v ∧ mg x = some u ∧ RelV y u ∧ Rep K F (fun _ => 0) 0 (fun _ => none) v y
theorem tab_len {ds : List DT1} {gls blts : List Str} {gl : List Val} {n i : Nat} {d : DT1} (e : ds[i]? = some d) (args : List Val) (h : Heap) (hb : (tab (irs ds gls blts) gl n).call i args h ≠ .bad) : args.length = d.ps.length := by
  cases n with
  | zero => exact absurd rfl hb
  | succ n =>
    have e1 : (irs ds gls blts)[i]? = some (defI (defG ds gls blts) d) := by
      unfold irs
      rw [List.getElem?_map, e]; rfl
    have hb : (match (irs ds gls blts)[i]? with
      | some d => runDef (tab (irs ds gls blts) gl n) d args h
      | none => .bad) ≠ R.bad := hb
    rw [e1] at hb
    have hb : (if Nat.beq args.length d.ps.length then leave h.length (denSs (tab (irs ds gls blts) gl n) h.length (defI (defG ds gls blts) d).body (args.map some ++ List.replicate (d.N.length - d.ps.length) none) h) else R.bad) ≠ R.bad := hb
    cases hx : Nat.beq args.length d.ps.length with
    | true => exact Nat.eq_of_beq_eq_true hx
    | false => rw [hx] at hb; exact absurd rfl hb
theorem tab_gl (ds : List Def) (gl : List Val) : ∀ n, (tab ds gl n).gl = gl
  | 0 => rfl
  | _ + 1 => rfl
theorem REnv.start {K : PySem.W.Frag} {F : Adr} {f : Nat → Addr} {n : Nat} {H : Hp} {N : List Str} : ∀ {args : List Val} {vs : List V}, Reps K F f n H args vs → REnv K F f n H (args.map some ++ List.replicate (N.length - args.length) none) (start N vs) := fun {args vs} r => by
  refine ⟨by simp [L2.start, r.length], fun i v e => ?_⟩
  by_cases hi : i < args.length
  · rw [List.getElem?_append_left (by simpa using hi), List.getElem?_map] at e
    cases ea : args[i]? with
    | none => rw [ea] at e; cases e
    | some w =>
      rw [ea] at e
      have e' : w = v := Option.some.inj (Option.some.inj e)
      subst e'
      obtain ⟨x, h1, h2⟩ := r.get ea
      refine ⟨x, ?_, h2⟩
      unfold L2.start
      rw [List.getElem?_append_left (by rw [List.length_map, ← r.length]; exact hi), List.getElem?_map, h1]
      rfl
  · rw [List.getElem?_append_right (by simpa using Nat.le_of_not_lt hi), List.getElem?_replicate] at e
    split at e <;> cases e
theorem knot {P : Program} {w : World} {K : PySem.W.Frag} {mg : Str → Option Value} {base : PySem.Heap} {F : Adr} {ds : List DT1} {gls blts : List Str} {gl : List Val} (A : Hd K mg F ds gls blts gl) : ∀ (n i : Nat) (d : DT1) (fd : FuncData) (qual : Str) (params : Arguments),
    ds[i]? = some d → FunD K d.nm qual params (defBody d.st) (defScope d.st) [] [] (F.fn i) fd → FnOk P w K mg base (L2.CX P w) n (F.fn i) fd d.ps (spT K F (tab (irs ds gls blts) gl n) i d.ps.length)
  | 0, i, d, fd, qual, params, e, hf => by
    refine ⟨fun vs H Q E h => h.1, fun A outer s H args us vs Q E _ _ _ _ h => ?_⟩
    obtain ⟨_, f, h0, args', _, _, p⟩ := h
    exact p.elim
  | n + 1, i, d, fd, qual, params, e, hf => by
    have ih := knot (P := P) (w := w) (base := base) A n
    refine hf.ok (scB_ok (A.sc i d e)) (fun vs H Q E h => h.1) (fun cdv Ar outer s H vs Q E hr h => ?_)
    obtain ⟨hl, f, h0, args, S, rs, p⟩ := h
    have e1 : (irs ds gls blts)[i]? = some (defI (defG ds gls blts) d) := by
      unfold irs
      rw [List.getElem?_map, e]; rfl
    have p : Post K F h0.length E f h0 H (match (irs ds gls blts)[i]? with
      | some d => runDef (tab (irs ds gls blts) gl n) d args h0
      | none => .bad) (GV K F Q) := p
    rw [e1] at p
    have p : Post K F h0.length E f h0 H (if Nat.beq args.length d.ps.length then leave h0.length (denSs (tab (irs ds gls blts) gl n) h0.length (defI (defG ds gls blts) d).body (args.map some ++ List.replicate (d.N.length - d.ps.length) none) h0) else R.bad) (GV K F Q) := p
    obtain ⟨hx, p⟩ := Post.ite p
    have hal : args.length = d.ps.length := Nat.eq_of_beq_eq_true hx
    have p := leave_ok S p
    refine ⟨wSs _ (defBody d.st), pss_w, ?_⟩
    have fit : Fit (defG ds gls blts) (tab (irs ds gls blts) gl n) F ⟨(defScope d.st).names, d.N, fun _ => true⟩ (cxOf (L2.CX P w) P w K mg base d.N qual (defScope d.st) (F.fn i) cdv Ar outer s H E) := by
      refine ⟨rfl, (scB_ok (A.sc i d e)).nd, rfl, rfl, (scB_ok (A.sc i d e)).kind, fun _ _ => rfl, hr.units, A.blt, fun k x hk => by rw [tab_gl]; exact A.gl k x hk, fun j x np hj => ?_⟩
      have hj : (ds.map fun d => (d.nm, d.ps.length))[j]? = some (x, np) := hj
      rw [List.getElem?_map] at hj
      cases e2 : ds[j]? with
      | none => rw [e2] at hj; cases hj
      | some d2 =>
        rw [e2] at hj
        cases hj
        obtain ⟨q2, p2, fd2, k1, k2, k3⟩ := A.fns j d2 e2
        exact ⟨n, fd2, d2.ps, k2, ih j d2 fd2 q2 p2 e2 k1, hr, k1.kp, k3, fun args h => tab_len e2 args h⟩
    refine ((compS_ok (defG ds gls blts) fuelC).ss fit (passes_of rfl) (defBody d.st)).run (fun cls d _ H => E cls d H) _ f h0 _ H _ ⟨takes_of rfl rfl rfl rfl, Nat.le_refl _, S, ?_⟩ p
    rw [← hal]
    exact REnv.start rs
end Y

set_option Elab.async false
set_option linter.all false
set_option maxRecDepth 100000
set_option maxHeartbeats 4000000
/-! Bnd: arguments are bound by place. -/
namespace Y
open PySem PySem.Spec PyProof.Rows L2
theorem zip_lookup : ∀ {ps : List Str} {us : List Value}, us.length = ps.length → ∀ n ∈ ps, ((ps.zip us).lookup n).isNone = false
  | [], _, _, _, h => by cases h
  | p :: ps, [], hl, _, _ => by cases hl
  | p :: ps, u :: us, hl, n, h => by
    show ((match n == p with
      | true => some u
      | false => (ps.zip us).lookup n).isNone) = false
    cases e : n == p with
    | true => rfl
    | false =>
      cases h with
      | head => rw [beq_self_eq_true] at e; cases e
      | tail _ h => exact zip_lookup (by simpa using hl) n h
theorem zip_binds : ∀ {ps : List Str} {us : List Value}, us.length = ps.length → ps.Nodup → ∀ (pre : List (Str × Value)), (∀ n ∈ ps, pre.lookup n = none) → ps.filterMap (fun n => ((pre ++ ps.zip us).lookup n).map fun v => (n, v)) = ps.zip us
  | [], [], _, _, _, _ => rfl
  | [], _ :: _, hl, _, _, _ => by cases hl
  | p :: ps, [], hl, _, _, _ => by cases hl
  | p :: ps, u :: us, hl, nd, pre, hp => by
    obtain ⟨n1, n2⟩ := List.nodup_cons.mp nd
    have look : ∀ (l r : List (Str × Value)) (n : Str), l.lookup n = none → (l ++ r).lookup n = r.lookup n := fun l r n h => by
      induction l with
      | nil => rfl
      | cons q l ih =>
        obtain ⟨a, b⟩ := q
        have h : (match n == a with
          | true => some b
          | false => l.lookup n) = none := h
        show (match n == a with
          | true => some b
          | false => (l ++ r).lookup n) = _
        cases e : n == a with
        | true => rw [e] at h; cases h
        | false => rw [e] at h; exact ih h
    have e1 : ((pre ++ (p :: ps).zip (u :: us)).lookup p) = some u := by
      rw [look _ _ _ (hp p List.mem_cons_self)]
      show (match p == p with
        | true => some u
        | false => (ps.zip us).lookup p) = some u
      rw [beq_self_eq_true]
    rw [List.filterMap_cons, e1]
    show (p, u) :: _ = (p, u) :: ps.zip us
    have ih := zip_binds (ps := ps) (us := us) (by simpa using hl) n2 (pre ++ [(p, u)]) (fun n hn => by
      rw [look _ _ _ (hp n (List.mem_cons_of_mem _ hn))]
      show (match n == p with
        | true => some u
        | false => none) = none
      have : (n == p) = false := beq_eq_false_iff_ne.mpr fun e => n1 (e ▸ hn)
      rw [this])
    rw [List.append_assoc] at ih
    exact congrArg _ ih
def noneB {α : Type} : Option α → Bool
  | none => true
  | some _ => false
def emptyB {α : Type} : List α → Bool
  | [] => true
  | _ :: _ => false
def eqL : List Str → List Str → Bool
  | [], [] => true
  | a :: x, b :: y => seq a b && eqL x y
  | _, _ => false
theorem eqL_eq : ∀ {x y : List Str}, eqL x y = true → x = y
  | [], [], _ => rfl
  | [], _ :: _, h => by cases h
  | _ :: _, [], h => by cases h
  | a :: x, b :: y, h => by
    obtain ⟨h1, h2⟩ := and3 (show (seq a b && eqL x y) = true from h)
    rw [seq_eq h1, eqL_eq h2]
/-- plain parameters only -/
def argsB (a : Arguments) (ps : List Str) : Bool := emptyB a.posonlyargs && (eqL (a.args.map (·.arg)) ps && (emptyB a.kwonlyargs && (noneB a.vararg && (noneB a.kwarg && (emptyB a.defaults && nodupB ps)))))
theorem bind_ok_ {x qual : Str} {params : Arguments} {body : List Stmt} {scope : Scope} {ps : List Str} (h : argsB params ps = true) (kV doc pm : Value) (an : Option Addr) (cdv ct : Value) (us : List Value) (hl : us.length = ps.length) :
    bindArgs (PySem.W.fnOf x qual params body scope .none kV doc pm an cdv ct) ⟨us, []⟩ = pure (ps.zip us) := by
  obtain ⟨po, ar, va, ko, kd, kw, df⟩ := params
  obtain ⟨h1, h⟩ := and3 h
  obtain ⟨h2, h⟩ := and3 h
  obtain ⟨h3, h⟩ := and3 h
  obtain ⟨h4, h⟩ := and3 h
  obtain ⟨h5, h⟩ := and3 h
  obtain ⟨h6, h7⟩ := and3 h
  have h2 := eqL_eq h2
  have nd := nodup_of h7
  cases po with
  | cons _ _ => cases h1
  | nil =>
    cases ko with
    | cons _ _ => cases h3
    | nil =>
      cases va with
      | some _ => cases h4
      | none =>
        cases kw with
        | some _ => cases h5
        | none =>
          have h2 : ar.map (·.arg) = ps := h2
          have f1 : ps.filter (fun n => ((ps.zip us).lookup n).isNone) = [] := List.filter_eq_nil_iff.mpr fun n hn => by rw [zip_lookup hl n hn]; decide
          have f2 := zip_binds hl nd [] (fun _ _ => rfl)
          have z : seqItems? Value.none = pure none := rfl
          have g : ¬ (us.length > ps.length) := by omega
          unfold bindArgs PySem.W.fnOf
          simp [z, h2, f1, g]
          exact congrArg _ f2
end Y

set_option Elab.async false
set_option linter.all false
set_option maxRecDepth 100000
set_option maxHeartbeats 4000000
/-! HeadY: what the head gives. -/
namespace Y
open PySem PySem.Spec PyProof.Rows L2
section
variable (K : PySem.W.Frag)
def allV (f : Val → Value → Bool) : List Val → List Value → Bool
  | [], [] => true
  | v :: vs, u :: us => f v u && allV f vs us
  | _, _ => false
def okV : Nat → Val → Value → Bool
  | _, .non, .none => true
  | _, .bl b, .bool c => b == c
  | _, .int i, .int j _ => decide (i = j)
  | _, .str x, .str y _ => decide (x = y)
  | n + 1, .tup xs, .ref a => (match K.lookup a with
    | some ⟨.type s, _, .seq its _, _⟩ => decide (s = "tuple") && (decide (its.size ≤ sizeLine) && allV (okV n) xs its.toList)
    | _ => false)
  | _, _, _ => false
end
theorem allV_ok {K : PySem.W.Frag} {F : Adr} {f : Val → Value → Bool} (hf : ∀ v u, f v u = true → ∃ y, RelV y u ∧ Rep K F (fun _ => 0) 0 (fun _ => none) v y) : ∀ {xs : List Val} {us : List Value}, allV f xs us = true → ∃ ys, Vals ys us ∧ Reps K F (fun _ => 0) 0 (fun _ => none) xs ys
  | [], [], _ => ⟨[], .nil, .nil⟩
  | [], _ :: _, h => by cases h
  | _ :: _, [], h => by cases h
  | v :: vs, u :: us, h => by
    obtain ⟨h1, h2⟩ := and3 (show (f v u && allV f vs us) = true from h)
    obtain ⟨y, k1, k2⟩ := hf v u h1
    obtain ⟨ys, k3, k4⟩ := allV_ok hf h2
    exact ⟨y :: ys, .cons k1 k3, .cons k2 k4⟩
theorem okV_ok {K : PySem.W.Frag} {F : Adr} : ∀ (n : Nat) (v : Val) (u : Value), okV K n v u = true → ∃ y, RelV y u ∧ Rep K F (fun _ => 0) 0 (fun _ => none) v y := by
  intro n
  induction n with
  | zero =>
    intro v u h
    cases v with
    | non => cases u <;> first | exact ⟨.non, rfl, .non⟩ | cases h
    | bl b => cases u with
      | bool c =>
        have e : b = c := eq_of_beq (show (b == c) = true from h)
        exact ⟨.bl b, by rw [e]; rfl, .bl b⟩
      | _ => cases h
    | int i => cases u with
      | int j t =>
        have e : i = j := of_decide_eq_true h
        exact ⟨.int i, ⟨t, by rw [e]⟩, .int i⟩
      | _ => cases h
    | str x => cases u with
      | str y t =>
        have e : x = y := of_decide_eq_true h
        exact ⟨.str x, ⟨t, by rw [e]⟩, .str x⟩
      | _ => cases h
    | _ => cases u <;> cases h
  | succ n ih =>
    intro v u h
    cases v with
    | non => cases u <;> first | exact ⟨.non, rfl, .non⟩ | cases h
    | bl b => cases u with
      | bool c =>
        have e : b = c := eq_of_beq (show (b == c) = true from h)
        exact ⟨.bl b, by rw [e]; rfl, .bl b⟩
      | _ => cases h
    | int i => cases u with
      | int j t =>
        have e : i = j := of_decide_eq_true h
        exact ⟨.int i, ⟨t, by rw [e]⟩, .int i⟩
      | _ => cases h
    | str x => cases u with
      | str y t =>
        have e : x = y := of_decide_eq_true h
        exact ⟨.str x, ⟨t, by rw [e]⟩, .str x⟩
      | _ => cases h
    | tup xs => cases u with
      | ref a =>
        have h : (match K.lookup a with
          | some ⟨.type s, _, .seq its _, _⟩ => decide (s = "tuple") && (decide (its.size ≤ sizeLine) && allV (okV K n) xs its.toList)
          | _ => false) = true := h
        cases q : K.lookup a with
        | none => rw [q] at h; cases h
        | some o =>
          obtain ⟨oc, od, dt, osl⟩ := o
          rw [q] at h
          cases oc with
          | type s =>
            cases dt with
            | seq its m =>
              obtain ⟨h1, h2⟩ := and3 (show (decide (s = "tuple") && (decide (its.size ≤ sizeLine) && allV (okV K n) xs its.toList)) = true from h)
              obtain ⟨h2, h3⟩ := and3 h2
              obtain ⟨ys, k1, k2⟩ := allV_ok ih h3
              exact ⟨.ref a, rfl, .tup (.inr ⟨_, its, m, q, congrArg Value.type (of_decide_eq_true h1), rfl, of_decide_eq_true h2, k1⟩) k2⟩
            | _ => cases h
          | _ => cases dt <;> cases h
      | _ => cases h
    | _ => cases u <;> cases h
/-! ### the Hook -/
abbrev AlY : Type := Bool × He.AlD
def glB (gl : List (Str × Val)) (K : PySem.W.Frag) : Bool := gl.all fun p => match PySem.W.nsIn K mainGlobals p.1 with
  | some (some u) => okV K 8 p.2 u
  | _ => false
def obsY (gl : List (Str × Val)) (fa : List He.Fa) (fn : List He.DefD) (K : PySem.W.Frag) : AlY := (glB gl K, He.obsD fa fn K)
def valY (fn : List He.DefD) : AlY := (true, He.valD fn)
def SaysY (gl : List (Str × Val)) (fa : List He.Fa) (fn : List He.DefD) (K : PySem.W.Frag) : Prop := obsY gl fa fn K = valY fn
def obsYG (n : Nat) (gl : List (Str × Val)) (fa : List He.Fa) (fn : List He.DefD) (g : Addr → Option Obj) : AlY := obsY gl fa fn (He.frG g (He.asD g n))
def hookY (n : Nat) (gl : List (Str × Val)) (fa : List He.Fa) (fn : List He.DefD) : PySem.W.Hook where
  α := AlY
  obs := fun s => obsYG n gl fa fn s.heap.get?
  val := fun _ => valY fn
  says := fun _ h => ∃ K : PySem.W.Frag, K.In h ∧ SaysY gl fa fn K
  of := fun _ _ e => ⟨_, He.frG_in, e⟩
  keeps := fun _ _ _ ⟨K, hK, c⟩ k => ⟨K, PySem.W.Frag.In.keeps hK k, c⟩
theorem obsYG_eq {n : Nat} {gl : List (Str × Val)} {fa : List He.Fa} {fn : List He.DefD} {g : Addr → Option Obj} {s : Shared} (h : ∀ a, g a = s.heap.get? a) : obsYG n gl fa fn g = (hookY n gl fa fn).obs s := by
  have e : g = s.heap.get? := funext h
  rw [e]; rfl
/-! ### the defs -/
def defD (d : DT1) : He.DefD := ⟨(d.nm, none), d.nm, d.nm, defArgs d.st, defBody d.st, defScope d.st, [], []⟩
def faOf (ds : List DT1) (blts : List Str) : List He.Fa := (ds.map fun d => He.Fa.glo d.nm) ++ blts.map He.Fa.free
def adrOf (ds : List DT1) (K : PySem.W.Frag) : Adr := ⟨fun i => match ds[i]? with
  | some d => He.ga K d.nm
  | none => 0, fun _ => 0, fun _ => ""⟩
def okDs (ds : List DT1) : Bool := ds.all fun d => scB d && argsB (defArgs d.st) d.ps
theorem hd_of {ds : List DT1} {gl : List (Str × Val)} {blts : List Str} {K : PySem.W.Frag} {h : PySem.Heap} {mg : Str → Option Value} (X : K.In h) (G : h.Ns mainGlobals mg) (c : SaysY gl (faOf ds blts) (ds.map defD) K) (ok : okDs ds = true) :
    Hd K mg (adrOf ds K) ds (gl.map (·.1)) blts (gl.map (·.2)) := by
  have c1 : glB gl K = true := congrArg (fun z : AlY => z.1) c
  have c2 : He.SaysD (faOf ds blts) (ds.map defD) K := congrArg (fun z : AlY => z.2) c
  have okd : ∀ (i : Nat) (d : DT1), ds[i]? = some d → scB d = true ∧ argsB (defArgs d.st) d.ps = true := fun i d e => and3 (List.all_eq_true.mp ok d (List.mem_of_getElem? e))
  refine ⟨fun i d e => ?_, fun i d e => (okd i d e).1, fun x hx => ?_, fun k x e => ?_⟩
  · obtain ⟨fd, F⟩ := c2.def_ i (d := defD d) (by rw [List.getElem?_map, e]; rfl)
    have ef : (adrOf ds K).fn i = He.ga K d.nm := by
      show (match ds[i]? with
        | some d => He.ga K d.nm
        | none => 0) = _
      rw [e]
    have hi : i < ds.length := (List.getElem?_eq_some_iff.mp e).1
    have g := He.glo_ok X G (c2.fact i (f := .glo d.nm) (by
      unfold faOf
      rw [List.getElem?_append_left (by simpa using hi), List.getElem?_map, e]; rfl))
    rw [ef]
    refine ⟨d.nm, defArgs d.st, fd, F, g, ?_⟩
    exact FunD.bindsN F fun kV doc pm an cdv ct us hl => bind_ok_ (okd i d e).2 kV doc pm an cdv ct us hl
  · obtain ⟨j, hj⟩ := List.getElem?_of_mem hx
    exact He.free_ok X G (c2.fact (ds.length + j) (f := .free x) (by
      unfold faOf
      rw [List.getElem?_append_right (by simp), List.length_map, Nat.add_sub_cancel_left, List.getElem?_map, hj]; rfl))
  · rw [List.getElem?_map] at e
    cases eg : gl[k]? with
    | none => rw [eg] at e; cases e
    | some p =>
      rw [eg] at e
      cases e
      have z := List.all_eq_true.mp c1 p (List.mem_of_getElem? eg)
      cases en : PySem.W.nsIn K mainGlobals p.1 with
      | none => rw [en] at z; cases z
      | some o =>
        rw [en] at z
        cases o with
        | none => cases z
        | some u =>
          obtain ⟨y, k1, k2⟩ := okV_ok (F := adrOf ds K) 8 p.2 u z
          exact ⟨p.2, y, u, by rw [List.getElem?_map, eg]; rfl, PySem.W.mg_of X G en, k1, k2⟩
theorem sql_ro {K : PySem.W.Frag} {H : Hp} {a : Addr} {vs : List V} (hO : Only H) (h : SqL K H a vs) : RoL K H a vs := by
  rcases h with (h | h) | h
  · rcases hO a with e | ⟨o, xs, e⟩
    · rw [e] at h; cases h
    · rw [e] at h; cases h
  · exact .inl h
  · exact .inr h
theorem reps_ints {K : PySem.W.Frag} {F : Adr} {f : Nat → Addr} {n : Nat} {H : Hp} : ∀ ns : List Int, Reps K F f n H (ns.map .int) (ns.map V.int)
  | [] => .nil
  | i :: ns => .cons (.int i) (reps_ints ns)
/-- the law's promise from the tables' answer -/
theorem sp_law {K : PySem.W.Frag} {F : Adr} {t : T} {i : Nat} {ns : List Int} {H : Hp} {a : Addr} (hO : Only H) (hS : SqL K H a (ns.map V.int)) (h : ∃ h', t.call i [.lst 0] [.ro (ns.map .int)] = .ok (.bl true) h') :
    spT K F t i 1 [.ref a] H (fun v _ => v = .bl true) fun _ _ _ => False := by
  obtain ⟨h', e⟩ := h
  refine ⟨rfl, fun _ => a, [.ro (ns.map .int)], [.lst 0], ⟨fun j k xs ys hj hk _ => ?_, fun j c e => ?_⟩, .cons (.lst (Nat.zero_lt_succ _) rfl) .nil, ?_⟩
  · cases j with
    | zero => cases hj
    | succ j => cases hj
  · cases j with
    | zero => cases e; exact ⟨_, sql_ro hO hS, reps_ints ns⟩
    | succ j => cases e
  · rw [e]
    intro f' H' S' E' x r
    exact r.bl_inv
theorem facts_of {ds : List DT1} {gl : List (Str × Val)} {blts : List Str} {P : Program} {w : World} {K : PySem.W.Frag} {h : PySem.Heap} {mg : Str → Option Value} {f : Addr} {n i : Nat} {d : DT1} {x : Str} (X : K.In h) (G : h.Ns mainGlobals mg) (ok : okDs ds = true) (e : ds[i]? = some d) (hps : d.ps = [x])
    (hfa : mg d.nm = some (.ref f)) (c : SaysY gl (faOf ds blts) (ds.map defD) K) :
    ∃ fd : FuncData, (∀ (s : Shared) (v : Value), BindsTo s fd ⟨[v], []⟩ [(x, v)]) ∧ ∀ base : PySem.Heap, K.In base → base.Ns mainGlobals mg → FnOk P w K mg base (L2.CX P w) n f fd [x] (spT K (adrOf ds K) (tab (irs ds (gl.map (·.1)) blts) (gl.map (·.2)) n) i 1) := by
  have A := hd_of X G c ok
  have c2 : He.SaysD (faOf ds blts) (ds.map defD) K := congrArg (fun z : AlY => z.2) c
  obtain ⟨fd, F⟩ := c2.def_ i (d := defD d) (by rw [List.getElem?_map, e]; rfl)
  have ef : (adrOf ds K).fn i = He.ga K d.nm := by
    show (match ds[i]? with
      | some d => He.ga K d.nm
      | none => 0) = _
    rw [e]
  have hi : i < ds.length := (List.getElem?_eq_some_iff.mp e).1
  have g := He.glo_ok X G (c2.fact i (f := .glo d.nm) (by
    unfold faOf
    rw [List.getElem?_append_left (by simpa using hi), List.getElem?_map, e]; rfl))
  rw [g] at hfa
  have hf : He.ga K d.nm = f := by injection hfa with z; injection z
  have okd : argsB (defArgs d.st) d.ps = true := (and3 (List.all_eq_true.mp ok d (List.mem_of_getElem? e))).2
  refine ⟨fd, fun s v => ?_, fun base _ _ => ?_⟩
  · have b := FunD.bindsA F (ps := d.ps) (fun kV doc pm an cdv ct us hl => bind_ok_ okd kV doc pm an cdv ct us hl) s [v] (by rw [hps]; rfl)
    rw [hps] at b
    exact b
  · have z := knot (P := P) (w := w) (base := base) A n i d fd d.nm (defArgs d.st) e (by rw [ef]; exact F)
    rw [ef, hf, hps] at z
    exact z
end Y

set_option Elab.async false
set_option linter.all false
set_option maxRecDepth 100000
set_option maxHeartbeats 4000000
/-! Sym: the small language's runs, step by step. -/
namespace Y
open PySem
def RS.sq (r : RS) (k : DS) : RS := match r with
  | .nx env h => k env h
  | q => q
section
variable {t : T} {b : Nat} {env : Env} {h : Heap}
@[simp] theorem sq_nx {k : DS} : RS.sq (.nx env h) k = k env h := rfl
@[simp] theorem sq_ret {k : DS} {v : Val} : RS.sq (.ret v h) k = .ret v h := rfl
theorem sq_ex {k : DS} {e : Exn} : RS.sq (.ex e env h) k = .ex e env h := rfl
theorem sq_brk {k : DS} : RS.sq (.brk env h) k = .brk env h := rfl
theorem sq_ct {k : DS} : RS.sq (.ct env h) k = .ct env h := rfl
@[simp] theorem r_nil : denSs t b .nil env h = .nx env h := rfl
@[simp] theorem r_cons {s : St} {r : Sts} : denSs t b (.cons s r) env h = (denS t b s env h).sq (denSs t b r) := rfl
@[simp] theorem r_nm {i : Nat} {e : Ex} : denS t b (.asg (.nm i) e) env h = ((den t b e).v env h).then env fun v h1 => .nx (env.set i (some v)) h1 := by
  show ((den t b e).v env h).then env (fun v h1 => ((R.ok (env.set i (some v)) h1 : R Env)).then env fun env' h' => .nx env' h') = _
  rfl
theorem r_sub {x y e : Ex} : denS t b (.asg (.sub x y) e) env h = ((den t b e).v env h).then env fun v h1 => (((den t b x).v env h1).bind fun x h1 => ((den t b y).v env h1).bind fun y h2 => (putV b x y v h2).bind fun _ h3 => .ok env h3).then env fun env' h' => .nx env' h' := rfl
theorem r_asg {tg : Tg} {e : Ex} : denS t b (.asg tg e) env h = ((den t b e).v env h).then env fun v h1 => (denT t b tg v env h1).then env fun env' h' => .nx env' h' := rfl
@[simp] theorem r_par2 {i j : Nat} {x y : Ex} : denS t b (.par2 i j x y) env h = ((den t b x).v env h).then env fun v h1 => ((den t b y).v env h1).then env fun u h2 => .nx ((env.set i (some v)).set j (some u)) h2 := rfl
@[simp] theorem r_par3 {i j k : Nat} {x y z : Ex} : denS t b (.par3 i j k x y z) env h = ((den t b x).v env h).then env fun v h1 => ((den t b y).v env h1).then env fun u h2 => ((den t b z).v env h2).then env fun w h3 => .nx (((env.set i (some v)).set j (some u)).set k (some w)) h3 := rfl
def augG (o : Option Val) (op : Operator) (r : R Val) (i : Nat) (env : Env) : RS := match o with
  | some x => r.then env fun y h1 => (augV op x y h1).then env fun z h2 => .nx (env.set i (some z)) h2
  | none => .bad
@[simp] theorem r_aug {i : Nat} {op : Operator} {e : Ex} : denS t b (.aug i op e) env h = augG (env.get i) op ((den t b e).v env h) i env := rfl
@[simp] theorem augG_some {x : Val} {op : Operator} {r : R Val} {i : Nat} : augG (some x) op r i env = r.then env fun y h1 => (augV op x y h1).then env fun z h2 => .nx (env.set i (some z)) h2 := rfl
@[simp] theorem av_sub {i j : Int} : augV .Sub (.int i) (.int j) h = .ok (.int (i - j)) h := rfl
@[simp] theorem av_add {i j : Int} : augV .Add (.int i) (.int j) h = .ok (.int (i + j)) h := rfl
@[simp] theorem r_expr {e : Ex} : denS t b (.expr e) env h = ((den t b e).v env h).then env fun _ h1 => .nx env h1 := rfl
@[simp] theorem r_ret {e : Ex} : denS t b (.ret e) env h = ((den t b e).v env h).then env fun v h1 => .ret v h1 := rfl
@[simp] theorem r_retN : denS t b .retN env h = .ret .non h := rfl
@[simp] theorem r_pass : denS t b .pass env h = .nx env h := rfl
theorem r_brk : denS t b .brk env h = .brk env h := rfl
theorem r_ct : denS t b .ct env h = .ct env h := rfl
@[simp] theorem r_ife {c : Ex} {x y : Sts} : denS t b (.ife c x y) env h = ((den t b c).t env h).then env fun k h1 => if k then denSs t b x env h1 else denSs t b y env h1 := rfl
theorem r_whl {c : Ex} {x : Sts} : denS t b (.whl c x) env h = whileL (den t b c).t (denSs t b x) fuelW env h := rfl
theorem r_for {tg : Tg} {it : It} {x : Sts} : denS t b (.for_ tg it x) env h = (denI t b it env h).then env fun I h1 => forL (fun v env2 h2 => (denT t b tg v env2 h2).then env2 fun env3 h3 => denSs t b x env3 h3) I (I.len h1) 0 env h1 := rfl
@[simp] theorem then_ok {α : Type} {a : α} {k : α → Heap → RS} : (R.ok a h).then env k = k a h := rfl
@[simp] theorem b_ok {α β : Type} {a : α} {k : α → Heap → R β} : (R.ok a h).bind k = k a h := rfl
@[simp] theorem of_some {α : Type} {a : α} : R.of (some a) h = .ok a h := rfl
/-! ### values -/
@[simp] theorem v_var {i : Nat} : (den t b (.var i)).v env h = R.of (env.get i) h := rfl
@[simp] theorem v_cst {v : Val} : (den t b (.cst v)).v env h = .ok v h := rfl
theorem v_glo {k : Nat} : (den t b (.glo k)).v env h = R.of t.gl[k]? h := rfl
@[simp] theorem v_bin {op : Operator} {x y : Ex} : (den t b (.bin op x y)).v env h = ((den t b x).v env h).bind fun x h1 => ((den t b y).v env h1).bind fun y h2 => binV op x y h2 := rfl
@[simp] theorem v_neg {x : Ex} : (den t b (.neg x)).v env h = ((den t b x).v env h).bind negV := rfl
@[simp] theorem v_not {x : Ex} : (den t b (.not x)).v env h = ((den t b x).v env h).bind fun x h1 => (R.of (truV h1 x) h1).bind fun k h2 => .ok (.bl !k) h2 := rfl
@[simp] theorem v_cmp {op : CmpOp} {x y : Ex} : (den t b (.cmp op x y)).v env h = ((den t b x).v env h).bind fun x h1 => ((den t b y).v env h1).bind fun y h2 => cmpV op x y h2 := rfl
@[simp] theorem v_cmp2 {op op' : CmpOp} {x y z : Ex} : (den t b (.cmp2 op op' x y z)).v env h = ((den t b x).v env h).bind fun x h1 => ((den t b y).v env h1).bind fun y h2 => (cmpV op x y h2).bind fun z' h3 => boolK z' fun k =>
  if k then ((den t b z).v env h3).bind fun w h4 => cmpV op' y w h4 else .ok (.bl false) h3 := rfl
@[simp] theorem v_and {x y : Ex} : (den t b (.and x y)).v env h = ((den t b x).v env h).bind fun x h1 => boolK x fun k => if k then (den t b y).v env h1 else .ok (.bl false) h1 := rfl
@[simp] theorem v_or {x y : Ex} : (den t b (.or x y)).v env h = ((den t b x).v env h).bind fun x h1 => boolK x fun k => if k then .ok (.bl true) h1 else (den t b y).v env h1 := rfl
@[simp] theorem v_ife {c x y : Ex} : (den t b (.ife c x y)).v env h = ((den t b c).t env h).bind fun k h1 => if k then (den t b x).v env h1 else (den t b y).v env h1 := rfl
@[simp] theorem v_tup {es : Exs} : (den t b (.tup es)).v env h = ((denX t b es env h).bind fun xs h1 => if isLen xs.length then .ok (.tup xs) h1 else .bad) := rfl
@[simp] theorem v_idx {x y : Ex} : (den t b (.idx x y)).v env h = ((den t b x).v env h).bind fun x h1 => ((den t b y).v env h1).bind fun y h2 => idxV x y h2 := rfl
@[simp] theorem v_sl {x : Ex} {lo hi : Oe} : (den t b (.sl x lo hi)).v env h = ((den t b x).v env h).bind fun x h1 => ((denO t b lo).1 env h1).bind fun l h2 => asInt l fun l => ((denO t b hi).1 env h2).bind fun u h3 => asInt u fun u => slV x l u h3 := rfl
@[simp] theorem v_new {l : Le} : (den t b (.new l)).v env h = (denL t b l env h).bind new := rfl
@[simp] theorem v_bi {k : Bi} {x : Ex} : (den t b (.bi k x)).v env h = ((den t b x).v env h).bind (biV k) := rfl
@[simp] theorem v_biL {k : Bi} {l : Le} : (den t b (.biL k l)).v env h = (denL t b l env h).bind (biL k) := rfl
@[simp] theorem v_max2 {x y : Ex} : (den t b (.max2 x y)).v env h = ((den t b x).v env h).bind fun x h1 => ((den t b y).v env h1).bind fun y h2 => maxV x y h2 := rfl
@[simp] theorem v_min2 {x y : Ex} : (den t b (.min2 x y)).v env h = ((den t b x).v env h).bind fun x h1 => ((den t b y).v env h1).bind fun y h2 => minV x y h2 := rfl
@[simp] theorem v_isi {ty : Ty} {x : Ex} : (den t b (.isi ty x)).v env h = ((den t b x).v env h).bind (isiV ty) := rfl
@[simp] theorem v_call {f : Nat} {es : Exs} : (den t b (.call f es)).v env h = (denX t b es env h).bind fun xs h1 => t.call f xs h1 := rfl
theorem v_app {x y : Ex} : (den t b (.app x y)).v env h = ((den t b x).v env h).bind fun v h1 => if isLst h1 v then ((den t b y).v env h1).bind fun u h2 => appV b v u h2 else .bad := rfl
@[simp] theorem o_none : (denO t b .none).1 env h = .ok none h := rfl
@[simp] theorem o_some {x : Ex} : (denO t b (.some x)).1 env h = ((den t b x).v env h).bind fun x h1 => .ok (some x) h1 := rfl
/-! ### tests -/
def tst (v : R Val) : R Bool := v.bind fun x h1 => R.of (truV h1 x) h1
@[simp] theorem tst_ok {v : Val} : tst (.ok v h) = R.of (truV h v) h := rfl
@[simp] theorem t_var {i : Nat} : (den t b (.var i)).t env h = tst ((den t b (.var i)).v env h) := rfl
@[simp] theorem t_cst {v : Val} : (den t b (.cst v)).t env h = tst (.ok v h) := rfl
@[simp] theorem t_cmp {op : CmpOp} {x y : Ex} : (den t b (.cmp op x y)).t env h = tst ((den t b (.cmp op x y)).v env h) := rfl
@[simp] theorem t_cmp2 {op op' : CmpOp} {x y z : Ex} : (den t b (.cmp2 op op' x y z)).t env h = tst ((den t b (.cmp2 op op' x y z)).v env h) := rfl
@[simp] theorem t_call {f : Nat} {es : Exs} : (den t b (.call f es)).t env h = tst ((den t b (.call f es)).v env h) := rfl
@[simp] theorem t_isi {ty : Ty} {x : Ex} : (den t b (.isi ty x)).t env h = tst ((den t b (.isi ty x)).v env h) := rfl
@[simp] theorem t_biL {k : Bi} {l : Le} : (den t b (.biL k l)).t env h = tst ((den t b (.biL k l)).v env h) := rfl
@[simp] theorem t_bi {k : Bi} {x : Ex} : (den t b (.bi k x)).t env h = tst ((den t b (.bi k x)).v env h) := rfl
@[simp] theorem t_bin {op : Operator} {x y : Ex} : (den t b (.bin op x y)).t env h = tst ((den t b (.bin op x y)).v env h) := rfl
@[simp] theorem t_idx {x y : Ex} : (den t b (.idx x y)).t env h = tst ((den t b (.idx x y)).v env h) := rfl
@[simp] theorem t_not {x : Ex} : (den t b (.not x)).t env h = ((den t b x).t env h).bind fun k h1 => .ok (!k) h1 := rfl
@[simp] theorem t_and {x y : Ex} : (den t b (.and x y)).t env h = ((den t b x).t env h).bind fun k h1 => if k then (den t b y).t env h1 else .ok false h1 := rfl
@[simp] theorem t_or {x y : Ex} : (den t b (.or x y)).t env h = ((den t b x).t env h).bind fun k h1 => if k then .ok true h1 else (den t b y).t env h1 := rfl
@[simp] theorem t_ife {c x y : Ex} : (den t b (.ife c x y)).t env h = ((den t b c).t env h).bind fun k h1 => if k then (den t b x).t env h1 else (den t b y).t env h1 := rfl
@[simp] theorem tru_bl {k : Bool} : truV h (.bl k) = some k := rfl
@[simp] theorem tru_int {i : Int} : truV h (.int i) = some !(decide (i = 0)) := rfl
@[simp] theorem tru_tup {xs : List Val} : truV h (.tup xs) = some !xs.isEmpty := rfl
@[simp] theorem bK {k : Bool} {f : Bool → R Val} : boolK (.bl k) f = f k := rfl
/-! ### lists -/
@[simp] theorem x_nil : denX t b .nil env h = .ok [] h := rfl
@[simp] theorem x_cons {x : Ex} {r : Exs} : denX t b (.cons x r) env h = ((den t b x).v env h).bind fun x h1 => (denX t b r env h1).bind fun xs h2 => .ok (x :: xs) h2 := rfl
theorem x_star {x : Ex} {r : Exs} : denX t b (.star x r) env h = (((den t b x).v env h).bind fun x h1 => R.of (seqOf h1 x) h1).bind fun xs h1 => (denX t b r env h1).bind fun ys h2 => if isLen (xs.length + ys.length) then .ok (xs ++ ys) h2 else .bad := rfl
theorem x_starL {l : Le} {r : Exs} : denX t b (.starL l r) env h = (denL t b l env h).bind fun xs h1 => (denX t b r env h1).bind fun ys h2 => if isLen (xs.length + ys.length) then .ok (xs ++ ys) h2 else .bad := rfl
theorem l_disp {es : Exs} : denL t b (.disp es) env h = (denX t b es env h).bind fun xs h1 => if isLen xs.length then .ok xs h1 else .bad := rfl
theorem l_mul {l : Le} {x : Ex} : denL t b (.mul l x) env h = (denL t b l env h).bind fun xs h1 => ((den t b x).v env h1).bind fun y h2 => (match y with
  | .int k => if isLen (xs.length * k.toNat) && Nat.ble k.natAbs line then .ok (List.replicate k.toNat xs).flatten h2 else .bad
  | _ => .bad) := rfl
theorem l_add {l m : Le} : denL t b (.add l m) env h = (denL t b l env h).bind fun xs h1 => (denL t b m env h1).bind fun ys h2 => if isLen (xs.length + ys.length) then .ok (xs ++ ys) h2 else .bad := rfl
theorem l_of {x : Ex} : denL t b (.of x) env h = ((den t b x).v env h).bind fun x h1 => R.of (seqOf h1 x) h1 := rfl
theorem l_lc0 {own : List Nat} {tg : Tg} {it : It} {x : Ex} : denL t b (.lc own tg it .none x) env h = (denI t b it env h).bind fun I h1 =>
  (lcL (fun v h2 => (denT t b tg v (wipe env own) h2).bind fun env2 h3 => ((den t b x).v env2 h3).bind fun x h4 => .ok (some x) h4) I (I.len h1) 0 h1).bind fun xs h2 => if isLen xs.length then .ok xs h2 else .bad := rfl
theorem l_lc1 {own : List Nat} {tg : Tg} {it : It} {c x : Ex} : denL t b (.lc own tg it (.some c) x) env h = (denI t b it env h).bind fun I h1 =>
  (lcL (fun v h2 => (denT t b tg v (wipe env own) h2).bind fun env2 h3 => ((den t b c).t env2 h3).bind fun k h4 => if k then ((den t b x).v env2 h4).bind fun x h5 => .ok (some x) h5 else .ok none h4) I (I.len h1) 0 h1).bind fun xs h2 => if isLen xs.length then .ok xs h2 else .bad := rfl
theorem i_r1 {x : Ex} : denI t b (.r1 x) env h = ((den t b x).v env h).bind fun x h1 => intK x fun n => rangeK 0 n h1 := rfl
theorem i_r2 {x y : Ex} : denI t b (.r2 x y) env h = ((den t b x).v env h).bind fun x h1 => ((den t b y).v env h1).bind fun y h2 => intK x fun m => intK y fun n => rangeK m n h2 := rfl
theorem i_down {x y : Ex} : denI t b (.down x y) env h = ((den t b x).v env h).bind fun x h1 => ((den t b y).v env h1).bind fun y h2 => intK x fun m => intK y fun n =>
  if rangeV.isSmall62 m && rangeV.isSmall62 n then .ok (.one (.vals (downTo (m - n).toNat m))) h2 else .bad := rfl
theorem i_of {x : Ex} : denI t b (.of x) env h = ((den t b x).v env h).bind fun x h1 => iterOf x h1 .one := rfl
theorem i_enum {x : Ex} : denI t b (.enum x) env h = ((den t b x).v env h).bind fun x h1 => iterOf x h1 .enum := rfl
theorem i_zip {x y : Ex} : denI t b (.zip x y) env h = ((den t b x).v env h).bind fun x h1 => ((den t b y).v env h1).bind fun y h2 => zipK x y h2 := rfl
@[simp] theorem g_nm {i : Nat} {v : Val} : denT t b (.nm i) v env h = .ok (env.set i (some v)) h := rfl
@[simp] theorem g_tup {ts : Tgs} {xs : List Val} : denT t b (.tup ts) (.tup xs) env h = denTs t b ts xs env h := rfl
@[simp] theorem g_nil : denTs t b .nil [] env h = .ok env h := rfl
@[simp] theorem g_cons {tg : Tg} {r : Tgs} {v : Val} {vs : List Val} : denTs t b (.cons tg r) (v :: vs) env h = (denT t b tg v env h).bind fun env1 h1 => denTs t b r vs env1 h1 := rfl
@[simp] theorem intK_int {α : Type} {n : Int} {k : Int → R α} : intK (.int n) k = k n := rfl
@[simp] theorem asInt_none {k : Option Int → R Val} : asInt none k = k none := rfl
@[simp] theorem asInt_int {n : Int} {k : Option Int → R Val} : asInt (some (.int n)) k = k (some n) := rfl
/-! ### arithmetic -/
@[simp] theorem a_add {i j : Int} : binV .Add (.int i) (.int j) h = .ok (.int (i + j)) h := rfl
@[simp] theorem a_sub {i j : Int} : binV .Sub (.int i) (.int j) h = .ok (.int (i - j)) h := rfl
theorem a_mul {i j : Int} (hs : (isSmall i || isSmall j) = true) : binV .Mult (.int i) (.int j) h = .ok (.int (i * j)) h := by
  show (if isSmall i || isSmall j then R.ok (Val.int (i * j)) h else .bad) = _
  rw [hs]; rfl
theorem a_mod {i j : Int} (hj : 0 < j) : binV .Mod (.int i) (.int j) h = .ok (.int (i % j)) h := by
  show (if decide (0 < j) then R.ok (Val.int (i % j)) h else .bad) = _
  rw [decide_eq_true hj]; rfl
theorem a_div {i j : Int} (hj : 0 < j) (hk : j < 1073741824) : binV .FloorDiv (.int i) (.int j) h = .ok (.int (i / j)) h := by
  show (if decide (0 < j) && decide (j < 1073741824) then R.ok (Val.int (i / j)) h else .bad) = _
  rw [decide_eq_true hj, decide_eq_true hk]; rfl
@[simp] theorem a_neg {i : Int} : negV (.int i) h = .ok (.int (-i)) h := rfl
@[simp] theorem c_lt {i j : Int} : cmpV .Lt (.int i) (.int j) h = .ok (.bl (decide (i < j))) h := rfl
@[simp] theorem c_le {i j : Int} : cmpV .LtE (.int i) (.int j) h = .ok (.bl (decide (i ≤ j))) h := rfl
@[simp] theorem c_gt {i j : Int} : cmpV .Gt (.int i) (.int j) h = .ok (.bl (decide (j < i))) h := rfl
@[simp] theorem c_ge {i j : Int} : cmpV .GtE (.int i) (.int j) h = .ok (.bl (decide (j ≤ i))) h := rfl
@[simp] theorem c_eqI {i j : Int} : cmpV .Eq (.int i) (.int j) h = .ok (.bl (decide (i = j))) h := rfl
@[simp] theorem c_neI {i j : Int} : cmpV .NotEq (.int i) (.int j) h = .ok (.bl !(decide (i = j))) h := rfl
@[simp] theorem bi_int {i : Int} : biV .int (.int i) h = .ok (.int i) h := rfl
@[simp] theorem bi_lenT {xs : List Val} : biV .len (.tup xs) h = .ok (.int xs.length) h := rfl
theorem bi_lenL {a : Nat} {xs : List Val} (hl : listAt h a = some xs) : biV .len (.lst a) h = .ok (.int xs.length) h := by
  show (match seqOf h (.lst a) with
    | some xs => R.ok (Val.int xs.length) h
    | none => .bad) = _
  rw [show seqOf h (.lst a) = listAt h a from rfl, hl]
theorem bi_tupL {a : Nat} {xs : List Val} (hl : listAt h a = some xs) : biV .tuple (.lst a) h = .ok (.tup xs) h := by
  show (match seqOf h (.lst a) with
    | some xs => R.ok (Val.tup xs) h
    | none => .bad) = _
  rw [show seqOf h (.lst a) = listAt h a from rfl, hl]
@[simp] theorem ib_int {ty : Ty} {i : Int} : isiV ty (.int i) h = .ok (.bl (tyI ty)) h := rfl
@[simp] theorem ib_bl {ty : Ty} {k : Bool} : isiV ty (.bl k) h = .ok (.bl (tyB ty)) h := rfl
@[simp] theorem ib_tup {ty : Ty} {xs : List Val} : isiV ty (.tup xs) h = .ok (.bl (tyT ty)) h := rfl
@[simp] theorem ib_str {ty : Ty} {x : Str} : isiV ty (.str x) h = .ok (.bl (tyS ty)) h := rfl
@[simp] theorem ib_non {ty : Ty} : isiV ty .non h = .ok (.bl false) h := rfl
theorem ib_lst {ty : Ty} {a : Nat} {xs : List Val} (hl : h[a]? = some (.lst xs)) : isiV ty (.lst a) h = .ok (.bl (tyL ty)) h := by
  show (match (match h[a]? with
    | some (.lst _) => some (tyL ty)
    | _ => none) with
    | some k => R.ok (Val.bl k) h
    | none => .bad) = _
  rw [hl]
@[simp] theorem max_int {i j : Int} : maxV (.int i) (.int j) h = .ok (.int (max i j)) h := by
  show R.ok (Val.int (if j > i then j else i)) h = _
  congr 2
  by_cases c : j > i
  · rw [if_pos c]; omega
  · rw [if_neg c]; omega
@[simp] theorem min_int {i j : Int} : minV (.int i) (.int j) h = .ok (.int (min i j)) h := by
  show R.ok (Val.int (if j < i then j else i)) h = _
  congr 2
  by_cases c : j < i
  · rw [if_pos c]; omega
  · rw [if_neg c]; omega
end
/-! ### environments -/
@[simp] theorem get_0 {v : Val} {e : Env} : Env.get (some v :: e) 0 = some v := rfl
@[simp] theorem get_s {o : Option Val} {e : Env} {i : Nat} : Env.get (o :: e) (i + 1) = Env.get e i := by
  unfold Env.get
  rw [List.getElem?_cons_succ]
/-! ### lists of whole numbers -/
abbrev I (xs : List Int) : List Val := xs.map .int
theorem small_of {i : Int} (h1 : -(2 ^ 64) < i) (h2 : i < 2 ^ 64) : isSmall i = true := by
  unfold isSmall
  rw [decide_eq_true h1, decide_eq_true h2]; rfl
theorem isLen_of {n : Nat} (h : n ≤ line) : isLen n = true := Nat.ble_eq_true_of_le h
@[simp] theorem isLen_lit {n : Nat} (h : n ≤ 16777216) : isLen n = true := Nat.ble_eq_true_of_le h
theorem place_nat {n k : Nat} (h : k < n) : place n (k : Int) = some k := by
  show (if Nat.blt k n then some k else none) = some k
  rw [show Nat.blt k n = true from Nat.ble_eq_true_of_le h]; rfl
theorem at_nat {α : Type} {xs : List α} {k : Nat} (h : k < xs.length) : atV xs (k : Int) = xs[k]? := by
  unfold atV
  rw [place_nat h]; rfl
/-! ### loops -/
/-- a for loop, with what holds ahead of each turn -/
theorem forL_inv {body : Val → Env → Heap → RS} {it : Iter} {n : Nat} {val : Nat → Val} (P : Nat → Env → Heap → Prop) (go : ∀ i env h, i < n → P i env h → it.turn i h = some (some (val i)) ∧ ∃ env' h', body (val i) env h = .nx env' h' ∧ P (i + 1) env' h')
    (stop : ∀ env h, P n env h → it.turn n h = some none) {env : Env} {h : Heap} (h0 : P 0 env h) : ∃ env' h', forL body it n 0 env h = .nx env' h' ∧ P n env' h' := by
  have key : ∀ (k i : Nat) (env : Env) (h : Heap), i + k = n → P i env h → ∃ env' h', forL body it k i env h = .nx env' h' ∧ P n env' h' := by
    intro k
    induction k with
    | zero =>
      intro i env h e p
      have e : i = n := by omega
      subst e
      refine ⟨env, h, ?_, p⟩
      rw [forL_zero, stop env h p]
    | succ k ih =>
      intro i env h e p
      obtain ⟨t1, env', h', t2, p'⟩ := go i env h (by omega) p
      obtain ⟨env2, h2, e2, p2⟩ := ih (i + 1) env' h' (by omega) p'
      refine ⟨env2, h2, ?_, p2⟩
      rw [forL_succ, t1]
      show (match body (val i) env h with
        | .nx env' h' => forL body it k (i + 1) env' h'
        | .ct env' h' => forL body it k (i + 1) env' h'
        | .brk env' h' => .nx env' h'
        | .ret v h' => .ret v h'
        | .ex e env' h' => .ex e env' h'
        | .bad => .bad) = _
      rw [t2]
      exact e2
  exact key n 0 env h (by omega) h0
theorem turn_vals {xs : List Val} {i : Nat} {h : Heap} {v : Val} (e : xs[i]? = some v) : (Iter.one (.vals xs)).turn i h = some (some v) := by
  show getAt xs i = _
  unfold getAt
  rw [e]
theorem turn_end {xs : List Val} {h : Heap} : (Iter.one (.vals xs)).turn xs.length h = some none := by
  show getAt xs xs.length = _
  unfold getAt
  rw [List.getElem?_eq_none (Nat.le_refl _)]
  show (if Nat.beq xs.length xs.length then some none else none) = _
  rw [Nat.beq_refl]; rfl
theorem turn_enum {xs : List Val} {i : Nat} {h : Heap} {v : Val} (e : xs[i]? = some v) : (Iter.enum (.vals xs)).turn i h = some (some (.tup [.int i, v])) := by
  show (match getAt xs i with
    | some (some v) => some (some (Val.tup [.int i, v]))
    | r => r) = _
  rw [show getAt xs i = some (some v) from turn_vals (h := h) e]
theorem turn_enum_end {xs : List Val} {h : Heap} : (Iter.enum (.vals xs)).turn xs.length h = some none := by
  show (match getAt xs xs.length with
    | some (some v) => some (some (Val.tup [.int xs.length, v]))
    | r => r) = _
  rw [show getAt xs xs.length = some none from turn_end (h := h)]
theorem upTo_at {n i : Nat} {lo : Int} (h : i < n) : (upTo n lo)[i]? = some (.int (lo + i)) := by rw [upTo_get, if_pos h]
theorem downTo_at : ∀ {n i : Nat} {hi : Int}, i < n → (downTo n hi)[i]? = some (.int (hi - i))
  | 0, _, _, h => absurd h (Nat.not_lt_zero _)
  | n + 1, 0, hi, _ => by show some (Val.int hi) = _; congr 2; omega
  | n + 1, i + 1, hi, h => by
    show (downTo n (hi - 1))[i]? = _
    rw [downTo_at (by omega)]
    congr 2; omega
theorem while_inv {test : Env → Heap → R Bool} {body : Env → Heap → RS} (P : Nat → Env → Heap → Prop) {Q : Env → Heap → Prop} (go : ∀ m env h, P m env h → (∃ h1, test env h = .ok false h1 ∧ Q env h1) ∨ ∃ h1 env' h' m', test env h = .ok true h1 ∧ body env h1 = .nx env' h' ∧ m' < m ∧ P m' env' h') :
    ∀ (m fuel : Nat) {env : Env} {h : Heap}, m < fuel → P m env h → ∃ env' h', whileL test body fuel env h = .nx env' h' ∧ Q env' h' := by
  intro m
  induction m using Nat.strongRecOn with
  | ind m ih =>
    intro fuel env h hf p
    cases fuel with
    | zero => exact absurd hf (Nat.not_lt_zero _)
    | succ fuel =>
      rw [whileL_succ]
      rcases go m env h p with ⟨h1, e, q⟩ | ⟨h1, env', h', m', e1, e2, hm, p'⟩
      · refine ⟨env, h1, ?_, q⟩
        rw [e]; rfl
      · obtain ⟨env2, h2, e3, q⟩ := ih m' hm fuel (by omega) p'
        refine ⟨env2, h2, ?_, q⟩
        rw [e1, then_ok, if_pos rfl, e2]
        exact e3
/-- a comprehension whose turns leave the heap as it is -/
theorem lcL_pure {elt : Val → Heap → R (Option Val)} {it : Iter} {h : Heap} {val : Nat → Val} {out : Nat → Option Val} {n : Nat} (go : ∀ i, i < n → it.turn i h = some (some (val i)) ∧ elt (val i) h = .ok (out i) h) (stop : it.turn n h = some none) :
    lcL elt it n 0 h = .ok ((List.range n).filterMap out) h := by
  have key : ∀ (k i : Nat), i + k = n → lcL elt it k i h = .ok ((List.range' i k).filterMap out) h := by
    intro k
    induction k with
    | zero =>
      intro i e
      have e : i = n := by omega
      subst e
      rw [lcL_zero, stop]; rfl
    | succ k ih =>
      intro i e
      obtain ⟨t1, t2⟩ := go i (by omega)
      rw [lcL_succ, t1]
      show (match elt (val i) h with
        | .ok (some x) h1 => (match lcL elt it k (i + 1) h1 with
          | .ok r h2 => R.ok (x :: r) h2
          | _ => .bad)
        | .ok none h1 => lcL elt it k (i + 1) h1
        | .ex _ _ => .bad
        | .bad => .bad) = _
      rw [t2, List.range'_succ, List.filterMap_cons]
      cases out i with
      | none => exact ih (i + 1) (by omega)
      | some x =>
        show (match lcL elt it k (i + 1) h with
          | .ok r h2 => R.ok (x :: r) h2
          | _ => .bad) = _
        rw [ih (i + 1) (by omega)]
  have := key n 0 (by omega)
  rw [this, List.range_eq_range']
/-- .. whose turns change the heap: what holds ahead of each turn, with what was gathered -/
theorem lcL_inv {elt : Val → Heap → R (Option Val)} {it : Iter} {n : Nat} {val : Nat → Val} (P : Nat → Heap → List Val → Prop) (go : ∀ i h acc, i < n → P i h acc → it.turn i h = some (some (val i)) ∧ ∃ x h', elt (val i) h = .ok (some x) h' ∧ P (i + 1) h' (acc ++ [x]))
    (stop : ∀ h acc, P n h acc → it.turn n h = some none) {h : Heap} (h0 : P 0 h []) : ∃ xs h', lcL elt it n 0 h = .ok xs h' ∧ P n h' xs := by
  have key : ∀ (k i : Nat) (h : Heap) (acc : List Val), i + k = n → P i h acc → ∃ xs h', lcL elt it k i h = .ok xs h' ∧ P n h' (acc ++ xs) := by
    intro k
    induction k with
    | zero =>
      intro i h acc e p
      have e : i = n := by omega
      subst e
      exact ⟨[], h, by rw [lcL_zero, stop h acc p], by rw [List.append_nil]; exact p⟩
    | succ k ih =>
      intro i h acc e p
      obtain ⟨t1, x, h', t2, p'⟩ := go i h acc (by omega) p
      obtain ⟨xs, h2, e2, p2⟩ := ih (i + 1) h' (acc ++ [x]) (by omega) p'
      refine ⟨x :: xs, h2, ?_, by rw [List.append_assoc] at p2; exact p2⟩
      rw [lcL_succ, t1]
      show (match elt (val i) h with
        | .ok (some x) h1 => (match lcL elt it k (i + 1) h1 with
          | .ok r h2 => R.ok (x :: r) h2
          | _ => .bad)
        | .ok none h1 => lcL elt it k (i + 1) h1
        | .ex _ _ => .bad
        | .bad => .bad) = _
      rw [t2]
      show (match lcL elt it k (i + 1) h' with
          | .ok r h2 => R.ok (x :: r) h2
          | _ => .bad) = _
      rw [e2]
  obtain ⟨xs, h', e, p⟩ := key n 0 h [] (by omega) h0
  exact ⟨xs, h', e, p⟩
end Y

set_option Elab.async false
set_option linter.all false
set_option maxRecDepth 100000
set_option maxHeartbeats 4000000
/-! PolyM: polynomials over the whole numbers modulo p, as lists. No program in sight. -/
namespace Y
def co (l : List Int) (k : Nat) : Int := l.getD k 0
theorem co_nil (k : Nat) : co [] k = 0 := rfl
theorem co_ge {l : List Int} {k : Nat} (h : l.length ≤ k) : co l k = 0 := by
  unfold co
  rw [List.getD_eq_getElem?_getD, List.getElem?_eq_none h]; rfl
theorem co_at {l : List Int} {k : Nat} (h : k < l.length) : l[k]? = some (co l k) := by
  unfold co
  rw [List.getD_eq_getElem?_getD, List.getElem?_eq_getElem h]; rfl
theorem co_take {l : List Int} {n k : Nat} : co (l.take n) k = if k < n then co l k else 0 := by
  unfold co
  rw [List.getD_eq_getElem?_getD, List.getElem?_take, List.getD_eq_getElem?_getD]
  split <;> rfl
theorem co_set {l : List Int} {n k : Nat} {v : Int} (h : n < l.length) : co (l.set n v) k = if k = n then v else co l k := by
  unfold co
  rw [List.getD_eq_getElem?_getD, List.getElem?_set, List.getD_eq_getElem?_getD]
  by_cases e : n = k
  · subst e; rw [if_pos rfl, if_pos h, if_pos rfl]; rfl
  · rw [if_neg e, if_neg (Ne.symm e)]
theorem co_rep {n k : Nat} {v : Int} : co (List.replicate n v) k = if k < n then v else 0 := by
  unfold co
  rw [List.getD_eq_getElem?_getD, List.getElem?_replicate]
  split <;> rfl
theorem co_range {n k : Nat} {f : Nat → Int} : co ((List.range n).map f) k = if k < n then f k else 0 := by
  unfold co
  rw [List.getD_eq_getElem?_getD, List.getElem?_map]
  by_cases h : k < n
  · rw [if_pos h, List.getElem?_range h]; rfl
  · rw [if_neg h, List.getElem?_eq_none (by simpa using Nat.le_of_not_lt h)]; rfl
theorem co_ext {a b : List Int} (hl : a.length = b.length) (h : ∀ k, co a k = co b k) : a = b := by
  refine List.ext_getElem? fun k => ?_
  by_cases hk : k < a.length
  · rw [co_at hk, co_at (hl ▸ hk), h]
  · rw [List.getElem?_eq_none (by omega), List.getElem?_eq_none (by omega)]
/-! ### without the zeros at the end -/
def tl (xs : List Int) : Nat → Nat
  | 0 => 0
  | k + 1 => if co xs k = 0 then tl xs k else k + 1
def trim (xs : List Int) : List Int := xs.take (tl xs xs.length)
theorem tl_le (xs : List Int) : ∀ k, tl xs k ≤ k
  | 0 => Nat.le_refl _
  | k + 1 => by
    show (if co xs k = 0 then tl xs k else k + 1) ≤ k + 1
    split
    · exact Nat.le_succ_of_le (tl_le xs k)
    · exact Nat.le_refl _
theorem tl_zero (xs : List Int) : ∀ k j, tl xs k ≤ j → j < k → co xs j = 0
  | 0, _, _, h => absurd h (Nat.not_lt_zero _)
  | k + 1, j, h1, h2 => by
    have h1 : (if co xs k = 0 then tl xs k else k + 1) ≤ j := h1
    split at h1
    · rename_i hz
      by_cases e : j = k
      · rw [e]; exact hz
      · exact tl_zero xs k j h1 (by omega)
    · omega
theorem tl_last (xs : List Int) : ∀ k, tl xs k = 0 ∨ co xs (tl xs k - 1) ≠ 0
  | 0 => .inl rfl
  | k + 1 => by
    have e : tl xs (k + 1) = if co xs k = 0 then tl xs k else k + 1 := rfl
    rw [e]
    split
    · exact tl_last xs k
    · rename_i h; exact .inr h
theorem trim_len (xs : List Int) : (trim xs).length = tl xs xs.length := by
  unfold trim
  rw [List.length_take]
  exact Nat.min_eq_left (tl_le xs _)
theorem trim_le (xs : List Int) : (trim xs).length ≤ xs.length := by rw [trim_len]; exact tl_le xs _
theorem co_trim (xs : List Int) (k : Nat) : co (trim xs) k = co xs k := by
  unfold trim
  rw [co_take]
  split
  · rfl
  · rename_i h
    by_cases hk : k < xs.length
    · exact (tl_zero xs _ k (by omega) hk).symm
    · exact (co_ge (by omega)).symm
/-- no zero at the end -/
def Tr (xs : List Int) : Prop := xs = [] ∨ co xs (xs.length - 1) ≠ 0
theorem tr_trim (xs : List Int) : Tr (trim xs) := by
  rcases tl_last xs xs.length with h | h
  · left
    have := trim_len xs
    rw [h] at this
    exact List.length_eq_zero_iff.mp this
  · right
    rw [trim_len, co_trim]
    exact h
theorem tr_lt {a b : List Int} (ha : Tr a) (h : ∀ k, co a k = co b k) : a.length ≤ b.length := by
  rcases ha with e | e
  · rw [e]; exact Nat.zero_le _
  · by_cases hl : a.length ≤ b.length
    · exact hl
    · exact absurd ((h _).trans (co_ge (by omega))) e
theorem tr_ext {a b : List Int} (ha : Tr a) (hb : Tr b) (h : ∀ k, co a k = co b k) : a = b :=
  co_ext (Nat.le_antisymm (tr_lt ha h) (tr_lt hb fun k => (h k).symm)) h
theorem trim_tr {a : List Int} (h : Tr a) : trim a = a := tr_ext (tr_trim a) h (co_trim a)
theorem tr_len_le {a : List Int} {n : Nat} (ha : Tr a) (h : ∀ k, n ≤ k → co a k = 0) : a.length ≤ n := by
  rcases ha with e | e
  · rw [e]; exact Nat.zero_le _
  · by_cases hl : a.length ≤ n
    · exact hl
    · exact absurd (h _ (by omega)) e
/-- all between 0 and p -/
def Rd (p : Int) (a : List Int) : Prop := ∀ k, 0 ≤ co a k ∧ co a k < p
theorem rd_trim {p : Int} {a : List Int} (h : Rd p a) : Rd p (trim a) := fun k => by rw [co_trim]; exact h k
theorem rd_mem {p : Int} {a : List Int} (h : Rd p a) (x : Int) (hx : x ∈ a) : 0 ≤ x ∧ x < p := by
  obtain ⟨k, hk⟩ := List.getElem?_of_mem hx
  have hl : k < a.length := (List.getElem?_eq_some_iff.mp hk).1
  rw [co_at hl] at hk
  rw [← Option.some.inj hk]
  exact h k
/-! ### congruence -/
def cg (p a b : Int) : Prop := ∃ m, a = b + p * m
theorem cg_refl (p a : Int) : cg p a a := ⟨0, by omega⟩
theorem cg_symm {p a b : Int} (h : cg p a b) : cg p b a := by obtain ⟨m, h⟩ := h; exact ⟨-m, by grind⟩
theorem cg_trans {p a b c : Int} (h : cg p a b) (h2 : cg p b c) : cg p a c := by
  obtain ⟨m, h⟩ := h
  obtain ⟨n, h2⟩ := h2
  exact ⟨m + n, by grind⟩
theorem cg_add {p a b c d : Int} (h : cg p a b) (h2 : cg p c d) : cg p (a + c) (b + d) := by
  obtain ⟨m, h⟩ := h
  obtain ⟨n, h2⟩ := h2
  exact ⟨m + n, by grind⟩
theorem cg_sub {p a b c d : Int} (h : cg p a b) (h2 : cg p c d) : cg p (a - c) (b - d) := by
  obtain ⟨m, h⟩ := h
  obtain ⟨n, h2⟩ := h2
  exact ⟨m - n, by grind⟩
theorem cg_mul {p a b c d : Int} (h : cg p a b) (h2 : cg p c d) : cg p (a * c) (b * d) := by
  obtain ⟨m, h⟩ := h
  obtain ⟨n, h2⟩ := h2
  exact ⟨b * n + d * m + p * m * n, by grind⟩
theorem cg_mod (p a : Int) : cg p (a % p) a := ⟨-(a / p), by have := Int.emod_add_mul_ediv a p; grind⟩
theorem cg_eq {p a b : Int} (h : cg p a b) : a % p = b % p := by
  obtain ⟨m, h⟩ := h
  rw [h]
  exact Int.add_mul_emod_self_left b p m
theorem cg_of {p a b : Int} (h : a % p = b % p) : cg p a b := cg_trans (cg_symm (cg_mod p a)) (by rw [h]; exact cg_mod p b)
theorem md {p a : Int} (h : 0 ≤ a) (h2 : a < p) : a % p = a := Int.emod_eq_of_lt h h2
theorem md_rng {p : Int} (hp : 0 < p) (a : Int) : 0 ≤ a % p ∧ a % p < p := ⟨Int.emod_nonneg a (by omega), Int.emod_lt_of_pos a hp⟩
theorem cg_rd {p a b : Int} (ha : 0 ≤ a ∧ a < p) (hb : 0 ≤ b ∧ b < p) (h : cg p a b) : a = b := by
  have := cg_eq h
  rwa [md ha.1 ha.2, md hb.1 hb.2] at this
/-! ### sums -/
def sm : Nat → (Nat → Int) → Int
  | 0, _ => 0
  | n + 1, f => sm n f + f n
theorem sm_congr {f g : Nat → Int} : ∀ {n : Nat}, (∀ i, i < n → f i = g i) → sm n f = sm n g
  | 0, _ => rfl
  | n + 1, h => by
    show sm n f + f n = sm n g + g n
    rw [sm_congr fun i hi => h i (by omega), h n (by omega)]
theorem sm_cg {p : Int} {f g : Nat → Int} : ∀ {n : Nat}, (∀ i, i < n → cg p (f i) (g i)) → cg p (sm n f) (sm n g)
  | 0, _ => cg_refl _ _
  | n + 1, h => cg_add (sm_cg fun i hi => h i (by omega)) (h n (by omega))
theorem sm_add {f g : Nat → Int} : ∀ {n : Nat}, sm n (fun i => f i + g i) = sm n f + sm n g
  | 0 => rfl
  | n + 1 => by
    show sm n (fun i => f i + g i) + (f n + g n) = sm n f + f n + (sm n g + g n)
    rw [sm_add]; omega
theorem sm_sub {f g : Nat → Int} : ∀ {n : Nat}, sm n (fun i => f i - g i) = sm n f - sm n g
  | 0 => rfl
  | n + 1 => by
    show sm n (fun i => f i - g i) + (f n - g n) = sm n f + f n - (sm n g + g n)
    rw [sm_sub]; omega
theorem sm_zero {f : Nat → Int} : ∀ {n : Nat}, (∀ i, i < n → f i = 0) → sm n f = 0
  | 0, _ => rfl
  | n + 1, h => by
    show sm n f + f n = 0
    rw [sm_zero fun i hi => h i (by omega), h n (by omega)]; rfl
/-- only the k-th counts -/
theorem sm_one {f : Nat → Int} {k : Nat} : ∀ {n : Nat}, k < n → (∀ i, i < n → i ≠ k → f i = 0) → sm n f = f k
  | 0, h, _ => absurd h (Nat.not_lt_zero _)
  | n + 1, h, hz => by
    show sm n f + f n = f k
    by_cases e : k = n
    · subst e
      rw [sm_zero fun i hi => hz i (by omega) (by omega)]; omega
    · rw [sm_one (k := k) (n := n) (by omega) fun i hi => hz i (by omega), hz n (by omega) (Ne.symm e)]; omega
theorem sm_more {f : Nat → Int} {n : Nat} : ∀ {m : Nat}, n ≤ m → (∀ i, n ≤ i → i < m → f i = 0) → sm m f = sm n f
  | 0, h, _ => by have : n = 0 := by omega
                  rw [this]
  | m + 1, h, hz => by
    by_cases e : n = m + 1
    · rw [e]
    · show sm m f + f m = sm n f
      rw [sm_more (m := m) (by omega) fun i h1 h2 => hz i h1 (by omega), hz m (by omega) (by omega)]; omega
/-- the k-th number of a product, the first n rows -/
def pv (f g : Nat → Int) (n k : Nat) : Int := sm n fun i => if i ≤ k then f i * g (k - i) else 0
theorem pv_succ (f g : Nat → Int) (n k : Nat) : pv f g (n + 1) k = pv f g n k + (if n ≤ k then f n * g (k - n) else 0) := rfl
theorem pv_cg {p : Int} {f g f' g' : Nat → Int} (hf : ∀ i, cg p (f i) (f' i)) (hg : ∀ i, cg p (g i) (g' i)) (n k : Nat) : cg p (pv f g n k) (pv f' g' n k) := sm_cg fun i _ => by
  by_cases h : i ≤ k
  · rw [if_pos h, if_pos h]; exact cg_mul (hf i) (hg _)
  · rw [if_neg h, if_neg h]; exact cg_refl _ _
theorem pv_addr (f g g' : Nat → Int) (n k : Nat) : pv f (fun i => g i + g' i) n k = pv f g n k + pv f g' n k := by
  unfold pv
  rw [← sm_add]
  refine sm_congr fun i _ => ?_
  by_cases h : i ≤ k
  · rw [if_pos h, if_pos h, if_pos h]; grind
  · rw [if_neg h, if_neg h, if_neg h]; rfl
theorem pv_subl (f f' g : Nat → Int) (n k : Nat) : pv (fun i => f i - f' i) g n k = pv f g n k - pv f' g n k := by
  unfold pv
  rw [← sm_sub]
  refine sm_congr fun i _ => ?_
  by_cases h : i ≤ k
  · rw [if_pos h, if_pos h, if_pos h]; grind
  · rw [if_neg h, if_neg h, if_neg h]; rfl
theorem pv_more {f g : Nat → Int} {n m k : Nat} (h : n ≤ m) (hz : ∀ i, n ≤ i → f i = 0) : pv f g m k = pv f g n k := sm_more h fun i h1 _ => by
  by_cases c : i ≤ k
  · rw [if_pos c, hz i h1]; omega
  · rw [if_neg c]
/-- the k-th number of the product -/
def cv (a b : List Int) (k : Nat) : Int := pv (co a) (co b) a.length k
theorem cv_any {a b : List Int} {n k : Nat} (h : a.length ≤ n) : pv (co a) (co b) n k = cv a b k := pv_more h fun i hi => co_ge hi
theorem cv_ge {a b : List Int} {k : Nat} (h : a.length + b.length ≤ k + 1) : cv a b k = 0 := sm_zero fun i hi => by
  by_cases c : i ≤ k
  · rw [if_pos c, co_ge (l := b) (by omega)]; omega
  · rw [if_neg c]
end Y

set_option Elab.async false
set_option linter.all false
set_option maxRecDepth 100000
set_option maxHeartbeats 4000000
/-! PolyN: the sum, the product, the division of such polynomials, as the program's loops make them. -/
namespace Y
def addP (p : Int) (a b : List Int) : List Int := trim ((List.range (max a.length b.length)).map fun k => (co a k + co b k) % p)
theorem co_addP {p : Int} {a b : List Int} (k : Nat) : co (addP p a b) k = (co a k + co b k) % p := by
  unfold addP
  rw [co_trim, co_range]
  split
  · rfl
  · rw [co_ge (l := a) (by omega), co_ge (l := b) (by omega)]; simp
theorem rd_addP {p : Int} (hp : 0 < p) {a b : List Int} : Rd p (addP p a b) := fun k => by rw [co_addP]; exact md_rng hp _
theorem tr_addP {p : Int} {a b : List Int} : Tr (addP p a b) := tr_trim _
theorem len_addP {p : Int} {a b : List Int} : (addP p a b).length ≤ max a.length b.length := by
  have := trim_le ((List.range (max a.length b.length)).map fun k => (co a k + co b k) % p)
  simpa [addP] using this
/-- one row: the numbers from a on, each by its one of bs times f, j of them -/
def rw1 (p f : Int) (l : List Int) (a : Nat) (bs : List Int) : Nat → List Int
  | 0 => l
  | j + 1 => (rw1 p f l a bs j).set (a + j) ((co (rw1 p f l a bs j) (a + j) + f * co bs j) % p)
theorem rw1_len {p f : Int} {l : List Int} {a : Nat} {bs : List Int} : ∀ j, (rw1 p f l a bs j).length = l.length
  | 0 => rfl
  | j + 1 => by
    show ((rw1 p f l a bs j).set _ _).length = _
    rw [List.length_set, rw1_len j]
theorem rw1_co {p f : Int} {l : List Int} {a : Nat} {bs : List Int} : ∀ (j : Nat), a + j ≤ l.length → ∀ k, co (rw1 p f l a bs j) k = if a ≤ k ∧ k < a + j then (co l k + f * co bs (k - a)) % p else co l k
  | 0, _, k => by rw [if_neg (by omega)]; rfl
  | j + 1, h, k => by
    have ih := rw1_co (p := p) (f := f) (l := l) (a := a) (bs := bs) j (by omega)
    show co ((rw1 p f l a bs j).set (a + j) ((co (rw1 p f l a bs j) (a + j) + f * co bs j) % p)) k = _
    rw [co_set (by rw [rw1_len]; omega)]
    by_cases e : k = a + j
    · subst e
      rw [if_pos rfl, ih, if_neg (by omega), if_pos (by omega), Nat.add_sub_cancel_left]
    · rw [if_neg e, ih]
      by_cases c : a ≤ k ∧ k < a + j
      · rw [if_pos c, if_pos (by omega)]
      · rw [if_neg c, if_neg (by omega)]
theorem rw1_rd {p f : Int} {l : List Int} {a : Nat} {bs : List Int} (hp : 0 < p) {j : Nat} (h : a + j ≤ l.length) (hl : Rd p l) : Rd p (rw1 p f l a bs j) := fun k => by
  rw [rw1_co j h]
  split
  · exact md_rng hp _
  · exact hl k
/-- the product's rows, i of them -/
def mu (p : Int) (a b : List Int) : Nat → List Int
  | 0 => List.replicate (a.length + b.length - 1) 0
  | i + 1 => rw1 p (co a i) (mu p a b i) i b b.length
theorem mu_len {p : Int} {a b : List Int} : ∀ i, (mu p a b i).length = a.length + b.length - 1
  | 0 => List.length_replicate
  | i + 1 => by
    show (rw1 p (co a i) (mu p a b i) i b b.length).length = _
    rw [rw1_len, mu_len i]
theorem mu_ok {p : Int} {a b : List Int} (hp : 0 < p) (hb : b ≠ []) : ∀ i, i ≤ a.length → Rd p (mu p a b i) ∧ ∀ k, cg p (co (mu p a b i) k) (pv (co a) (co b) i k)
  | 0, _ => by
    refine ⟨fun k => ?_, fun k => ?_⟩
    · show 0 ≤ co (List.replicate _ 0) k ∧ co (List.replicate _ 0) k < p
      rw [co_rep]; split <;> omega
    · show cg p (co (List.replicate _ 0) k) 0
      rw [co_rep]; split <;> exact cg_refl _ _
  | i + 1, h => by
    obtain ⟨r, c⟩ := mu_ok (a := a) hp hb i (by omega)
    have hb' : 0 < b.length := List.length_pos_iff.mpr hb
    have hl : i + b.length ≤ (mu p a b i).length := by rw [mu_len]; omega
    refine ⟨rw1_rd hp hl r, fun k => ?_⟩
    show cg p (co (rw1 p (co a i) (mu p a b i) i b b.length) k) _
    rw [rw1_co _ hl, pv_succ]
    by_cases h1 : i ≤ k
    · rw [if_pos h1]
      by_cases h2 : k < i + b.length
      · rw [if_pos ⟨h1, h2⟩]
        exact cg_trans (cg_mod _ _) (cg_add (c k) (cg_refl _ _))
      · rw [if_neg (by omega), co_ge (l := b) (by omega)]
        have := c k
        rw [Int.mul_zero, Int.add_zero]; exact this
    · rw [if_neg h1, if_neg (by omega), Int.add_zero]
      exact c k
def mulP (p : Int) (a b : List Int) : List Int := if a = [] ∨ b = [] then [] else trim (mu p a b a.length)
theorem co_mulP {p : Int} {a b : List Int} (hp : 0 < p) (k : Nat) : co (mulP p a b) k = cv a b k % p := by
  unfold mulP
  split
  · rename_i h
    have : cv a b k = 0 := sm_zero fun i hi => by
      by_cases c : i ≤ k
      · rw [if_pos c]
        rcases h with h | h <;> subst h <;> simp [co_nil]
      · rw [if_neg c]
    rw [this]; simp [co_nil]
  · rename_i h
    have hb : b ≠ [] := fun e => h (.inr e)
    obtain ⟨r, c⟩ := mu_ok (a := a) hp hb a.length (Nat.le_refl _)
    rw [co_trim]
    have := cg_eq (c k)
    rw [md (r k).1 (r k).2] at this
    exact this
theorem rd_mulP {p : Int} {a b : List Int} (hp : 0 < p) : Rd p (mulP p a b) := fun k => by rw [co_mulP hp]; exact md_rng hp _
theorem tr_mulP {p : Int} {a b : List Int} : Tr (mulP p a b) := by
  unfold mulP
  split
  · exact .inl rfl
  · exact tr_trim _
theorem len_mulP {p : Int} {a b : List Int} : (mulP p a b).length ≤ a.length + b.length - 1 := by
  unfold mulP
  split
  · exact Nat.zero_le _
  · have := trim_le (mu p a b a.length)
    rwa [mu_len] at this
/-- a times a sum -/
theorem mul_add {p : Int} (hp : 0 < p) (a b c : List Int) : mulP p a (addP p b c) = addP p (mulP p a b) (mulP p a c) := by
  refine tr_ext tr_mulP tr_addP fun k => ?_
  rw [co_mulP hp, co_addP, co_mulP hp, co_mulP hp]
  refine cg_eq ?_
  have h1 : cg p (cv a (addP p b c) k) (pv (co a) (fun i => co b i + co c i) a.length k) := pv_cg (fun i => cg_refl _ _) (fun i => by rw [co_addP]; exact cg_mod _ _) _ _
  rw [pv_addr] at h1
  exact cg_trans h1 (cg_add (cg_symm (cg_mod _ _)) (cg_symm (cg_mod _ _)))
/-! ### division -/
theorem pv_addl (f f' g : Nat → Int) (n k : Nat) : pv (fun i => f i + f' i) g n k = pv f g n k + pv f' g n k := by
  unfold pv
  rw [← sm_add]
  refine sm_congr fun i _ => ?_
  by_cases h : i ≤ k
  · rw [if_pos h, if_pos h, if_pos h]; grind
  · rw [if_neg h, if_neg h, if_neg h]; rfl
theorem pv_delta {q : Int} {g : Nat → Int} {n t k : Nat} (h : t < n) : pv (fun i => if i = t then q else 0) g n k = if t ≤ k then q * g (k - t) else 0 := by
  unfold pv
  rw [sm_one (k := t) h fun i _ hi => by
    by_cases c : i ≤ k
    · rw [if_pos c]; dsimp only; rw [if_neg hi]; omega
    · rw [if_neg c]]
  dsimp only
  rw [if_pos rfl]
/-- the quotient and the rest behind s turns, N the quotient's places, v the inverse of b's last -/
def dv (p : Int) (a b : List Int) (v : Int) (N : Nat) : Nat → List Int × List Int
  | 0 => (List.replicate N 0, a)
  | s + 1 => ((dv p a b v N s).1.set (N - 1 - s) (co (dv p a b v N s).2 (N - 1 - s + b.length - 1) * v % p),
      rw1 p (-(co (dv p a b v N s).2 (N - 1 - s + b.length - 1) * v % p)) (dv p a b v N s).2 (N - 1 - s) b b.length)
structure DvOk (p : Int) (a b : List Int) (N t : Nat) (F R : List Int) : Prop where
  fl : F.length = N
  rl : R.length = a.length
  fr : Rd p F
  rr : Rd p R
  sum : ∀ k, cg p (co a k) (pv (co F) (co b) N k + co R k)
  low : ∀ k, t + b.length - 1 ≤ k → co R k = 0
  new : ∀ i, i < t → co F i = 0
theorem dv_ok {p : Int} {a b : List Int} {v : Int} {N : Nat} (hp : 0 < p) (ha : Rd p a) (hb : b ≠ []) (hN : N = a.length + 1 - b.length) (hv : cg p (co b (b.length - 1) * v) 1) : ∀ s, s ≤ N → DvOk p a b N (N - s) (dv p a b v N s).1 (dv p a b v N s).2
  | 0, _ => by
    refine ⟨List.length_replicate, rfl, fun k => ?_, ha, fun k => ?_, fun k hk => ?_, fun i _ => ?_⟩
    · show 0 ≤ co (List.replicate _ 0) k ∧ co (List.replicate _ 0) k < p
      rw [co_rep]; split <;> omega
    · have : pv (co (List.replicate N 0)) (co b) N k = 0 := sm_zero fun i _ => by
        by_cases c : i ≤ k
        · rw [if_pos c, co_rep]; split <;> omega
        · rw [if_neg c]
      show cg p (co a k) (pv (co (List.replicate N 0)) (co b) N k + co a k)
      rw [this, Int.zero_add]; exact cg_refl _ _
    · have hb' : 0 < b.length := List.length_pos_iff.mpr hb
      show co a k = 0
      by_cases hz : N = 0
      · exact co_ge (by omega)
      · exact co_ge (by omega)
    · show co (List.replicate _ 0) i = 0
      rw [co_rep]; split <;> rfl
  | s + 1, hs => by
    have D := dv_ok hp ha hb hN hv s (by omega)
    have hb' : 0 < b.length := List.length_pos_iff.mpr hb
    generalize hF : (dv p a b v N s).1 = F at D
    generalize hR : (dv p a b v N s).2 = R at D
    have e1 : dv p a b v N (s + 1) = ((dv p a b v N s).1.set (N - 1 - s) (co (dv p a b v N s).2 (N - 1 - s + b.length - 1) * v % p),
      rw1 p (-(co (dv p a b v N s).2 (N - 1 - s + b.length - 1) * v % p)) (dv p a b v N s).2 (N - 1 - s) b b.length) := rfl
    rw [e1, hF, hR]
    generalize ht : N - 1 - s = t
    have ht1 : N - s = t + 1 := by omega
    have ht2 : N - (s + 1) = t := by omega
    rw [ht1] at D
    rw [ht2]
    generalize hq : co R (t + b.length - 1) * v % p = q
    have hlen : t + b.length ≤ R.length := by rw [D.rl]; omega
    have tN : t < F.length := by rw [D.fl]; omega
    have cF : ∀ k, co (F.set t q) k = co F k + if k = t then q else 0 := fun k => by
      rw [co_set tN]
      by_cases e : k = t
      · subst e; rw [if_pos rfl, if_pos rfl, D.new k (by omega)]; omega
      · rw [if_neg e, if_neg e]; omega
    refine ⟨by rw [List.length_set]; exact D.fl, by rw [rw1_len]; exact D.rl, fun k => ?_, rw1_rd hp hlen D.rr, fun k => ?_, fun k hk => ?_, fun i hi => ?_⟩
    · rw [co_set tN]
      split
      · rw [← hq]; exact md_rng hp _
      · exact D.fr k
    · have e2 : pv (co (F.set t q)) (co b) N k = pv (co F) (co b) N k + if t ≤ k then q * co b (k - t) else 0 := by
        rw [← pv_delta (q := q) (g := co b) (n := N) (t := t) (k := k) (by omega), ← pv_addl]
        congr 1
        funext i
        exact cF i
      show cg p (co a k) (pv (co (F.set t q)) (co b) N k + co (rw1 p (-q) R t b b.length) k)
      rw [e2, rw1_co _ hlen]
      by_cases h1 : t ≤ k
      · rw [if_pos h1]
        by_cases h2 : k < t + b.length
        · rw [if_pos ⟨h1, h2⟩]
          refine cg_trans (D.sum k) (cg_symm ?_)
          have := cg_add (cg_refl p (pv (co F) (co b) N k + q * co b (k - t))) (cg_mod p (co R k + -q * co b (k - t)))
          refine cg_trans this ?_
          exact ⟨0, by grind⟩
        · rw [if_neg (by omega), co_ge (l := b) (by omega), Int.mul_zero, Int.add_zero]
          exact D.sum k
      · rw [if_neg h1, if_neg (by omega), Int.add_zero]
        exact D.sum k
    · rw [rw1_co _ hlen]
      by_cases h2 : k < t + b.length
      · have ek : k = t + b.length - 1 := by omega
        rw [if_pos ⟨by omega, h2⟩]
        have ei : k - t = b.length - 1 := by omega
        rw [ei, ek]
        have h3 : cg p (q * co b (b.length - 1)) (co R (t + b.length - 1)) := by
          rw [← hq]
          refine cg_trans (cg_mul (cg_mod _ _) (cg_refl _ _)) ?_
          have h4 := cg_mul (cg_refl p (co R (t + b.length - 1))) hv
          obtain ⟨m, h4⟩ := h4
          exact ⟨m, by grind⟩
        have h5 : cg p (co R (t + b.length - 1) + -q * co b (b.length - 1)) 0 := by
          obtain ⟨m, h3⟩ := h3
          exact ⟨-m, by grind⟩
        have := cg_eq h5
        rw [this]; simp
      · rw [if_neg (by omega)]
        exact D.low k (by omega)
    · rw [cF, if_neg (by omega), D.new i (by omega)]; rfl
/-- the quotient, the rest -/
def dvP (p : Int) (a b : List Int) (v : Int) : List Int × List Int := (trim (dv p a b v (a.length + 1 - b.length) (a.length + 1 - b.length)).1, trim (dv p a b v (a.length + 1 - b.length) (a.length + 1 - b.length)).2)
structure IsDiv (p : Int) (a b q r : List Int) : Prop where
  qt : Tr q
  rt : Tr r
  qr : Rd p q
  rr : Rd p r
  ql : q.length ≤ a.length + 1 - b.length
  sum : ∀ k, cg p (co a k) (cv q b k + co r k)
  lt : r.length < b.length
theorem dvP_ok {p : Int} {a b : List Int} {v : Int} (hp : 0 < p) (ha : Rd p a) (hb : b ≠ []) (hv : cg p (co b (b.length - 1) * v) 1) : IsDiv p a b (dvP p a b v).1 (dvP p a b v).2 := by
  have hb' : 0 < b.length := List.length_pos_iff.mpr hb
  have D := dv_ok (N := a.length + 1 - b.length) hp ha hb rfl hv _ (Nat.le_refl _)
  rw [Nat.sub_self] at D
  refine ⟨tr_trim _, tr_trim _, rd_trim D.fr, rd_trim D.rr, ?_, fun k => ?_, ?_⟩
  · have := trim_le (dv p a b v (a.length + 1 - b.length) (a.length + 1 - b.length)).1
    rwa [D.fl] at this
  · have h := D.sum k
    have e : cv (dvP p a b v).1 b k = pv (co (dv p a b v (a.length + 1 - b.length) (a.length + 1 - b.length)).1) (co b) (a.length + 1 - b.length) k := by
      rw [← cv_any (n := a.length + 1 - b.length) (by
        have := trim_le (dv p a b v (a.length + 1 - b.length) (a.length + 1 - b.length)).1
        rwa [D.fl] at this)]
      congr 1
      funext i
      exact co_trim _ _
    rw [e]
    show cg p (co a k) (_ + co (trim _) k)
    rw [co_trim]
    exact h
  · have : (dvP p a b v).2.length ≤ b.length - 1 := tr_len_le (tr_trim _) fun k hk => by
      show co (trim _) k = 0
      rw [co_trim]
      exact D.low k (by omega)
    omega
/-- what was divided comes back -/
theorem div_back {p : Int} {a b q r : List Int} (hp : 0 < p) (ha : Rd p a) (ta : Tr a) (D : IsDiv p a b q r) : addP p (mulP p q b) r = a := by
  refine tr_ext tr_addP ta fun k => ?_
  rw [co_addP, co_mulP hp]
  have h := cg_eq (cg_trans (cg_add (cg_mod p (cv q b k)) (cg_refl p (co r k))) (cg_symm (D.sum k)))
  rw [h, md (ha k).1 (ha k).2]
/-- a product divided -/
theorem div_mul {p : Int} {a b c q r : List Int} {v : Int} (hp : 0 < p) (hc : Rd p c) (tc : Tr c) (hb : b ≠ []) (hv : cg p (co b (b.length - 1) * v) 1) (e : a = mulP p c b) (D : IsDiv p a b q r) : q = c ∧ r = [] := by
  have hb' : 0 < b.length := List.length_pos_iff.mpr hb
  generalize hM : max c.length q.length = M
  have h0 : ∀ k, cg p (pv (fun i => co c i - co q i) (co b) M k) (co r k) := fun k => by
    rw [pv_subl, cv_any (a := c) (by omega), cv_any (a := q) (by omega)]
    have h1 := D.sum k
    rw [e, co_mulP hp] at h1
    have h2 := cg_trans (cg_symm (cg_mod p (cv c b k))) h1
    obtain ⟨m, h2⟩ := h2
    exact ⟨m, by grind⟩
  have top : ∀ (n k : Nat), k + n = M → cg p (co c k - co q k) 0 := by
    intro n
    induction n using Nat.strongRecOn with
    | ind n ih =>
      intro k hk
      by_cases hn : n = 0
      · rw [co_ge (l := c) (by omega), co_ge (l := q) (by omega)]; exact cg_refl _ _
      · have hi : ∀ i, k < i → cg p (co c i - co q i) 0 := fun i hi => by
          by_cases him : i ≤ M
          · exact ih (M - i) (by omega) i (by omega)
          · rw [co_ge (l := c) (by omega), co_ge (l := q) (by omega)]; exact cg_refl _ _
        have h1 := h0 (k + b.length - 1)
        rw [co_ge (l := r) (by have := D.lt; omega)] at h1
        have h2 : cg p (pv (fun i => co c i - co q i) (co b) M (k + b.length - 1)) (pv (fun i => if i = k then co c k - co q k else 0) (co b) M (k + b.length - 1)) := sm_cg fun i him => by
          by_cases c1 : i ≤ k + b.length - 1
          · rw [if_pos c1, if_pos c1]
            dsimp only
            by_cases c2 : i = k
            · subst c2; rw [if_pos rfl]; exact cg_refl _ _
            · rw [if_neg c2]
              by_cases c3 : i < k
              · rw [co_ge (l := b) (by omega), Int.mul_zero, Int.mul_zero]; exact cg_refl _ _
              · exact cg_mul (hi i (by omega)) (cg_refl _ _)
          · rw [if_neg c1, if_neg c1]; exact cg_refl _ _
        have h3 := cg_trans (cg_symm h2) h1
        rw [pv_delta (by omega), if_pos (by omega), show k + b.length - 1 - k = b.length - 1 by omega] at h3
        have h4 := cg_mul h3 (cg_refl p v)
        have h5 := cg_mul (cg_refl p (co c k - co q k)) hv
        obtain ⟨m, h4⟩ := h4
        obtain ⟨l, h5⟩ := h5
        exact ⟨m - l, by grind⟩
  have eq : ∀ k, co c k = co q k := fun k => by
    by_cases hk : k ≤ M
    · refine cg_rd (hc k) (D.qr k) ?_
      have := top (M - k) k (by omega)
      obtain ⟨m, h⟩ := this
      exact ⟨m, by grind⟩
    · rw [co_ge (l := c) (by omega), co_ge (l := q) (by omega)]
  refine ⟨(tr_ext tc D.qt eq).symm, tr_ext D.rt (.inl rfl) fun k => ?_⟩
  have z : pv (fun i => co c i - co q i) (co b) M k = 0 := sm_zero fun i _ => by
    by_cases c1 : i ≤ k
    · rw [if_pos c1]; dsimp only; rw [eq i, Int.sub_self, Int.zero_mul]
    · rw [if_neg c1]
  have h1 := h0 k
  rw [z] at h1
  exact (cg_rd ⟨Int.le_refl 0, hp⟩ (D.rr k) h1).symm
end Y

set_option Elab.async false
set_option linter.all false
set_option maxRecDepth 100000
set_option maxHeartbeats 4000000
/-! Fns: what the package's first functions answer. -/
namespace Y
open PySem
/-- a body's run on its arguments, k slots besides -/
noncomputable def runB (t : T) (k : Nat) (body : Sts) (args : List Val) (h : Heap) : R Val := leave h.length (denSs t h.length body (args.map some ++ List.replicate k none) h)
/-- the i-th def of t' has np parameters, k slots besides, this body, and calls t -/
def Has (t' t : T) (i np k : Nat) (body : Sts) : Prop := ∀ args h, args.length = np → t'.call i args h = runB t k body args h
theorem leave_ret {n : Nat} {v : Val} {h : Heap} (hb : below n v = true) : leave n (.ret v h) = .ok v (h.take n) := by
  show (if below n v then R.ok v (h.take n) else .ok v h) = _
  rw [hb]; rfl
theorem leave_same {v : Val} {h : Heap} (hb : below h.length v = true) : leave h.length (.ret v h) = .ok v h := by rw [leave_ret hb, List.take_length]
theorem leave_more {v : Val} {h g : Heap} (hb : below h.length v = true) : leave h.length (.ret v (h ++ g)) = .ok v h := by rw [leave_ret hb, List.take_left]
theorem leave_nx {env : Env} {h : Heap} : leave h.length (.nx env h) = .ok .non h := by
  show R.ok Val.non (h.take h.length) = _
  rw [List.take_length]
theorem bel_int {n : Nat} {i : Int} : below n (.int i) = true := rfl
theorem bel_bl {n : Nat} {i : Bool} : below n (.bl i) = true := rfl
theorem bel_I {n : Nat} : ∀ xs : List Int, below.belowAll n (I xs) = true
  | [] => rfl
  | i :: r => by
    show (below n (.int i) && below.belowAll n (I r)) = true
    rw [bel_I r]; rfl
theorem bel_tI {n : Nat} (xs : List Int) : below n (.tup (I xs)) = true := by unfold below; exact bel_I xs
/-- a tuple of whole numbers -/
abbrev tI (xs : List Int) : Val := .tup (I xs)
/-! is_int -/
def b_is_int : Sts := .cons (.ret (.and (.isi .int (.var 0)) (.not (.isi .bool (.var 0))))) .nil
def IsInt (t : T) (i : Nat) : Prop := ∀ (n : Int) h, t.call i [.int n] h = .ok (.bl true) h
theorem is_int_ok {t' t : T} {i : Nat} (H : Has t' t i 1 0 b_is_int) : IsInt t' i := fun n h => by
  rw [H _ _ rfl]
  unfold runB b_is_int
  simp [tyI]
  rw [leave_same bel_bl]
/-! is_in -/
def b_is_in (a : Nat) : Sts := .cons (.ret (.and (.call a (.cons (.var 0) .nil)) (.cmp2 .LtE .LtE (.var 1) (.var 0) (.var 2)))) .nil
def IsIn (t : T) (i : Nat) : Prop := ∀ (n lo hi : Int) h, t.call i [.int n, .int lo, .int hi] h = .ok (.bl (decide (lo ≤ n) && decide (n ≤ hi))) h
theorem is_in_ok {t' t : T} {i a : Nat} (H : Has t' t i 3 0 (b_is_in a)) (h1 : IsInt t a) : IsIn t' i := fun n lo hi h => by
  rw [H _ _ rfl]
  unfold runB b_is_in
  simp [h1 n]
  by_cases c : lo ≤ n <;> simp [c] <;> exact leave_same rfl
/-! need_prime -/
def b_need_prime (a g : Nat) : Sts := .cons (.ife (.or (.not (.call a (.cons (.var 0) .nil))) (.cmp .NotIn (.var 0) (.glo g))) (.cons .never .nil) .nil) .nil
def primes : List Int := [2, 3, 5, 7, 11, 13, 17, 19, 23, 29, 31]
def NeedPrime (t : T) (i : Nat) : Prop := ∀ (p : Int) h, p ∈ primes → t.call i [.int p] h = .ok .non h
theorem in_I {p : Int} : ∀ {xs : List Int}, p ∈ xs → inSeq (.int p) (I xs) = true
  | [], h => by cases h
  | x :: xs, h => by
    show (veq 0 [] (.int x) (.int p) || inSeq (.int p) (I xs)) = true
    rcases List.mem_cons.mp h with e | h
    · subst e
      rw [show veq 0 [] (.int p) (.int p) = (p == p) from rfl, beq_self_eq_true]; rfl
    · rw [in_I h, Bool.or_true]
theorem flat_I : ∀ xs : List Int, (I xs).all flat = true
  | [] => rfl
  | x :: xs => by
    show (true && (I xs).all flat) = true
    rw [flat_I xs]; rfl
theorem c_notInT {p : Int} {xs : List Int} {h : Heap} (hp : p ∈ xs) : cmpV .NotIn (.int p) (tI xs) h = .ok (.bl false) h := by
  show (if flat (.int p) && (I xs).all flat then R.ok (Val.bl !(inSeq (.int p) (I xs))) h else .bad) = _
  rw [flat_I, in_I hp]; rfl
theorem need_prime_ok {t' t : T} {i a g : Nat} (H : Has t' t i 1 0 (b_need_prime a g)) (h1 : IsInt t a) (hg : t.gl[g]? = some (tI primes)) : NeedPrime t' i := fun p h hp => by
  rw [H _ _ rfl]
  unfold runB b_need_prime
  have e := h1 p h
  have e2 := c_notInT (h := h) hp
  simp [e, v_glo, hg, e2]
  exact leave_nx
/-! inverse -/
def b_inverse : Sts := .cons (.asg (.nm 2) (.cst (.int 1))) (.cons (.for_ (.nm 3) (.r1 (.bin .Sub (.var 0) (.cst (.int 2)))) (.cons (.asg (.nm 2) (.bin .Mod (.bin .Mult (.var 2) (.var 1)) (.var 0))) .nil)) (.cons (.ret (.var 2)) .nil))
def pw (p a : Int) : Nat → Int
  | 0 => 1
  | n + 1 => pw p a n * a % p
def inv (p a : Int) : Int := pw p a (p - 2).toNat
def Inverse (t : T) (i : Nat) : Prop := ∀ (p a : Int) h, 2 ≤ p → p < 2 ^ 30 → t.call i [.int p, .int a] h = .ok (.int (inv p a)) h
theorem pw_rng {p a : Int} (hp : 2 ≤ p) : ∀ n, 0 ≤ pw p a n ∧ pw p a n < p
  | 0 => ⟨by show (0 : Int) ≤ 1; omega, by show (1 : Int) < p; omega⟩
  | n + 1 => md_rng (by omega) _
theorem rangeK_ok {m n : Int} {h : Heap} (hm : -(2 ^ 62) ≤ m) (hm2 : m < 2 ^ 62) (hn : -(2 ^ 62) ≤ n) (hn2 : n < 2 ^ 62) : rangeK m n h = .ok (.one (.vals (upTo (n - m).toNat m))) h := by
  have e : rangeV m n = some (upTo (n - m).toNat m) := by
    unfold rangeV rangeV.isSmall62
    rw [decide_eq_true hm, decide_eq_true hm2, decide_eq_true hn, decide_eq_true hn2]; rfl
  unfold rangeK
  rw [e]
theorem inverse_ok {t' t : T} {i : Nat} (H : Has t' t i 2 2 b_inverse) : Inverse t' i := fun p a h hp hp2 => by
  rw [H _ _ rfl]
  unfold runB b_inverse
  simp [r_for, i_r1, rangeK_ok (m := 0) (n := p - 2) (h := h) (by omega) (by omega) (by omega) (by omega), Iter.len, Src.len, upTo_len]
  obtain ⟨env', h', e, o, he, hh⟩ := forL_inv (it := .one (.vals (upTo (p - 2).toNat 0))) (n := (p - 2).toNat) (val := fun i => .int (0 + i)) (body := fun v env2 h2 => (R.ok (env2.set 3 (some v)) h2).then env2 fun env3 h3 => denSs t h.length (.cons (.asg (.nm 2) (.bin .Mod (.bin .Mult (.var 2) (.var 1)) (.var 0))) .nil) env3 h3)
    (fun i env h' => ∃ o, env = [some (.int p), some (.int a), some (.int (pw p a i)), o] ∧ h' = h) (fun i env h' hi ⟨o, he, hh⟩ => by
      subst he hh
      have r := pw_rng (a := a) hp i
      have e1 := a_mul (i := pw p a i) (j := a) (h := h') (by rw [small_of (by omega) (by omega)]; rfl)
      have e2 := a_mod (i := pw p a i * a) (j := p) (h := h') (by omega)
      refine ⟨turn_vals (upTo_at hi), [some (.int p), some (.int a), some (.int (pw p a (i + 1))), some (.int (0 + i))], h', ?_, some (.int (0 + i)), rfl, rfl⟩
      simp [e1, e2]
      rfl) (fun env h' _ => by
      have := turn_end (xs := upTo (p - 2).toNat 0) (h := h')
      rwa [upTo_len] at this) (env := [some (.int p), some (.int a), some (.int 1), none]) (h := h) ⟨none, rfl, rfl⟩
  subst he hh
  simp at e
  rw [e]
  simp
  exact leave_same rfl
end Y

set_option Elab.async false
set_option linter.all false
set_option maxRecDepth 100000
set_option maxHeartbeats 4000000
/-! Fns2: polynomials: is it one, without zeros at the end. -/
namespace Y
open PySem
@[simp] theorem iterOf_tup {xs : List Val} {h : Heap} {k : Src → Iter} : iterOf (.tup xs) h k = .ok (k (.vals xs)) h := rfl
theorem iterOf_lst {a : Nat} {xs : List Val} {h : Heap} {k : Src → Iter} (hl : listAt h a = some xs) : iterOf (.lst a) h k = .ok (k (.cell a)) h := by
  show (match (if (listAt h a).isSome then some (Src.cell a) else none) with
    | some s => R.ok (k s) h
    | none => .bad) = _
  rw [hl]; rfl
theorem turn_cell {a i : Nat} {xs : List Val} {h : Heap} {v : Val} (hl : listAt h a = some xs) (e : xs[i]? = some v) : (Iter.one (.cell a)).turn i h = some (some v) := by
  show (match listAt h a with
    | some xs => getAt xs i
    | none => none) = _
  rw [hl]
  exact turn_vals (h := h) e
theorem turn_cell_end {a : Nat} {xs : List Val} {h : Heap} (hl : listAt h a = some xs) : (Iter.one (.cell a)).turn xs.length h = some none := by
  show (match listAt h a with
    | some ys => getAt ys xs.length
    | none => none) = _
  rw [hl]
  exact turn_end (h := h)
theorem lcL_map {elt : Val → Heap → R (Option Val)} {it : Iter} {h : Heap} {val out : Nat → Val} {n : Nat} (go : ∀ i, i < n → it.turn i h = some (some (val i)) ∧ elt (val i) h = .ok (some (out i)) h) (stop : it.turn n h = some none) :
    lcL elt it n 0 h = .ok ((List.range n).map out) h := by
  rw [lcL_pure (out := fun i => some (out i)) go stop]
  congr 1
  exact List.filterMap_eq_map (f := out) ▸ rfl
theorem asBools_map {α : Type} (f : α → Bool) : ∀ l : List α, asBools (l.map fun i => .bl (f i)) = some (l.map f)
  | [] => rfl
  | x :: l => by
    show (asBools (l.map fun i => .bl (f i))).map (f x :: ·) = _
    rw [asBools_map f l]; rfl
theorem I_len (xs : List Int) : (I xs).length = xs.length := List.length_map _
theorem I_at {xs : List Int} {i : Nat} (h : i < xs.length) : (I xs)[i]? = some (.int (co xs i)) := by
  rw [List.getElem?_map, co_at h]; rfl
theorem idx_nat {x : Val} {xs : List Int} {k : Nat} {h : Heap} (hs : seqOf h x = some (I xs)) (hk : k < xs.length) : idxV x (.int (k : Int)) h = .ok (.int (co xs k)) h := by
  show R.of ((seqOf h x).bind fun xs => atV xs (k : Int)) h = _
  rw [hs]
  show R.of (atV (I xs) (k : Int)) h = _
  rw [at_nat (by rw [I_len]; exact hk), I_at hk]; rfl
theorem idx_last {x : Val} {xs : List Int} {h : Heap} (hs : seqOf h x = some (I xs)) (hk : xs ≠ []) : idxV x (.int (-1)) h = .ok (.int (co xs (xs.length - 1))) h := by
  have hl : 0 < xs.length := List.length_pos_iff.mpr hk
  show R.of ((seqOf h x).bind fun xs => atV xs (-1)) h = _
  rw [hs]
  show R.of ((place (I xs).length (-1)).bind fun j => (I xs)[j]?) h = _
  have e : place (I xs).length (-1) = some (xs.length - 1) := by
    show (if Nat.blt 0 (I xs).length then some ((I xs).length - (0 + 1)) else none) = _
    rw [I_len, show Nat.blt 0 xs.length = true from Nat.ble_eq_true_of_le hl]; rfl
  rw [e]
  show R.of ((I xs)[xs.length - 1]?) h = _
  rw [I_at (by omega)]; rfl
theorem data_I (d : Nat) (h : Heap) : ∀ xs : List Int, (I xs).all (dataOk d h) = true
  | [] => rfl
  | x :: xs => by
    show (dataOk d h (.int x) && (I xs).all (dataOk d h)) = true
    rw [data_I d h xs]
    cases d <;> rfl
theorem allEq_I (d : Nat) (h : Heap) : ∀ xs ys : List Int, allEq (veq d h) (I xs) (I ys) = decide (xs = ys)
  | [], [] => rfl
  | [], _ :: _ => rfl
  | _ :: _, [] => rfl
  | x :: xs, y :: ys => by
    show (veq d h (.int x) (.int y) && allEq (veq d h) (I xs) (I ys)) = _
    rw [allEq_I d h xs ys, show veq d h (.int x) (.int y) = (x == y) by cases d <;> rfl]
    by_cases e : x = y
    · subst e; simp
    · simp [e]
theorem c_eqT {xs ys : List Int} {h : Heap} : cmpV .Eq (tI xs) (tI ys) h = .ok (.bl (decide (xs = ys))) h := by
  show (match (if ((I xs).all (dataOk 59 h)) && ((I ys).all (dataOk 59 h)) then some (allEq (veq 59 h) (I xs) (I ys)) else none) with
    | some b => R.ok (Val.bl b) h
    | none => .bad) = _
  rw [data_I, data_I, allEq_I]; rfl
theorem c_neT {xs ys : List Int} {h : Heap} : cmpV .NotEq (tI xs) (tI ys) h = .ok (.bl !(decide (xs = ys))) h := by
  show (match (if ((I xs).all (dataOk 59 h)) && ((I ys).all (dataOk 59 h)) then some (allEq (veq 59 h) (I xs) (I ys)) else none) with
    | some b => R.ok (Val.bl !b) h
    | none => .bad) = _
  rw [data_I, data_I, allEq_I]; rfl
theorem c_eqT0 {xs : List Int} {h : Heap} : cmpV .Eq (tI xs) (.tup []) h = .ok (.bl (decide (xs = []))) h := c_eqT (ys := [])
theorem c_neT0 {xs : List Int} {h : Heap} : cmpV .NotEq (tI xs) (.tup []) h = .ok (.bl !(decide (xs = []))) h := c_neT (ys := [])
/-! is_free -/
def b_is_free (a : Nat) : Sts := .cons (.ife (.or (.not (.isi .tuple (.var 1))) (.not (.biL .all (.lc [2] (.nm 2) (.of (.var 1)) .none (.call a (.cons (.var 2) (.cons (.cst (.int 0)) (.cons (.bin .Sub (.var 0) (.cst (.int 1))) .nil)))))))) (.cons (.ret (.cst (.bl false))) .nil) .nil) (.cons (.ret (.or (.cmp .Eq (.var 1) (.tup .nil)) (.cmp .NotEq (.idx (.var 1) (.neg (.cst (.int 1)))) (.cst (.int 0))))) .nil)
def IsFree (t : T) (i : Nat) : Prop := ∀ (p : Int) (xs : List Int) h, Rd p xs → Tr xs → xs.length ≤ line → t.call i [.int p, tI xs] h = .ok (.bl true) h
theorem is_free_ok {t' t : T} {i a : Nat} (H : Has t' t i 2 1 (b_is_free a)) (h1 : IsIn t a) : IsFree t' i := fun p xs h hr ht hl => by
  rw [H _ _ rfl]
  unfold runB b_is_free
  have e2 : biL .all ((List.range xs.length).map fun _ => .bl true) h = .ok (.bl true) h := by
    show (match asBools ((List.range xs.length).map fun _ => .bl true) with
      | some bs => R.ok (Val.bl (bs.all id)) h
      | none => .bad) = _
    rw [asBools_map (fun _ => true)]
    simp
  simp [l_lc0, i_of, Iter.len, Src.len, tyT]
  rw [lcL_map (it := .one (.vals (I xs))) (n := xs.length) (h := h) (val := fun i => .int (co xs i)) (out := fun _ => .bl true) (fun i hi => ⟨turn_vals (I_at hi), by
    have e := h1 (co xs i) 0 (p - 1) h
    rw [decide_eq_true (hr i).1, decide_eq_true (show co xs i ≤ p - 1 by have := (hr i).2; omega)] at e
    simp [wipe, e]⟩) (by have := turn_end (xs := I xs) (h := h); rwa [I_len] at this)]
  simp [isLen_of hl, e2]
  rw [c_eqT0]
  by_cases hx : xs = []
  · subst hx
    simp
    exact leave_same rfl
  · have hn : ¬ (co xs (xs.length - 1) = 0) := by
      rcases ht with e | e
      · exact absurd e hx
      · exact e
    have e3 := idx_last (x := tI xs) (h := h) rfl hx
    simp [hx, e3, hn]
    exact leave_same rfl
/-! is_poly, need_poly -/
def b_is_poly (a g : Nat) : Sts := .cons (.ret (.and (.call a (.cons (.var 0) (.cons (.var 1) .nil))) (.cmp .LtE (.bi .len (.var 1)) (.bin .Add (.glo g) (.cst (.int 1)))))) .nil
/-- a polynomial over p, of at most m numbers -/
structure IsP (p : Int) (m : Nat) (xs : List Int) : Prop where
  rd : Rd p xs
  tr : Tr xs
  le : xs.length ≤ m
def IsPoly (t : T) (i : Nat) : Prop := ∀ (p : Int) (xs : List Int) h, IsP p 41 xs → t.call i [.int p, tI xs] h = .ok (.bl true) h
theorem is_poly_ok {t' t : T} {i a g : Nat} (H : Has t' t i 2 0 (b_is_poly a g)) (h1 : IsFree t a) (hg : t.gl[g]? = some (.int 40)) : IsPoly t' i := fun p xs h hx => by
  rw [H _ _ rfl]
  unfold runB b_is_poly
  have hl : xs.length ≤ line := Nat.le_trans hx.le (by decide)
  have e1 := h1 p xs h hx.rd hx.tr hl
  have e2 : ((I xs).length : Int) ≤ 41 := by rw [I_len]; have := hx.le; omega
  rw [I_len] at e2
  simp [e1, v_glo, hg, e2]
  exact leave_same rfl
def b_need_poly (a : Nat) : Sts := .cons (.ife (.not (.call a (.cons (.var 0) (.cons (.var 1) .nil)))) (.cons .never .nil) .nil) .nil
def NeedPoly (t : T) (i : Nat) : Prop := ∀ (p : Int) (xs : List Int) h, IsP p 41 xs → t.call i [.int p, tI xs] h = .ok .non h
theorem need_poly_ok {t' t : T} {i a : Nat} (H : Has t' t i 2 0 (b_need_poly a)) (h1 : IsPoly t a) : NeedPoly t' i := fun p xs h hx => by
  rw [H _ _ rfl]
  unfold runB b_need_poly
  have e1 := h1 p xs h hx
  simp [e1]
  exact leave_nx
/-! trimmed -/
def b_trimmed : Sts := .cons (.asg (.nm 1) (.bi .len (.var 0))) (.cons (.whl (.and (.cmp .Gt (.var 1) (.cst (.int 0))) (.cmp .Eq (.idx (.var 0) (.bin .Sub (.var 1) (.cst (.int 1)))) (.cst (.int 0)))) (.cons (.aug 1 .Sub (.cst (.int 1))) .nil)) (.cons (.ret (.bi .tuple (.sl (.var 0) .none (.some (.var 1))))) .nil))
def Trimmed (t : T) (i : Nat) : Prop := ∀ (a : Nat) (xs : List Int) h, listAt h a = some (I xs) → xs.length < 1000000 → t.call i [.lst a] h = .ok (tI (trim xs)) h
theorem cut_I {xs : List Int} {k : Nat} (hk : k ≤ xs.length) : cut (I xs) none (some (k : Int)) = I (xs.take k) := by
  unfold cut
  show ((I xs).drop 0).take (min k (I xs).length - 0) = _
  rw [I_len, List.drop_zero, Nat.sub_zero, Nat.min_eq_left hk]
  unfold I
  rw [List.map_take]
theorem at_new {h : Heap} {c : Cell} : (h ++ [c])[h.length]? = some c := by
  rw [List.getElem?_append_right (Nat.le_refl _), Nat.sub_self]; rfl
theorem listAt_new {h : Heap} {xs : List Val} : listAt (h ++ [.lst xs]) h.length = some xs := by
  unfold listAt
  rw [at_new]
theorem sl_ok {a : Nat} {xs : List Int} {k : Nat} {h : Heap} (hl : listAt h a = some (I xs)) (hk : k ≤ xs.length) : slV (.lst a) none (some (k : Int)) h = .ok (.lst h.length) (h ++ [.lst (I (xs.take k))]) := by
  show (match listAt h a with
    | some xs => new (cut xs none (some (k : Int))) h
    | none => .bad) = _
  rw [hl]
  show new (cut (I xs) none (some (k : Int))) h = _
  rw [cut_I hk]; rfl
theorem trimmed_ok {t' t : T} {i : Nat} (H : Has t' t i 1 1 b_trimmed) : Trimmed t' i := fun a xs h hl hx => by
  rw [H _ _ rfl]
  unfold runB b_trimmed
  have e0 := bi_lenL hl
  rw [I_len] at e0
  have wl := while_inv (test := (den t h.length (.and (.cmp .Gt (.var 1) (.cst (.int 0))) (.cmp .Eq (.idx (.var 0) (.bin .Sub (.var 1) (.cst (.int 1)))) (.cst (.int 0))))).t) (body := denSs t h.length (.cons (.aug 1 .Sub (.cst (.int 1))) .nil))
    (fun m env h' => env = [some (.lst a), some (.int m)] ∧ h' = h ∧ m ≤ xs.length ∧ tl xs m = tl xs xs.length) (Q := fun env h' => env = [some (.lst a), some (.int (tl xs xs.length))] ∧ h' = h) (fun m env h' hp => by
      obtain ⟨he, hh, hm, ht⟩ := hp
      subst he hh
      cases m with
      | zero =>
        left
        refine ⟨h', by simp, ?_, rfl⟩
        rw [← ht]; rfl
      | succ m =>
        have e1 : (((m + 1 : Nat) : Int) - 1) = (m : Int) := by omega
        have e2 := idx_nat (x := .lst a) (k := m) (h := h') hl (by omega)
        have e3 : tl xs (m + 1) = if co xs m = 0 then tl xs m else m + 1 := rfl
        by_cases hc : co xs m = 0
        · right
          refine ⟨h', [some (.lst a), some (.int m)], h', m, ?_, ?_, Nat.lt_succ_self m, rfl, rfl, by omega, ?_⟩
          · simp [e2, hc]
          · simp
          · rw [← ht, e3, if_pos hc]
        · left
          refine ⟨h', ?_, ?_, rfl⟩
          · simp [e2, hc]
          · rw [← ht, e3, if_neg hc])
  obtain ⟨env', h', e, he, hh⟩ := wl xs.length fuelW (env := [some (.lst a), some (.int xs.length)]) (h := h) (by unfold fuelW; exact hx) ⟨rfl, rfl, Nat.le_refl _, rfl⟩
  subst he hh
  simp [e0, r_whl]
  rw [e]
  have e4 := sl_ok hl (tl_le xs xs.length)
  have e5 := bi_tupL (listAt_new (h := h') (xs := I (xs.take (tl xs xs.length))))
  simp [e4]
  simp at e5
  rw [e5]
  simp
  rw [← List.map_take]
  exact leave_more (bel_tI _)
end Y

set_option Elab.async false
set_option linter.all false
set_option maxRecDepth 100000
set_option maxHeartbeats 4000000
/-! Fns3: sums and products of polynomials. -/
namespace Y
open PySem
@[simp] theorem seqOf_tup {h : Heap} {xs : List Val} : seqOf h (.tup xs) = some xs := rfl
@[simp] theorem seqOf_lst {h : Heap} {a : Nat} : seqOf h (.lst a) = listAt h a := rfl
theorem app_at {h g : Heap} {k : Nat} : (h ++ g)[h.length + k]? = g[k]? := by
  rw [List.getElem?_append_right (Nat.le_add_right _ _), Nat.add_sub_cancel_left]
@[simp] theorem listAt_app {h g : Heap} {k : Nat} : listAt (h ++ g) (h.length + k) = listAt g k := by
  unfold listAt
  rw [app_at]
@[simp] theorem listAt_app0 {h g : Heap} : listAt (h ++ g) h.length = listAt g 0 := listAt_app (k := 0)
@[simp] theorem listAt_0 {g : Heap} {xs : List Val} : listAt (.lst xs :: g) 0 = some xs := rfl
@[simp] theorem listAt_r0 {g : Heap} {xs : List Val} : listAt (.ro xs :: g) 0 = some xs := rfl
@[simp] theorem listAt_s {g : Heap} {c : Cell} {k : Nat} : listAt (c :: g) (k + 1) = listAt g k := by
  unfold listAt
  rw [List.getElem?_cons_succ]
@[simp] theorem new_app {h : Heap} {xs : List Val} : new xs h = .ok (.lst h.length) (h ++ [.lst xs]) := rfl
/-- into a list made by the body itself -/
theorem put_app {h g : Heap} {m k : Nat} {xs : List Int} {v : Int} (hg : g[m]? = some (.lst (I xs))) (hk : k < xs.length) : putV h.length (.lst (h.length + m)) (.int (k : Int)) (.int v) (h ++ g) = .ok () (h ++ g.set m (.lst (I (xs.set k v)))) := by
  show (match (h ++ g)[h.length + m]? with
    | some (.lst ys) => (match place ys.length (k : Int) with
      | some j => if mayPut h.length (h.length + m) (.int v) then R.ok () ((h ++ g).set (h.length + m) (.lst (ys.set j (.int v)))) else .bad
      | none => .bad)
    | _ => .bad) = _
  rw [app_at, hg]
  show (match place (I xs).length (k : Int) with
      | some j => if mayPut h.length (h.length + m) (.int v) then R.ok () ((h ++ g).set (h.length + m) (.lst ((I xs).set j (.int v)))) else .bad
      | none => .bad) = _
  rw [I_len, place_nat hk]
  show (if mayPut h.length (h.length + m) (.int v) then R.ok () ((h ++ g).set (h.length + m) (.lst ((I xs).set k (.int v)))) else .bad) = _
  have e : mayPut h.length (h.length + m) (.int v) = true := by
    unfold mayPut
    rw [show Nat.ble h.length (h.length + m) = true from Nat.ble_eq_true_of_le (Nat.le_add_right _ _)]; rfl
  rw [e, if_pos rfl, List.set_append_right _ _ (Nat.le_add_right _ _), Nat.add_sub_cancel_left]
  unfold I
  rw [List.map_set]
def mulK (xs : List Val) (y : Val) (h : Heap) : R (List Val) := match y with
  | .int k => if isLen (xs.length * k.toNat) && Nat.ble k.natAbs line then .ok (List.replicate k.toNat xs).flatten h else .bad
  | _ => .bad
@[simp] theorem l_mulK {t : T} {b : Nat} {env : Env} {h : Heap} {l : Le} {x : Ex} : denL t b (.mul l x) env h = (denL t b l env h).bind fun xs h1 => ((den t b x).v env h1).bind fun y h2 => mulK xs y h2 := rfl
theorem flat_rep {α : Type} (v : α) : ∀ k, (List.replicate k [v]).flatten = List.replicate k v
  | 0 => rfl
  | k + 1 => by rw [List.replicate_succ, List.flatten_cons, flat_rep v k]; rfl
theorem mulK_0 {k : Int} {h : Heap} (h2 : k ≤ 1000) (h1 : 0 ≤ k) : mulK [.int 0] (.int k) h = .ok (I (List.replicate k.toNat 0)) h := by
  show (if isLen (1 * k.toNat) && Nat.ble k.natAbs line then R.ok (List.replicate k.toNat [Val.int 0]).flatten h else .bad) = _
  have e1 : isLen (1 * k.toNat) = true := isLen_lit (by omega)
  have e2 : Nat.ble k.natAbs line = true := Nat.ble_eq_true_of_le (by unfold line; omega)
  rw [e1, e2, flat_rep]
  unfold I
  rw [List.map_replicate]; rfl
@[simp] theorem l_dispS {t : T} {b : Nat} {env : Env} {h : Heap} {es : Exs} : denL t b (.disp es) env h = (denX t b es env h).bind fun xs h1 => if isLen xs.length then .ok xs h1 else .bad := rfl
/-- [*one, *[0] * (many - len(one))] -/
def padE (i : Nat) : Ex := .new (.disp (.star (.var i) (.starL (.mul (.disp (.cons (.cst (.int 0)) .nil)) (.bin .Sub (.var 3) (.bi .len (.var i)))) .nil)))
def pad (a : List Int) (M : Nat) : List Int := a ++ List.replicate (M - a.length) 0
theorem pad_len {a : List Int} {M : Nat} (h : a.length ≤ M) : (pad a M).length = M := by
  unfold pad
  rw [List.length_append, List.length_replicate]; omega
theorem pad_co {a : List Int} {M k : Nat} : co (pad a M) k = co a k := by
  unfold pad co
  rw [List.getD_eq_getElem?_getD, List.getD_eq_getElem?_getD]
  by_cases h : k < a.length
  · rw [List.getElem?_append_left h]
  · rw [List.getElem?_append_right (by omega), List.getElem?_replicate, List.getElem?_eq_none (l := a) (by omega)]
    split <;> rfl
theorem pad_ok {t : T} {b i M : Nat} {env : Env} {h : Heap} {a : List Int} (h1 : env.get i = some (tI a)) (h2 : env.get 3 = some (.int (M : Int))) (hl : a.length ≤ M) (hM : M ≤ 1000) :
    (den t b (padE i)).v env h = .ok (.lst h.length) (h ++ [.lst (I (pad a M))]) := by
  unfold padE
  have e1 := mulK_0 (k := (M : Int) - (I a).length) (h := h) (by omega) (by rw [I_len]; omega)
  have e2 : isLen ((I a).length + ((I (List.replicate ((M : Int) - (I a).length).toNat 0)).length + 0)) = true := isLen_lit (by
    simp only [I_len, List.length_replicate]; omega)
  have e3 : isLen ((I (List.replicate ((M : Int) - (I a).length).toNat 0)).length + 0) = true := isLen_lit (by simp only [I_len, List.length_replicate]; omega)
  have e4 : ((M : Int) - a.length).toNat = M - a.length := by omega
  have le : (I a ++ (I (List.replicate ((M : Int) - (I a).length).toNat 0) ++ [])) = I (pad a M) := by
    unfold pad I
    rw [List.append_nil, List.length_map, e4, List.map_append]
  have e5 : isLen (I (pad a M)).length = true := isLen_lit (by rw [I_len, pad_len hl]; omega)
  rw [v_new, l_disp, x_star, v_var, h1, of_some, b_ok, seqOf_tup, of_some, b_ok, x_starL, l_mulK, l_disp, x_cons, v_cst, b_ok, x_nil, b_ok, b_ok, show isLen [Val.int 0].length = true from rfl, if_pos rfl, b_ok, v_bin, v_var, h2, of_some, b_ok, v_bi, v_var, h1, of_some, b_ok, bi_lenT, b_ok, a_sub, b_ok, e1, b_ok, x_nil, b_ok]
  rw [show (([] : List Val).length) = 0 from rfl, e3, if_pos rfl, b_ok, List.length_append, show (([] : List Val).length) = 0 from rfl, e2, if_pos rfl, b_ok, le, e5, if_pos rfl, b_ok]
  rfl
theorem zipK_ok {h : Heap} {a b : Nat} {xs ys : List Val} (h1 : listAt h a = some xs) (h2 : listAt h b = some ys) : zipK (.lst a) (.lst b) h = .ok (.zip (.cell a) (.cell b)) h := by
  show (match (if (listAt h a).isSome then some (Src.cell a) else none), (if (listAt h b).isSome then some (Src.cell b) else none) with
    | some s, some u => R.ok (Iter.zip s u) h
    | _, _ => .bad) = _
  rw [h1, h2]; rfl
theorem cell_get {h : Heap} {a i : Nat} {xs : List Val} (h1 : listAt h a = some xs) : (Src.cell a).get i h = getAt xs i := by
  show (match listAt h a with
    | some xs => getAt xs i
    | none => none) = _
  rw [h1]
theorem getAt_at {xs : List Val} {i : Nat} {v : Val} (e : xs[i]? = some v) : getAt xs i = some (some v) := turn_vals (h := []) e
theorem getAt_end {xs : List Val} : getAt xs xs.length = some none := turn_end (h := [])
theorem turn_zip {h : Heap} {a b i : Nat} {xs ys : List Val} {v u : Val} (h1 : listAt h a = some xs) (h2 : listAt h b = some ys) (e1 : xs[i]? = some v) (e2 : ys[i]? = some u) : (Iter.zip (.cell a) (.cell b)).turn i h = some (some (.tup [v, u])) := by
  show (match (Src.cell a).get i h with
    | some (some v) => (match (Src.cell b).get i h with
      | some (some u) => some (some (Val.tup [v, u]))
      | r => r)
    | some none => (match (Src.cell b).get i h with
      | some _ => some none
      | none => none)
    | none => none) = _
  rw [cell_get h1, cell_get h2, getAt_at e1, getAt_at e2]
theorem turn_zip_end {h : Heap} {a b : Nat} {xs ys : List Val} (h1 : listAt h a = some xs) (h2 : listAt h b = some ys) (hl : ys.length = xs.length) : (Iter.zip (.cell a) (.cell b)).turn xs.length h = some none := by
  show (match (Src.cell a).get xs.length h with
    | some (some v) => (match (Src.cell b).get xs.length h with
      | some (some u) => some (some (Val.tup [v, u]))
      | r => r)
    | some none => (match (Src.cell b).get xs.length h with
      | some _ => some none
      | none => none)
    | none => none) = _
  rw [cell_get h1, cell_get h2, getAt_end, ← hl, getAt_end]
theorem map_I {α : Type} (f : α → Int) (l : List α) : l.map (fun i => Val.int (f i)) = I (l.map f) := by
  unfold I
  rw [List.map_map]; rfl
/-! plus -/
def b_plus (a : Nat) : Sts := .cons (.asg (.nm 3) (.max2 (.bi .len (.var 1)) (.bi .len (.var 2)))) (.cons (.par2 4 5 (padE 1) (padE 2)) (.cons (.ret (.call a (.cons (.new (.lc [6, 7] (.tup (.cons (.nm 6) (.cons (.nm 7) .nil))) (.zip (.var 4) (.var 5)) .none (.bin .Mod (.bin .Add (.var 6) (.var 7)) (.var 0)))) .nil))) .nil))
def Plus (t : T) (i : Nat) : Prop := ∀ (p : Int) (a b : List Int) h, 0 < p → a.length ≤ 1000 → b.length ≤ 1000 → t.call i [.int p, tI a, tI b] h = .ok (tI (addP p a b)) h
theorem plus_ok {t' t : T} {i c : Nat} (H : Has t' t i 3 5 (b_plus c)) (h1 : Trimmed t c) : Plus t' i := fun p a b h hp ha hb => by
  rw [H _ _ rfl]
  unfold runB b_plus
  generalize hM : max a.length b.length = M
  have eM : max (a.length : Int) (b.length : Int) = (M : Int) := by omega
  have e1 := pad_ok (t := t) (b := h.length) (i := 1) (M := M) (env := [some (.int p), some (tI a), some (tI b), some (.int M), none, none, none, none]) (h := h) (a := a) rfl rfl (by omega) (by omega)
  have e2 := pad_ok (t := t) (b := h.length) (i := 2) (M := M) (env := [some (.int p), some (tI a), some (tI b), some (.int M), none, none, none, none]) (h := h ++ [.lst (I (pad a M))]) (a := b) rfl rfl (by omega) (by omega)
  have l1 : listAt (h ++ [Cell.lst (I (pad a M)), Cell.lst (I (pad b M))]) h.length = some (I (pad a M)) := by simp
  have l2 : listAt (h ++ [Cell.lst (I (pad a M)), Cell.lst (I (pad b M))]) (h.length + 1) = some (I (pad b M)) := by
    rw [listAt_app, listAt_s, listAt_0]
  have e3 := zipK_ok l1 l2
  simp [I_len, eM, e1, e2, l_lc0, i_zip, e3, Iter.len, Src.len, pad_len (a := a) (M := M) (by omega)]
  rw [lcL_map (n := M) (val := fun i => .tup [.int (co a i), .int (co b i)]) (out := fun i => .int ((co a i + co b i) % p)) (fun i hi => ⟨turn_zip l1 l2 (by rw [I_at (by rw [pad_len (by omega)]; exact hi), pad_co]) (by rw [I_at (by rw [pad_len (by omega)]; exact hi), pad_co]), by
    simp [wipe, a_mod hp]⟩) (by
    have := turn_zip_end l1 l2 (by rw [I_len, I_len, pad_len (by omega), pad_len (by omega)])
    rwa [I_len, pad_len (by omega)] at this)]
  have e4 := h1 (h.length + 2) ((List.range M).map fun i => (co a i + co b i) % p) (h ++ [Cell.lst (I (pad a M)), Cell.lst (I (pad b M)), Cell.lst (I ((List.range M).map fun i => (co a i + co b i) % p))]) (by rw [listAt_app]; rfl) (by rw [List.length_map, List.length_range]; omega)
  rw [map_I] 
  simp [isLen_lit (n := M) (by omega)]
  simp at e4
  rw [e4]
  simp
  have e5 : addP p a b = trim ((List.range M).map fun i => (co a i + co b i) % p) := by
    unfold addP
    rw [hM]
  rw [e5]
  exact leave_more (bel_tI _)
end Y

set_option Elab.async false
set_option linter.all false
set_option maxRecDepth 100000
set_option maxHeartbeats 4000000
/-! Fns4: products, divisions. -/
namespace Y
open PySem
theorem idx_app {h g : Heap} {m k : Nat} {xs : List Int} (hg : g[m]? = some (.lst (I xs))) (hk : k < xs.length) : idxV (.lst (h.length + m)) (.int (k : Int)) (h ++ g) = .ok (.int (co xs k)) (h ++ g) := by
  refine idx_nat ?_ hk
  show listAt (h ++ g) (h.length + m) = _
  unfold listAt
  rw [app_at, hg]
@[simp] theorem enum_len {xs : List Val} {h : Heap} : (Iter.enum (.vals xs)).len h = xs.length := rfl
theorem enum_at {a : List Int} {i : Nat} {h : Heap} (hi : i < a.length) : (Iter.enum (.vals (I a))).turn i h = some (some (.tup [.int i, .int (co a i)])) := turn_enum (I_at hi)
theorem enum_end {a : List Int} {h : Heap} : (Iter.enum (.vals (I a))).turn a.length h = some none := by
  have := turn_enum_end (xs := I a) (h := h)
  rwa [I_len] at this
theorem rd_small {p : Int} {a : List Int} (h : Rd p a) (hp : p ≤ 2 ^ 62) (k : Nat) : isSmall (co a k) = true := by
  have := h k
  exact small_of (by omega) (by omega)
/-! times -/
def s_times : Sts := .cons (.asg (.sub (.var 3) (.bin .Add (.var 4) (.var 6))) (.bin .Mod (.bin .Add (.idx (.var 3) (.bin .Add (.var 4) (.var 6))) (.bin .Mult (.var 5) (.var 7))) (.var 0))) .nil
def s_times2 : Sts := .cons (.for_ (.tup (.cons (.nm 6) (.cons (.nm 7) .nil))) (.enum (.var 2)) s_times) .nil
def b_times (c : Nat) : Sts := .cons (.ife (.or (.cmp .Eq (.var 1) (.tup .nil)) (.cmp .Eq (.var 2) (.tup .nil))) (.cons (.ret (.tup .nil)) .nil) .nil) (.cons (.asg (.nm 3) (.new (.mul (.disp (.cons (.cst (.int 0)) .nil)) (.bin .Sub (.bin .Add (.bi .len (.var 1)) (.bi .len (.var 2))) (.cst (.int 1))))))
  (.cons (.for_ (.tup (.cons (.nm 4) (.cons (.nm 5) .nil))) (.enum (.var 1)) s_times2) (.cons (.ret (.call c (.cons (.var 3) .nil))) .nil)))
def Times (t : T) (i : Nat) : Prop := ∀ (p : Int) (a b : List Int) h, 0 < p → p < 2 ^ 30 → Rd p a → a.length + b.length ≤ 1000 → t.call i [.int p, tI a, tI b] h = .ok (tI (mulP p a b)) h
section
variable {t : T} {p : Int} {a b : List Int} {h : Heap}
theorem times_1 {i j : Nat} {o6 o7 : Option Val} {xs : List Int} (hp : 0 < p) (hp2 : p < 2 ^ 30) (ha : Rd p a) (hk : i + j < xs.length) :
    denSs t h.length s_times [some (.int p), some (tI a), some (tI b), some (.lst h.length), some (.int i), some (.int (co a i)), some (.int j), some (.int (co b j))] (h ++ [.lst (I xs)]) =
      .nx [some (.int p), some (tI a), some (tI b), some (.lst h.length), some (.int i), some (.int (co a i)), some (.int j), some (.int (co b j))] (h ++ [.lst (I (xs.set (i + j) ((co xs (i + j) + co a i * co b j) % p)))]) := by
  unfold s_times
  have e1 := idx_app (h := h) (g := [.lst (I xs)]) (m := 0) (xs := xs) rfl hk
  have e2 := put_app (h := h) (g := [.lst (I xs)]) (m := 0) (xs := xs) (v := (co xs (i + j) + co a i * co b j) % p) rfl hk
  have e3 := a_mul (i := co a i) (j := co b j) (h := h ++ [.lst (I xs)]) (by rw [rd_small ha (by omega)]; rfl)
  have e4 : ((i + j : Nat) : Int) = (i : Int) + (j : Int) := by omega
  rw [e4] at e1 e2
  simp at e1 e2 e3
  simp [r_sub, e1, e3, a_mod hp, e2]
theorem times_2 {i : Nat} {o4 o5 o6 o7 : Option Val} (hp : 0 < p) (hp2 : p < 2 ^ 30) (ha : Rd p a) (hi : i < a.length) (hb : b ≠ []) :
    ∃ o6' o7', denSs t h.length s_times2 [some (.int p), some (tI a), some (tI b), some (.lst h.length), some (.int i), some (.int (co a i)), o6, o7] (h ++ [.lst (I (mu p a b i))]) =
      .nx [some (.int p), some (tI a), some (tI b), some (.lst h.length), some (.int i), some (.int (co a i)), o6', o7'] (h ++ [.lst (I (mu p a b (i + 1)))]) := by
  have hb' : 0 < b.length := List.length_pos_iff.mpr hb
  obtain ⟨env', h', e, o6', o7', he, hh⟩ := forL_inv (it := .enum (.vals (I b))) (n := b.length) (val := fun j => .tup [.int j, .int (co b j)]) (body := fun v env2 h2 => (denT t h.length (.tup (.cons (.nm 6) (.cons (.nm 7) .nil))) v env2 h2).then env2 fun env3 h3 => denSs t h.length s_times env3 h3)
    (fun j env h' => ∃ o6 o7, env = [some (.int p), some (tI a), some (tI b), some (.lst h.length), some (.int i), some (.int (co a i)), o6, o7] ∧ h' = h ++ [.lst (I (rw1 p (co a i) (mu p a b i) i b j))]) (fun j env h' hj ⟨o6, o7, he, hh⟩ => by
      subst he hh
      have e := times_1 (t := t) (h := h) (a := a) (b := b) (i := i) (j := j) (o6 := none) (o7 := none) (xs := rw1 p (co a i) (mu p a b i) i b j) hp hp2 ha (by rw [rw1_len, mu_len]; omega)
      refine ⟨enum_at hj, _, _, ?_, some (.int j), some (.int (co b j)), rfl, rfl⟩
      simp
      rw [e]
      rfl) (fun _ _ _ => enum_end) (env := [some (.int p), some (tI a), some (tI b), some (.lst h.length), some (.int i), some (.int (co a i)), o6, o7]) (h := h ++ [.lst (I (mu p a b i))]) ⟨o6, o7, rfl, rfl⟩
  subst he hh
  refine ⟨o6', o7', ?_⟩
  unfold s_times2
  simp [r_for, i_enum, I_len]
  rw [e]
  rfl
theorem times_ok {t' : T} {i c : Nat} (H : Has t' t i 3 5 (b_times c)) (h1 : Trimmed t c) : Times t' i := fun p a b h hp hp2 ha hl => by
  rw [H _ _ rfl]
  unfold runB b_times
  by_cases hz : a = [] ∨ b = []
  · have e : mulP p a b = [] := if_pos hz
    rw [e]
    rcases hz with hz | hz
    · subst hz
      have e1 := c_eqT (xs := []) (ys := []) (h := h)
      simp [show (cmpV .Eq (.tup []) (.tup []) h) = .ok (.bl true) h from e1]
      exact leave_same rfl
    · subst hz
      have e1 := c_eqT (xs := []) (ys := []) (h := h)
      have e2 := c_eqT0 (xs := a) (h := h)
      simp [show (cmpV .Eq (.tup []) (.tup []) h) = .ok (.bl true) h from e1, e2]
      by_cases ea : a = []
      · simp [ea]; exact leave_same rfl
      · simp [ea]; exact leave_same rfl
  · have ha0 : a ≠ [] := fun e => hz (.inl e)
    have hb0 : b ≠ [] := fun e => hz (.inr e)
    have hla : 0 < a.length := List.length_pos_iff.mpr ha0
    have hlb : 0 < b.length := List.length_pos_iff.mpr hb0
    have e1 := c_eqT0 (xs := a) (h := h)
    have e2 := c_eqT0 (xs := b) (h := h)
    have e3 := mulK_0 (k := (a.length : Int) + b.length - 1) (h := h) (by omega) (by omega)
    have e4 : ((a.length : Int) + b.length - 1).toNat = a.length + b.length - 1 := by omega
    rw [e4] at e3
    obtain ⟨env', h', e, o4', o5', o6', o7', he, hh⟩ := forL_inv (it := .enum (.vals (I a))) (n := a.length) (val := fun j => .tup [.int j, .int (co a j)]) (body := fun v env2 h2 => (denT t h.length (.tup (.cons (.nm 4) (.cons (.nm 5) .nil))) v env2 h2).then env2 fun env3 h3 => denSs t h.length s_times2 env3 h3)
      (fun j env h' => ∃ o4 o5 o6 o7, env = [some (.int p), some (tI a), some (tI b), some (.lst h.length), o4, o5, o6, o7] ∧ h' = h ++ [.lst (I (mu p a b j))]) (fun j env h' hj ⟨o4, o5, o6, o7, he, hh⟩ => by
        subst he hh
        obtain ⟨o6', o7', e⟩ := times_2 (t := t) (h := h) (o4 := o4) (o5 := o5) (o6 := o6) (o7 := o7) hp hp2 ha hj hb0
        refine ⟨enum_at hj, _, _, ?_, some (.int j), some (.int (co a j)), o6', o7', rfl, rfl⟩
        simp
        rw [e]) (fun _ _ _ => enum_end) (env := [some (.int p), some (tI a), some (tI b), some (.lst h.length), none, none, none, none]) (h := h ++ [.lst (I (mu p a b 0))]) ⟨none, none, none, none, rfl, rfl⟩
    subst he hh
    have e5 := h1 h.length (mu p a b a.length) (h ++ [.lst (I (mu p a b a.length))]) (by simp) (by rw [mu_len]; omega)
    simp [e1, e2, ha0, hb0, I_len, e3, r_for, i_enum]
    simp [mu] at e
    rw [e]
    simp [e5]
    have e6 : mulP p a b = trim (mu p a b a.length) := if_neg hz
    rw [e6]
    exact leave_more (bel_tI _)
end
end Y

set_option Elab.async false
set_option linter.all false
set_option maxRecDepth 100000
set_option maxHeartbeats 4000000
/-! Fns5: divisions; the functions that look at their arguments. -/
namespace Y
open PySem
def s_parted1 : Sts := .cons (.asg (.sub (.var 5) (.bin .Add (.var 4) (.var 7))) (.bin .Mod (.bin .Sub (.idx (.var 5) (.bin .Add (.var 4) (.var 7))) (.bin .Mult (.idx (.var 6) (.var 4)) (.var 8))) (.var 0))) .nil
def s_parted : Sts := .cons (.asg (.sub (.var 6) (.var 4)) (.bin .Mod (.bin .Mult (.idx (.var 5) (.bin .Sub (.bin .Add (.var 4) (.bi .len (.var 2))) (.cst (.int 1)))) (.var 3)) (.var 0))) (.cons (.for_ (.tup (.cons (.nm 7) (.cons (.nm 8) .nil))) (.enum (.var 2)) s_parted1) .nil)
def b_parted (iv c : Nat) : Sts := .cons (.par2 5 6 (.new (.of (.var 1))) (.new (.mul (.disp (.cons (.cst (.int 0)) .nil)) (.max2 (.cst (.int 0)) (.bin .Add (.bin .Sub (.bi .len (.var 1)) (.bi .len (.var 2))) (.cst (.int 1))))))) (.cons (.asg (.nm 3) (.call iv (.cons (.var 0) (.cons (.idx (.var 2) (.neg (.cst (.int 1)))) .nil))))
  (.cons (.for_ (.nm 4) (.down (.bin .Sub (.bi .len (.var 6)) (.cst (.int 1))) (.neg (.cst (.int 1)))) s_parted) (.cons (.ret (.tup (.cons (.call c (.cons (.var 6) .nil)) (.cons (.call c (.cons (.var 5) .nil)) .nil)))) .nil)))
def Parted (t : T) (i : Nat) : Prop := ∀ (p : Int) (a b : List Int) h, 2 ≤ p → p < 2 ^ 30 → Rd p a → b ≠ [] → a.length ≤ 1000 → b.length ≤ 1000 →
  t.call i [.int p, tI a, tI b] h = .ok (.tup [tI (dvP p a b (inv p (co b (b.length - 1)))).1, tI (dvP p a b (inv p (co b (b.length - 1)))).2]) h
section
variable {t : T} {p v : Int} {a b : List Int} {h : Heap}
theorem parted_1 {i j : Nat} {F R : List Int} (hp : 0 < p) (hp2 : p < 2 ^ 30) (hF : Rd p F) (hk : i + j < R.length) (hi : i < F.length) :
    denSs t h.length s_parted1 [some (.int p), some (tI a), some (tI b), some (.int v), some (.int i), some (.lst h.length), some (.lst (h.length + 1)), some (.int j), some (.int (co b j))] (h ++ [.lst (I R), .lst (I F)]) =
      .nx [some (.int p), some (tI a), some (tI b), some (.int v), some (.int i), some (.lst h.length), some (.lst (h.length + 1)), some (.int j), some (.int (co b j))] (h ++ [.lst (I (R.set (i + j) ((co R (i + j) + -(co F i) * co b j) % p))), .lst (I F)]) := by
  unfold s_parted1
  have e1 := idx_app (h := h) (g := [.lst (I R), .lst (I F)]) (m := 0) (xs := R) rfl hk
  have e0 := idx_app (h := h) (g := [.lst (I R), .lst (I F)]) (m := 1) (xs := F) rfl hi
  have e2 := put_app (h := h) (g := [.lst (I R), .lst (I F)]) (m := 0) (xs := R) (v := (co R (i + j) + -(co F i) * co b j) % p) rfl hk
  have e3 := a_mul (i := co F i) (j := co b j) (h := h ++ [.lst (I R), .lst (I F)]) (by rw [rd_small hF (by omega)]; rfl)
  have e4 : ((i + j : Nat) : Int) = (i : Int) + (j : Int) := by omega
  have e5 : co R (i + j) - co F i * co b j = co R (i + j) + -(co F i) * co b j := by grind
  rw [e4] at e1 e2
  rw [← e5] at e2 ⊢
  simp at e0 e1 e2 e3
  simp [r_sub, e0, e1, e3, a_mod hp, e2]
theorem parted_2 {i : Nat} {F R : List Int} {o7 o8 : Option Val} (hp : 0 < p) (hp2 : p < 2 ^ 30) (hF : Rd p F) (hR : Rd p R) (hk : i + b.length ≤ R.length) (hi : i < F.length) (hb : b ≠ []) :
    ∃ o7' o8', denSs t h.length s_parted [some (.int p), some (tI a), some (tI b), some (.int v), some (.int i), some (.lst h.length), some (.lst (h.length + 1)), o7, o8] (h ++ [.lst (I R), .lst (I F)]) =
      .nx [some (.int p), some (tI a), some (tI b), some (.int v), some (.int i), some (.lst h.length), some (.lst (h.length + 1)), o7', o8'] (h ++ [.lst (I (rw1 p (-(co R (i + b.length - 1) * v % p)) R i b b.length)), .lst (I (F.set i (co R (i + b.length - 1) * v % p)))]) := by
  have hb' : 0 < b.length := List.length_pos_iff.mpr hb
  generalize hq : co R (i + b.length - 1) * v % p = q
  have rq : 0 ≤ q ∧ q < p := by rw [← hq]; exact md_rng hp _
  have hF2 : Rd p (F.set i q) := fun k => by
    rw [co_set hi]
    split
    · exact rq
    · exact hF k
  have gl : i < (F.set i q).length := by rw [List.length_set]; exact hi
  have gq : co (F.set i q) i = q := by rw [co_set hi, if_pos rfl]
  have e2 := put_app (h := h) (g := [.lst (I R), .lst (I F)]) (m := 1) (xs := F) (k := i) (v := q) rfl hi
  generalize F.set i q = G at hF2 gl gq e2 ⊢
  obtain ⟨env', h', e, o7', o8', he, hh⟩ := forL_inv (it := .enum (.vals (I b))) (n := b.length) (val := fun j => .tup [.int j, .int (co b j)]) (body := fun v env2 h2 => (denT t h.length (.tup (.cons (.nm 7) (.cons (.nm 8) .nil))) v env2 h2).then env2 fun env3 h3 => denSs t h.length s_parted1 env3 h3)
    (fun j env h' => ∃ o7 o8, env = [some (.int p), some (tI a), some (tI b), some (.int v), some (.int i), some (.lst h.length), some (.lst (h.length + 1)), o7, o8] ∧ h' = h ++ [.lst (I (rw1 p (-q) R i b j)), .lst (I G)]) (fun j env h' hj ⟨o7, o8, he, hh⟩ => by
      subst he hh
      have e := parted_1 (t := t) (h := h) (a := a) (b := b) (v := v) (i := i) (j := j) (F := G) (R := rw1 p (-q) R i b j) hp hp2 hF2 (by rw [rw1_len]; omega) gl
      rw [gq] at e
      refine ⟨enum_at hj, _, _, ?_, some (.int j), some (.int (co b j)), rfl, rfl⟩
      simp
      rw [e]
      rfl) (fun _ _ _ => enum_end) (env := [some (.int p), some (tI a), some (tI b), some (.int v), some (.int i), some (.lst h.length), some (.lst (h.length + 1)), o7, o8]) (h := h ++ [.lst (I R), .lst (I G)]) ⟨o7, o8, rfl, rfl⟩
  subst he hh
  refine ⟨o7', o8', ?_⟩
  unfold s_parted
  have e1 := idx_app (h := h) (g := [.lst (I R), .lst (I F)]) (m := 0) (xs := R) (k := i + b.length - 1) rfl (by omega)
  have e3 := a_mul (i := co R (i + b.length - 1)) (j := v) (h := h ++ [.lst (I R), .lst (I F)]) (by rw [rd_small hR (by omega)]; rfl)
  have e4 : ((i + b.length - 1 : Nat) : Int) = (i : Int) + (b.length : Int) - 1 := by omega
  rw [e4] at e1
  simp at e1 e2 e3
  simp [r_sub, I_len, e1, e3, a_mod hp, hq, e2, r_for, i_enum]
  rw [e]
  rfl
theorem bel_2 {n : Nat} {x y : List Int} : below n (.tup [tI x, tI y]) = true := by
  unfold below below.belowAll
  rw [bel_tI]
  unfold below.belowAll
  rw [bel_tI]; rfl
theorem parted_ok {t' : T} {i iv c : Nat} (H : Has t' t i 3 6 (b_parted iv c)) (h1 : Inverse t iv) (h2 : Trimmed t c) : Parted t' i := fun p a b h hp hp2 ha hb hla hlb => by
  rw [H _ _ rfl]
  unfold runB b_parted
  have hb' : 0 < b.length := List.length_pos_iff.mpr hb
  generalize hv : inv p (co b (b.length - 1)) = v
  generalize hN : a.length + 1 - b.length = N
  have e1 := h1 p (co b (b.length - 1)) (h ++ [.lst (I a), .lst (I (List.replicate N 0))]) hp hp2
  rw [hv] at e1
  have e2 := idx_last (x := tI b) (h := h ++ [.lst (I a), .lst (I (List.replicate N 0))]) rfl hb
  have eN : max 0 ((a.length : Int) - b.length + 1) = (N : Int) := by omega
  have e3 := mulK_0 (k := (N : Int)) (h := h ++ [.lst (I a)]) (by omega) (by omega)
  rw [Int.toNat_natCast] at e3
  have lR : ∀ s, s ≤ N → (dv p a b v N s).2.length = a.length ∧ (dv p a b v N s).1.length = N ∧ Rd p (dv p a b v N s).1 ∧ Rd p (dv p a b v N s).2 := by
    intro s
    induction s with
    | zero =>
      intro _
      refine ⟨rfl, List.length_replicate, fun k => ?_, ha⟩
      show 0 ≤ co (List.replicate _ 0) k ∧ co (List.replicate _ 0) k < p
      rw [co_rep]; split <;> omega
    | succ s ih =>
      intro hs
      obtain ⟨i1, i2, i3, i4⟩ := ih (by omega)
      refine ⟨by show (rw1 _ _ _ _ _ _).length = _; rw [rw1_len]; exact i1, by show (List.set _ _ _).length = _; rw [List.length_set]; exact i2, fun k => ?_, rw1_rd (by omega) (by rw [i1]; omega) i4⟩
      show 0 ≤ co (List.set _ _ _) k ∧ co (List.set _ _ _) k < p
      rw [co_set (by rw [i2]; omega)]
      split
      · exact md_rng (by omega) _
      · exact i3 k
  have e7 : biV .len (.lst (h.length + 1)) (h ++ [.lst (I a), .lst (I (List.replicate N 0))]) = .ok (.int N) (h ++ [.lst (I a), .lst (I (List.replicate N 0))]) := by
    rw [bi_lenL (xs := I (List.replicate N 0)) (by rw [listAt_app]; rfl), I_len, List.length_replicate]
  have hz0 : (dv p a b v N 0).1 = List.replicate N 0 := rfl
  generalize List.replicate N (0 : Int) = Z at e1 e2 e3 e7 hz0
  obtain ⟨env', h', e, o4', o7', o8', he, hh⟩ := forL_inv (it := .one (.vals (downTo N ((N : Int) - 1)))) (n := N) (val := fun s => .int ((N : Int) - 1 - s)) (body := fun v env2 h2 => (denT t h.length (.nm 4) v env2 h2).then env2 fun env3 h3 => denSs t h.length s_parted env3 h3)
    (fun s env h' => ∃ o4 o7 o8, env = [some (.int p), some (tI a), some (tI b), some (.int v), o4, some (.lst h.length), some (.lst (h.length + 1)), o7, o8] ∧ h' = h ++ [.lst (I (dv p a b v N s).2), .lst (I (dv p a b v N s).1)]) (fun s env h' hs ⟨o4, o7, o8, he, hh⟩ => by
      subst he hh
      obtain ⟨i1, i2, i3, i4⟩ := lR s (by omega)
      have et : (N : Int) - 1 - s = ((N - 1 - s : Nat) : Int) := by omega
      obtain ⟨o7', o8', e⟩ := parted_2 (t := t) (h := h) (a := a) (b := b) (v := v) (i := N - 1 - s) (F := (dv p a b v N s).1) (R := (dv p a b v N s).2) (o7 := o7) (o8 := o8) (by omega) hp2 i3 i4 (by rw [i1]; omega) (by rw [i2]; omega) hb
      refine ⟨turn_vals (by rw [downTo_at hs]), _, _, ?_, some (.int (N - 1 - s : Nat)), o7', o8', rfl, rfl⟩
      simp
      rw [et, e]
      rfl) (fun _ _ _ => by
      have := turn_end (xs := downTo N ((N : Int) - 1)) (h := [])
      rw [downTo_len] at this
      exact this) (env := [some (.int p), some (tI a), some (tI b), some (.int v), none, some (.lst h.length), some (.lst (h.length + 1)), none, none]) (h := h ++ [.lst (I a), .lst (I Z)]) ⟨none, none, none, rfl, by rw [hz0]; rfl⟩
  subst he hh
  obtain ⟨i1, i2, i3, i4⟩ := lR N (Nat.le_refl _)
  have e5 := h2 (h.length + 1) (dv p a b v N N).1 (h ++ [.lst (I (dv p a b v N N).2), .lst (I (dv p a b v N N).1)]) (by rw [listAt_app]; rfl) (by rw [i2]; omega)
  have e6 := h2 h.length (dv p a b v N N).2 (h ++ [.lst (I (dv p a b v N N).2), .lst (I (dv p a b v N N).1)]) (by simp) (by rw [i1]; omega)
  have s1 : rangeV.isSmall62 ((N : Int) - 1) = true := by
    unfold rangeV.isSmall62
    rw [decide_eq_true (by omega), decide_eq_true (by omega)]; rfl
  have s2 : rangeV.isSmall62 (-1 : Int) = true := rfl
  have e8 : ((N : Int) - 1 - -1).toNat = N := by omega
  have el : (Iter.one (.vals (downTo N ((N : Int) - 1)))).len (h ++ [.lst (I a), .lst (I Z)]) = N := by
    show (downTo N ((N : Int) - 1)).length = N
    exact downTo_len _ _
  simp [l_of, I_len, eN, e3]
  simp [e2, e1, r_for, i_down, e7, s1, s2, e8]
  simp [Iter.len, Src.len, downTo_len]
  simp at e
  rw [e]
  simp [e5, e6]
  have ed : dvP p a b v = (trim (dv p a b v N N).1, trim (dv p a b v N N).2) := by
    unfold dvP
    rw [hN]
  rw [ed]
  exact leave_more bel_2
end
end Y

set_option Elab.async false
set_option linter.all false
set_option maxRecDepth 100000
set_option maxHeartbeats 4000000
/-! Fns6: add, multiply, divide; the law's own trim, sum, product, likeness. -/
namespace Y
open PySem
def b_small (g : Nat) : Sts := .cons (.ife (.cmp .Gt (.bi .len (.var 0)) (.bin .Add (.glo g) (.cst (.int 1)))) (.cons .never .nil) .nil) (.cons (.ret (.var 0)) .nil)
def Small (t : T) (i : Nat) : Prop := ∀ (xs : List Int) h, xs.length ≤ 41 → t.call i [tI xs] h = .ok (tI xs) h
theorem small_ok {t' t : T} {i g : Nat} (H : Has t' t i 1 0 (b_small g)) (hg : t.gl[g]? = some (.int 40)) : Small t' i := fun xs h hl => by
  rw [H _ _ rfl]
  unfold runB b_small
  have e : ¬ ((41 : Int) < (xs.length : Int)) := by omega
  simp [I_len, v_glo, hg, e]
  exact leave_same (bel_tI xs)
def b_add (np npy pl : Nat) : Sts := .cons (.expr (.call np (.cons (.var 0) .nil))) (.cons (.expr (.call npy (.cons (.var 0) (.cons (.var 1) .nil)))) (.cons (.expr (.call npy (.cons (.var 0) (.cons (.var 2) .nil)))) (.cons (.ret (.call pl (.cons (.var 0) (.cons (.var 1) (.cons (.var 2) .nil))))) .nil)))
def Add (t : T) (i : Nat) : Prop := ∀ (p : Int) (a b : List Int) h, p ∈ primes → IsP p 41 a → IsP p 41 b → t.call i [.int p, tI a, tI b] h = .ok (tI (addP p a b)) h
theorem pr_rng {p : Int} (h : p ∈ primes) : 2 ≤ p ∧ p < 2 ^ 30 := by
  simp [primes] at h
  omega
theorem add_ok {t' t : T} {i np npy pl : Nat} (H : Has t' t i 3 0 (b_add np npy pl)) (h1 : NeedPrime t np) (h2 : NeedPoly t npy) (h3 : Plus t pl) : Add t' i := fun p a b h hp ha hb => by
  rw [H _ _ rfl]
  unfold runB b_add
  have e1 := h1 p h hp
  have e2 := h2 p a h ha
  have e3 := h2 p b h hb
  have e4 := h3 p a b h (by have := pr_rng hp; omega) (by have := ha.le; omega) (by have := hb.le; omega)
  simp [e1, e2, e3, e4]
  exact leave_same (bel_tI _)
def b_multiply (np npy sl tm : Nat) : Sts := .cons (.expr (.call np (.cons (.var 0) .nil))) (.cons (.expr (.call npy (.cons (.var 0) (.cons (.var 1) .nil)))) (.cons (.expr (.call npy (.cons (.var 0) (.cons (.var 2) .nil)))) (.cons (.ret (.call sl (.cons (.call tm (.cons (.var 0) (.cons (.var 1) (.cons (.var 2) .nil)))) .nil))) .nil)))
def Multiply (t : T) (i : Nat) : Prop := ∀ (p : Int) (a b : List Int) h, p ∈ primes → IsP p 41 a → IsP p 41 b → (mulP p a b).length ≤ 41 → t.call i [.int p, tI a, tI b] h = .ok (tI (mulP p a b)) h
theorem multiply_ok {t' t : T} {i np npy sl tm : Nat} (H : Has t' t i 3 0 (b_multiply np npy sl tm)) (h1 : NeedPrime t np) (h2 : NeedPoly t npy) (h3 : Times t tm) (h4 : Small t sl) : Multiply t' i := fun p a b h hp ha hb hl => by
  rw [H _ _ rfl]
  unfold runB b_multiply
  have e1 := h1 p h hp
  have e2 := h2 p a h ha
  have e3 := h2 p b h hb
  have r := pr_rng hp
  have e4 := h3 p a b h (by omega) (by omega) ha.rd (by have := ha.le; have := hb.le; omega)
  have e5 := h4 _ h hl
  simp [e1, e2, e3, e4, e5]
  exact leave_same (bel_tI _)
def b_divide (np npy pt : Nat) : Sts := .cons (.expr (.call np (.cons (.var 0) .nil))) (.cons (.expr (.call npy (.cons (.var 0) (.cons (.var 1) .nil)))) (.cons (.expr (.call npy (.cons (.var 0) (.cons (.var 2) .nil)))) (.cons (.ife (.cmp .Eq (.var 2) (.tup .nil)) (.cons .never .nil) .nil) (.cons (.ret (.call pt (.cons (.var 0) (.cons (.var 1) (.cons (.var 2) .nil))))) .nil))))
def Divide (t : T) (i : Nat) : Prop := ∀ (p : Int) (a b : List Int) h, p ∈ primes → IsP p 41 a → IsP p 41 b → b ≠ [] →
  t.call i [.int p, tI a, tI b] h = .ok (.tup [tI (dvP p a b (inv p (co b (b.length - 1)))).1, tI (dvP p a b (inv p (co b (b.length - 1)))).2]) h
theorem divide_ok {t' t : T} {i np npy pt : Nat} (H : Has t' t i 3 0 (b_divide np npy pt)) (h1 : NeedPrime t np) (h2 : NeedPoly t npy) (h3 : Parted t pt) : Divide t' i := fun p a b h hp ha hb hb0 => by
  rw [H _ _ rfl]
  unfold runB b_divide
  have e1 := h1 p h hp
  have e2 := h2 p a h ha
  have e3 := h2 p b h hb
  have r := pr_rng hp
  have e4 := h3 p a b h (by omega) (by omega) ha.rd hb0 (by have := ha.le; omega) (by have := hb.le; omega)
  have e5 := c_eqT0 (xs := b) (h := h)
  simp [e1, e2, e3, e4, e5, hb0]
  exact leave_same bel_2
/-! ### the law's own -/
def s_ltrim : Sts := .cons (.ife (.and (.cmp .Gt (.var 1) (.cst (.int 0))) (.cmp .Eq (.idx (.var 0) (.bin .Sub (.var 1) (.cst (.int 1)))) (.cst (.int 0)))) (.cons (.asg (.nm 1) (.bin .Sub (.var 1) (.cst (.int 1)))) .nil) .nil) .nil
def b_ltrim : Sts := .cons (.asg (.nm 1) (.bi .len (.var 0))) (.cons (.for_ (.nm 2) (.r1 (.bi .len (.var 0))) s_ltrim) (.cons (.ret (.bi .tuple (.sl (.var 0) .none (.some (.var 1))))) .nil))
def LTrim (t : T) (i : Nat) : Prop := ∀ (x : Val) (xs : List Int) h, seqOf h x = some (I xs) → xs.length ≤ 1000 → t.call i [x] h = .ok (tI (trim xs)) h
theorem bi_lenS {x : Val} {xs : List Int} {h : Heap} (hs : seqOf h x = some (I xs)) : biV .len x h = .ok (.int xs.length) h := by
  show (match seqOf h x with
    | some xs => R.ok (Val.int xs.length) h
    | none => .bad) = _
  rw [hs]
  show R.ok (Val.int (I xs).length) h = _
  rw [I_len]
theorem ltrim_ok {t' t : T} {i : Nat} (H : Has t' t i 1 2 b_ltrim) : LTrim t' i := fun x xs h hs hl => by
  rw [H _ _ rfl]
  unfold runB b_ltrim
  have e0 := bi_lenS hs
  obtain ⟨env', h', e, o, m, he, hh, hm, ht, hd⟩ := forL_inv (it := .one (.vals (upTo xs.length 0))) (n := xs.length) (val := fun i => .int (0 + i)) (body := fun v env2 h2 => (denT t h.length (.nm 2) v env2 h2).then env2 fun env3 h3 => denSs t h.length s_ltrim env3 h3)
    (fun s env h' => ∃ (o : Option Val) (m : Nat), env = [some x, some (.int m), o] ∧ h' = h ∧ m ≤ xs.length ∧ tl xs m = tl xs xs.length ∧ (tl xs m = m ∨ m + s ≤ xs.length)) (fun s env h' hs' ⟨o, m, he, hh, hm, ht, hd⟩ => by
      subst he hh
      cases m with
      | zero =>
        refine ⟨turn_vals (upTo_at hs'), [some x, some (.int 0), some (.int (0 + s))], h', ?_, some (.int (0 + s)), 0, rfl, rfl, hm, ht, .inl rfl⟩
        unfold s_ltrim
        simp
      | succ m =>
        have e1 : (((m + 1 : Nat) : Int) - 1) = (m : Int) := by omega
        have e2 := idx_nat (x := x) (k := m) (h := h') hs (by omega)
        have e3 : tl xs (m + 1) = if co xs m = 0 then tl xs m else m + 1 := rfl
        by_cases hc : co xs m = 0
        · rw [if_pos hc] at e3
          refine ⟨turn_vals (upTo_at hs'), [some x, some (.int m), some (.int (0 + s))], h', ?_, some (.int (0 + s)), m, rfl, rfl, by omega, by rw [← ht, e3], ?_⟩
          · unfold s_ltrim; simp [e2, hc]
          · rcases hd with hd | hd
            · have := tl_le xs m
              omega
            · right; omega
        · rw [if_neg hc] at e3
          refine ⟨turn_vals (upTo_at hs'), [some x, some (.int (m + 1 : Nat)), some (.int (0 + s))], h', ?_, some (.int (0 + s)), m + 1, rfl, rfl, hm, ht, .inl e3⟩
          unfold s_ltrim
          simp [e2, hc]) (fun _ _ _ => by
      have := turn_end (xs := upTo xs.length 0) (h := [])
      rw [upTo_len] at this
      exact this) (env := [some x, some (.int xs.length), none]) (h := h) ⟨none, xs.length, rfl, rfl, Nat.le_refl _, rfl, .inr (by omega)⟩
  subst he hh
  have em : m = tl xs xs.length := by
    rcases hd with hd | hd
    · omega
    · have : m = 0 := by omega
      subst this
      exact ht
  subst em
  have er := rangeK_ok (m := 0) (n := (xs.length : Int)) (h := h') (by omega) (by omega) (by omega) (by omega)
  rw [Int.sub_zero, Int.toNat_natCast] at er
  simp only [List.map_cons, List.map_nil, r_cons, r_nm, v_bi, v_var, get_0, of_some, b_ok, e0, then_ok, sq_nx, List.cons_append, List.nil_append, List.replicate, List.set]
  rw [r_for, i_r1, v_bi, v_var, get_0, of_some, b_ok, e0, b_ok, intK_int, er, then_ok, show (Iter.one (.vals (upTo xs.length 0))).len h' = xs.length from upTo_len _ _, e]
  cases x with
  | tup ys =>
    have ey : ys = I xs := Option.some.inj hs
    subst ey
    have e1 : slV (tI xs) none (some ((tl xs xs.length : Nat) : Int)) h' = .ok (tI (trim xs)) h' := by
      show R.ok (Val.tup (cut (I xs) none (some ((tl xs xs.length : Nat) : Int)))) h' = _
      rw [cut_I (tl_le xs _)]; rfl
    simp [e1]
    exact leave_same (bel_tI _)
  | lst a =>
    have e4 := sl_ok (h := h') hs (tl_le xs xs.length)
    have e5 := bi_tupL (listAt_new (h := h') (xs := I (xs.take (tl xs xs.length))))
    simp [e4]
    simp at e5
    rw [e5]
    simp
    rw [← List.map_take]
    exact leave_more (bel_tI _)
  | _ => cases hs
end Y

set_option Elab.async false
set_option linter.all false
set_option maxRecDepth 100000
set_option maxHeartbeats 4000000
/-! Fns7: the law's draws. -/
namespace Y
open PySem
def rowH (h : Heap) (a : Nat) (i sd rs : Int) : Heap := h.set a (.lst [.lst 0, .int i, .int sd, .int rs])
structure RowB (ns : List Int) (h : Heap) (a : Nat) : Prop where
  lt : a < h.length
  ne : a ≠ 0
  sc : h[0]? = some (.ro (I ns))
  le : ns.length ≤ 1000
section
variable {ns : List Int} {h : Heap} {a : Nat} {i sd rs i' sd' rs' : Int}
theorem row_len : (rowH h a i sd rs).length = h.length := List.length_set
theorem row_at (B : RowB ns h a) : (rowH h a i sd rs)[a]? = some (.lst [.lst 0, .int i, .int sd, .int rs]) := List.getElem?_set_self B.lt
theorem row_list (B : RowB ns h a) : listAt (rowH h a i sd rs) a = some [.lst 0, .int i, .int sd, .int rs] := by
  unfold listAt
  rw [row_at B]
theorem row_sc (B : RowB ns h a) : listAt (rowH h a i sd rs) 0 = some (I ns) := by
  unfold listAt rowH
  rw [List.getElem?_set_ne B.ne, B.sc]
theorem row_app (B : RowB ns h a) {g : Heap} : rowH (h ++ g) a i sd rs = rowH h a i sd rs ++ g := by
  unfold rowH
  rw [List.set_append_left _ _ B.lt]
theorem RowB.app (B : RowB ns h a) (g : Heap) : RowB ns (h ++ g) a := ⟨by rw [List.length_append]; exact Nat.lt_of_lt_of_le B.lt (Nat.le_add_right _ _), B.ne, by
  rw [List.getElem?_append_left (Nat.lt_of_le_of_lt (Nat.zero_le _) B.lt)]; exact B.sc, B.le⟩
theorem row_get (B : RowB ns h a) {k : Int} {v : Val} (hv : atV [Val.lst 0, .int i, .int sd, .int rs] k = some v) : idxV (.lst a) (.int k) (rowH h a i sd rs) = .ok v (rowH h a i sd rs) := by
  show R.of ((listAt (rowH h a i sd rs) a).bind fun xs => atV xs k) _ = _
  rw [row_list B]
  show R.of (atV [Val.lst 0, .int i, .int sd, .int rs] k) _ = _
  rw [hv]; rfl
theorem row_put (B : RowB ns h a) {b : Nat} {k : Int} {j : Nat} {v : Int} (hk : place 4 k = some j) (e : [Val.lst 0, .int i, .int sd, .int rs].set j (.int v) = [Val.lst 0, .int i', .int sd', .int rs']) : putV b (.lst a) (.int k) (.int v) (rowH h a i sd rs) = .ok () (rowH h a i' sd' rs') := by
  show (match (rowH h a i sd rs)[a]? with
    | some (.lst xs) => (match place xs.length k with
      | some j => if mayPut b a (.int v) then R.ok () ((rowH h a i sd rs).set a (.lst (xs.set j (.int v)))) else .bad
      | none => .bad)
    | _ => .bad) = _
  rw [row_at B]
  show (match place 4 k with
      | some j => if mayPut b a (.int v) then R.ok () ((rowH h a i sd rs).set a (.lst ([Val.lst 0, .int i, .int sd, .int rs].set j (.int v)))) else .bad
      | none => .bad) = _
  rw [hk]
  have m : mayPut b a (.int v) = true := by
    unfold mayPut
    rw [bel_int, Bool.or_true]
  show (if mayPut b a (.int v) then R.ok () ((rowH h a i sd rs).set a (.lst ([Val.lst 0, .int i, .int sd, .int rs].set j (.int v)))) else .bad) = _
  rw [m, if_pos rfl, e]
  unfold rowH
  rw [List.set_set]
theorem script_get (B : RowB ns h a) {k : Nat} (hk : k < ns.length) : idxV (.lst 0) (.int (k : Int)) (rowH h a i sd rs) = .ok (.int (co ns k)) (rowH h a i sd rs) := idx_nat (row_sc B) hk
end
/-! taken -/
def b_taken : Sts := .cons (.ife (.cmp .Gt (.idx (.var 0) (.cst (.int 3))) (.cst (.int 0))) (.cons (.asg (.nm 3) (.bin .Mod (.bi .int (.idx (.var 0) (.cst (.int 3)))) (.var 1))) (.cons (.asg (.sub (.var 0) (.cst (.int 3))) (.bin .FloorDiv (.idx (.var 0) (.cst (.int 3))) (.var 1))) (.cons (.ret (.var 3)) .nil))) .nil) (.cons (.asg (.sub (.var 0) (.cst (.int 1))) (.bin .Add (.idx (.var 0) (.cst (.int 1))) (.cst (.int 1)))) (.cons (.ife (.cmp .Gt (.idx (.var 0) (.cst (.int 1))) (.bi .len (.idx (.var 0) (.cst (.int 0))))) (.cons (.asg (.sub (.var 0) (.cst (.int 2))) (.bin .Mod (.bi .int (.bin .Add (.bin .Mult (.idx (.var 0) (.cst (.int 2))) (.cst (.int 48271))) (.cst (.int 11)))) (.cst (.int 2147483647)))) (.cons (.ret (.bin .Mod (.bi .int (.bin .FloorDiv (.idx (.var 0) (.cst (.int 2))) (.cst (.int 7)))) (.var 1))) .nil)) .nil) (.cons (.asg (.nm 2) (.idx (.idx (.var 0) (.cst (.int 0))) (.bin .Sub (.idx (.var 0) (.cst (.int 1))) (.cst (.int 1))))) (.cons (.asg (.sub (.var 0) (.cst (.int 2))) (.bin .Mod (.bi .int (.bin .Add (.bin .Add (.bin .Mult (.idx (.var 0) (.cst (.int 2))) (.cst (.int 48271))) (.var 2)) (.cst (.int 11)))) (.cst (.int 2147483647)))) (.cons (.ife (.cmp .GtE (.var 2) (.bin .Pow (.cst (.int 10)) (.cst (.int 18)))) (.cons (.asg (.sub (.var 0) (.cst (.int 3))) (.bin .FloorDiv (.var 2) (.var 1))) .nil) .nil) (.cons (.ret (.bin .Mod (.bi .int (.var 2)) (.var 1))) .nil))))))
def Taken (t : T) (f : Nat) : Prop := ∀ (ns : List Int) (h : Heap) (a : Nat) (i sd rs many : Int), RowB ns h a → 0 ≤ i → 0 < many → many < 1073741824 →
  ∃ r i' sd' rs' : Int, 0 ≤ r ∧ r < many ∧ 0 ≤ i' ∧ t.call f [.lst a, .int many] (rowH h a i sd rs) = .ok (.int r) (rowH h a i' sd' rs')
theorem leave_row {h : Heap} {a : Nat} {i sd rs i' sd' rs' r : Int} : leave (rowH h a i sd rs).length (.ret (.int r) (rowH h a i' sd' rs')) = .ok (.int r) (rowH h a i' sd' rs') := by
  rw [leave_ret bel_int, row_len, ← row_len (h := h) (a := a) (i := i') (sd := sd') (rs := rs'), List.take_length]
theorem taken_ok {t' t : T} {f : Nat} (H : Has t' t f 2 2 b_taken) : Taken t' f := fun ns h a i sd rs many B hi hm hm2 => by
  rw [H _ _ rfl]
  have p48 : (isSmall sd || isSmall 48271) = true := by rw [show isSmall 48271 = true from rfl, Bool.or_true]
  have g3 : ∀ {i sd rs : Int}, idxV (.lst a) (.int 3) (rowH h a i sd rs) = .ok (.int rs) (rowH h a i sd rs) := row_get B rfl
  have g2 : ∀ {i sd rs : Int}, idxV (.lst a) (.int 2) (rowH h a i sd rs) = .ok (.int sd) (rowH h a i sd rs) := row_get B rfl
  have g1 : ∀ {i sd rs : Int}, idxV (.lst a) (.int 1) (rowH h a i sd rs) = .ok (.int i) (rowH h a i sd rs) := row_get B rfl
  have g0 : ∀ {i sd rs : Int}, idxV (.lst a) (.int 0) (rowH h a i sd rs) = .ok (.lst 0) (rowH h a i sd rs) := row_get B rfl
  have gl : ∀ {i sd rs : Int}, biV .len (.lst 0) (rowH h a i sd rs) = .ok (.int ns.length) (rowH h a i sd rs) := by
    intro i sd rs
    rw [bi_lenL (row_sc B), I_len]
  have q3 : ∀ {b : Nat} {i sd rs v : Int}, putV b (.lst a) (.int 3) (.int v) (rowH h a i sd rs) = .ok () (rowH h a i sd v) := row_put B rfl rfl
  have q2 : ∀ {b : Nat} {i sd rs v : Int}, putV b (.lst a) (.int 2) (.int v) (rowH h a i sd rs) = .ok () (rowH h a i v rs) := row_put B rfl rfl
  have q1 : ∀ {b : Nat} {i sd rs v : Int}, putV b (.lst a) (.int 1) (.int v) (rowH h a i sd rs) = .ok () (rowH h a v sd rs) := row_put B rfl rfl
  have pw18 : ∀ {g : Heap}, binV .Pow (.int 10) (.int 18) g = .ok (.int 1000000000000000000) g := rfl
  have m31 : ∀ {x : Int} {g : Heap}, binV .Mod (.int x) (.int 2147483647) g = .ok (.int (x % 2147483647)) g := a_mod (by decide)
  have mm : ∀ {x : Int} {g : Heap}, binV .Mod (.int x) (.int many) g = .ok (.int (x % many)) g := a_mod hm
  have dd : ∀ {x : Int} {g : Heap}, binV .FloorDiv (.int x) (.int many) g = .ok (.int (x / many)) g := a_div hm hm2
  have d7 : ∀ {x : Int} {g : Heap}, binV .FloorDiv (.int x) (.int 7) g = .ok (.int (x / 7)) g := a_div (by decide) (by decide)
  have mu : ∀ {x : Int} {g : Heap}, binV .Mult (.int x) (.int 48271) g = .ok (.int (x * 48271)) g := a_mul (by rw [show isSmall 48271 = true from rfl, Bool.or_true])
  unfold runB b_taken
  by_cases c1 : 0 < rs
  · refine ⟨rs % many, i, sd, rs / many, (md_rng hm _).1, (md_rng hm _).2, hi, ?_⟩
    simp [g3, c1, mm, r_sub, dd, q3]
    exact leave_row
  · by_cases c2 : (ns.length : Int) < i + 1
    · refine ⟨((sd * 48271 + 11) % 2147483647) / 7 % many, i + 1, (sd * 48271 + 11) % 2147483647, rs, (md_rng hm _).1, (md_rng hm _).2, by omega, ?_⟩
      simp [g3, c1, mm, r_sub, q1, g1, g0, gl, c2, g2, mu, m31, q2, d7]
      exact leave_row
    · have ek : i = ((i.toNat : Nat) : Int) := by omega
      have hk : i.toNat < ns.length := by omega
      have sg : ∀ {sd rs : Int}, idxV (.lst 0) (.int i) (rowH h a (i + 1) sd rs) = .ok (.int (co ns i.toNat)) (rowH h a (i + 1) sd rs) := by
        intro sd rs
        have := script_get (i := i + 1) (sd := sd) (rs := rs) B hk
        rwa [← ek] at this
      generalize co ns i.toNat = cell at sg
      by_cases c3 : (1000000000000000000 : Int) ≤ cell
      · refine ⟨cell % many, i + 1, (sd * 48271 + cell + 11) % 2147483647, cell / many, (md_rng hm _).1, (md_rng hm _).2, by omega, ?_⟩
        simp [g3, c1, mm, r_sub, q1, g1, g0, gl, c2, sg, g2, mu, m31, q2, pw18, c3, dd, q3]
        exact leave_row
      · refine ⟨cell % many, i + 1, (sd * 48271 + cell + 11) % 2147483647, rs, (md_rng hm _).1, (md_rng hm _).2, by omega, ?_⟩
        simp [g3, c1, mm, r_sub, q1, g1, g0, gl, c2, sg, g2, mu, m31, q2, pw18, c3]
        exact leave_row
end Y

set_option Elab.async false
set_option linter.all false
set_option maxRecDepth 100000
set_option maxHeartbeats 4000000
/-! Fns8: the law's primes, polynomials. -/
namespace Y
open PySem
/-! pick -/
def b_pick (c : Nat) : Sts := .cons (.ret (.idx (.var 1) (.call c (.cons (.var 0) (.cons (.bi .len (.var 1)) .nil))))) .nil
def Pick (t : T) (f : Nat) : Prop := ∀ (ns : List Int) (h : Heap) (a : Nat) (i sd rs : Int) (x : Nat) (xs : List Int), RowB ns h a → 0 ≤ i → (∀ i sd rs, listAt (rowH h a i sd rs) x = some (I xs)) → xs ≠ [] → xs.length ≤ 1000 →
  ∃ (k : Nat) (i' sd' rs' : Int), k < xs.length ∧ 0 ≤ i' ∧ t.call f [.lst a, .lst x] (rowH h a i sd rs) = .ok (.int (co xs k)) (rowH h a i' sd' rs')
theorem pick_ok {t' t : T} {f c : Nat} (H : Has t' t f 2 0 (b_pick c)) (h1 : Taken t c) : Pick t' f := fun ns h a i sd rs x xs B hi hx h0 hl => by
  have hp : 0 < xs.length := List.length_pos_iff.mpr h0
  obtain ⟨r, i', sd', rs', r1, r2, r3, e⟩ := h1 ns h a i sd rs xs.length B hi (by omega) (by omega)
  have er : r = ((r.toNat : Nat) : Int) := by omega
  refine ⟨r.toNat, i', sd', rs', by omega, r3, ?_⟩
  rw [H _ _ rfl]
  unfold runB b_pick
  have e1 := bi_lenL (hx i sd rs)
  rw [I_len] at e1
  have e2 := idx_nat (x := .lst x) (k := r.toNat) (h := rowH h a i' sd' rs') (hx i' sd' rs') (by omega)
  rw [← er] at e2
  simp [e1, e, e2]
  exact leave_row
/-! prime -/
def b_prime (c : Nat) : Sts := .cons (.ret (.call c (.cons (.var 0) (.cons (.new (.disp (.cons (.cst (.int 2)) (.cons (.cst (.int 2)) (.cons (.cst (.int 3)) (.cons (.cst (.int 3)) (.cons (.cst (.int 5)) (.cons (.cst (.int 7)) (.cons (.cst (.int 13)) .nil))))))))) .nil)))) .nil
def somePrimes : List Int := [2, 2, 3, 3, 5, 7, 13]
def PrimeL (t : T) (f : Nat) : Prop := ∀ (ns : List Int) (h : Heap) (a : Nat) (i sd rs : Int), RowB ns h a → 0 ≤ i → ∃ (p i' sd' rs' : Int), p ∈ somePrimes ∧ 0 ≤ i' ∧ t.call f [.lst a] (rowH h a i sd rs) = .ok (.int p) (rowH h a i' sd' rs')
theorem prime_ok {t' t : T} {f c : Nat} (H : Has t' t f 1 0 (b_prime c)) (h1 : Pick t c) : PrimeL t' f := fun ns h a i sd rs B hi => by
  obtain ⟨k, i', sd', rs', hk, hi', e⟩ := h1 ns (h ++ [.lst (I somePrimes)]) a i sd rs h.length somePrimes (B.app _) hi (fun i sd rs => by
    rw [row_app B]
    have := listAt_app0 (h := rowH h a i sd rs) (g := [.lst (I somePrimes)])
    rw [row_len] at this
    exact this) (by decide) (by decide)
  refine ⟨co somePrimes k, i', sd', rs', ?_, hi', ?_⟩
  · exact List.mem_of_getElem? (co_at hk)
  · rw [H _ _ rfl]
    unfold runB b_prime
    rw [row_app B, row_app B] at e
    simp [row_len]
    have e2 : t.call c [.lst a, .lst h.length] (rowH h a i sd rs ++ [.lst [.int 2, .int 2, .int 3, .int 3, .int 5, .int 7, .int 13]]) = _ := e
    rw [e2]
    simp
    have := leave_more (v := .int (co somePrimes k)) (h := rowH h a i' sd' rs') (g := [.lst (I somePrimes)]) bel_int
    rw [row_len] at this
    exact this
/-! poly -/
def b_poly (tk tr : Nat) : Sts := .cons (.ret (.call tr (.cons (.new (.lc [3] (.nm 3) (.r1 (.call tk (.cons (.var 0) (.cons (.bin .Add (.var 2) (.cst (.int 2))) .nil)))) .none (.call tk (.cons (.var 0) (.cons (.var 1) .nil))))) .nil))) .nil
def PolyL (t : T) (f : Nat) : Prop := ∀ (ns : List Int) (h : Heap) (a : Nat) (i sd rs : Int) (p : Int) (m : Nat), RowB ns h a → 0 ≤ i → 2 ≤ p → p < 1073741824 → m ≤ 500 →
  ∃ (xs : List Int) (i' sd' rs' : Int), IsP p (m + 1) xs ∧ 0 ≤ i' ∧ t.call f [.lst a, .int p, .int m] (rowH h a i sd rs) = .ok (tI xs) (rowH h a i' sd' rs')
theorem poly_ok {t' t : T} {f tk tr : Nat} (H : Has t' t f 3 1 (b_poly tk tr)) (h1 : Taken t tk) (h2 : LTrim t tr) : PolyL t' f := fun ns h a i sd rs p m B hi hp hp2 hm => by
  obtain ⟨r, i1, sd1, rs1, r1, r2, r3, e1⟩ := h1 ns h a i sd rs ((m : Int) + 2) B hi (by omega) (by omega)
  have er := rangeK_ok (m := 0) (n := r) (h := rowH h a i1 sd1 rs1) (by omega) (by omega) (by omega) (by omega)
  rw [Int.sub_zero] at er
  obtain ⟨out, h', e2, i2, sd2, rs2, xs, hi2, hh, ho, hl, hr⟩ := lcL_inv (it := .one (.vals (upTo r.toNat 0))) (n := r.toNat) (val := fun i => .int (0 + i)) (elt := fun v h2 => (R.ok ((wipe [some (.lst a), some (.int p), some (.int m), none] [3]).set 3 (some v)) h2).bind fun env2 h3 => ((den t (rowH h a i sd rs).length (.call tk (.cons (.var 0) (.cons (.var 1) .nil)))).v env2 h3).bind fun x h4 => .ok (some x) h4)
    (fun j h' acc => ∃ (i2 sd2 rs2 : Int) (xs : List Int), 0 ≤ i2 ∧ h' = rowH h a i2 sd2 rs2 ∧ acc = I xs ∧ xs.length = j ∧ ∀ x ∈ xs, 0 ≤ x ∧ x < p) (fun j h' acc hj ⟨i2, sd2, rs2, xs, hi2, hh, ho, hl, hr⟩ => by
      subst hh ho
      obtain ⟨y, i3, sd3, rs3, y1, y2, y3, e3⟩ := h1 ns h a i2 sd2 rs2 p B hi2 (by omega) hp2
      refine ⟨turn_vals (upTo_at hj), .int y, rowH h a i3 sd3 rs3, ?_, i3, sd3, rs3, xs ++ [y], y3, rfl, ?_, ?_, ?_⟩
      · simp [wipe, e3]
      · unfold I; rw [List.map_append]; rfl
      · rw [List.length_append, hl]; rfl
      · intro x hx
        rcases List.mem_append.mp hx with hx | hx
        · exact hr x hx
        · rw [List.mem_singleton.mp hx]; exact ⟨y1, y2⟩) (fun _ _ _ => by
      have := turn_end (xs := upTo r.toNat 0) (h := [])
      rw [upTo_len] at this
      exact this) (h := rowH h a i1 sd1 rs1) ⟨i1, sd1, rs1, [], r3, rfl, rfl, rfl, fun x hx => by cases hx⟩
  subst hh ho
  have rd : Rd p xs := fun k => by
    by_cases hk : k < xs.length
    · exact hr _ (List.mem_of_getElem? (co_at hk))
    · rw [co_ge (by omega)]; omega
  refine ⟨trim xs, i2, sd2, rs2, ⟨rd_trim rd, tr_trim _, ?_⟩, hi2, ?_⟩
  · have := trim_le xs
    omega
  · rw [H _ _ rfl]
    unfold runB b_poly
    have e4 := h2 (.lst h.length) xs (rowH h a i2 sd2 rs2 ++ [.lst (I xs)]) (by
      have := listAt_app0 (h := rowH h a i2 sd2 rs2) (g := [.lst (I xs)])
      rw [row_len] at this
      exact this) (by omega)
    simp only [List.map_cons, List.map_nil, List.cons_append, List.nil_append, List.replicate]
    rw [r_cons, r_ret, v_call, x_cons, v_new, l_lc0, i_r1, v_call, x_cons, v_var, get_0, of_some, b_ok, x_cons, v_bin, v_var, get_s, get_s, get_0, of_some, b_ok, v_cst, b_ok, a_add, b_ok, x_nil, b_ok, b_ok, b_ok, e1, b_ok, intK_int, er, b_ok, show (Iter.one (.vals (upTo r.toNat 0))).len (rowH h a i1 sd1 rs1) = r.toNat from upTo_len _ _]
    have e2' : lcL (fun v h2 => (denT t (rowH h a i sd rs).length (.nm 3) v (wipe [some (.lst a), some (.int p), some (.int m), none] [3]) h2).bind fun env2 h3 => ((den t (rowH h a i sd rs).length (.call tk (.cons (.var 0) (.cons (.var 1) .nil)))).v env2 h3).bind fun x h4 => .ok (some x) h4) (.one (.vals (upTo r.toNat 0))) r.toNat 0 (rowH h a i1 sd1 rs1) = _ := e2
    rw [e2', b_ok, if_pos (isLen_lit (by rw [I_len]; omega)), b_ok, new_app, b_ok, x_nil, b_ok, b_ok, row_len, row_len, e4, then_ok, sq_ret]
    have := leave_more (v := tI (trim xs)) (h := rowH h a i2 sd2 rs2) (g := [.lst (I xs)]) (bel_tI _)
    rw [row_len] at this
    exact this
/-! some -/
def b_some (c : Nat) : Sts := .cons (.asg (.nm 3) (.call c (.cons (.var 0) (.cons (.var 1) (.cons (.var 2) .nil))))) (.cons (.ret (.ife (.cmp .NotEq (.var 3) (.tup .nil)) (.var 3) (.tup (.cons (.cst (.int 1)) .nil)))) .nil)
def SomeL (t : T) (f : Nat) : Prop := ∀ (ns : List Int) (h : Heap) (a : Nat) (i sd rs : Int) (p : Int) (m : Nat), RowB ns h a → 0 ≤ i → 2 ≤ p → p < 1073741824 → m ≤ 500 →
  ∃ (xs : List Int) (i' sd' rs' : Int), IsP p (m + 1) xs ∧ xs ≠ [] ∧ 0 ≤ i' ∧ t.call f [.lst a, .int p, .int m] (rowH h a i sd rs) = .ok (tI xs) (rowH h a i' sd' rs')
theorem leave_rowT {h : Heap} {a : Nat} {i sd rs i' sd' rs' : Int} {xs : List Int} : leave (rowH h a i sd rs).length (.ret (tI xs) (rowH h a i' sd' rs')) = .ok (tI xs) (rowH h a i' sd' rs') := by
  rw [leave_ret (bel_tI xs), row_len, ← row_len (h := h) (a := a) (i := i') (sd := sd') (rs := rs'), List.take_length]
theorem some_ok {t' t : T} {f c : Nat} (H : Has t' t f 3 1 (b_some c)) (h1 : PolyL t c) : SomeL t' f := fun ns h a i sd rs p m B hi hp hp2 hm => by
  obtain ⟨xs, i', sd', rs', x1, x2, e⟩ := h1 ns h a i sd rs p m B hi hp hp2 hm
  have e2 := c_neT0 (xs := xs) (h := rowH h a i' sd' rs')
  by_cases h0 : xs = []
  · refine ⟨[1], i', sd', rs', ⟨fun k => ?_, .inr (by decide), ?_⟩, by decide, x2, ?_⟩
    · cases k with
      | zero => show (0 : Int) ≤ 1 ∧ (1 : Int) < p; omega
      | succ k => rw [co_ge (by simp)]; omega
    · show 1 ≤ m + 1; omega
    · rw [H _ _ rfl]
      unfold runB b_some
      simp [e, e2, h0]
      exact leave_rowT (xs := [1])
  · refine ⟨xs, i', sd', rs', x1, h0, x2, ?_⟩
    rw [H _ _ rfl]
    unfold runB b_some
    simp [e, e2, h0]
    exact leave_rowT
end Y

set_option Elab.async false
set_option linter.all false
set_option maxRecDepth 100000
set_option maxHeartbeats 4000000
/-! Fns9: the law's sum, product, likeness. -/
namespace Y
open PySem
/-- list(one) + [0] * (many - len(one)) -/
def lpadE (i : Nat) : Ex := .new (.add (.of (.var i)) (.mul (.disp (.cons (.cst (.int 0)) .nil)) (.bin .Sub (.var 3) (.bi .len (.var i)))))
theorem lpad_ok {t : T} {b i M : Nat} {env : Env} {h : Heap} {a : List Int} (h1 : env.get i = some (tI a)) (h2 : env.get 3 = some (.int (M : Int))) (hl : a.length ≤ M) (hM : M ≤ 1000) :
    (den t b (lpadE i)).v env h = .ok (.lst h.length) (h ++ [.lst (I (pad a M))]) := by
  unfold lpadE
  have e1 := mulK_0 (k := (M : Int) - (I a).length) (h := h) (by omega) (by rw [I_len]; omega)
  have e4 : ((M : Int) - a.length).toNat = M - a.length := by omega
  have le : (I a ++ I (List.replicate ((M : Int) - (I a).length).toNat 0)) = I (pad a M) := by
    unfold pad I
    rw [List.length_map, e4, List.map_append]
  have e2 : isLen ((I a).length + (I (List.replicate ((M : Int) - (I a).length).toNat 0)).length) = true := isLen_lit (by
    simp only [I_len, List.length_replicate]; omega)
  rw [v_new, l_add, l_of, v_var, h1, of_some, b_ok, seqOf_tup, of_some, b_ok, l_mulK, l_disp, x_cons, v_cst, b_ok, x_nil, b_ok, b_ok, show isLen [Val.int 0].length = true from rfl, if_pos rfl, b_ok, v_bin, v_var, h2, of_some, b_ok, v_bi, v_var, h1, of_some, b_ok, bi_lenT, b_ok, a_sub, b_ok, e1, b_ok, e2, if_pos rfl, le]
  rfl
def e_lsum : Ex := .bin .Mod (.bi .int (.bin .Add (.idx (.var 4) (.var 6)) (.idx (.var 5) (.var 6)))) (.var 0)
def b_lsum (c : Nat) : Sts := .cons (.asg (.nm 3) (.max2 (.bi .len (.var 1)) (.bi .len (.var 2)))) (.cons (.asg (.tup (.cons (.nm 4) (.cons (.nm 5) .nil))) (.tup (.cons (lpadE 1) (.cons (lpadE 2) .nil)))) (.cons (.ret (.call c (.cons (.new (.lc [6] (.nm 6) (.r1 (.var 3)) .none e_lsum)) .nil))) .nil))
theorem lsum_ok {t' t : T} {i c : Nat} (H : Has t' t i 3 4 (b_lsum c)) (h1 : LTrim t c) : Plus t' i := fun p a b h hp ha hb => by
  rw [H _ _ rfl]
  unfold runB b_lsum
  generalize hM : max a.length b.length = M
  have eM : max (a.length : Int) (b.length : Int) = (M : Int) := by omega
  have e1 := lpad_ok (t := t) (b := h.length) (i := 1) (M := M) (env := [some (.int p), some (tI a), some (tI b), some (.int M), none, none, none]) (h := h) (a := a) rfl rfl (by omega) (by omega)
  have e2 := lpad_ok (t := t) (b := h.length) (i := 2) (M := M) (env := [some (.int p), some (tI a), some (tI b), some (.int M), none, none, none]) (h := h ++ [.lst (I (pad a M))]) (a := b) rfl rfl (by omega) (by omega)
  have l1 : listAt (h ++ [Cell.lst (I (pad a M)), Cell.lst (I (pad b M))]) h.length = some (I (pad a M)) := by simp
  have l2 : listAt (h ++ [Cell.lst (I (pad a M)), Cell.lst (I (pad b M))]) (h.length + 1) = some (I (pad b M)) := by
    rw [listAt_app, listAt_s, listAt_0]
  have er := rangeK_ok (m := 0) (n := (M : Int)) (h := h ++ [Cell.lst (I (pad a M)), Cell.lst (I (pad b M))]) (by omega) (by omega) (by omega) (by omega)
  rw [Int.sub_zero, Int.toNat_natCast] at er
  simp only [List.map_cons, List.map_nil, List.cons_append, List.nil_append, List.replicate]
  rw [r_cons, r_nm, v_max2, v_bi, v_var, get_s, get_0, of_some, b_ok, bi_lenT, b_ok, v_bi, v_var, get_s, get_s, get_0, of_some, b_ok, bi_lenT, b_ok, max_int, I_len, I_len, eM, then_ok, sq_nx]
  simp only [List.set]
  rw [r_cons, r_asg, v_tup, x_cons, e1, b_ok, x_cons, e2, b_ok, x_nil, b_ok, b_ok, b_ok, if_pos (isLen_lit (by simp)), then_ok, g_tup, g_cons, g_nm, b_ok, g_cons, g_nm, b_ok, g_nil, then_ok, sq_nx]
  simp only [List.set, List.length_append, List.length_cons, List.length_nil, List.append_assoc, List.cons_append, List.nil_append]
  rw [r_cons, r_ret, v_call, x_cons, v_new, l_lc0, i_r1, v_var, get_s, get_s, get_s, get_0, of_some, b_ok, intK_int, er, b_ok, show (Iter.one (.vals (upTo M 0))).len (h ++ [Cell.lst (I (pad a M)), Cell.lst (I (pad b M))]) = M from upTo_len _ _]
  rw [lcL_map (n := M) (val := fun i => .int (0 + i)) (out := fun i => .int ((co a i + co b i) % p)) (fun i hi => ⟨turn_vals (upTo_at hi), by
    have i1 := idx_nat (x := .lst h.length) (k := i) (h := h ++ [Cell.lst (I (pad a M)), Cell.lst (I (pad b M))]) l1 (by rw [pad_len (by omega)]; exact hi)
    have i2 := idx_nat (x := .lst (h.length + 1)) (k := i) (h := h ++ [Cell.lst (I (pad a M)), Cell.lst (I (pad b M))]) l2 (by rw [pad_len (by omega)]; exact hi)
    rw [pad_co] at i1 i2
    unfold e_lsum
    simp [wipe, i1, i2, a_mod hp]⟩) (by
    have := turn_end (xs := upTo M 0) (h := h ++ [Cell.lst (I (pad a M)), Cell.lst (I (pad b M))])
    rw [upTo_len] at this
    exact this)]
  have e4 := h1 (.lst (h.length + 2)) ((List.range M).map fun i => (co a i + co b i) % p) (h ++ [Cell.lst (I (pad a M)), Cell.lst (I (pad b M)), Cell.lst (I ((List.range M).map fun i => (co a i + co b i) % p))]) (by rw [seqOf_lst, listAt_app]; rfl) (by rw [List.length_map, List.length_range]; omega)
  rw [map_I, b_ok, if_pos (isLen_lit (by rw [I_len, List.length_map, List.length_range]; omega)), b_ok, new_app, b_ok, x_nil, b_ok, b_ok]
  simp only [List.length_append, List.length_cons, List.length_nil, List.append_assoc, List.cons_append, List.nil_append]
  rw [e4, then_ok, sq_ret]
  have e5 : addP p a b = trim ((List.range M).map fun i => (co a i + co b i) % p) := by
    unfold addP
    rw [hM]
  rw [e5]
  exact leave_more (bel_tI _)
/-! the law's product -/
def s_ltimes : Sts := .cons (.asg (.sub (.var 3) (.bin .Add (.var 4) (.var 5))) (.bin .Mod (.bi .int (.bin .Add (.idx (.var 3) (.bin .Add (.var 4) (.var 5))) (.bin .Mult (.idx (.var 1) (.var 4)) (.idx (.var 2) (.var 5))))) (.var 0))) .nil
def s_ltimes2 : Sts := .cons (.for_ (.nm 5) (.r1 (.bi .len (.var 2))) s_ltimes) .nil
def b_ltimes (c : Nat) : Sts := .cons (.ife (.or (.cmp .Eq (.var 1) (.tup .nil)) (.cmp .Eq (.var 2) (.tup .nil))) (.cons (.ret (.tup .nil)) .nil) .nil) (.cons (.asg (.nm 3) (.new (.mul (.disp (.cons (.cst (.int 0)) .nil)) (.bin .Sub (.bin .Add (.bi .len (.var 1)) (.bi .len (.var 2))) (.cst (.int 1))))))
  (.cons (.for_ (.nm 4) (.r1 (.bi .len (.var 1))) s_ltimes2) (.cons (.ret (.call c (.cons (.var 3) .nil))) .nil)))
section
variable {t : T} {p : Int} {a b : List Int} {h : Heap}
theorem ltimes_1 {i j : Nat} {xs : List Int} (hp : 0 < p) (hp2 : p < 2 ^ 30) (ha : Rd p a) (hi : i < a.length) (hj : j < b.length) (hk : i + j < xs.length) :
    denSs t h.length s_ltimes [some (.int p), some (tI a), some (tI b), some (.lst h.length), some (.int i), some (.int j)] (h ++ [.lst (I xs)]) =
      .nx [some (.int p), some (tI a), some (tI b), some (.lst h.length), some (.int i), some (.int j)] (h ++ [.lst (I (xs.set (i + j) ((co xs (i + j) + co a i * co b j) % p)))]) := by
  unfold s_ltimes
  have e1 := idx_app (h := h) (g := [.lst (I xs)]) (m := 0) (xs := xs) rfl hk
  have e2 := put_app (h := h) (g := [.lst (I xs)]) (m := 0) (xs := xs) (v := (co xs (i + j) + co a i * co b j) % p) rfl hk
  have e3 := a_mul (i := co a i) (j := co b j) (h := h ++ [.lst (I xs)]) (by rw [rd_small ha (by omega)]; rfl)
  have e4 : ((i + j : Nat) : Int) = (i : Int) + (j : Int) := by omega
  have e5 := idx_nat (x := tI a) (k := i) (h := h ++ [.lst (I xs)]) rfl hi
  have e6 := idx_nat (x := tI b) (k := j) (h := h ++ [.lst (I xs)]) rfl hj
  rw [e4] at e1 e2
  simp at e1 e2 e3
  simp [r_sub, e1, e3, e5, e6, a_mod hp, e2]
theorem turn_up {n i : Nat} {h : Heap} (hi : i < n) : (Iter.one (.vals (upTo n 0))).turn i h = some (some (.int i)) := by
  rw [turn_vals (upTo_at hi), Int.zero_add]
theorem turn_up_end {n : Nat} {h : Heap} : (Iter.one (.vals (upTo n 0))).turn n h = some none := by
  have := turn_end (xs := upTo n 0) (h := h)
  rw [upTo_len] at this
  exact this
theorem rangeN {n : Nat} {h : Heap} (hn : n ≤ 100000) : rangeK 0 (n : Int) h = .ok (.one (.vals (upTo n 0))) h := by
  have er := rangeK_ok (m := 0) (n := (n : Int)) (h := h) (by omega) (by omega) (by omega) (by omega)
  rw [Int.sub_zero, Int.toNat_natCast] at er
  exact er
theorem len_up {n : Nat} {h : Heap} : (Iter.one (.vals (upTo n 0))).len h = n := upTo_len _ _
theorem ltimes_2 {i : Nat} {o5 : Option Val} (hp : 0 < p) (hp2 : p < 2 ^ 30) (ha : Rd p a) (hi : i < a.length) (hb : b ≠ []) (hlb : b.length ≤ 1000) :
    ∃ o5', denSs t h.length s_ltimes2 [some (.int p), some (tI a), some (tI b), some (.lst h.length), some (.int i), o5] (h ++ [.lst (I (mu p a b i))]) =
      .nx [some (.int p), some (tI a), some (tI b), some (.lst h.length), some (.int i), o5'] (h ++ [.lst (I (mu p a b (i + 1)))]) := by
  have hb' : 0 < b.length := List.length_pos_iff.mpr hb
  obtain ⟨env', h', e, o5', he, hh⟩ := forL_inv (it := .one (.vals (upTo b.length 0))) (n := b.length) (val := fun j => .int j) (body := fun v env2 h2 => (denT t h.length (.nm 5) v env2 h2).then env2 fun env3 h3 => denSs t h.length s_ltimes env3 h3)
    (fun j env h' => ∃ o5, env = [some (.int p), some (tI a), some (tI b), some (.lst h.length), some (.int i), o5] ∧ h' = h ++ [.lst (I (rw1 p (co a i) (mu p a b i) i b j))]) (fun j env h' hj ⟨o5, he, hh⟩ => by
      subst he hh
      have e := ltimes_1 (t := t) (h := h) (a := a) (b := b) (i := i) (j := j) (xs := rw1 p (co a i) (mu p a b i) i b j) hp hp2 ha hi hj (by rw [rw1_len, mu_len]; omega)
      refine ⟨turn_up hj, _, _, ?_, some (.int j), rfl, rfl⟩
      rw [g_nm, then_ok]
      simp only [List.set]
      rw [e]
      rfl) (fun _ _ _ => turn_up_end) (env := [some (.int p), some (tI a), some (tI b), some (.lst h.length), some (.int i), o5]) (h := h ++ [.lst (I (mu p a b i))]) ⟨o5, rfl, rfl⟩
  subst he hh
  refine ⟨o5', ?_⟩
  unfold s_ltimes2
  rw [r_cons, r_for, i_r1, v_bi, v_var, get_s, get_s, get_0, of_some, b_ok, bi_lenT, I_len, b_ok, intK_int, rangeN (by omega), then_ok, len_up, e]
  rfl
theorem eq0_ok {i : Nat} {env : Env} {b0 : Nat} (hg : env.get i = some (tI a)) : (den t b0 (.cmp .Eq (.var i) (.tup .nil))).t env h = .ok (decide (a = [])) h := by
  rw [t_cmp, v_cmp, v_var, hg, of_some, b_ok, v_tup, x_nil, b_ok, if_pos (by rfl), b_ok, c_eqT0, tst_ok, tru_bl, of_some]
theorem ltimes_ok {t' : T} {i c : Nat} (H : Has t' t i 3 3 (b_ltimes c)) (h1 : LTrim t c) : Times t' i := fun p a b h hp hp2 ha hl => by
  rw [H _ _ rfl]
  unfold runB b_ltimes
  by_cases hz : a = [] ∨ b = []
  · have e : mulP p a b = [] := if_pos hz
    rw [e]
    rcases hz with hz | hz
    · subst hz
      have e1 := c_eqT (xs := []) (ys := []) (h := h)
      simp [show (cmpV .Eq (.tup []) (.tup []) h) = .ok (.bl true) h from e1]
      exact leave_same rfl
    · subst hz
      have e1 := c_eqT (xs := []) (ys := []) (h := h)
      have e2 := c_eqT0 (xs := a) (h := h)
      simp [show (cmpV .Eq (.tup []) (.tup []) h) = .ok (.bl true) h from e1, e2]
      by_cases ea : a = []
      · simp [ea]; exact leave_same rfl
      · simp [ea]; exact leave_same rfl
  · have ha0 : a ≠ [] := fun e => hz (.inl e)
    have hb0 : b ≠ [] := fun e => hz (.inr e)
    have hla : 0 < a.length := List.length_pos_iff.mpr ha0
    have hlb : 0 < b.length := List.length_pos_iff.mpr hb0
    have e1 := c_eqT0 (xs := a) (h := h)
    have e2 := c_eqT0 (xs := b) (h := h)
    have e3 := mulK_0 (k := (a.length : Int) + b.length - 1) (h := h) (by omega) (by omega)
    have e4 : ((a.length : Int) + b.length - 1).toNat = a.length + b.length - 1 := by omega
    rw [e4] at e3
    obtain ⟨env', h', e, o4', o5', he, hh⟩ := forL_inv (it := .one (.vals (upTo a.length 0))) (n := a.length) (val := fun j => .int j) (body := fun v env2 h2 => (denT t h.length (.nm 4) v env2 h2).then env2 fun env3 h3 => denSs t h.length s_ltimes2 env3 h3)
      (fun j env h' => ∃ o4 o5, env = [some (.int p), some (tI a), some (tI b), some (.lst h.length), o4, o5] ∧ h' = h ++ [.lst (I (mu p a b j))]) (fun j env h' hj ⟨o4, o5, he, hh⟩ => by
        subst he hh
        obtain ⟨o5', e⟩ := ltimes_2 (t := t) (h := h) (o5 := o5) hp hp2 ha hj hb0 (by omega)
        refine ⟨turn_up hj, _, _, ?_, some (.int j), o5', rfl, rfl⟩
        rw [g_nm, then_ok]
        simp only [List.set]
        rw [e]) (fun _ _ _ => turn_up_end) (env := [some (.int p), some (tI a), some (tI b), some (.lst h.length), none, none]) (h := h ++ [.lst (I (mu p a b 0))]) ⟨none, none, rfl, rfl⟩
    subst he hh
    have e5 := h1 (.lst h.length) (mu p a b a.length) (h ++ [.lst (I (mu p a b a.length))]) (by simp) (by rw [mu_len]; omega)
    have e7 : (mu p a b 0) = List.replicate (a.length + b.length - 1) 0 := rfl
    rw [← e7] at e3
    generalize mu p a b 0 = Z at e e3
    simp only [List.map_cons, List.map_nil, List.cons_append, List.nil_append, List.replicate]
    rw [r_cons, r_ife, t_or, eq0_ok (a := a) rfl, b_ok, decide_eq_false ha0, if_neg (by decide), eq0_ok (a := b) rfl, then_ok, decide_eq_false hb0, if_neg (by decide), r_nil, sq_nx]
    rw [r_cons, r_nm, v_new, l_mulK, l_disp, x_cons, v_cst, b_ok, x_nil, b_ok, b_ok, if_pos (by rfl), b_ok, v_bin, v_bin, v_bi, v_var, get_s, get_0, of_some, b_ok, bi_lenT, b_ok, v_bi, v_var, get_s, get_s, get_0, of_some, b_ok, bi_lenT, b_ok, a_add, b_ok, v_cst, b_ok, a_sub, b_ok, I_len, I_len, e3, b_ok, new_app, then_ok, sq_nx]
    simp only [List.set]
    rw [r_cons, r_for, i_r1, v_bi, v_var, get_s, get_0, of_some, b_ok, bi_lenT, I_len, b_ok, intK_int, rangeN (by omega), then_ok, len_up, e, sq_nx]
    rw [r_cons, r_ret, v_call, x_cons, v_var, get_s, get_s, get_s, get_0, of_some, b_ok, x_nil, b_ok, b_ok, e5, then_ok, sq_ret]
    have e6 : mulP p a b = trim (mu p a b a.length) := if_neg hz
    rw [e6]
    exact leave_more (bel_tI _)
end
/-! alike -/
def e_alike (f : Nat) : Ex := .call f (.cons (.idx (.var 0) (.var 2)) (.cons (.idx (.var 1) (.var 2)) .nil))
def b_alike (f : Nat) : Sts := .cons (.ife (.isi .seq (.var 1)) (.cons (.ife (.or (.not (.isi .seq (.var 0))) (.cmp .NotEq (.isi .list (.var 0)) (.isi .list (.var 1)))) (.cons (.ret (.cst (.bl false))) .nil) .nil) (.cons (.ife (.cmp .NotEq (.bi .len (.var 0)) (.bi .len (.var 1))) (.cons (.ret (.cst (.bl false))) .nil) .nil) (.cons (.ret (.cmp .Eq (.new (.lc [2] (.nm 2) (.r1 (.bi .len (.var 1))) (.some (.not (e_alike f))) (.var 2))) (.new (.disp .nil)))) .nil))) .nil) (.cons (.ife (.or (.cmp .Is (.var 1) (.cst .non)) (.isi .str (.var 1))) (.cons (.ret (.and (.cmp .Eq (.var 0) (.var 1)) (.cmp .Eq (.isi .str (.var 0)) (.isi .str (.var 1))))) .nil) .nil) (.cons (.ret (.and (.isi .int (.var 0)) (.and (.cmp .Eq (.isi .bool (.var 0)) (.isi .bool (.var 1))) (.cmp .Eq (.var 0) (.var 1))))) .nil))
def AlikeI (t : T) (f : Nat) : Prop := ∀ (n : Int) h, t.call f [.int n, .int n] h = .ok (.bl true) h
def AlikeT (t : T) (f : Nat) : Prop := ∀ (xs : List Int) h, xs.length ≤ 1000 → t.call f [tI xs, tI xs] h = .ok (.bl true) h
@[simp] theorem c_eqB {a b : Bool} {h : Heap} : cmpV .Eq (.bl a) (.bl b) h = .ok (.bl (a == b)) h := rfl
@[simp] theorem c_neB {a b : Bool} {h : Heap} : cmpV .NotEq (.bl a) (.bl b) h = .ok (.bl !(a == b)) h := rfl
@[simp] theorem c_isI {i : Int} {h : Heap} : cmpV .Is (.int i) .non h = .ok (.bl false) h := rfl
theorem alikeI_ok {t' t : T} {f g : Nat} (H : Has t' t f 2 1 (b_alike g)) : AlikeI t' f := fun n h => by
  rw [H _ _ rfl]
  unfold runB b_alike
  simp [tyI, tyL, tyT, tyS, tyB]
  exact leave_same rfl
theorem alikeT_ok {t' t : T} {f g : Nat} (H : Has t' t f 2 1 (b_alike g)) (h1 : AlikeI t g) : AlikeT t' f := fun xs h hl => by
  rw [H _ _ rfl]
  unfold runB b_alike
  simp only [List.map_cons, List.map_nil, List.cons_append, List.nil_append, List.replicate]
  rw [r_cons, r_ife, t_isi, v_isi, v_var, get_s, get_0, of_some, b_ok, ib_tup, tst_ok, tru_bl, of_some, then_ok, if_pos (by rfl)]
  rw [r_cons, r_ife, t_or, t_not, t_isi, v_isi, v_var, get_0, of_some, b_ok, ib_tup, tst_ok, tru_bl, of_some, b_ok, b_ok, if_neg (by decide), t_cmp, v_cmp, v_isi, v_var, get_0, of_some, b_ok, ib_tup, b_ok, v_isi, v_var, get_s, get_0, of_some, b_ok, ib_tup, b_ok, c_neB, tst_ok, tru_bl, of_some, then_ok, if_neg (by decide), r_nil, sq_nx]
  rw [r_cons, r_ife, t_cmp, v_cmp, v_bi, v_var, get_0, of_some, b_ok, bi_lenT, b_ok, v_bi, v_var, get_s, get_0, of_some, b_ok, bi_lenT, b_ok, c_neI, decide_eq_true rfl, tst_ok, tru_bl, of_some, then_ok, if_neg (by decide), r_nil, sq_nx]
  rw [r_cons, r_ret, v_cmp, v_new, l_lc1, i_r1, v_bi, v_var, get_s, get_0, of_some, b_ok, bi_lenT, I_len, b_ok, intK_int, rangeN (by omega), b_ok, len_up]
  rw [lcL_pure (n := xs.length) (val := fun i => .int i) (out := fun _ => none) (fun i hi => ⟨turn_up hi, by
    have e := idx_nat (x := tI xs) (k := i) (h := h) rfl hi
    have e2 := h1 (co xs i) h
    unfold e_alike
    simp [wipe, e, e2]⟩) turn_up_end]
  have e0 : (List.range xs.length).filterMap (fun _ => (none : Option Val)) = [] := by simp
  rw [e0, b_ok, if_pos (by rfl), b_ok, new_app, b_ok, v_new, l_disp, x_nil, b_ok, if_pos (by rfl), b_ok, new_app, b_ok]
  have e3 : cmpV .Eq (.lst h.length) (.lst (h.length + 1)) (h ++ [.lst [], .lst []]) = .ok (.bl true) (h ++ [.lst [], .lst []]) := by
    show (match (if (match listAt (h ++ [Cell.lst [], .lst []]) h.length with
      | some xs => xs.all (dataOk 59 (h ++ [Cell.lst [], .lst []]))
      | none => false) && (match listAt (h ++ [Cell.lst [], .lst []]) (h.length + 1) with
      | some xs => xs.all (dataOk 59 (h ++ [Cell.lst [], .lst []]))
      | none => false) then some (match listAt (h ++ [Cell.lst [], .lst []]) h.length, listAt (h ++ [Cell.lst [], .lst []]) (h.length + 1) with
      | some xs, some ys => allEq (veq 59 (h ++ [Cell.lst [], .lst []])) xs ys
      | _, _ => false) else none) with
      | some b => R.ok (Val.bl b) _
      | none => .bad) = _
    have l1 : listAt (h ++ [Cell.lst [], .lst []]) h.length = some [] := listAt_app0
    have l2 : listAt (h ++ [Cell.lst [], .lst []]) (h.length + 1) = some [] := listAt_app
    rw [l1, l2]; rfl
  have e4 : ((h ++ [Cell.lst []]) ++ [Cell.lst []]) = h ++ [Cell.lst [], .lst []] := by simp
  have e5 : (h ++ [Cell.lst []]).length = h.length + 1 := by simp
  rw [e4, e5, e3, then_ok, sq_ret, sq_ret]
  exact leave_more rfl
end Y

set_option Elab.async false
set_option linter.all false
set_option maxRecDepth 100000
set_option maxHeartbeats 4000000
/-! WalkY: the law's row from the tables' answer. -/
namespace Y
open PySem PySem.Spec PyProof.Rows L2
theorem cx_false {P : Program} {w : World} {H : Hp} {s : Shared} {e : Value} {s' : Shared} (h : L2.CX P w [] H s (fun _ _ _ => False) e s') : False := by
  obtain ⟨_, _, _, _, _, _, _, _, _, _, _, _, z⟩ := h
  exact z
theorem walk_w {l : PySem.W.OpenLaw} {n k : Nat} {q : Program} {loose : List Str} {XP : (Str → Option Value) → PySem.Heap → Prop} {YP : World → PySem.Heap → Prop} {d : DefRec} {x : Str} (hn : l.most = some n) (hn2 : n ≤ sizeLine) (hdf : d.params.defaults = []) (hr : Room k callerA)
    (A : ∀ (w : World) (mg : Str → Option Value) (fa : Addr) (h : PySem.Heap), YP w h → h.Ns mainGlobals mg → mg d.name = some (.ref fa) →
      ∃ (K : PySem.W.Frag) (fd : FuncData) (sp : Sp), K.In h ∧ (∀ (s : Shared) (u : Value), BindsTo s fd ⟨[u], []⟩ [(x, u)]) ∧ (∀ (H : Hp) (a : Addr) (ns : List Int), ns.length ≤ n → Only H → SqL K H a (ns.map V.int) → sp [.ref a] H (fun v _ => v = .bl true) fun _ _ _ => False) ∧
        ∀ base : PySem.Heap, K.In base → base.Ns mainGlobals mg → FnOk l.prog w K mg base (L2.CX l.prog w) k fa fd [x] sp) : PySem.W.WalkO q loose XP YP l.row.toRowW d [] (fun f vs => PySem.call f vs) := by
  refine Att.attach_call hn hdf fun w s0 s1 mg mb fa o pm cd doc a vs ns G y ho hd hcd hmg hobj hi hlen hg => ?_
  obtain ⟨K, fd, sp, kx, hb, hsp, hf⟩ := A w mg fa _ y G.T.g hmg
  exact law_call kx G.T.g G.T.b G.T.builtins G.T.nolimit hg hobj hi (Nat.le_trans hlen hn2) hr hf hb (fun H ho hs => hsp H a ns hlen ho hs) fun H e s' => cx_false
end Y

set_option Elab.async false
set_option linter.all false
set_option maxRecDepth 100000
set_option maxHeartbeats 4000000
/-! Gen: what every law needs. -/
namespace Y
open PySem
theorem has_of {ds : List Def} {gl : List Val} {n i : Nat} {d : Def} (e : ds[i]? = some d) : Has (tab ds gl (n + 1)) (tab ds gl n) i d.np (d.n - d.np) d.body := fun args h hl => by
  show (match ds[i]? with
    | some d => runDef (tab ds gl n) d args h
    | none => .bad) = _
  rw [e]
  show (if Nat.beq args.length d.np then leave h.length (denSs (tab ds gl n) h.length d.body (args.map some ++ List.replicate (d.n - d.np) none) h) else R.bad) = _
  rw [hl, Nat.beq_refl]
  rfl
theorem c_neTT {a b : List Int} {h : Heap} : cmpV .NotEq (.tup [tI a, tI b]) (.tup [tI a, tI b]) h = .ok (.bl false) h := by
  show (match (if ((((I a).all (dataOk 58 h)) && (((I b).all (dataOk 58 h)) && true)) && (((I a).all (dataOk 58 h)) && (((I b).all (dataOk 58 h)) && true))) then some (allEq (veq 58 h) (I a) (I a) && (allEq (veq 58 h) (I b) (I b) && true)) else none) with
    | some b => R.ok (Val.bl !b) h
    | none => .bad) = _
  rw [data_I, data_I, allEq_I, allEq_I]
  simp
theorem inv_ok : ∀ p ∈ somePrimes, ∀ c : Int, 0 < c → c < p → cg p (c * inv p c) 1 := by
  have h : ∀ p ∈ somePrimes, ∀ c ∈ List.range p.toNat, 0 < c → ((c : Int) * inv p c) % p = 1 % p := by decide +kernel
  intro p hp c h1 h2
  have := h p hp c.toNat (List.mem_range.mpr (by omega)) (by omega)
  rw [show ((c.toNat : Nat) : Int) = c by omega] at this
  exact cg_of this
theorem some_prime {p : Int} (h : p ∈ somePrimes) : p ∈ primes := by
  simp [somePrimes] at h
  simp [primes]
  omega
end Y

set_option Elab.async false
set_option linter.all false
set_option maxRecDepth 100000
set_option maxHeartbeats 4000000
/-! Dat: whole numbers and tuples of such, nested: alike, equal to themselves. -/
namespace Y
open PySem
/-- d deep at most -/
inductive Dt : Nat → Val → Prop
  | int (d : Nat) (i : Int) : Dt d (.int i)
  | tup (d : Nat) (xs : List Val) : xs.length ≤ 1000 → (∀ x ∈ xs, Dt d x) → Dt (d + 1) (.tup xs)
theorem bel_all {n : Nat} : ∀ {xs : List Val}, (∀ x ∈ xs, below n x = true) → below.belowAll n xs = true
  | [], _ => rfl
  | x :: xs, h => by
    unfold below.belowAll
    rw [h x List.mem_cons_self, bel_all fun y hy => h y (List.mem_cons_of_mem _ hy)]; rfl
theorem bel_D {n d : Nat} {v : Val} (h : Dt d v) : below n v = true := by
  induction h with
  | int d i => rfl
  | tup d xs _ _ ih =>
    unfold below
    exact bel_all ih
theorem Dt.data {g : Heap} {d : Nat} {v : Val} (h : Dt d v) : ∀ e, d ≤ e → dataOk e g v = true := by
  induction h with
  | int d i => intro e _; cases e <;> rfl
  | tup d xs _ _ ih =>
    intro e he
    cases e with
    | zero => omega
    | succ e =>
      show xs.all (dataOk e g) = true
      exact List.all_eq_true.mpr fun x hx => ih x hx e (by omega)
theorem Dt.veq {g : Heap} {d : Nat} {v : Val} (h : Dt d v) : ∀ e, d ≤ e → Y.veq e g v v = true := by
  induction h with
  | int d i =>
    intro e _
    have : Y.veq e g (.int i) (.int i) = (i == i) := by cases e <;> rfl
    rw [this, beq_self_eq_true]
  | tup d xs _ _ ih =>
    intro e he
    cases e with
    | zero => omega
    | succ e =>
      show allEq (Y.veq e g) xs xs = true
      have key : ∀ l : List Val, (∀ x ∈ l, Y.veq e g x x = true) → allEq (Y.veq e g) l l = true := by
        intro l
        induction l with
        | nil => intro _; rfl
        | cons x l ih2 =>
          intro hl
          show (Y.veq e g x x && allEq (Y.veq e g) l l) = true
          rw [hl x List.mem_cons_self, ih2 fun y hy => hl y (List.mem_cons_of_mem _ hy)]; rfl
      exact key xs fun x hx => ih x hx e (by omega)
theorem c_eqD {d : Nat} {v : Val} {h : Heap} (hv : Dt d v) (hd : d ≤ 60) : cmpV .Eq v v h = .ok (.bl true) h := by
  show (match (if dataOk 60 h v && dataOk 60 h v then some (veq 60 h v v) else none) with
    | some b => R.ok (Val.bl b) h
    | none => .bad) = _
  rw [hv.data 60 hd, hv.veq 60 hd]; rfl
theorem c_neD {d : Nat} {v : Val} {h : Heap} (hv : Dt d v) (hd : d ≤ 60) : cmpV .NotEq v v h = .ok (.bl false) h := by
  show (match (if dataOk 60 h v && dataOk 60 h v then some (veq 60 h v v) else none) with
    | some b => R.ok (Val.bl !b) h
    | none => .bad) = _
  rw [hv.data 60 hd, hv.veq 60 hd]; rfl
theorem dt_I {d : Nat} {xs : List Int} (hl : xs.length ≤ 1000) : Dt (d + 1) (tI xs) := .tup d _ (by rw [I_len]; exact hl) fun x hx => by
  obtain ⟨i, _, rfl⟩ := List.mem_map.mp hx
  exact .int d i
/-- rows of whole numbers -/
abbrev tM (rows : List (List Int)) : Val := .tup (rows.map tI)
theorem dt_M {d : Nat} {rows : List (List Int)} (hl : rows.length ≤ 1000) (h : ∀ r ∈ rows, r.length ≤ 1000) : Dt (d + 2) (tM rows) := .tup (d + 1) _ (by rw [List.length_map]; exact hl) fun x hx => by
  obtain ⟨r, hr, rfl⟩ := List.mem_map.mp hx
  exact dt_I (h r hr)
/-- alike, d deep -/
def AlikeD (t : T) (f d : Nat) : Prop := ∀ (v : Val) h, Dt d v → t.call f [v, v] h = .ok (.bl true) h
theorem alikeD_0 {t' t : T} {f g : Nat} (H : Has t' t f 2 1 (b_alike g)) : AlikeD t' f 0 := fun v h hv => by
  cases hv with
  | int _ n => exact alikeI_ok H n h
theorem alikeD_s {t' t : T} {f g d : Nat} (H : Has t' t f 2 1 (b_alike g)) (h1 : AlikeD t g d) : AlikeD t' f (d + 1) := fun v h hv => by
  cases hv with
  | int _ n => exact alikeI_ok H n h
  | tup _ xs hl hx =>
    rw [H _ _ rfl]
    unfold runB b_alike
    simp only [List.map_cons, List.map_nil, List.cons_append, List.nil_append, List.replicate]
    rw [r_cons, r_ife, t_isi, v_isi, v_var, get_s, get_0, of_some, b_ok, ib_tup, tst_ok, tru_bl, of_some, then_ok, if_pos (by rfl)]
    rw [r_cons, r_ife, t_or, t_not, t_isi, v_isi, v_var, get_0, of_some, b_ok, ib_tup, tst_ok, tru_bl, of_some, b_ok, b_ok, if_neg (by decide), t_cmp, v_cmp, v_isi, v_var, get_0, of_some, b_ok, ib_tup, b_ok, v_isi, v_var, get_s, get_0, of_some, b_ok, ib_tup, b_ok, c_neB, tst_ok, tru_bl, of_some, then_ok, if_neg (by decide), r_nil, sq_nx]
    rw [r_cons, r_ife, t_cmp, v_cmp, v_bi, v_var, get_0, of_some, b_ok, bi_lenT, b_ok, v_bi, v_var, get_s, get_0, of_some, b_ok, bi_lenT, b_ok, c_neI, decide_eq_true rfl, tst_ok, tru_bl, of_some, then_ok, if_neg (by decide), r_nil, sq_nx]
    rw [r_cons, r_ret, v_cmp, v_new, l_lc1, i_r1, v_bi, v_var, get_s, get_0, of_some, b_ok, bi_lenT, b_ok, intK_int, rangeN (by omega), b_ok, len_up]
    rw [lcL_pure (n := xs.length) (val := fun i => .int i) (out := fun _ => none) (fun i hi => ⟨turn_up hi, by
      have e : idxV (.tup xs) (.int (i : Int)) h = .ok xs[i] h := by
        show R.of ((seqOf h (.tup xs)).bind fun xs => atV xs (i : Int)) h = _
        show R.of (atV xs (i : Int)) h = _
        rw [at_nat hi, List.getElem?_eq_getElem hi]; rfl
      have e2 := h1 xs[i] h (hx _ (List.getElem_mem hi))
      unfold e_alike
      simp [wipe, e, e2]⟩) turn_up_end]
    have e0 : (List.range xs.length).filterMap (fun _ => (none : Option Val)) = [] := by simp
    rw [e0, b_ok, if_pos (by rfl), b_ok, new_app, b_ok, v_new, l_disp, x_nil, b_ok, if_pos (by rfl), b_ok, new_app, b_ok]
    have e3 : cmpV .Eq (.lst h.length) (.lst (h.length + 1)) (h ++ [.lst [], .lst []]) = .ok (.bl true) (h ++ [.lst [], .lst []]) := by
      have l1 : listAt (h ++ [Cell.lst [], .lst []]) h.length = some [] := listAt_app0
      have l2 : listAt (h ++ [Cell.lst [], .lst []]) (h.length + 1) = some [] := listAt_app
      show (match (if (match listAt (h ++ [Cell.lst [], .lst []]) h.length with
        | some xs => xs.all (dataOk 59 (h ++ [Cell.lst [], .lst []]))
        | none => false) && (match listAt (h ++ [Cell.lst [], .lst []]) (h.length + 1) with
        | some xs => xs.all (dataOk 59 (h ++ [Cell.lst [], .lst []]))
        | none => false) then some (match listAt (h ++ [Cell.lst [], .lst []]) h.length, listAt (h ++ [Cell.lst [], .lst []]) (h.length + 1) with
        | some xs, some ys => allEq (veq 59 (h ++ [Cell.lst [], .lst []])) xs ys
        | _, _ => false) else none) with
        | some b => R.ok (Val.bl b) _
        | none => .bad) = _
      rw [l1, l2]; rfl
    have e4 : ((h ++ [Cell.lst []]) ++ [Cell.lst []]) = h ++ [Cell.lst [], .lst []] := by simp
    have e5 : (h ++ [Cell.lst []]).length = h.length + 1 := by simp
    rw [e4, e5, e3, then_ok, sq_ret, sq_ret]
    exact leave_more rfl
end Y

set_option Elab.async false
set_option linter.all false
set_option maxRecDepth 100000
set_option maxHeartbeats 4000000
/-! Fm1: rows of numbers: are they such. -/
namespace Y
open PySem
def e_allin (a j k : Nat) : Ex := .biL .all (.lc [k] (.nm k) (.of (.var j)) .none (.call a (.cons (.var k) (.cons (.cst (.int 0)) (.cons (.bin .Sub (.var 0) (.cst (.int 1))) .nil)))))
theorem allin_ok {t : T} {b a j k : Nat} {env : Env} {h : Heap} {p : Int} {xs : List Int} (h1 : IsIn t a) (hj : env.get j = some (tI xs)) (h0 : ∀ v, Env.get ((wipe env [k]).set k (some v)) 0 = some (.int p)) (hk : ∀ v, Env.get ((wipe env [k]).set k (some v)) k = some v) (hr : Rd p xs) (hl : xs.length ≤ 1000) :
    (den t b (e_allin a j k)).v env h = .ok (.bl true) h := by
  unfold e_allin
  have e2 : biL .all ((List.range xs.length).map fun _ => .bl true) h = .ok (.bl true) h := by
    show (match asBools ((List.range xs.length).map fun _ => .bl true) with
      | some bs => R.ok (Val.bl (bs.all id)) h
      | none => .bad) = _
    rw [asBools_map (fun _ => true)]
    simp
  rw [v_biL, l_lc0, i_of, v_var, hj, of_some, b_ok, iterOf_tup, b_ok, show (Iter.one (.vals (I xs))).len h = xs.length from I_len xs]
  rw [lcL_map (n := xs.length) (val := fun i => .int (co xs i)) (out := fun _ => .bl true) (fun i hi => ⟨turn_vals (I_at hi), by
    have e := h1 (co xs i) 0 (p - 1) h
    rw [decide_eq_true (hr i).1, decide_eq_true (show co xs i ≤ p - 1 by have := (hr i).2; omega)] at e
    rw [g_nm, b_ok, v_call, x_cons, v_var, hk, of_some, b_ok, x_cons, v_cst, b_ok, x_cons, v_bin, v_var, h0, of_some, b_ok, v_cst, b_ok, a_sub, b_ok, x_nil, b_ok, b_ok, b_ok, b_ok, e, b_ok]; rfl⟩) (by have := turn_end (xs := I xs) (h := h); rwa [I_len] at this)]
  rw [b_ok, if_pos (isLen_lit (by rw [List.length_map, List.length_range]; omega)), b_ok, e2]
/-! are_rows -/
def s_are_rows (a : Nat) : Sts := .cons (.ife (.or (.not (.isi .tuple (.var 4))) (.or (.cmp .NotEq (.bi .len (.var 4)) (.var 3)) (.not (e_allin a 4 5)))) (.cons (.ret (.cst (.bl false))) .nil) .nil) .nil
def b_are_rows (a : Nat) : Sts := .cons (.ife (.or (.not (.isi .tuple (.var 1))) (.cmp .NotEq (.bi .len (.var 1)) (.var 2))) (.cons (.ret (.cst (.bl false))) .nil) .nil) (.cons (.for_ (.nm 4) (.of (.var 1)) (s_are_rows a)) (.cons (.ret (.cst (.bl true))) .nil))
/-- rows over p, each of w numbers -/
structure IsM (p : Int) (w : Nat) (rows : List (List Int)) : Prop where
  rd : ∀ r ∈ rows, Rd p r
  wide : ∀ r ∈ rows, r.length = w
def AreRows (t : T) (i : Nat) : Prop := ∀ (p : Int) (rows : List (List Int)) (w : Nat) h, IsM p w rows → w ≤ 1000 → rows.length ≤ 1000 → t.call i [.int p, tM rows, .int rows.length, .int w] h = .ok (.bl true) h
theorem are_rows_ok {t' t : T} {i a : Nat} (H : Has t' t i 4 2 (b_are_rows a)) (h1 : IsIn t a) : AreRows t' i := fun p rows w h hm hw hl => by
  rw [H _ _ rfl]
  unfold runB b_are_rows
  have ll : (rows.map tI).length = rows.length := List.length_map _
  obtain ⟨env', h', e, o4, o5, he, hh⟩ := forL_inv (it := .one (.vals (rows.map tI))) (n := rows.length) (val := fun j => tI (rows.getD j [])) (body := fun v env2 h2 => (denT t h.length (.nm 4) v env2 h2).then env2 fun env3 h3 => denSs t h.length (s_are_rows a) env3 h3)
    (fun j env h' => ∃ o4 o5, env = [some (.int p), some (tM rows), some (.int rows.length), some (.int w), o4, o5] ∧ h' = h) (fun j env h' hj ⟨o4, o5, he, hh⟩ => by
      subst he hh
      have er : rows[j]? = some (rows.getD j []) := by rw [List.getD_eq_getElem?_getD, List.getElem?_eq_getElem hj]; rfl
      have hmem := List.mem_of_getElem? er
      generalize rows.getD j [] = r at er hmem
      have lr := hm.wide r hmem
      have e1 := allin_ok (t := t) (b := h'.length) (a := a) (j := 4) (k := 5) (env := [some (.int p), some (tM rows), some (.int rows.length), some (.int w), some (tI r), o5]) (h := h') h1 rfl (fun _ => rfl) (fun _ => rfl) (hm.rd r hmem) (by omega)
      have e2 : (den t h'.length (e_allin a 4 5)).t [some (.int p), some (tM rows), some (.int rows.length), some (.int w), some (tI r), o5] h' = tst ((den t h'.length (e_allin a 4 5)).v [some (.int p), some (tM rows), some (.int rows.length), some (.int w), some (tI r), o5] h') := rfl
      refine ⟨turn_vals (by rw [List.getElem?_map, er]; rfl), [some (.int p), some (tM rows), some (.int rows.length), some (.int w), some (tI r), o5], h', ?_, some (tI r), o5, rfl, rfl⟩
      rw [g_nm, then_ok]
      unfold s_are_rows
      simp only [List.set]
      rw [r_cons, r_ife, t_or, t_not, t_isi, v_isi, v_var, get_s, get_s, get_s, get_s, get_0, of_some, b_ok, ib_tup, tst_ok, tru_bl, of_some, b_ok, b_ok, if_neg (by decide), t_or, t_cmp, v_cmp, v_bi, v_var, get_s, get_s, get_s, get_s, get_0, of_some, b_ok, bi_lenT, b_ok, v_var, get_s, get_s, get_s, get_0, of_some, b_ok, I_len, lr, c_neI, decide_eq_true rfl, tst_ok, tru_bl, of_some, b_ok, if_neg (by decide), t_not, e2, e1, tst_ok, tru_bl, of_some, b_ok, then_ok, if_neg (by decide), r_nil, sq_nx, r_nil]) (fun _ _ _ => by
      have := turn_end (xs := rows.map tI) (h := [])
      rw [ll] at this
      exact this) (env := [some (.int p), some (tM rows), some (.int rows.length), some (.int w), none, none]) (h := h) ⟨none, none, rfl, rfl⟩
  subst he hh
  simp only [List.map_cons, List.map_nil, List.cons_append, List.nil_append, List.replicate]
  rw [r_cons, r_ife, t_or, t_not, t_isi, v_isi, v_var, get_s, get_0, of_some, b_ok, ib_tup, tst_ok, tru_bl, of_some, b_ok, b_ok, if_neg (by decide), t_cmp, v_cmp, v_bi, v_var, get_s, get_0, of_some, b_ok, bi_lenT, b_ok, v_var, get_s, get_s, get_0, of_some, b_ok, ll, c_neI, decide_eq_true rfl, tst_ok, tru_bl, of_some, then_ok, if_neg (by decide), r_nil, sq_nx]
  rw [r_cons, r_for, i_of, v_var, get_s, get_0, of_some, b_ok, iterOf_tup, then_ok, show (Iter.one (.vals (rows.map tI))).len h' = rows.length from ll, e, sq_nx, r_cons, r_ret, v_cst, then_ok, sq_ret]
  exact leave_same rfl
end Y

set_option Elab.async false
set_option linter.all false
set_option maxRecDepth 100000
set_option maxHeartbeats 4000000
/-! Fm2: rows applied to a vector, vectors added. -/
namespace Y
open PySem
theorem zipT {h : Heap} {xs ys : List Val} : zipK (.tup xs) (.tup ys) h = .ok (.zip (.vals xs) (.vals ys)) h := rfl
theorem turn_zipT {h : Heap} {i : Nat} {xs ys : List Int} (h1 : i < xs.length) (h2 : i < ys.length) : (Iter.zip (.vals (I xs)) (.vals (I ys))).turn i h = some (some (.tup [.int (co xs i), .int (co ys i)])) := by
  show (match getAt (I xs) i with
    | some (some v) => (match getAt (I ys) i with
      | some (some u) => some (some (Val.tup [v, u]))
      | r => r)
    | some none => (match getAt (I ys) i with
      | some _ => some none
      | none => none)
    | none => none) = _
  rw [getAt_at (I_at h1), getAt_at (I_at h2)]
theorem turn_zipT_end {h : Heap} {xs ys : List Int} (hl : ys.length = xs.length) : (Iter.zip (.vals (I xs)) (.vals (I ys))).turn xs.length h = some none := by
  show (match getAt (I xs) xs.length with
    | some (some v) => (match getAt (I ys) xs.length with
      | some (some u) => some (some (Val.tup [v, u]))
      | r => r)
    | some none => (match getAt (I ys) xs.length with
      | some _ => some none
      | none => none)
    | none => none) = _
  have e1 := getAt_end (xs := I xs)
  have e2 := getAt_end (xs := I ys)
  rw [I_len] at e1 e2
  rw [hl] at e2
  rw [e1, e2]
theorem asInts_I : ∀ xs : List Int, asInts (I xs) = some xs
  | [] => rfl
  | x :: xs => by
    show (asInts (I xs)).map (x :: ·) = _
    rw [asInts_I xs]; rfl
theorem sum_sm (f : Nat → Int) : ∀ n, ((List.range n).map f).sum = sm n f
  | 0 => rfl
  | n + 1 => by
    rw [List.range_succ, List.map_append, List.sum_append, sum_sm f n]
    show sm n f + (f n + 0) = sm n f + f n
    omega
def addV (p : Int) (a b : List Int) : List Int := (List.range a.length).map fun i => (co a i + co b i) % p
def dotV (a b : List Int) : Int := sm a.length fun i => co a i * co b i
def appV2 (p : Int) (rows : List (List Int)) (x : List Int) : List Int := rows.map fun r => dotV r x % p
theorem addV_len {p : Int} {a b : List Int} : (addV p a b).length = a.length := by simp [addV]
theorem appV2_len {p : Int} {rows : List (List Int)} {x : List Int} : (appV2 p rows x).length = rows.length := List.length_map _
theorem addV_rd {p : Int} (hp : 0 < p) {a b : List Int} : Rd p (addV p a b) := fun k => by
  unfold addV
  rw [co_range]
  split
  · exact md_rng hp _
  · omega
theorem appV2_rd {p : Int} (hp : 0 < p) {rows : List (List Int)} {x : List Int} : Rd p (appV2 p rows x) := fun k => by
  by_cases hk : k < rows.length
  · have : (appV2 p rows x)[k]? = some (dotV rows[k] x % p) := by
      unfold appV2
      rw [List.getElem?_map, List.getElem?_eq_getElem hk]; rfl
    rw [co_at (by rw [appV2_len]; exact hk)] at this
    rw [Option.some.inj this]
    exact md_rng hp _
  · rw [co_ge (by rw [appV2_len]; omega)]; omega
def b_added : Sts := .cons (.ret (.biL .tuple (.lc [3, 4] (.tup (.cons (.nm 3) (.cons (.nm 4) .nil))) (.zip (.var 1) (.var 2)) .none (.bin .Mod (.bin .Add (.var 3) (.var 4)) (.var 0))))) .nil
def b_ladded : Sts := .cons (.ret (.biL .tuple (.lc [3, 4] (.tup (.cons (.nm 3) (.cons (.nm 4) .nil))) (.zip (.var 1) (.var 2)) .none (.bin .Mod (.bi .int (.bin .Add (.var 3) (.var 4))) (.var 0))))) .nil
def Added (t : T) (i : Nat) : Prop := ∀ (p : Int) (a b : List Int) h, 0 < p → b.length = a.length → a.length ≤ 1000 → t.call i [.int p, tI a, tI b] h = .ok (tI (addV p a b)) h
theorem zip_len {xs ys : List Val} {h : Heap} : (Iter.zip (.vals xs) (.vals ys)).len h = xs.length := rfl
theorem added_ok {t' t : T} {i : Nat} (H : Has t' t i 3 2 b_added) : Added t' i := fun p a b h hp hb hl => by
  rw [H _ _ rfl]
  unfold runB b_added
  simp only [List.map_cons, List.map_nil, List.cons_append, List.nil_append, List.replicate]
  rw [r_cons, r_ret, v_biL, l_lc0, i_zip, v_var, get_s, get_0, of_some, b_ok, v_var, get_s, get_s, get_0, of_some, b_ok, zipT, b_ok, zip_len, I_len]
  rw [lcL_map (n := a.length) (val := fun i => .tup [.int (co a i), .int (co b i)]) (out := fun i => .int ((co a i + co b i) % p)) (fun i hi => ⟨turn_zipT hi (by omega), by simp [wipe, a_mod hp]⟩) (turn_zipT_end hb), map_I]
  rw [b_ok, if_pos (isLen_lit (by simp; omega)), b_ok]
  exact leave_same (bel_tI _)
theorem ladded_ok {t' t : T} {i : Nat} (H : Has t' t i 3 2 b_ladded) : Added t' i := fun p a b h hp hb hl => by
  rw [H _ _ rfl]
  unfold runB b_ladded
  simp only [List.map_cons, List.map_nil, List.cons_append, List.nil_append, List.replicate]
  rw [r_cons, r_ret, v_biL, l_lc0, i_zip, v_var, get_s, get_0, of_some, b_ok, v_var, get_s, get_s, get_0, of_some, b_ok, zipT, b_ok, zip_len, I_len]
  rw [lcL_map (n := a.length) (val := fun i => .tup [.int (co a i), .int (co b i)]) (out := fun i => .int ((co a i + co b i) % p)) (fun i hi => ⟨turn_zipT hi (by omega), by simp [wipe, a_mod hp]⟩) (turn_zipT_end hb), map_I]
  rw [b_ok, if_pos (isLen_lit (by simp; omega)), b_ok]
  exact leave_same (bel_tI _)
/-- the sum of the products of a row and a vector -/
def e_dot : Ex := .biL .sum (.lc [4, 5] (.tup (.cons (.nm 4) (.cons (.nm 5) .nil))) (.zip (.var 3) (.var 2)) .none (.bin .Mult (.var 4) (.var 5)))
theorem dot_ok {t : T} {b : Nat} {h : Heap} {p : Int} {r x : List Int} {o1 o4 o5 : Option Val} (hr : Rd p r) (hp : p < 2 ^ 30) (hl : x.length = r.length) (hn : r.length ≤ 1000) :
    (den t b e_dot).v [some (.int p), o1, some (tI x), some (tI r), o4, o5] h = .ok (.int (dotV r x)) h := by
  unfold e_dot
  rw [v_biL, l_lc0, i_zip, v_var, get_s, get_s, get_s, get_0, of_some, b_ok, v_var, get_s, get_s, get_0, of_some, b_ok, zipT, b_ok, zip_len, I_len]
  rw [lcL_map (n := r.length) (val := fun i => .tup [.int (co r i), .int (co x i)]) (out := fun i => .int (co r i * co x i)) (fun i hi => ⟨turn_zipT hi (by omega), by
    have e := a_mul (i := co r i) (j := co x i) (h := h) (by rw [rd_small hr (by omega)]; rfl)
    simp [wipe, e]⟩) (turn_zipT_end hl), map_I]
  rw [b_ok, if_pos (isLen_lit (by simp; omega)), b_ok]
  show (match asInts (I ((List.range r.length).map fun i => co r i * co x i)) with
    | some ns => R.ok (Val.int ns.sum) h
    | none => .bad) = _
  rw [asInts_I]
  show R.ok (Val.int ((List.range r.length).map fun i => co r i * co x i).sum) h = _
  rw [sum_sm]; rfl
def b_applied : Sts := .cons (.ret (.biL .tuple (.lc [3] (.nm 3) (.of (.var 1)) .none (.bin .Mod e_dot (.var 0))))) .nil
def b_lapplied : Sts := .cons (.ret (.biL .tuple (.lc [3] (.nm 3) (.of (.var 1)) .none (.bin .Mod (.bi .int e_dot) (.var 0))))) .nil
def Applied (t : T) (i : Nat) : Prop := ∀ (p : Int) (rows : List (List Int)) (x : List Int) h, 0 < p → p < 2 ^ 30 → IsM p x.length rows → x.length ≤ 1000 → rows.length ≤ 1000 → t.call i [.int p, tM rows, tI x] h = .ok (tI (appV2 p rows x)) h
theorem rows_out {p : Int} {rows : List (List Int)} {x : List Int} : (List.range rows.length).map (fun i => Val.int (dotV (rows.getD i []) x % p)) = I (appV2 p rows x) := by
  rw [map_I]
  congr 1
  unfold appV2
  refine List.ext_getElem? fun i => ?_
  rw [List.getElem?_map, List.getElem?_map]
  by_cases hi : i < rows.length
  · rw [List.getElem?_range hi, List.getElem?_eq_getElem hi]
    show some (dotV (rows.getD i []) x % p) = some (dotV rows[i] x % p)
    rw [List.getD_eq_getElem?_getD, List.getElem?_eq_getElem hi]; rfl
  · rw [List.getElem?_eq_none (by simpa using Nat.le_of_not_lt hi), List.getElem?_eq_none (by omega)]; rfl
theorem row_in {rows : List (List Int)} {i : Nat} (hi : i < rows.length) : rows[i]? = some (rows.getD i []) ∧ rows.getD i [] ∈ rows := by
  have e : rows[i]? = some (rows.getD i []) := by rw [List.getD_eq_getElem?_getD, List.getElem?_eq_getElem hi]; rfl
  exact ⟨e, List.mem_of_getElem? e⟩
theorem applied_ok {t' t : T} {i : Nat} (H : Has t' t i 3 3 b_applied) : Applied t' i := fun p rows x h hp hp2 hm hx hl => by
  rw [H _ _ rfl]
  unfold runB b_applied
  have ll : (rows.map tI).length = rows.length := List.length_map _
  simp only [List.map_cons, List.map_nil, List.cons_append, List.nil_append, List.replicate]
  rw [r_cons, r_ret, v_biL, l_lc0, i_of, v_var, get_s, get_0, of_some, b_ok, iterOf_tup, b_ok, show (Iter.one (.vals (rows.map tI))).len h = rows.length from ll]
  rw [lcL_map (n := rows.length) (val := fun i => tI (rows.getD i [])) (out := fun i => .int (dotV (rows.getD i []) x % p)) (fun i hi => ⟨turn_vals (by rw [List.getElem?_map, (row_in hi).1]; rfl), by
    have hr := (row_in hi).2
    generalize rows.getD i [] = r at hr ⊢
    have e := dot_ok (t := t) (b := h.length) (h := h) (p := p) (r := r) (x := x) (o1 := some (tM rows)) (o4 := none) (o5 := none) (hm.rd r hr) hp2 (hm.wide r hr).symm (by rw [hm.wide r hr]; exact hx)
    rw [g_nm, b_ok, v_bin]
    simp only [wipe, List.set]
    rw [e, b_ok, v_var, get_0, of_some, b_ok, a_mod hp, b_ok]⟩) (by have := turn_end (xs := rows.map tI) (h := h); rwa [ll] at this), rows_out]
  rw [b_ok, if_pos (isLen_lit (by rw [I_len, appV2_len]; omega)), b_ok]
  exact leave_same (bel_tI _)
theorem lapplied_ok {t' t : T} {i : Nat} (H : Has t' t i 3 3 b_lapplied) : Applied t' i := fun p rows x h hp hp2 hm hx hl => by
  rw [H _ _ rfl]
  unfold runB b_lapplied
  have ll : (rows.map tI).length = rows.length := List.length_map _
  simp only [List.map_cons, List.map_nil, List.cons_append, List.nil_append, List.replicate]
  rw [r_cons, r_ret, v_biL, l_lc0, i_of, v_var, get_s, get_0, of_some, b_ok, iterOf_tup, b_ok, show (Iter.one (.vals (rows.map tI))).len h = rows.length from ll]
  rw [lcL_map (n := rows.length) (val := fun i => tI (rows.getD i [])) (out := fun i => .int (dotV (rows.getD i []) x % p)) (fun i hi => ⟨turn_vals (by rw [List.getElem?_map, (row_in hi).1]; rfl), by
    have hr := (row_in hi).2
    generalize rows.getD i [] = r at hr ⊢
    have e := dot_ok (t := t) (b := h.length) (h := h) (p := p) (r := r) (x := x) (o1 := some (tM rows)) (o4 := none) (o5 := none) (hm.rd r hr) hp2 (hm.wide r hr).symm (by rw [hm.wide r hr]; exact hx)
    rw [g_nm, b_ok, v_bin, v_bi]
    simp only [wipe, List.set]
    rw [e, b_ok, bi_int, b_ok, v_var, get_0, of_some, b_ok, a_mod hp, b_ok]⟩) (by have := turn_end (xs := rows.map tI) (h := h); rwa [ll] at this), rows_out]
  rw [b_ok, if_pos (isLen_lit (by rw [I_len, appV2_len]; omega)), b_ok]
  exact leave_same (bel_tI _)
end Y

set_option Elab.async false
set_option linter.all false
set_option maxRecDepth 100000
set_option maxHeartbeats 4000000
/-! Fm3: machines run. -/
namespace Y
open PySem
theorem app_app {h g : Heap} {m : Nat} {xs : List Val} {v : Val} (hg : g[m]? = some (.lst xs)) (hl : xs.length ≤ 1000) : appV h.length (.lst (h.length + m)) v (h ++ g) = .ok .non (h ++ g.set m (.lst (xs ++ [v]))) := by
  show (match (h ++ g)[h.length + m]? with
    | some (.lst ys) => if Nat.blt ys.length line && mayPut h.length (h.length + m) v then R.ok Val.non ((h ++ g).set (h.length + m) (.lst (ys ++ [v]))) else .bad
    | _ => .bad) = _
  rw [app_at, hg]
  have e1 : Nat.blt xs.length line = true := Nat.ble_eq_true_of_le (by unfold line; omega)
  have e2 : mayPut h.length (h.length + m) v = true := by
    unfold mayPut
    rw [show Nat.ble h.length (h.length + m) = true from Nat.ble_eq_true_of_le (Nat.le_add_right _ _)]; rfl
  show (if Nat.blt xs.length line && mayPut h.length (h.length + m) v then R.ok Val.non ((h ++ g).set (h.length + m) (.lst (xs ++ [v]))) else .bad) = _
  rw [e1, e2, List.set_append_right _ _ (Nat.le_add_right _ _), Nat.add_sub_cancel_left]; rfl
/-- a machine of n states, m inputs, q outputs -/
structure IsMach (p : Int) (n m q : Nat) (a b c d : List (List Int)) : Prop where
  am : IsM p n a
  al : a.length = n
  bm : IsM p m b
  bl : b.length = n
  cm : IsM p n c
  cl : c.length = q
  dm : IsM p m d
  dl : d.length = q
  n8 : n ≤ 8
  m4 : m ≤ 4
  q4 : q ≤ 4
  m1 : 1 ≤ m
  q1 : 1 ≤ q
def mach (a b c d : List (List Int)) : Val := .tup [tM a, tM b, tM c, tM d]
def outM (p : Int) (c d : List (List Int)) (s u : List Int) : List Int := addV p (appV2 p c s) (appV2 p d u)
def stM (p : Int) (a b : List (List Int)) (s u : List Int) : List Int := addV p (appV2 p a s) (appV2 p b u)
/-- the state ahead of turn i -/
def stAt (p : Int) (a b : List (List Int)) (s : List Int) (us : List (List Int)) : Nat → List Int
  | 0 => s
  | i + 1 => stM p a b (stAt p a b s us i) (us.getD i [])
def outsM (p : Int) (a b c d : List (List Int)) (s : List Int) (us : List (List Int)) (n : Nat) : List (List Int) := (List.range n).map fun i => outM p c d (stAt p a b s us i) (us.getD i [])
/-! the law's run -/
def s_lrun (ad ap : Nat) : Sts := .cons (.expr (.app (.var 9) (.call ad (.cons (.var 0) (.cons (.call ap (.cons (.var 0) (.cons (.var 7) (.cons (.var 10) .nil)))) (.cons (.call ap (.cons (.var 0) (.cons (.var 8) (.cons (.var 4) .nil)))) .nil)))))) (.cons (.asg (.nm 10) (.call ad (.cons (.var 0) (.cons (.call ap (.cons (.var 0) (.cons (.var 5) (.cons (.var 10) .nil)))) (.cons (.call ap (.cons (.var 0) (.cons (.var 6) (.cons (.var 4) .nil)))) .nil))))) .nil)
def b_lrun (ad ap : Nat) : Sts := .cons (.asg (.tup (.cons (.nm 5) (.cons (.nm 6) (.cons (.nm 7) (.cons (.nm 8) .nil))))) (.var 1)) (.cons (.par2 9 10 (.new (.disp .nil)) (.var 2)) (.cons (.for_ (.nm 4) (.of (.var 3)) (s_lrun ad ap)) (.cons (.ret (.tup (.cons (.bi .tuple (.var 9)) (.cons (.var 10) .nil)))) .nil)))
def RunM (t : T) (i : Nat) : Prop := ∀ (p : Int) (n m q : Nat) (a b c d : List (List Int)) (s : List Int) (us : List (List Int)) h, p ∈ primes → IsMach p n m q a b c d → s.length = n → Rd p s → us.length ≤ 60 → IsM p m us →
  t.call i [.int p, mach a b c d, tI s, tM us] h = .ok (.tup [tM (outsM p a b c d s us us.length), tI (stAt p a b s us us.length)]) h
section
variable {t : T} {p : Int} {n m q : Nat} {a b c d : List (List Int)} {s : List Int} {us : List (List Int)} {h : Heap}
theorem stAt_len (M : IsMach p n m q a b c d) (hs : s.length = n) : ∀ i, (stAt p a b s us i).length = n
  | 0 => hs
  | i + 1 => by
    show (stM p a b _ _).length = n
    unfold stM
    rw [addV_len, appV2_len, M.al]
theorem outs_succ {i : Nat} : outsM p a b c d s us (i + 1) = outsM p a b c d s us i ++ [outM p c d (stAt p a b s us i) (us.getD i [])] := by
  unfold outsM
  rw [List.range_succ, List.map_append]; rfl
theorem outs_len {i : Nat} : (outsM p a b c d s us i).length = i := by simp [outsM]
theorem lrun_1 {ad ap : Nat} {i : Nat} {o4 : Option Val} (h1 : Added t ad) (h2 : Applied t ap) (hp : p ∈ primes) (M : IsMach p n m q a b c d) (hs : s.length = n) (hu : IsM p m us) (hi : i < us.length) (hl : us.length ≤ 60) :
    denSs t h.length (s_lrun ad ap) [some (.int p), some (mach a b c d), some (tI s), some (tM us), some (tI (us.getD i [])), some (tM a), some (tM b), some (tM c), some (tM d), some (.lst h.length), some (tI (stAt p a b s us i))] (h ++ [.lst ((outsM p a b c d s us i).map tI)]) =
      .nx [some (.int p), some (mach a b c d), some (tI s), some (tM us), some (tI (us.getD i [])), some (tM a), some (tM b), some (tM c), some (tM d), some (.lst h.length), some (tI (stAt p a b s us (i + 1)))] (h ++ [.lst ((outsM p a b c d s us (i + 1)).map tI)]) := by
  have rp := pr_rng hp
  have sl := stAt_len (us := us) M hs i
  have ul : (us.getD i []).length = m := hu.wide _ (row_in hi).2
  rw [outs_succ]
  show _ = RS.nx [_, _, _, _, _, _, _, _, _, _, some (tI (stM p a b (stAt p a b s us i) (us.getD i [])))] _
  have hol : (outsM p a b c d s us i).length = i := outs_len
  generalize outsM p a b c d s us i = os at hol
  generalize stAt p a b s us i = x at sl ⊢
  generalize us.getD i [] = u at ul ⊢
  have n8 := M.n8
  have m4 := M.m4
  have q4 := M.q4
  have k1 := h2 p c x (h ++ [.lst (os.map tI)]) (by omega) rp.2 (by rw [sl]; exact M.cm) (by omega) (by rw [M.cl]; omega)
  have k2 := h2 p d u (h ++ [.lst (os.map tI)]) (by omega) rp.2 (by rw [ul]; exact M.dm) (by omega) (by rw [M.dl]; omega)
  have k3 := h1 p (appV2 p c x) (appV2 p d u) (h ++ [.lst (os.map tI)]) (by omega) (by rw [appV2_len, appV2_len, M.cl, M.dl]) (by rw [appV2_len, M.cl]; omega)
  have k4 := h2 p a x (h ++ [.lst ((os ++ [outM p c d x u]).map tI)]) (by omega) rp.2 (by rw [sl]; exact M.am) (by omega) (by rw [M.al]; omega)
  have k5 := h2 p b u (h ++ [.lst ((os ++ [outM p c d x u]).map tI)]) (by omega) rp.2 (by rw [ul]; exact M.bm) (by omega) (by rw [M.bl]; omega)
  have k6 := h1 p (appV2 p a x) (appV2 p b u) (h ++ [.lst ((os ++ [outM p c d x u]).map tI)]) (by omega) (by rw [appV2_len, appV2_len, M.al, M.bl]) (by rw [appV2_len, M.al]; omega)
  have k7 := app_app (h := h) (g := [.lst (os.map tI)]) (m := 0) (xs := os.map tI) (v := tI (outM p c d x u)) rfl (by rw [List.length_map]; omega)
  have e8 : (os ++ [outM p c d x u]).map tI = os.map tI ++ [tI (outM p c d x u)] := by rw [List.map_append]; rfl
  have il : isLst (h ++ [.lst (os.map tI)]) (.lst h.length) = true := by
    show (listAt (h ++ [.lst (os.map tI)]) h.length).isSome = true
    rw [listAt_app0]; rfl
  rw [e8] at k4 k5 k6 ⊢
  unfold s_lrun
  rw [r_cons, r_expr, v_app, v_var]
  simp only [get_s, get_0]
  rw [of_some, b_ok, il, if_pos (by rfl), v_call]
  simp only [x_cons, v_call, v_var, get_s, get_0, of_some, b_ok, x_nil, k1, k2, k3]
  rw [show tI (addV p (appV2 p c x) (appV2 p d u)) = tI (outM p c d x u) from rfl, show appV h.length (.lst h.length) (tI (outM p c d x u)) (h ++ [.lst (os.map tI)]) = _ from k7, then_ok, sq_nx, r_cons, r_nm, v_call]
  show ((((denX t h.length _ _ (h ++ [.lst (os.map tI ++ [tI (outM p c d x u)])])).bind _).then _ _).sq _) = _
  simp only [x_cons, v_call, v_var, get_s, get_0, of_some, b_ok, x_nil, k4, k5, k6, then_ok]
  rfl
theorem g_mach {b0 : Nat} {ts : Tgs} {env : Env} : denT t b0 (.tup ts) (mach a b c d) env h = denTs t b0 ts [tM a, tM b, tM c, tM d] env h := rfl
theorem bel_rows {n : Nat} (rows : List (List Int)) : below n (tM rows) = true := by
  unfold below
  refine bel_all fun x hx => ?_
  obtain ⟨r, _, rfl⟩ := List.mem_map.mp hx
  exact bel_tI r
theorem bel_run {n : Nat} {rows : List (List Int)} {x : List Int} : below n (.tup [tM rows, tI x]) = true := by
  unfold below below.belowAll
  rw [bel_rows]
  unfold below.belowAll
  rw [bel_tI]; rfl
theorem rows_loop {body : Val → Env → Heap → RS} (P : Nat → Env → Heap → Prop) (go : ∀ i env h, i < us.length → P i env h → ∃ env' h', body (tI (us.getD i [])) env h = .nx env' h' ∧ P (i + 1) env' h') {env : Env} {h : Heap} (h0 : P 0 env h) : ∃ env' h', forL body (.one (.vals (us.map tI))) us.length 0 env h = .nx env' h' ∧ P us.length env' h' := by
  refine forL_inv (val := fun i => tI (us.getD i [])) P (fun i env h hi p => ⟨turn_vals (by rw [List.getElem?_map, (row_in hi).1]; rfl), go i env h hi p⟩) (fun env h _ => ?_) h0
  have := turn_end (xs := us.map tI) (h := h)
  rw [List.length_map] at this
  exact this
theorem lrun_ok {t' : T} {i ad ap : Nat} (H : Has t' t i 4 7 (b_lrun ad ap)) (h1 : Added t ad) (h2 : Applied t ap) : RunM t' i := fun p n m q a b c d s us h hp M hs hr hl hu => by
  rw [H _ _ rfl]
  unfold runB b_lrun
  obtain ⟨env', h', e, o4, he, hh⟩ := rows_loop (us := us) (body := fun v env2 h2 => (denT t h.length (.nm 4) v env2 h2).then env2 fun env3 h3 => denSs t h.length (s_lrun ad ap) env3 h3)
    (fun i env h' => ∃ o4, env = [some (.int p), some (mach a b c d), some (tI s), some (tM us), o4, some (tM a), some (tM b), some (tM c), some (tM d), some (.lst h.length), some (tI (stAt p a b s us i))] ∧ h' = h ++ [.lst ((outsM p a b c d s us i).map tI)]) (fun i env h' hi ⟨o4, he, hh⟩ => by
      subst he hh
      have e := lrun_1 (t := t) (h := h) (o4 := none) h1 h2 hp M hs hu hi hl
      refine ⟨_, _, ?_, some (tI (us.getD i [])), rfl, rfl⟩
      rw [g_nm, then_ok]
      simp only [List.set]
      exact e) (env := [some (.int p), some (mach a b c d), some (tI s), some (tM us), none, some (tM a), some (tM b), some (tM c), some (tM d), some (.lst h.length), some (tI s)]) (h := h ++ [.lst []]) ⟨none, rfl, rfl⟩
  subst he hh
  simp only [List.map_cons, List.map_nil, List.cons_append, List.nil_append, List.replicate]
  rw [r_cons, r_asg, v_var, get_s, get_0, of_some, then_ok, g_mach, g_cons, g_nm, b_ok, g_cons, g_nm, b_ok, g_cons, g_nm, b_ok, g_cons, g_nm, b_ok, g_nil, then_ok, sq_nx]
  simp only [List.set]
  rw [r_cons, r_par2, v_new, l_disp, x_nil, b_ok, if_pos (by rfl), b_ok, new_app, then_ok, v_var, get_s, get_s, get_0, of_some, then_ok, sq_nx]
  simp only [List.set]
  rw [r_cons, r_for, i_of, v_var, get_s, get_s, get_s, get_0, of_some, b_ok, iterOf_tup, then_ok, show (Iter.one (.vals (us.map tI))).len (h ++ [.lst []]) = us.length from List.length_map _]
  rw [show forL _ (.one (.vals (us.map tI))) us.length 0 _ _ = _ from e, sq_nx, r_cons, r_ret, v_tup, x_cons, v_bi, v_var]
  simp only [get_s, get_0]
  rw [of_some, b_ok, bi_tupL (xs := (outsM p a b c d s us us.length).map tI) (by rw [listAt_app0]; rfl), b_ok, x_cons, v_var]
  simp only [get_s, get_0]
  rw [of_some, b_ok, x_nil, b_ok, b_ok, b_ok, if_pos (by rfl), then_ok, sq_ret]
  exact leave_more bel_run
end
end Y

set_option Elab.async false
set_option linter.all false
set_option maxRecDepth 100000
set_option maxHeartbeats 4000000
/-! Fm4: the package's run. -/
namespace Y
open PySem
def b_is_side (g : Nat) : Sts := .cons (.ret (.and (.isi .tuple (.var 0)) (.cmp2 .LtE .LtE (.cst (.int 1)) (.bi .len (.var 0)) (.glo g)))) .nil
def IsSide (t : T) (i : Nat) : Prop := ∀ (xs : List Val) h, 1 ≤ xs.length → xs.length ≤ 4 → t.call i [.tup xs] h = .ok (.bl true) h
theorem is_side_ok {t' t : T} {i g : Nat} (H : Has t' t i 1 0 (b_is_side g)) (hg : t.gl[g]? = some (.int 4)) : IsSide t' i := fun xs h h1 h4 => by
  rw [H _ _ rfl]
  unfold runB b_is_side
  have e1 : (1 : Int) ≤ (xs.length : Int) := by omega
  have e2 : (xs.length : Int) ≤ 4 := by omega
  simp [v_glo, hg, tyT, e1, e2]
  exact leave_same rfl
theorem idx_rows {x : Val} {rows : List (List Int)} {k : Nat} {h : Heap} (hs : seqOf h x = some (rows.map tI)) (hk : k < rows.length) : idxV x (.int (k : Int)) h = .ok (tI (rows.getD k [])) h := by
  show R.of ((seqOf h x).bind fun xs => atV xs (k : Int)) h = _
  rw [hs]
  show R.of (atV (rows.map tI) (k : Int)) h = _
  rw [at_nat (by rw [List.length_map]; exact hk), List.getElem?_map, (row_in hk).1]; rfl
def b_need_machine (g sd ar : Nat) : Sts := .cons (.ife (.or (.not (.isi .tuple (.var 1))) (.cmp .NotEq (.bi .len (.var 1)) (.cst (.int 4)))) (.cons .never .nil) .nil) (.cons (.asg (.tup (.cons (.nm 2) (.cons (.nm 3) (.cons (.nm 4) (.cons (.nm 5) .nil))))) (.var 1)) (.cons (.ife (.or (.not (.call sd (.cons (.var 5) .nil))) (.or (.not (.call sd (.cons (.idx (.var 5) (.cst (.int 0))) .nil))) (.not (.call ar (.cons (.var 0) (.cons (.var 5) (.cons (.bi .len (.var 5)) (.cons (.bi .len (.idx (.var 5) (.cst (.int 0)))) .nil)))))))) (.cons .never .nil) .nil) (.cons (.ife (.or (.not (.isi .tuple (.var 2))) (.or (.cmp .Gt (.bi .len (.var 2)) (.glo g)) (.not (.call ar (.cons (.var 0) (.cons (.var 2) (.cons (.bi .len (.var 2)) (.cons (.bi .len (.var 2)) .nil)))))))) (.cons .never .nil) .nil) (.cons (.ife (.not (.call ar (.cons (.var 0) (.cons (.var 3) (.cons (.bi .len (.var 2)) (.cons (.bi .len (.idx (.var 5) (.cst (.int 0)))) .nil)))))) (.cons .never .nil) .nil) (.cons (.ife (.not (.call ar (.cons (.var 0) (.cons (.var 4) (.cons (.bi .len (.var 5)) (.cons (.bi .len (.var 2)) .nil)))))) (.cons .never .nil) .nil) .nil)))))
def NeedMachine (t : T) (i : Nat) : Prop := ∀ (p : Int) (n m q : Nat) (a b c d : List (List Int)) h, IsMach p n m q a b c d → t.call i [.int p, mach a b c d] h = .ok .non h
theorem need_machine_ok {t' t : T} {i g sd ar : Nat} (H : Has t' t i 2 4 (b_need_machine g sd ar)) (h1 : IsSide t sd) (h2 : AreRows t ar) (hg : t.gl[g]? = some (.int 8)) : NeedMachine t' i := fun p n m q a b c d h M => by
  rw [H _ _ rfl]
  unfold runB b_need_machine
  have n8 := M.n8
  have m4 := M.m4
  have q4 := M.q4
  have m1 := M.m1
  have q1 := M.q1
  have dl := M.dl
  have d0 := row_in (rows := d) (i := 0) (by omega)
  have w0 := M.dm.wide _ d0.2
  have e0 := idx_rows (x := tM d) (k := 0) (h := h) rfl (by omega)
  have k1 := h1 (d.map tI) h (by rw [List.length_map]; omega) (by rw [List.length_map]; omega)
  have k2 := h1 (I (d.getD 0 [])) h (by rw [I_len]; omega) (by rw [I_len]; omega)
  have k3 := h2 p d m h M.dm (by omega) (by omega)
  have k4 := h2 p a n h M.am (by omega) (by rw [M.al]; omega)
  have k5 := h2 p b m h M.bm (by omega) (by rw [M.bl]; omega)
  have k6 := h2 p c n h M.cm (by omega) (by rw [M.cl]; omega)
  rw [M.al] at k4
  rw [M.bl] at k5
  rw [M.cl] at k6
  rw [M.dl] at k3
  generalize d.getD 0 [] = d0' at e0 k2 w0
  have lm : ∀ (r : List (List Int)), biV .len (tM r) h = .ok (.int r.length) h := fun r => by rw [bi_lenT, List.length_map]
  have e8 : ¬ ((8 : Int) < (n : Int)) := by omega
  simp only [List.map_cons, List.map_nil, List.cons_append, List.nil_append, List.replicate]
  rw [r_cons, r_ife, t_or, t_not, t_isi, v_isi, v_var, get_s, get_0, of_some, b_ok, show isiV .tuple (mach a b c d) h = .ok (.bl true) h from rfl, tst_ok, tru_bl, of_some, b_ok, b_ok, if_neg (by decide), t_cmp, v_cmp, v_bi, v_var, get_s, get_0, of_some, b_ok, show biV .len (mach a b c d) h = .ok (.int 4) h from rfl, b_ok, v_cst, b_ok, c_neI, decide_eq_true rfl, tst_ok, tru_bl, of_some, then_ok, if_neg (by decide), r_nil, sq_nx]
  rw [r_cons, r_asg, v_var, get_s, get_0, of_some, then_ok, g_mach, g_cons, g_nm, b_ok, g_cons, g_nm, b_ok, g_cons, g_nm, b_ok, g_cons, g_nm, b_ok, g_nil, then_ok, sq_nx]
  simp only [List.set]
  rw [r_cons, r_ife]
  simp only [t_or, t_not, t_call, v_call, x_cons, v_idx, v_bi, v_cst, v_var, get_s, get_0, of_some, b_ok, x_nil, List.length_map, k1, show idxV (tM d) (.int 0) h = .ok (tI d0') h from e0, k2, bi_lenT, I_len, w0, dl, k3, tst_ok, tru_bl, Bool.not_true, then_ok, Bool.false_eq_true, if_false]
  rw [r_nil, sq_nx, r_cons, r_ife]
  simp only [t_or, t_not, t_isi, v_isi, t_cmp, v_cmp, v_glo, hg, t_call, v_call, x_cons, v_idx, v_bi, v_cst, v_var, get_s, get_0, of_some, b_ok, x_nil, ib_tup, tyT, bi_lenT, List.length_map, M.al, c_gt, e8, decide_false, k4, tst_ok, tru_bl, Bool.not_true, then_ok, Bool.false_eq_true, if_false]
  rw [r_nil, sq_nx, r_cons, r_ife]
  simp only [t_not, t_call, v_call, x_cons, v_idx, v_bi, v_cst, v_var, get_s, get_0, of_some, b_ok, x_nil, show idxV (tM d) (.int 0) h = .ok (tI d0') h from e0, List.length_map, M.al, bi_lenT, I_len, w0, k5, tst_ok, tru_bl, Bool.not_true, then_ok, Bool.false_eq_true, if_false]
  rw [r_nil, sq_nx, r_cons, r_ife]
  simp only [t_not, t_call, v_call, x_cons, v_idx, v_bi, v_cst, v_var, get_s, get_0, of_some, b_ok, x_nil, bi_lenT, List.length_map, M.al, dl, k6, tst_ok, tru_bl, Bool.not_true, then_ok, Bool.false_eq_true, if_false]
  rw [r_nil, sq_nx, r_nil]
  exact leave_nx
/-! run -/
def s_run1 (ar : Nat) : Sts := .cons (.ife (.not (.call ar (.cons (.var 0) (.cons (.tup (.cons (.var 4) .nil)) (.cons (.cst (.int 1)) (.cons (.bi .len (.idx (.var 8) (.cst (.int 0)))) .nil)))))) (.cons .never .nil) .nil) .nil
def s_run (ad ap : Nat) : Sts := .cons (.expr (.app (.var 10) (.call ad (.cons (.var 0) (.cons (.call ap (.cons (.var 0) (.cons (.var 7) (.cons (.var 11) .nil)))) (.cons (.call ap (.cons (.var 0) (.cons (.var 8) (.cons (.var 4) .nil)))) .nil)))))) (.cons (.asg (.nm 11) (.call ad (.cons (.var 0) (.cons (.call ap (.cons (.var 0) (.cons (.var 5) (.cons (.var 11) .nil)))) (.cons (.call ap (.cons (.var 0) (.cons (.var 6) (.cons (.var 4) .nil)))) .nil))))) .nil)
def b_run (np nm ar g ad ap : Nat) : Sts := .cons (.expr (.call np (.cons (.var 0) .nil))) (.cons (.expr (.call nm (.cons (.var 0) (.cons (.var 1) .nil)))) (.cons (.asg (.tup (.cons (.nm 5) (.cons (.nm 6) (.cons (.nm 7) (.cons (.nm 8) .nil))))) (.var 1)) (.cons (.ife (.not (.call ar (.cons (.var 0) (.cons (.tup (.cons (.var 2) .nil)) (.cons (.cst (.int 1)) (.cons (.bi .len (.var 5)) .nil)))))) (.cons .never .nil) .nil)
  (.cons (.ife (.or (.not (.isi .tuple (.var 3))) (.cmp .Gt (.bi .len (.var 3)) (.glo g))) (.cons .never .nil) .nil) (.cons (.for_ (.tup (.cons (.nm 9) (.cons (.nm 4) .nil))) (.enum (.var 3)) (s_run1 ar)) (.cons (.par2 10 11 (.new (.disp .nil)) (.var 2)) (.cons (.for_ (.nm 4) (.of (.var 3)) (s_run ad ap)) (.cons (.ret (.tup (.cons (.bi .tuple (.var 10)) (.cons (.var 11) .nil)))) .nil))))))))
section
variable {t : T} {p : Int} {n m q : Nat} {a b c d : List (List Int)} {s : List Int} {us : List (List Int)} {h : Heap}
theorem run_1 {ad ap : Nat} {i : Nat} {o9 : Option Val} (h1 : Added t ad) (h2 : Applied t ap) (hp : p ∈ primes) (M : IsMach p n m q a b c d) (hs : s.length = n) (hu : IsM p m us) (hi : i < us.length) (hl : us.length ≤ 60) :
    denSs t h.length (s_run ad ap) [some (.int p), some (mach a b c d), some (tI s), some (tM us), some (tI (us.getD i [])), some (tM a), some (tM b), some (tM c), some (tM d), o9, some (.lst h.length), some (tI (stAt p a b s us i))] (h ++ [.lst ((outsM p a b c d s us i).map tI)]) =
      .nx [some (.int p), some (mach a b c d), some (tI s), some (tM us), some (tI (us.getD i [])), some (tM a), some (tM b), some (tM c), some (tM d), o9, some (.lst h.length), some (tI (stAt p a b s us (i + 1)))] (h ++ [.lst ((outsM p a b c d s us (i + 1)).map tI)]) := by
  have rp := pr_rng hp
  have sl := stAt_len (us := us) M hs i
  have ul : (us.getD i []).length = m := hu.wide _ (row_in hi).2
  rw [outs_succ]
  show _ = RS.nx [_, _, _, _, _, _, _, _, _, _, _, some (tI (stM p a b (stAt p a b s us i) (us.getD i [])))] _
  have hol : (outsM p a b c d s us i).length = i := outs_len
  generalize outsM p a b c d s us i = os at hol
  generalize stAt p a b s us i = x at sl ⊢
  generalize us.getD i [] = u at ul ⊢
  have n8 := M.n8
  have m4 := M.m4
  have q4 := M.q4
  have k1 := h2 p c x (h ++ [.lst (os.map tI)]) (by omega) rp.2 (by rw [sl]; exact M.cm) (by omega) (by rw [M.cl]; omega)
  have k2 := h2 p d u (h ++ [.lst (os.map tI)]) (by omega) rp.2 (by rw [ul]; exact M.dm) (by omega) (by rw [M.dl]; omega)
  have k3 := h1 p (appV2 p c x) (appV2 p d u) (h ++ [.lst (os.map tI)]) (by omega) (by rw [appV2_len, appV2_len, M.cl, M.dl]) (by rw [appV2_len, M.cl]; omega)
  have k4 := h2 p a x (h ++ [.lst ((os ++ [outM p c d x u]).map tI)]) (by omega) rp.2 (by rw [sl]; exact M.am) (by omega) (by rw [M.al]; omega)
  have k5 := h2 p b u (h ++ [.lst ((os ++ [outM p c d x u]).map tI)]) (by omega) rp.2 (by rw [ul]; exact M.bm) (by omega) (by rw [M.bl]; omega)
  have k6 := h1 p (appV2 p a x) (appV2 p b u) (h ++ [.lst ((os ++ [outM p c d x u]).map tI)]) (by omega) (by rw [appV2_len, appV2_len, M.al, M.bl]) (by rw [appV2_len, M.al]; omega)
  have k7 := app_app (h := h) (g := [.lst (os.map tI)]) (m := 0) (xs := os.map tI) (v := tI (outM p c d x u)) rfl (by rw [List.length_map]; omega)
  have e8 : (os ++ [outM p c d x u]).map tI = os.map tI ++ [tI (outM p c d x u)] := by rw [List.map_append]; rfl
  have il : isLst (h ++ [.lst (os.map tI)]) (.lst h.length) = true := by
    show (listAt (h ++ [.lst (os.map tI)]) h.length).isSome = true
    rw [listAt_app0]; rfl
  rw [e8] at k4 k5 k6 ⊢
  unfold s_run
  rw [r_cons, r_expr, v_app, v_var]
  simp only [get_s, get_0]
  rw [of_some, b_ok, il, if_pos (by rfl), v_call]
  simp only [x_cons, v_call, v_var, get_s, get_0, of_some, b_ok, x_nil, k1, k2, k3]
  rw [show tI (addV p (appV2 p c x) (appV2 p d u)) = tI (outM p c d x u) from rfl, show appV h.length (.lst h.length) (tI (outM p c d x u)) (h ++ [.lst (os.map tI)]) = _ from k7, then_ok, sq_nx, r_cons, r_nm, v_call]
  show ((((denX t h.length _ _ (h ++ [.lst (os.map tI ++ [tI (outM p c d x u)])])).bind _).then _ _).sq _) = _
  simp only [x_cons, v_call, v_var, get_s, get_0, of_some, b_ok, x_nil, k4, k5, k6, then_ok]
  rfl
theorem isM_one {w : Nat} {x : List Int} (hx : Rd p x) (hl : x.length = w) : IsM p w [x] := ⟨fun r hr => by rw [List.mem_singleton.mp hr]; exact hx, fun r hr => by rw [List.mem_singleton.mp hr]; exact hl⟩
theorem run_0 {ar : Nat} {i : Nat} {o9 : Option Val} {rest : Env} (h1 : AreRows t ar) (M : IsMach p n m q a b c d) (hu : IsM p m us) (hi : i < us.length) :
    denSs t h.length (s_run1 ar) (some (.int p) :: some (mach a b c d) :: some (tI s) :: some (tM us) :: some (tI (us.getD i [])) :: some (tM a) :: some (tM b) :: some (tM c) :: some (tM d) :: rest) h =
      .nx (some (.int p) :: some (mach a b c d) :: some (tI s) :: some (tM us) :: some (tI (us.getD i [])) :: some (tM a) :: some (tM b) :: some (tM c) :: some (tM d) :: rest) h := by
  have q1 := M.q1
  have dl := M.dl
  have m4 := M.m4
  have d0 := row_in (rows := d) (i := 0) (by omega)
  have w0 := M.dm.wide _ d0.2
  have e0 := idx_rows (x := tM d) (k := 0) (h := h) rfl (by omega)
  generalize d.getD 0 [] = d0' at e0 w0
  have ul := hu.wide _ (row_in hi).2
  have ur := hu.rd _ (row_in hi).2
  generalize us.getD i [] = u at ul ur ⊢
  have k := h1 p [u] m h (isM_one ur ul) (by omega) (by show 1 ≤ 1000; omega)
  have k' : t.call ar [.int p, .tup [tI u], .int 1, .int m] h = .ok (.bl true) h := k
  unfold s_run1
  rw [r_cons, r_ife, t_not, t_call, v_call]
  simp only [x_cons, v_tup, v_idx, v_bi, v_cst, v_var, get_s, get_0, of_some, b_ok, x_nil]
  rw [if_pos (by rfl), b_ok, show idxV (tM d) (.int 0) h = .ok (tI d0') h from e0]
  simp only [b_ok, bi_lenT, I_len, w0, k', tst_ok, tru_bl, of_some, Bool.not_true, then_ok, Bool.false_eq_true, if_false]
  rw [r_nil, sq_nx, r_nil]
theorem enum_loop {body : Val → Env → Heap → RS} (P : Nat → Env → Heap → Prop) (go : ∀ i env h, i < us.length → P i env h → ∃ env' h', body (.tup [.int i, tI (us.getD i [])]) env h = .nx env' h' ∧ P (i + 1) env' h') {env : Env} {h : Heap} (h0 : P 0 env h) : ∃ env' h', forL body (.enum (.vals (us.map tI))) us.length 0 env h = .nx env' h' ∧ P us.length env' h' := by
  refine forL_inv (val := fun i => .tup [.int i, tI (us.getD i [])]) P (fun i env h hi p => ⟨turn_enum (by rw [List.getElem?_map, (row_in hi).1]; rfl), go i env h hi p⟩) (fun env h _ => ?_) h0
  have := turn_enum_end (xs := us.map tI) (h := h)
  rw [List.length_map] at this
  exact this
theorem run_ok {t' : T} {i np nm ar g ad ap : Nat} (H : Has t' t i 4 8 (b_run np nm ar g ad ap)) (h0 : NeedPrime t np) (h3 : NeedMachine t nm) (h4 : AreRows t ar) (h1 : Added t ad) (h2 : Applied t ap) (hg : t.gl[g]? = some (.int 60)) : RunM t' i := fun p n m q a b c d s us h hp M hs hr hl hu => by
  rw [H _ _ rfl]
  unfold runB b_run
  have n8 := M.n8
  have f0 := h0 p h hp
  have f1 := h3 p n m q a b c d h M
  have f2 := h4 p [s] n h (isM_one hr hs) (by omega) (by show 1 ≤ 1000; omega)
  have f2' : t.call ar [.int p, .tup [tI s], .int 1, .int n] h = .ok (.bl true) h := f2
  have e60 : ¬ ((60 : Int) < (us.length : Int)) := by omega
  obtain ⟨env1, h1', e1, o9, o4, he1, hh1⟩ := enum_loop (us := us) (body := fun v env2 h2 => (denT t h.length (.tup (.cons (.nm 9) (.cons (.nm 4) .nil))) v env2 h2).then env2 fun env3 h3 => denSs t h.length (s_run1 ar) env3 h3)
    (fun i env h' => ∃ o9 o4, env = [some (.int p), some (mach a b c d), some (tI s), some (tM us), o4, some (tM a), some (tM b), some (tM c), some (tM d), o9, none, none] ∧ h' = h) (fun i env h' hi ⟨o9, o4, he, hh⟩ => by
      subst he hh
      have e := run_0 (t := t) (h := h') (s := s) (i := i) (o9 := none) (rest := [some (.int i), none, none]) h4 M hu hi
      refine ⟨_, _, ?_, some (.int i), some (tI (us.getD i [])), rfl, rfl⟩
      rw [g_tup, g_cons, g_nm, b_ok, g_cons, g_nm, b_ok, g_nil, then_ok]
      simp only [List.set]
      exact e) (env := [some (.int p), some (mach a b c d), some (tI s), some (tM us), none, some (tM a), some (tM b), some (tM c), some (tM d), none, none, none]) (h := h) ⟨none, none, rfl, rfl⟩
  subst he1 hh1
  obtain ⟨env', h', e, o4', he, hh⟩ := rows_loop (us := us) (body := fun v env2 h2 => (denT t h1'.length (.nm 4) v env2 h2).then env2 fun env3 h3 => denSs t h1'.length (s_run ad ap) env3 h3)
    (fun i env h' => ∃ o4, env = [some (.int p), some (mach a b c d), some (tI s), some (tM us), o4, some (tM a), some (tM b), some (tM c), some (tM d), o9, some (.lst h1'.length), some (tI (stAt p a b s us i))] ∧ h' = h1' ++ [.lst ((outsM p a b c d s us i).map tI)]) (fun i env h' hi ⟨o4, he, hh⟩ => by
      subst he hh
      have e := run_1 (t := t) (h := h1') (o9 := o9) h1 h2 hp M hs hu hi hl
      refine ⟨_, _, ?_, some (tI (us.getD i [])), rfl, rfl⟩
      rw [g_nm, then_ok]
      simp only [List.set]
      exact e) (env := [some (.int p), some (mach a b c d), some (tI s), some (tM us), o4, some (tM a), some (tM b), some (tM c), some (tM d), o9, some (.lst h1'.length), some (tI s)]) (h := h1' ++ [.lst []]) ⟨o4, rfl, rfl⟩
  subst he hh
  simp only [List.map_cons, List.map_nil, List.cons_append, List.nil_append, List.replicate]
  rw [r_cons, r_expr, v_call, x_cons, v_var, get_0, of_some, b_ok, x_nil, b_ok, b_ok, f0, then_ok, sq_nx]
  rw [r_cons, r_expr, v_call, x_cons, v_var, get_0, of_some, b_ok, x_cons, v_var, get_s, get_0, of_some, b_ok, x_nil, b_ok, b_ok, b_ok, f1, then_ok, sq_nx]
  rw [r_cons, r_asg, v_var, get_s, get_0, of_some, then_ok, g_mach, g_cons, g_nm, b_ok, g_cons, g_nm, b_ok, g_cons, g_nm, b_ok, g_cons, g_nm, b_ok, g_nil, then_ok, sq_nx]
  simp only [List.set]
  rw [r_cons, r_ife, t_not, t_call, v_call]
  simp only [x_cons, v_tup, v_bi, v_cst, v_var, get_s, get_0, of_some, b_ok, x_nil]
  rw [if_pos (by rfl), b_ok]
  simp only [b_ok, bi_lenT, List.length_map, M.al, f2', tst_ok, tru_bl, of_some, Bool.not_true, then_ok, Bool.false_eq_true, if_false]
  rw [r_nil, sq_nx, r_cons, r_ife]
  simp only [t_or, t_not, t_isi, v_isi, t_cmp, v_cmp, v_glo, hg, v_bi, v_var, get_s, get_0, of_some, b_ok, ib_tup, tyT, bi_lenT, List.length_map, c_gt, e60, decide_false, tst_ok, tru_bl, Bool.not_true, then_ok, Bool.false_eq_true, if_false]
  rw [r_nil, sq_nx, r_cons, r_for, i_enum, v_var, get_s, get_s, get_s, get_0, of_some, b_ok, iterOf_tup, then_ok, show (Iter.enum (.vals (us.map tI))).len h1' = us.length from List.length_map _]
  rw [e1, sq_nx]
  rw [r_cons, r_par2, v_new, l_disp, x_nil, b_ok, if_pos (by rfl), b_ok, new_app, then_ok, v_var, get_s, get_s, get_0, of_some, then_ok, sq_nx]
  simp only [List.set]
  rw [r_cons, r_for, i_of, v_var, get_s, get_s, get_s, get_0, of_some, b_ok, iterOf_tup, then_ok, show (Iter.one (.vals (us.map tI))).len (h1' ++ [.lst []]) = us.length from List.length_map _]
  rw [e, sq_nx, r_cons, r_ret, v_tup, x_cons, v_bi, v_var]
  simp only [get_s, get_0]
  rw [of_some, b_ok, bi_tupL (xs := (outsM p a b c d s us us.length).map tI) (by rw [listAt_app0]; rfl), b_ok, x_cons, v_var]
  simp only [get_s, get_0]
  rw [of_some, b_ok, x_nil, b_ok, b_ok, b_ok, if_pos (by rfl), then_ok, sq_ret]
  exact leave_more bel_run
end
end Y

set_option Elab.async false
set_option linter.all false
set_option maxRecDepth 100000
set_option maxHeartbeats 4000000
/-! LinM: machines are linear. No program in sight. -/
namespace Y
theorem addV_co {p : Int} {a b : List Int} {k : Nat} (h : b.length = a.length) : co (addV p a b) k = (co a k + co b k) % p := by
  unfold addV
  rw [co_range]
  split
  · rfl
  · rw [co_ge (l := a) (by omega), co_ge (l := b) (by omega)]; simp
theorem appV2_co {p : Int} {rows : List (List Int)} {x : List Int} {k : Nat} (hk : k < rows.length) : co (appV2 p rows x) k = dotV (rows.getD k []) x % p := by
  have : (appV2 p rows x)[k]? = some (dotV (rows.getD k []) x % p) := by
    unfold appV2
    rw [List.getElem?_map, (row_in hk).1]; rfl
  rw [co_at (by rw [appV2_len]; exact hk)] at this
  exact Option.some.inj this
theorem dot_add {p : Int} {r x y : List Int} (h : y.length = x.length) : cg p (dotV r (addV p x y)) (dotV r x + dotV r y) := by
  unfold dotV
  rw [← sm_add]
  refine sm_cg fun i _ => ?_
  rw [addV_co h]
  refine cg_trans (cg_mul (cg_refl p (co r i)) (cg_mod p _)) ?_
  exact ⟨0, by grind⟩
theorem app_add {p : Int} {rows : List (List Int)} {x y : List Int} (h : y.length = x.length) : appV2 p rows (addV p x y) = addV p (appV2 p rows x) (appV2 p rows y) := by
  refine co_ext (by rw [addV_len, appV2_len, appV2_len]) fun k => ?_
  rw [addV_co (by rw [appV2_len, appV2_len])]
  by_cases hk : k < rows.length
  · rw [appV2_co hk, appV2_co hk, appV2_co hk]
    exact cg_eq (cg_trans (dot_add h) (cg_add (cg_symm (cg_mod _ _)) (cg_symm (cg_mod _ _))))
  · rw [co_ge (by rw [appV2_len]; omega), co_ge (l := appV2 p rows x) (by rw [appV2_len]; omega), co_ge (l := appV2 p rows y) (by rw [appV2_len]; omega)]; simp
theorem add_swap {p : Int} {a b c d : List Int} (h1 : b.length = a.length) (h2 : c.length = a.length) (h3 : d.length = a.length) : addV p (addV p a b) (addV p c d) = addV p (addV p a c) (addV p b d) := by
  refine co_ext (by rw [addV_len, addV_len, addV_len, addV_len]) fun k => ?_
  rw [addV_co (by rw [addV_len, addV_len]; omega), addV_co h1, addV_co (by omega), addV_co (by rw [addV_len, addV_len]; omega), addV_co h2, addV_co (by omega)]
  refine cg_eq (cg_trans (cg_add (cg_mod _ _) (cg_mod _ _)) (cg_symm (cg_trans (cg_add (cg_mod _ _) (cg_mod _ _)) ?_)))
  exact ⟨0, by omega⟩
section
variable {p : Int} {n m q : Nat} {a b c d : List (List Int)} {s z : List Int} {us vs ws : List (List Int)}
/-- states of a sum -/
theorem st_add (M : IsMach p n m q a b c d) (hs : s.length = n) (hz : z.length = n) (hw : ∀ i, i < us.length → ws.getD i [] = addV p (us.getD i []) (vs.getD i [])) (hl : ∀ i, i < us.length → (us.getD i []).length = m ∧ (vs.getD i []).length = m) (e0 : addV p s z = s) :
    ∀ i, i ≤ us.length → stAt p a b s ws i = addV p (stAt p a b s vs i) (stAt p a b z us i)
  | 0, _ => e0.symm
  | i + 1, hi => by
    have ih := st_add M hs hz hw hl e0 i (by omega)
    obtain ⟨l1, l2⟩ := hl i (by omega)
    have s1 := stAt_len (us := vs) M hs i
    have s2 := stAt_len (us := us) M hz i
    show addV p (appV2 p a (stAt p a b s ws i)) (appV2 p b (ws.getD i [])) = addV p (addV p (appV2 p a (stAt p a b s vs i)) (appV2 p b (vs.getD i []))) (addV p (appV2 p a (stAt p a b z us i)) (appV2 p b (us.getD i [])))
    have ec : addV p (us.getD i []) (vs.getD i []) = addV p (vs.getD i []) (us.getD i []) := by
      refine co_ext (by rw [addV_len, addV_len]; omega) fun k => ?_
      rw [addV_co (by omega), addV_co (by omega), Int.add_comm]
    rw [ih, hw i (by omega), ec, app_add (by omega), app_add (by omega), add_swap]
    all_goals simp only [appV2_len, M.al, M.bl]
theorem outs_add (M : IsMach p n m q a b c d) (hs : s.length = n) (hz : z.length = n) (hw : ∀ i, i < us.length → ws.getD i [] = addV p (us.getD i []) (vs.getD i [])) (hl : ∀ i, i < us.length → (us.getD i []).length = m ∧ (vs.getD i []).length = m) (e0 : addV p s z = s) {i : Nat} (hi : i < us.length) :
    outM p c d (stAt p a b s ws i) (ws.getD i []) = addV p (outM p c d (stAt p a b s vs i) (vs.getD i [])) (outM p c d (stAt p a b z us i) (us.getD i [])) := by
  have ih := st_add M hs hz hw hl e0 i (by omega)
  obtain ⟨l1, l2⟩ := hl i hi
  have s1 := stAt_len (us := vs) M hs i
  have s2 := stAt_len (us := us) M hz i
  have ec : addV p (us.getD i []) (vs.getD i []) = addV p (vs.getD i []) (us.getD i []) := by
    refine co_ext (by rw [addV_len, addV_len]; omega) fun k => ?_
    rw [addV_co (by omega), addV_co (by omega), Int.add_comm]
  unfold outM
  rw [ih, hw i hi, ec, app_add (by omega), app_add (by omega), add_swap]
  all_goals simp only [appV2_len, M.cl, M.dl]
/-- a run cut in two -/
theorem st_cut : ∀ (i j : Nat), stAt p a b s us (i + j) = stAt p a b (stAt p a b s us i) (us.drop i) j
  | i, 0 => rfl
  | i, j + 1 => by
    show stM p a b (stAt p a b s us (i + j)) (us.getD (i + j) []) = stM p a b (stAt p a b (stAt p a b s us i) (us.drop i) j) ((us.drop i).getD j [])
    rw [st_cut i j]
    congr 1
    rw [List.getD_eq_getElem?_getD, List.getD_eq_getElem?_getD, List.getElem?_drop]
end
end Y

set_option Elab.async false
set_option linter.all false
set_option maxRecDepth 100000
set_option maxHeartbeats 4000000
/-! Fm5: drawn rows. -/
namespace Y
open PySem
/-- tuple([taken(row, p) for .. in range(wide)]): v the slots, r p w those of the row, the prime, the bound -/
def e_vec (tk v r pp : Nat) (it : It) : Ex := .biL .tuple (.lc [v] (.nm v) it .none (.call tk (.cons (.var r) (.cons (.var pp) .nil))))
theorem vec_ok {t : T} {b tk v r pp n : Nat} {it : It} {env : Env} {ns : List Int} {h : Heap} {a : Nat} {i sd rs p : Int} (h1 : Taken t tk) (B : RowB ns h a) (hi : 0 ≤ i) (hp : 2 ≤ p) (hp2 : p < 1073741824) (hn : n ≤ 1000)
    (hit : denI t b it env (rowH h a i sd rs) = .ok (.one (.vals (upTo n 0))) (rowH h a i sd rs))
    (hr : ∀ x, Env.get ((wipe env [v]).set v (some x)) r = some (.lst a)) (hq : ∀ x, Env.get ((wipe env [v]).set v (some x)) pp = some (.int p)) :
    ∃ (xs : List Int) (i' sd' rs' : Int), Rd p xs ∧ xs.length = n ∧ 0 ≤ i' ∧ (den t b (e_vec tk v r pp it)).v env (rowH h a i sd rs) = .ok (tI xs) (rowH h a i' sd' rs') := by
  obtain ⟨out, h', e2, i2, sd2, rs2, xs, hi2, hh, ho, hl, hx⟩ := lcL_inv (it := .one (.vals (upTo n 0))) (n := n) (val := fun i => .int i) (elt := fun x h2 => (denT t b (.nm v) x (wipe env [v]) h2).bind fun env2 h3 => ((den t b (.call tk (.cons (.var r) (.cons (.var pp) .nil)))).v env2 h3).bind fun x h4 => .ok (some x) h4)
    (fun j h' acc => ∃ (i2 sd2 rs2 : Int) (xs : List Int), 0 ≤ i2 ∧ h' = rowH h a i2 sd2 rs2 ∧ acc = I xs ∧ xs.length = j ∧ ∀ x ∈ xs, 0 ≤ x ∧ x < p) (fun j h' acc hj ⟨i2, sd2, rs2, xs, hi2, hh, ho, hl, hx⟩ => by
      subst hh ho
      obtain ⟨y, i3, sd3, rs3, y1, y2, y3, e3⟩ := h1 ns h a i2 sd2 rs2 p B hi2 (by omega) hp2
      refine ⟨turn_up hj, .int y, rowH h a i3 sd3 rs3, ?_, i3, sd3, rs3, xs ++ [y], y3, rfl, ?_, ?_, ?_⟩
      · rw [g_nm, b_ok, v_call, x_cons, v_var, hr, of_some, b_ok, x_cons, v_var, hq, of_some, b_ok, x_nil, b_ok, b_ok, b_ok, e3, b_ok]
      · unfold I; rw [List.map_append]; rfl
      · rw [List.length_append, hl]; rfl
      · intro x hx'
        rcases List.mem_append.mp hx' with hx' | hx'
        · exact hx x hx'
        · rw [List.mem_singleton.mp hx']; exact ⟨y1, y2⟩) (fun _ _ _ => turn_up_end) (h := rowH h a i sd rs) ⟨i, sd, rs, [], hi, rfl, rfl, rfl, fun x hx => by cases hx⟩
  subst hh ho
  refine ⟨xs, i2, sd2, rs2, fun k => ?_, hl, hi2, ?_⟩
  · by_cases hk : k < xs.length
    · exact hx _ (List.mem_of_getElem? (co_at hk))
    · rw [co_ge (by omega)]; omega
  · unfold e_vec
    rw [v_biL, l_lc0, hit, b_ok, len_up, e2, b_ok, if_pos (isLen_lit (by rw [I_len]; omega)), b_ok]
    rfl
/-- n such vectors, each of w numbers -/
theorem vecs_ok {t : T} {b tk v r pp u n w : Nat} {it it2 : It} {env : Env} {ns : List Int} {h : Heap} {a : Nat} {i sd rs p : Int} {val : Nat → Val} {I0 : Iter} {H0 : Heap} (h1 : Taken t tk) (B : RowB ns h a) (hi : 0 ≤ i) (hp : 2 ≤ p) (hp2 : p < 1073741824) (hn : n ≤ 1000) (hw : w ≤ 1000)
    (hit : denI t b it2 env H0 = .ok I0 (rowH h a i sd rs)) (hlen : ∀ g, I0.len g = n) (hturn : ∀ j g, j < n → I0.turn j g = some (some (val j))) (hend : ∀ g, I0.turn n g = some none)
    (hin : ∀ x i sd rs, denI t b it ((wipe env [u]).set u (some x)) (rowH h a i sd rs) = .ok (.one (.vals (upTo w 0))) (rowH h a i sd rs))
    (hr : ∀ x y, Env.get ((wipe ((wipe env [u]).set u (some y)) [v]).set v (some x)) r = some (.lst a)) (hq : ∀ x y, Env.get ((wipe ((wipe env [u]).set u (some y)) [v]).set v (some x)) pp = some (.int p)) :
    ∃ (rows : List (List Int)) (i' sd' rs' : Int), IsM p w rows ∧ rows.length = n ∧ 0 ≤ i' ∧ (den t b (.biL .tuple (.lc [u] (.nm u) it2 .none (e_vec tk v r pp it)))).v env H0 = .ok (tM rows) (rowH h a i' sd' rs') := by
  obtain ⟨out, h', e2, i2, sd2, rs2, rows, hi2, hh, ho, hl, hx⟩ := lcL_inv (it := I0) (n := n) (val := val) (elt := fun x h2 => (denT t b (.nm u) x (wipe env [u]) h2).bind fun env2 h3 => ((den t b (e_vec tk v r pp it)).v env2 h3).bind fun x h4 => .ok (some x) h4)
    (fun j h' acc => ∃ (i2 sd2 rs2 : Int) (rows : List (List Int)), 0 ≤ i2 ∧ h' = rowH h a i2 sd2 rs2 ∧ acc = rows.map tI ∧ rows.length = j ∧ ∀ x ∈ rows, Rd p x ∧ x.length = w) (fun j h' acc hj ⟨i2, sd2, rs2, rows, hi2, hh, ho, hl, hx⟩ => by
      subst hh ho
      obtain ⟨xs, i3, sd3, rs3, y1, y2, y3, e3⟩ := vec_ok (t := t) (b := b) (it := it) (env := (wipe env [u]).set u (some (val j))) (i := i2) (sd := sd2) (rs := rs2) h1 B hi2 hp hp2 hw (hin _ _ _ _) (fun x => hr x _) (fun x => hq x _)
      refine ⟨hturn j _ hj, tI xs, rowH h a i3 sd3 rs3, ?_, i3, sd3, rs3, rows ++ [xs], y3, rfl, ?_, ?_, ?_⟩
      · rw [g_nm, b_ok, e3, b_ok]
      · rw [List.map_append]; rfl
      · rw [List.length_append, hl]; rfl
      · intro x hx'
        rcases List.mem_append.mp hx' with hx' | hx'
        · exact hx x hx'
        · rw [List.mem_singleton.mp hx']; exact ⟨y1, y2⟩) (fun _ _ _ => hend _) (h := rowH h a i sd rs) ⟨i, sd, rs, [], hi, rfl, rfl, rfl, fun x hx => by cases hx⟩
  subst hh ho
  refine ⟨rows, i2, sd2, rs2, ⟨fun r hr => (hx r hr).1, fun r hr => (hx r hr).2⟩, hl, hi2, ?_⟩
  rw [v_biL, l_lc0, hit, b_ok, hlen, e2, b_ok, if_pos (isLen_lit (by rw [List.length_map]; omega)), b_ok]
  rfl
end Y

set_option Elab.async false
set_option linter.all false
set_option maxRecDepth 100000
set_option maxHeartbeats 4000000
/-! Fm6: the law's matrix. -/
namespace Y
open PySem
def b_lmatrix (tk : Nat) : Sts := .cons (.ret (.biL .tuple (.lc [4] (.nm 4) (.r1 (.var 2)) .none (e_vec tk 5 0 1 (.r1 (.var 3)))))) .nil
def MatrixL (t : T) (f : Nat) : Prop := ∀ (ns : List Int) (h : Heap) (a : Nat) (i sd rs p : Int) (n w : Nat), RowB ns h a → 0 ≤ i → 2 ≤ p → p < 1073741824 → n ≤ 1000 → w ≤ 1000 →
  ∃ (rows : List (List Int)) (i' sd' rs' : Int), IsM p w rows ∧ rows.length = n ∧ 0 ≤ i' ∧ t.call f [.lst a, .int p, .int n, .int w] (rowH h a i sd rs) = .ok (tM rows) (rowH h a i' sd' rs')
theorem leave_rowV {h : Heap} {a : Nat} {i sd rs i' sd' rs' : Int} {v : Val} (hv : ∀ n, below n v = true) : leave (rowH h a i sd rs).length (.ret v (rowH h a i' sd' rs')) = .ok v (rowH h a i' sd' rs') := by
  rw [leave_ret (hv _), row_len, ← row_len (h := h) (a := a) (i := i') (sd := sd') (rs := rs'), List.take_length]
theorem lmatrix_ok {t' t : T} {f tk : Nat} (H : Has t' t f 4 2 (b_lmatrix tk)) (h1 : Taken t tk) : MatrixL t' f := fun ns h a i sd rs p n w B hi hp hp2 hn hw => by
  obtain ⟨rows, i', sd', rs', x1, x2, x3, e⟩ := vecs_ok (t := t) (b := (rowH h a i sd rs).length) (tk := tk) (v := 5) (r := 0) (pp := 1) (u := 4) (n := n) (w := w) (it := .r1 (.var 3)) (it2 := .r1 (.var 2)) (env := [some (.lst a), some (.int p), some (.int n), some (.int w), none, none]) (ns := ns) (h := h) (a := a) (i := i) (sd := sd) (rs := rs) (p := p) (val := fun j => .int j) (I0 := .one (.vals (upTo n 0))) (H0 := rowH h a i sd rs) h1 B hi hp hp2 hn hw
    (by rw [i_r1, v_var, get_s, get_s, get_0, of_some, b_ok, intK_int, rangeN (by omega)]) (fun _ => len_up) (fun j g hj => turn_up hj) (fun g => turn_up_end)
    (fun x i sd rs => by
      show denI t _ (.r1 (.var 3)) [some (.lst a), some (.int p), some (.int n), some (.int w), some x, none] _ = _
      rw [i_r1, v_var, get_s, get_s, get_s, get_0, of_some, b_ok, intK_int, rangeN (by omega)]) (fun _ _ => rfl) (fun _ _ => rfl)
  refine ⟨rows, i', sd', rs', x1, x2, x3, ?_⟩
  rw [H _ _ rfl]
  unfold runB b_lmatrix
  simp only [List.map_cons, List.map_nil, List.cons_append, List.nil_append, List.replicate]
  rw [r_cons, r_ret, e, then_ok, sq_ret]
  exact leave_rowV fun _ => bel_rows rows
end Y

set_option Elab.async false
set_option linter.all false
set_option maxRecDepth 100000
set_option maxHeartbeats 4000000
/-! Fm7: the law's machine. -/
namespace Y
open PySem
def e_last : Ex := .bin .Add (.sl (.var 8) .none (.some (.neg (.cst (.int 1))))) (.tup (.cons (.bin .Mult (.tup (.cons (.cst (.int 0)) .nil)) (.var 5)) .nil))
def e_first : Ex := .biL .tuple (.lc [10] (.nm 10) (.of (.var 9)) .none (.bin .Add (.tup (.cons (.cst (.int 0)) .nil)) (.sl (.var 10) (.some (.cst (.int 1))) .none)))
theorem zeros_ok {m : Nat} {h : Heap} (hm : m ≤ 1000) : binV .Mult (.tup [.int 0]) (.int m) h = .ok (tI (List.replicate m 0)) h := by
  show (if Nat.ble 1 1000 && (decide (-1000 ≤ (m : Int)) && decide ((m : Int) ≤ 1000)) then R.ok (Val.tup (List.replicate (m : Int).toNat [Val.int 0]).flatten) h else .bad) = _
  rw [decide_eq_true (by omega), decide_eq_true (by omega), Int.toNat_natCast, flat_rep]
  show R.ok (Val.tup (List.replicate m (Val.int 0))) h = _
  unfold tI I
  rw [List.map_replicate]
theorem cat_ok {xs ys : List Val} {h : Heap} (hl : xs.length + ys.length ≤ 16777216) : binV .Add (.tup xs) (.tup ys) h = .ok (.tup (xs ++ ys)) h := by
  show (if isLen (xs.length + ys.length) then R.ok (Val.tup (xs ++ ys)) h else .bad) = _
  rw [isLen_lit hl]; rfl
theorem last_ok {t : T} {b m : Nat} {env : Env} {h : Heap} {rows : List (List Int)} (h8 : env.get 8 = some (tM rows)) (h5 : env.get 5 = some (.int (m : Int))) (hm : m ≤ 1000) (hl : rows.length ≤ 1000) :
    (den t b e_last).v env h = .ok (tM (rows.take (rows.length - 1) ++ [List.replicate m 0])) h := by
  unfold e_last
  have e1 : slV (tM rows) none (some (-1)) h = .ok (tM (rows.take (rows.length - 1))) h := by
    show R.ok (Val.tup (((rows.map tI).drop 0).take ((rows.map tI).length - (0 + 1) - 0))) h = _
    rw [List.drop_zero, List.length_map, Nat.sub_zero, Nat.zero_add, ← List.map_take]
  rw [v_bin, v_sl, v_var, h8, of_some, b_ok, o_none, b_ok, asInt_none, o_some, v_neg, v_cst, b_ok, a_neg, b_ok, b_ok, asInt_int, e1, b_ok, v_tup, x_cons, v_bin, v_tup, x_cons, v_cst, b_ok, x_nil, b_ok, b_ok, if_pos (by rfl), b_ok, v_var, h5, of_some, b_ok, zeros_ok hm, b_ok, x_nil, b_ok, b_ok, if_pos (by rfl), b_ok, cat_ok (by rw [List.length_map, List.length_take]; show _ + 1 ≤ _; omega)]
  show _ = R.ok (Val.tup ((rows.take (rows.length - 1) ++ [List.replicate m 0]).map tI)) h
  rw [List.map_append]; rfl
theorem first_ok {t : T} {b : Nat} {env : Env} {h : Heap} {rows : List (List Int)} (h9 : env.get 9 = some (tM rows)) (hg : ∀ x, Env.get ((wipe env [10]).set 10 (some x)) 10 = some x) (hw : ∀ r ∈ rows, r.length ≤ 1000) (hl : rows.length ≤ 1000) :
    (den t b e_first).v env h = .ok (tM (rows.map fun r => 0 :: r.drop 1)) h := by
  unfold e_first
  have ll : (rows.map tI).length = rows.length := List.length_map _
  rw [v_biL, l_lc0, i_of, v_var, h9, of_some, b_ok, iterOf_tup, b_ok, show (Iter.one (.vals (rows.map tI))).len h = rows.length from ll]
  rw [lcL_map (n := rows.length) (val := fun i => tI (rows.getD i [])) (out := fun i => tI (0 :: (rows.getD i []).drop 1)) (fun i hi => ⟨turn_vals (by rw [List.getElem?_map, (row_in hi).1]; rfl), by
    have hr := (row_in hi).2
    generalize rows.getD i [] = r at hr ⊢
    have lr := hw r hr
    have e1 : slV (tI r) (some 1) none h = .ok (tI (r.drop 1)) h := by
      show R.ok (Val.tup (((I r).drop (min 1 (I r).length)).take ((I r).length - min 1 (I r).length))) h = _
      have e2 : ((I r).drop (min 1 (I r).length)).take ((I r).length - min 1 (I r).length) = I (r.drop 1) := by
        rw [List.take_of_length_le (by rw [List.length_drop]; exact Nat.le_refl _)]
        cases r with
        | nil => rfl
        | cons x r =>
          show (I (x :: r)).drop (min 1 ((I r).length + 1)) = _
          rw [Nat.min_eq_left (by omega)]; rfl
      rw [e2]
    rw [g_nm, b_ok, v_bin, v_tup, x_cons, v_cst, b_ok, x_nil, b_ok, b_ok, if_pos (by rfl), b_ok, v_sl, v_var, hg, of_some, b_ok, o_some, v_cst, b_ok, b_ok, asInt_int, o_none, b_ok, asInt_none, e1, b_ok, cat_ok (by rw [I_len, List.length_drop]; show 1 + _ ≤ _; omega), b_ok]
    rfl⟩) (by have := turn_end (xs := rows.map tI) (h := h); rwa [ll] at this)]
  have eo : (List.range rows.length).map (fun i => tI (0 :: (rows.getD i []).drop 1)) = (rows.map fun r => 0 :: r.drop 1).map tI := by
    refine List.ext_getElem? fun i => ?_
    rw [List.getElem?_map, List.getElem?_map, List.getElem?_map]
    by_cases hi : i < rows.length
    · rw [List.getElem?_range hi, (row_in hi).1]; rfl
    · rw [List.getElem?_eq_none (by simpa using Nat.le_of_not_lt hi), List.getElem?_eq_none (by omega)]; rfl
  rw [eo, b_ok, if_pos (isLen_lit (by simp; omega)), b_ok]
  rfl
end Y

set_option Elab.async false
set_option linter.all false
set_option maxRecDepth 100000
set_option maxHeartbeats 4000000
/-! Fm8: the law's machine. -/
namespace Y
open PySem
def e_may (tk : Nat) : Ex := .and (.cmp .Eq (.call tk (.cons (.var 0) (.cons (.cst (.int 3)) .nil))) (.cst (.int 0))) (.cmp .Gt (.var 4) (.cst (.int 0)))
def s_last (tk : Nat) : St := .ife (e_may tk) (.cons (.asg (.nm 8) e_last) .nil) .nil
def s_first (tk : Nat) : St := .ife (e_may tk) (.cons (.asg (.nm 9) e_first) .nil) .nil
def b_lmachine (tk mx : Nat) : Sts := .cons (.par3 4 5 6 (.call tk (.cons (.var 0) (.cons (.bin .Add (.var 2) (.cst (.int 1))) .nil))) (.bin .Add (.cst (.int 1)) (.call tk (.cons (.var 0) (.cons (.var 3) .nil)))) (.bin .Add (.cst (.int 1)) (.call tk (.cons (.var 0) (.cons (.var 3) .nil))))) (.cons (.par3 7 8 9 (.call mx (.cons (.var 0) (.cons (.var 1) (.cons (.var 4) (.cons (.var 4) .nil))))) (.call mx (.cons (.var 0) (.cons (.var 1) (.cons (.var 4) (.cons (.var 5) .nil))))) (.call mx (.cons (.var 0) (.cons (.var 1) (.cons (.var 6) (.cons (.var 4) .nil)))))) (.cons (s_last tk) (.cons (s_first tk) (.cons (.ret (.tup (.cons (.var 7) (.cons (.var 8) (.cons (.var 9) (.cons (.call mx (.cons (.var 0) (.cons (.var 1) (.cons (.var 6) (.cons (.var 5) .nil))))) .nil)))))) .nil))))
def MachL (t : T) (f : Nat) : Prop := ∀ (ns : List Int) (h : Heap) (at' : Nat) (i sd rs p : Int) (mn mm : Nat), RowB ns h at' → 0 ≤ i → 2 ≤ p → p < 1073741824 → mn ≤ 8 → 1 ≤ mm → mm ≤ 4 →
  ∃ (n m q : Nat) (a b c d : List (List Int)) (i' sd' rs' : Int), IsMach p n m q a b c d ∧ 0 ≤ i' ∧ t.call f [.lst at', .int p, .int mn, .int mm] (rowH h at' i sd rs) = .ok (mach a b c d) (rowH h at' i' sd' rs')
section
variable {t : T} {b0 tk : Nat} {ns : List Int} {h : Heap} {at' : Nat} {p : Int} {n m q : Nat} {a b c : List (List Int)} {o2 o3 : Option Val}
theorem may_ok {i sd rs : Int} (h1 : Taken t tk) (B : RowB ns h at') (hi : 0 ≤ i) {env : Env} (e0 : env.get 0 = some (.lst at')) (e4 : env.get 4 = some (.int (n : Int))) :
    ∃ (k : Bool) (i' sd' rs' : Int), 0 ≤ i' ∧ (k = true → 0 < n) ∧ (den t b0 (e_may tk)).t env (rowH h at' i sd rs) = .ok k (rowH h at' i' sd' rs') := by
  obtain ⟨r, i', sd', rs', _, _, x3, e⟩ := h1 ns h at' i sd rs 3 B hi (by omega) (by omega)
  unfold e_may
  rw [t_and, t_cmp, v_cmp, v_call, x_cons, v_var, e0, of_some, b_ok, x_cons, v_cst, b_ok, x_nil, b_ok, b_ok, b_ok, e, b_ok, v_cst, b_ok, c_eqI, tst_ok, tru_bl, of_some, b_ok]
  by_cases hr : r = 0
  · refine ⟨decide ((0 : Int) < n), i', sd', rs', x3, (fun k => by have := of_decide_eq_true k; omega), ?_⟩
    rw [decide_eq_true hr, if_pos (by rfl), t_cmp, v_cmp, v_var, e4, of_some, b_ok, v_cst, b_ok, c_gt, tst_ok, tru_bl, of_some]
  · refine ⟨false, i', sd', rs', x3, (fun k => by cases k), ?_⟩
    rw [decide_eq_false hr, if_neg (by decide)]
theorem isM_last (hp : 0 < p) (hb : IsM p m b) : IsM p m (b.take (b.length - 1) ++ [List.replicate m 0]) := by
  refine ⟨fun r hr => ?_, fun r hr => ?_⟩
  · rcases List.mem_append.mp hr with hr | hr
    · exact hb.rd r (List.mem_of_mem_take hr)
    · rw [List.mem_singleton.mp hr]
      intro k
      have : co (List.replicate m 0) k = 0 := by
        unfold co
        rw [List.getD_eq_getElem?_getD, List.getElem?_replicate]
        split <;> rfl
      omega
  · rcases List.mem_append.mp hr with hr | hr
    · exact hb.wide r (List.mem_of_mem_take hr)
    · rw [List.mem_singleton.mp hr, List.length_replicate]
theorem isM_first (hp : 0 < p) (hn : 0 < n) (hc : IsM p n c) : IsM p n (c.map fun r => 0 :: r.drop 1) := by
  refine ⟨fun r hr => ?_, fun r hr => ?_⟩
  · obtain ⟨x, hx, rfl⟩ := List.mem_map.mp hr
    have w := hc.wide x hx
    have k := hc.rd x hx
    cases x with
    | nil => simp at w; omega
    | cons y x =>
      intro j
      cases j with
      | zero => show 0 ≤ (0 : Int) ∧ (0 : Int) < p; omega
      | succ j => exact k (j + 1)
  · obtain ⟨x, hx, rfl⟩ := List.mem_map.mp hr
    have w := hc.wide x hx
    rw [List.length_cons, List.length_drop]; omega
theorem slast_ok {i sd rs : Int} (h1 : Taken t tk) (B : RowB ns h at') (hi : 0 ≤ i) (hp : 0 < p) (hb : IsM p m b) (hl : b.length = n) (hm : m ≤ 1000) (hn : n ≤ 1000) :
    ∃ (b' : List (List Int)) (i' sd' rs' : Int), IsM p m b' ∧ b'.length = n ∧ 0 ≤ i' ∧ denS t b0 (s_last tk) [some (.lst at'), some (.int p), o2, o3, some (.int n), some (.int m), some (.int q), some (tM a), some (tM b), some (tM c), none] (rowH h at' i sd rs) =
      .nx [some (.lst at'), some (.int p), o2, o3, some (.int n), some (.int m), some (.int q), some (tM a), some (tM b'), some (tM c), none] (rowH h at' i' sd' rs') := by
  obtain ⟨k, i', sd', rs', x1, x2, e⟩ := may_ok (b0 := b0) (n := n) (i := i) (sd := sd) (rs := rs) h1 B hi (env := [some (.lst at'), some (.int p), o2, o3, some (.int n), some (.int m), some (.int q), some (tM a), some (tM b), some (tM c), none]) rfl rfl
  unfold s_last
  cases k with
  | false =>
    refine ⟨b, i', sd', rs', hb, hl, x1, ?_⟩
    rw [r_ife, e, then_ok, if_neg (by decide), r_nil]
  | true =>
    have n0 := x2 rfl
    refine ⟨b.take (b.length - 1) ++ [List.replicate m 0], i', sd', rs', isM_last hp hb, ?_, x1, ?_⟩
    · rw [List.length_append, List.length_take]; show _ + 1 = _; omega
    · rw [r_ife, e, then_ok, if_pos (by rfl), r_cons, r_asg, last_ok (rows := b) (m := m) rfl rfl hm (by omega), then_ok, g_nm, then_ok, sq_nx, r_nil]
      rfl
theorem sfirst_ok {i sd rs : Int} (h1 : Taken t tk) (B : RowB ns h at') (hi : 0 ≤ i) (hp : 0 < p) (hc : IsM p n c) (hl : c.length = q) (hq : q ≤ 1000) (hn : n ≤ 1000) :
    ∃ (c' : List (List Int)) (i' sd' rs' : Int), IsM p n c' ∧ c'.length = q ∧ 0 ≤ i' ∧ denS t b0 (s_first tk) [some (.lst at'), some (.int p), o2, o3, some (.int n), some (.int m), some (.int q), some (tM a), some (tM b), some (tM c), none] (rowH h at' i sd rs) =
      .nx [some (.lst at'), some (.int p), o2, o3, some (.int n), some (.int m), some (.int q), some (tM a), some (tM b), some (tM c'), none] (rowH h at' i' sd' rs') := by
  obtain ⟨k, i', sd', rs', x1, x2, e⟩ := may_ok (b0 := b0) (n := n) (i := i) (sd := sd) (rs := rs) h1 B hi (env := [some (.lst at'), some (.int p), o2, o3, some (.int n), some (.int m), some (.int q), some (tM a), some (tM b), some (tM c), none]) rfl rfl
  unfold s_first
  cases k with
  | false =>
    refine ⟨c, i', sd', rs', hc, hl, x1, ?_⟩
    rw [r_ife, e, then_ok, if_neg (by decide), r_nil]
  | true =>
    have n0 := x2 rfl
    refine ⟨c.map fun r => 0 :: r.drop 1, i', sd', rs', isM_first hp n0 hc, by rw [List.length_map, hl], x1, ?_⟩
    rw [r_ife, e, then_ok, if_pos (by rfl), r_cons, r_asg, first_ok (rows := c) rfl (fun _ => rfl) (fun r hr => by rw [hc.wide r hr]; exact hn) (by omega), then_ok, g_nm, then_ok, sq_nx, r_nil]
    rfl
end
theorem bel_mach {n : Nat} {a b c d : List (List Int)} : below n (mach a b c d) = true := by
  unfold mach below
  refine bel_all fun x hx => ?_
  simp only [List.mem_cons, List.not_mem_nil, or_false] at hx
  rcases hx with rfl | rfl | rfl | rfl <;> exact bel_rows _
theorem lmachine_ok {t' t : T} {f tk mx : Nat} (H : Has t' t f 4 7 (b_lmachine tk mx)) (h1 : Taken t tk) (h2 : MatrixL t mx) : MachL t' f := fun ns h at' i sd rs p mn mm B hi hp hp2 hn hm1 hm => by
  rw [H _ _ rfl]
  unfold runB b_lmachine
  obtain ⟨n', i1, sd1, rs1, y1, z1, x1, e1⟩ := h1 ns h at' i sd rs (mn + 1) B hi (by omega) (by omega)
  obtain ⟨n, rfl⟩ := Int.eq_ofNat_of_zero_le y1
  obtain ⟨m', i2, sd2, rs2, y2, z2, x2, e2⟩ := h1 ns h at' i1 sd1 rs1 mm B x1 (by omega) (by omega)
  obtain ⟨m, rfl⟩ := Int.eq_ofNat_of_zero_le y2
  obtain ⟨q', i3, sd3, rs3, y3, z3, x3, e3⟩ := h1 ns h at' i2 sd2 rs2 mm B x2 (by omega) (by omega)
  obtain ⟨q, rfl⟩ := Int.eq_ofNat_of_zero_le y3
  obtain ⟨a, i4, sd4, rs4, ha, la, x4, e4⟩ := h2 ns h at' i3 sd3 rs3 p n n B x3 hp hp2 (by omega) (by omega)
  obtain ⟨b, i5, sd5, rs5, hb, lb, x5, e5⟩ := h2 ns h at' i4 sd4 rs4 p n (1 + m) B x4 hp hp2 (by omega) (by omega)
  obtain ⟨c, i6, sd6, rs6, hc, lc, x6, e6⟩ := h2 ns h at' i5 sd5 rs5 p (1 + q) n B x5 hp hp2 (by omega) (by omega)
  obtain ⟨b', i7, sd7, rs7, hb', lb', x7, e7⟩ := slast_ok (t := t) (b0 := (rowH h at' i sd rs).length) (tk := tk) (i := i6) (sd := sd6) (rs := rs6) (q := 1 + q) (a := a) (c := c) (o2 := some (.int mn)) (o3 := some (.int mm)) h1 B x6 (by omega) hb lb (by omega) (by omega)
  obtain ⟨c', i8, sd8, rs8, hc', lc', x8, e8⟩ := sfirst_ok (t := t) (b0 := (rowH h at' i sd rs).length) (tk := tk) (i := i7) (sd := sd7) (rs := rs7) (m := 1 + m) (a := a) (b := b') (o2 := some (.int mn)) (o3 := some (.int mm)) h1 B x7 (by omega) hc lc (by omega) (by omega)
  obtain ⟨d, i9, sd9, rs9, hd, ld, x9, e9⟩ := h2 ns h at' i8 sd8 rs8 p (1 + q) (1 + m) B x8 hp hp2 (by omega) (by omega)
  refine ⟨n, 1 + m, 1 + q, a, b', c', d, i9, sd9, rs9, ⟨ha, la, hb', lb', hc', lc', hd, ld, by omega, by omega, by omega, by omega, by omega⟩, x9, ?_⟩
  generalize hb0 : (rowH h at' i sd rs).length = b0 at e7 e8 ⊢
  have s1 : ((1 + m : Nat) : Int) = 1 + (m : Int) := by omega
  have s2 : ((1 + q : Nat) : Int) = 1 + (q : Int) := by omega
  rw [s1] at e5 e7 e8 e9
  rw [s2] at e6 e7 e8 e9
  simp only [List.map_cons, List.map_nil, List.cons_append, List.nil_append, List.replicate]
  rw [r_cons, r_par3, v_call, x_cons, v_var, get_0, of_some, b_ok, x_cons, v_bin, v_var, get_s, get_s, get_0, of_some, b_ok, v_cst, b_ok, a_add, b_ok, x_nil, b_ok, b_ok, b_ok, e1, then_ok, v_bin, v_cst, b_ok, v_call, x_cons, v_var, get_0, of_some, b_ok, x_cons, v_var, get_s, get_s, get_s, get_0, of_some, b_ok, x_nil, b_ok, b_ok, b_ok, e2, b_ok, a_add, then_ok, v_bin, v_cst, b_ok, v_call, x_cons, v_var, get_0, of_some, b_ok, x_cons, v_var, get_s, get_s, get_s, get_0, of_some, b_ok, x_nil, b_ok, b_ok, b_ok, e3, b_ok, a_add, then_ok, sq_nx]
  simp only [List.set]
  rw [r_cons, r_par3]
  simp only [v_call, x_cons, v_var, get_s, get_0, of_some, b_ok, x_nil]
  rw [e4, then_ok, e5, then_ok, e6, then_ok, sq_nx]
  simp only [List.set]
  rw [r_cons, e7, sq_nx, r_cons, e8, sq_nx, r_cons, r_ret, v_tup]
  simp only [v_call, x_cons, v_var, get_s, get_0, of_some, b_ok, x_nil]
  rw [e9]
  simp only [b_ok]
  rw [if_pos (by rfl), then_ok, sq_ret]
  rw [← hb0]
  exact leave_rowV fun _ => bel_mach
end Y

set_option Elab.async false
set_option linter.all false
set_option maxRecDepth 100000
set_option maxHeartbeats 4000000
/-! Fm9: rows added; a run cut in two. -/
namespace Y
open PySem
def e_zadd (ad p x y : Nat) (e1 e2 : Ex) : Ex := .biL .tuple (.lc [x, y] (.tup (.cons (.nm x) (.cons (.nm y) .nil))) (.zip e1 e2) .none (.call ad (.cons (.var p) (.cons (.var x) (.cons (.var y) .nil)))))
def zaddV (p : Int) (us vs : List (List Int)) : List (List Int) := (List.range us.length).map fun i => addV p (us.getD i []) (vs.getD i [])
theorem zadd_len {p : Int} {us vs : List (List Int)} : (zaddV p us vs).length = us.length := by simp [zaddV]
theorem zadd_at {p : Int} {us vs : List (List Int)} {i : Nat} (hi : i < us.length) : (zaddV p us vs).getD i [] = addV p (us.getD i []) (vs.getD i []) := by
  rw [List.getD_eq_getElem?_getD]
  unfold zaddV
  rw [List.getElem?_map, List.getElem?_range hi]; rfl
theorem isM_zadd {p : Int} {m : Nat} {us vs : List (List Int)} (hp : 0 < p) (hu : IsM p m us) : IsM p m (zaddV p us vs) := by
  refine ⟨fun r hr => ?_, fun r hr => ?_⟩
  · obtain ⟨i, _, rfl⟩ := List.mem_map.mp hr
    exact addV_rd hp
  · obtain ⟨i, hi, rfl⟩ := List.mem_map.mp hr
    rw [addV_len]
    exact hu.wide _ (row_in (List.mem_range.mp hi)).2
theorem turn_zipM {h : Heap} {i : Nat} {us vs : List (List Int)} (h1 : i < us.length) (h2 : i < vs.length) : (Iter.zip (.vals (us.map tI)) (.vals (vs.map tI))).turn i h = some (some (.tup [tI (us.getD i []), tI (vs.getD i [])])) := by
  show (match getAt (us.map tI) i with
    | some (some v) => (match getAt (vs.map tI) i with
      | some (some u) => some (some (Val.tup [v, u]))
      | r => r)
    | some none => (match getAt (vs.map tI) i with
      | some _ => some none
      | none => none)
    | none => none) = _
  rw [getAt_at (v := tI (us.getD i [])) (by rw [List.getElem?_map, (row_in h1).1]; rfl), getAt_at (v := tI (vs.getD i [])) (by rw [List.getElem?_map, (row_in h2).1]; rfl)]
theorem turn_zipM_end {h : Heap} {us vs : List (List Int)} (hl : vs.length = us.length) : (Iter.zip (.vals (us.map tI)) (.vals (vs.map tI))).turn us.length h = some none := by
  show (match getAt (us.map tI) us.length with
    | some (some v) => (match getAt (vs.map tI) us.length with
      | some (some u) => some (some (Val.tup [v, u]))
      | r => r)
    | some none => (match getAt (vs.map tI) us.length with
      | some _ => some none
      | none => none)
    | none => none) = _
  have e1 := getAt_end (xs := us.map tI)
  have e2 := getAt_end (xs := vs.map tI)
  rw [List.length_map] at e1 e2
  rw [hl] at e2
  rw [e1, e2]
theorem zadd_ok {t : T} {b ad pp x y : Nat} {e1 e2 : Ex} {env : Env} {h : Heap} {p : Int} {m : Nat} {us vs : List (List Int)} (h1 : Added t ad) (hp : 0 < p) (k1 : (den t b e1).v env h = .ok (tM us) h) (k2 : (den t b e2).v env h = .ok (tM vs) h) (hu : ∀ r ∈ us, r.length = m) (hv : ∀ r ∈ vs, r.length = m) (hl : vs.length = us.length) (hn : us.length ≤ 1000) (hm : m ≤ 1000)
    (g1 : ∀ u v, Env.get (((wipe env [x, y]).set x (some u)).set y (some v)) pp = some (.int p)) (g2 : ∀ u v, Env.get (((wipe env [x, y]).set x (some u)).set y (some v)) x = some u) (g3 : ∀ u v, Env.get (((wipe env [x, y]).set x (some u)).set y (some v)) y = some v) :
    (den t b (e_zadd ad pp x y e1 e2)).v env h = .ok (tM (zaddV p us vs)) h := by
  unfold e_zadd
  rw [v_biL, l_lc0, i_zip, k1, b_ok, k2, b_ok, zipT, b_ok, zip_len, List.length_map]
  rw [lcL_map (n := us.length) (val := fun i => .tup [tI (us.getD i []), tI (vs.getD i [])]) (out := fun i => tI (addV p (us.getD i []) (vs.getD i []))) (fun i hi => ⟨turn_zipM hi (by omega), by
    have hr := hu _ (row_in hi).2
    have hs := hv _ (row_in (rows := vs) (i := i) (by omega)).2
    generalize us.getD i [] = u at hr ⊢
    generalize vs.getD i [] = v at hs ⊢
    have e := h1 p u v h hp (by omega) (by omega)
    rw [g_tup, g_cons, g_nm, b_ok, g_cons, g_nm, b_ok, g_nil, b_ok, v_call, x_cons, v_var, g1, of_some, b_ok, x_cons, v_var, g2, of_some, b_ok, x_cons, v_var, g3, of_some, b_ok, x_nil, b_ok, b_ok, b_ok, b_ok, e, b_ok]⟩) (turn_zipM_end hl)]
  have eo : (List.range us.length).map (fun i => tI (addV p (us.getD i []) (vs.getD i []))) = (zaddV p us vs).map tI := by
    unfold zaddV
    rw [List.map_map]; rfl
  rw [eo, b_ok, if_pos (isLen_lit (by rw [List.length_map, zadd_len]; omega)), b_ok]
  rfl
section
variable {p : Int} {n m q : Nat} {a b c d : List (List Int)} {s z : List Int} {us vs ws : List (List Int)}
theorem st_take {k : Nat} : ∀ i, i ≤ k → stAt p a b s (us.take k) i = stAt p a b s us i
  | 0, _ => rfl
  | i + 1, hi => by
    show stM p a b (stAt p a b s (us.take k) i) ((us.take k).getD i []) = stM p a b (stAt p a b s us i) (us.getD i [])
    rw [st_take i (by omega)]
    congr 1
    rw [List.getD_eq_getElem?_getD, List.getD_eq_getElem?_getD, List.getElem?_take_of_lt (by omega)]
theorem outs_cut {k : Nat} (hk : k ≤ us.length) : outsM p a b c d s us us.length = outsM p a b c d s (us.take k) k ++ outsM p a b c d (stAt p a b s (us.take k) k) (us.drop k) (us.length - k) := by
  refine List.ext_getElem? fun i => ?_
  by_cases hi : i < k
  · rw [List.getElem?_append_left (by rw [outs_len]; exact hi)]
    unfold outsM
    rw [List.getElem?_map, List.getElem?_map, List.getElem?_range (by omega), List.getElem?_range hi]
    show some (outM p c d (stAt p a b s us i) (us.getD i [])) = some (outM p c d (stAt p a b s (us.take k) i) ((us.take k).getD i []))
    rw [st_take i (by omega), List.getD_eq_getElem?_getD, List.getD_eq_getElem?_getD, List.getElem?_take_of_lt hi]
  · rw [List.getElem?_append_right (by rw [outs_len]; omega), outs_len]
    unfold outsM
    rw [List.getElem?_map, List.getElem?_map]
    by_cases h2 : i < us.length
    · rw [List.getElem?_range h2, List.getElem?_range (by omega)]
      show some (outM p c d (stAt p a b s us i) (us.getD i [])) = some (outM p c d (stAt p a b (stAt p a b s (us.take k) k) (us.drop k) (i - k)) ((us.drop k).getD (i - k) []))
      have e := st_cut (p := p) (a := a) (b := b) (s := s) (us := us) k (i - k)
      rw [Nat.add_sub_cancel' (by omega)] at e
      rw [st_take k (Nat.le_refl k), ← e, List.getD_eq_getElem?_getD, List.getD_eq_getElem?_getD, List.getElem?_drop, Nat.add_sub_cancel' (by omega)]
    · rw [List.getElem?_eq_none (by simpa using Nat.le_of_not_lt h2), List.getElem?_eq_none (by simp; omega)]; rfl
theorem st_cut2 {k : Nat} (hk : k ≤ us.length) : stAt p a b s us us.length = stAt p a b (stAt p a b s (us.take k) k) (us.drop k) (us.length - k) := by
  have e := st_cut (p := p) (a := a) (b := b) (s := s) (us := us) k (us.length - k)
  rw [Nat.add_sub_cancel' hk] at e
  rw [st_take k (Nat.le_refl k), e]
theorem outs_both (M : IsMach p n m q a b c d) (hs : s.length = n) (hz : z.length = n) (e0 : addV p s z = s) (hu : IsM p m us) (hv : IsM p m vs) (hl : vs.length = us.length) :
    outsM p a b c d s (zaddV p us vs) us.length = zaddV p (outsM p a b c d s vs us.length) (outsM p a b c d z us us.length) := by
  unfold zaddV
  rw [outs_len]
  unfold outsM
  refine List.map_congr_left fun i hi => ?_
  have hi := List.mem_range.mp hi
  have e := outs_add (us := us) (vs := vs) (ws := zaddV p us vs) M hs hz (fun i hi => zadd_at hi) (fun i hi => ⟨hu.wide _ (row_in hi).2, hv.wide _ (row_in (rows := vs) (i := i) (by omega)).2⟩) e0 hi
  show outM p c d (stAt p a b s (zaddV p us vs) i) ((zaddV p us vs).getD i []) = _
  rw [e]
  have em : ∀ f : Nat → List Int, ((List.range us.length).map f).getD i [] = f i := fun f => by
    rw [List.getD_eq_getElem?_getD, List.getElem?_map, List.getElem?_range hi]; rfl
  rw [em, em]
theorem rd_zero (hp : 0 < p) : Rd p (List.replicate n 0) := fun k => by
  have : co (List.replicate n 0) k = 0 := by
    unfold co
    rw [List.getD_eq_getElem?_getD, List.getElem?_replicate]
    split <;> rfl
  omega
theorem add_zero (hs : Rd p s) (hn : s.length = n) : addV p s (List.replicate n 0) = s := by
  refine co_ext addV_len fun k => ?_
  rw [addV_co (by rw [List.length_replicate]; exact hn.symm)]
  have : co (List.replicate n 0) k = 0 := by
    unfold co
    rw [List.getD_eq_getElem?_getD, List.getElem?_replicate]
    split <;> rfl
  rw [this, Int.add_zero]
  exact Int.emod_eq_of_lt (hs k).1 (hs k).2
theorem outs_isM (hp : 0 < p) (M : IsMach p n m q a b c d) {i : Nat} : IsM p q (outsM p a b c d s us i) := by
  refine ⟨fun r hr => ?_, fun r hr => ?_⟩
  · obtain ⟨i, _, rfl⟩ := List.mem_map.mp hr
    exact addV_rd hp
  · obtain ⟨i, _, rfl⟩ := List.mem_map.mp hr
    show (addV p _ _).length = q
    rw [addV_len, appV2_len, M.cl]
theorem stAt_rd (hp : 0 < p) (hs : Rd p s) : ∀ i, Rd p (stAt p a b s us i)
  | 0 => hs
  | i + 1 => addV_rd hp
end
end Y

set_option Elab.async false
set_option linter.all false
set_option maxRecDepth 100000
set_option maxHeartbeats 4000000
/-! MatM: matrices of numbers mod p. No program in sight. -/
namespace Y
def at2 (A : List (List Int)) (i j : Nat) : Int := co (A.getD i []) j
def mulM (p : Int) (A B : List (List Int)) (w : Nat) : List (List Int) := A.map fun r => (List.range w).map fun j => (sm B.length fun k => co r k * at2 B k j) % p
def unitM (n : Nat) : List (List Int) := (List.range n).map fun i => (List.range n).map fun j => if i = j then 1 else 0
def elemM (n a b : Nat) (x : Int) : List (List Int) := (unitM n).set a (((unitM n).getD a []).set b x)
theorem sm_mulr {f : Nat → Int} {c : Int} : ∀ {n : Nat}, sm n f * c = sm n fun i => f i * c
  | 0 => Int.zero_mul c
  | n + 1 => by
    show (sm n f + f n) * c = sm n (fun i => f i * c) + f n * c
    rw [Int.add_mul, sm_mulr]
theorem sm_mull {f : Nat → Int} {c : Int} : ∀ {n : Nat}, c * sm n f = sm n fun i => c * f i
  | 0 => Int.mul_zero c
  | n + 1 => by
    show c * (sm n f + f n) = sm n (fun i => c * f i) + c * f n
    rw [Int.mul_add, sm_mull]
theorem sm_swap {f : Nat → Nat → Int} {m : Nat} : ∀ {n : Nat}, sm n (fun i => sm m fun j => f i j) = sm m fun j => sm n fun i => f i j
  | 0 => (sm_zero fun _ _ => rfl).symm
  | n + 1 => by
    show sm n (fun i => sm m fun j => f i j) + sm m (fun j => f n j) = sm m fun j => sm n (fun i => f i j) + f n j
    rw [sm_swap, sm_add]
theorem getD_at {α : Type} {xs : List α} {i : Nat} {d x : α} (h : xs[i]? = some x) : xs.getD i d = x := by
  rw [List.getD_eq_getElem?_getD, h]; rfl
theorem getD_range {α : Type} {f : Nat → α} {n i : Nat} {d : α} (h : i < n) : ((List.range n).map f).getD i d = f i := getD_at (by
  rw [List.getElem?_map, List.getElem?_range h]; rfl)
section
variable {p : Int} {A B C : List (List Int)} {n w v i j : Nat}
theorem mulM_len : (mulM p A B w).length = A.length := List.length_map _
theorem mulM_row (hi : i < A.length) : (mulM p A B w).getD i [] = (List.range w).map fun j => (sm B.length fun k => at2 A i k * at2 B k j) % p := getD_at (by
  unfold mulM
  rw [List.getElem?_map, (row_in hi).1]; rfl)
theorem mul_at (hi : i < A.length) (hj : j < w) : at2 (mulM p A B w) i j = (sm B.length fun k => at2 A i k * at2 B k j) % p := by
  show co ((mulM p A B w).getD i []) j = _
  rw [mulM_row hi, co_range, if_pos hj]
theorem isM_mul (hp : 0 < p) : IsM p w (mulM p A B w) := by
  refine ⟨fun r hr => ?_, fun r hr => ?_⟩
  · obtain ⟨x, _, rfl⟩ := List.mem_map.mp hr
    intro k
    rw [co_range]
    split
    · exact md_rng hp _
    · omega
  · obtain ⟨x, _, rfl⟩ := List.mem_map.mp hr
    rw [List.length_map, List.length_range]
theorem at_rd (hA : IsM p w A) (hp : 0 < p) (i j : Nat) : 0 ≤ at2 A i j ∧ at2 A i j < p := by
  by_cases hi : i < A.length
  · exact hA.rd _ (row_in hi).2 j
  · unfold at2
    rw [List.getD_eq_getElem?_getD, List.getElem?_eq_none (by omega)]
    show 0 ≤ (0 : Int) ∧ (0 : Int) < p
    omega
theorem m_ext (hA : IsM p w A) (hB : IsM p w B) (hl : A.length = B.length) (h : ∀ i j, i < A.length → j < w → at2 A i j = at2 B i j) : A = B := by
  refine List.ext_getElem? fun i => ?_
  by_cases hi : i < A.length
  · rw [(row_in hi).1, (row_in (rows := B) (i := i) (by omega)).1]
    congr 1
    have wa := hA.wide _ (row_in hi).2
    have wb := hB.wide _ (row_in (rows := B) (i := i) (by omega)).2
    refine co_ext (by omega) fun k => ?_
    by_cases hk : k < w
    · exact h i k hi hk
    · rw [co_ge (by omega), co_ge (by omega)]
  · rw [List.getElem?_eq_none (by omega), List.getElem?_eq_none (by omega)]
theorem m_ext2 (hp : 0 < p) (hA : IsM p w A) (hB : IsM p w B) (hl : A.length = B.length) (h : ∀ i j, i < A.length → j < w → cg p (at2 A i j) (at2 B i j)) : A = B :=
  m_ext hA hB hl fun i j hi hj => cg_rd (at_rd hA hp i j) (at_rd hB hp i j) (h i j hi hj)
theorem mul_assocM (hp : 0 < p) (hC : C.length = v) : mulM p (mulM p A B v) C w = mulM p A (mulM p B C w) w := by
  refine m_ext2 hp (isM_mul hp) (isM_mul hp) (by rw [mulM_len, mulM_len, mulM_len]) fun i j hi hj => ?_
  rw [mulM_len, mulM_len] at hi
  rw [mul_at (by rw [mulM_len]; exact hi) hj, mul_at hi hj]
  refine cg_trans (cg_mod _ _) (cg_symm (cg_trans (cg_mod _ _) ?_))
  rw [mulM_len]
  have e1 : cg p (sm B.length fun k => at2 A i k * at2 (mulM p B C w) k j) (sm B.length fun k => sm C.length fun l => at2 A i k * (at2 B k l * at2 C l j)) := sm_cg fun k hk => by
    rw [mul_at hk hj, ← sm_mull]
    exact cg_mul (cg_refl _ _) (cg_mod _ _)
  have e2 : cg p (sm C.length fun l => at2 (mulM p A B v) i l * at2 C l j) (sm C.length fun l => sm B.length fun k => at2 A i k * (at2 B k l * at2 C l j)) := sm_cg fun l hl => by
    rw [mul_at hi (by omega)]
    refine cg_trans (cg_mul (cg_mod _ _) (cg_refl _ _)) ?_
    rw [sm_mulr]
    rw [sm_congr (g := fun k => at2 A i k * (at2 B k l * at2 C l j)) fun k _ => Int.mul_assoc _ _ _]
    exact cg_refl _ _
  refine cg_trans e1 (cg_symm ?_)
  rw [sm_swap]
  exact e2
/-! units -/
theorem unitM_len : (unitM n).length = n := by simp [unitM]
theorem unit_row (hi : i < n) : (unitM n).getD i [] = (List.range n).map fun j => if i = j then 1 else 0 := getD_range hi
theorem unit_at (hi : i < n) (hj : j < n) : at2 (unitM n) i j = if i = j then 1 else 0 := by
  unfold at2
  rw [unit_row hi, co_range, if_pos hj]
theorem isM_unit (hp : 2 ≤ p) : IsM p n (unitM n) := by
  refine ⟨fun r hr => ?_, fun r hr => ?_⟩
  · obtain ⟨x, _, rfl⟩ := List.mem_map.mp hr
    intro k
    rw [co_range]
    split
    · split <;> omega
    · omega
  · obtain ⟨x, _, rfl⟩ := List.mem_map.mp hr
    rw [List.length_map, List.length_range]
theorem sm_unit {g : Nat → Int} {n i : Nat} (hi : i < n) : sm n (fun k => (if i = k then 1 else 0) * g k) = g i := by
  rw [sm_one hi fun k _ hk => by rw [if_neg (fun e => hk e.symm), Int.zero_mul], if_pos (by rfl), Int.one_mul]
theorem unit_mul (hp : 0 < p) (hB : IsM p w B) (hl : B.length = n) : mulM p (unitM n) B w = B := by
  refine m_ext2 hp (isM_mul hp) hB (by rw [mulM_len, unitM_len, hl]) fun i j hi hj => ?_
  rw [mulM_len, unitM_len] at hi
  rw [mul_at (by rw [unitM_len]; exact hi) hj]
  refine cg_trans (cg_mod _ _) ?_
  rw [hl, sm_congr (g := fun k => (if i = k then 1 else 0) * at2 B k j) fun k hk => by rw [unit_at hi hk], sm_unit hi]
  exact cg_refl _ _
/-! a unit with one more number -/
variable {a b : Nat} {x y : Int}
theorem elem_len : (elemM n a b x).length = n := by unfold elemM; rw [List.length_set, unitM_len]
theorem elem_row (hi : i < n) (ha : a < n) : (elemM n a b x).getD i [] = if a = i then ((unitM n).getD a []).set b x else (unitM n).getD i [] := getD_at (by
  unfold elemM
  by_cases h : a = i
  · subst h
    rw [if_pos (by rfl), List.getElem?_set_self (by rw [unitM_len]; exact ha)]
  · rw [if_neg h, List.getElem?_set_ne h, (row_in (by rw [unitM_len]; exact hi)).1])
theorem elem_at (hi : i < n) (hj : j < n) (ha : a < n) (hb : b < n) (hab : a ≠ b) : at2 (elemM n a b x) i j = (if i = j then 1 else 0) + (if a = i then x else 0) * (if b = j then 1 else 0) := by
  unfold at2
  rw [elem_row hi ha]
  by_cases h : a = i
  · rw [if_pos h, if_pos h, co_set (by rw [unit_row ha, List.length_map, List.length_range]; exact hb)]
    by_cases hbj : b = j
    · rw [if_pos hbj.symm, if_pos hbj, if_neg (fun e => hab (by omega)), Int.zero_add, Int.mul_one]
    · rw [if_neg (fun e => hbj e.symm), if_neg hbj, unit_row ha, co_range, if_pos hj, h, Int.mul_zero, Int.add_zero]
  · rw [if_neg h, if_neg h, unit_row hi, co_range, if_pos hj, Int.zero_mul, Int.add_zero]
theorem isM_elem (hp : 2 ≤ p) (ha : a < n) (hb : b < n) (hx : 0 ≤ x ∧ x < p) : IsM p n (elemM n a b x) := by
  have hu := isM_unit (p := p) (n := n) hp
  have ru := row_in (rows := unitM n) (i := a) (by rw [unitM_len]; exact ha)
  refine ⟨fun r hr => ?_, fun r hr => ?_⟩
  · rcases List.mem_or_eq_of_mem_set hr with h | h
    · exact hu.rd r h
    · subst h
      intro k
      rw [co_set (by rw [hu.wide _ ru.2]; exact hb)]
      split
      · exact hx
      · exact hu.rd _ ru.2 k
  · rcases List.mem_or_eq_of_mem_set hr with h | h
    · exact hu.wide r h
    · subst h
      rw [List.length_set, hu.wide _ ru.2]
theorem elem_mul (hp : 2 ≤ p) (ha : a < n) (hb : b < n) (hab : a ≠ b) (hxy : cg p (x + y) 0) : mulM p (elemM n a b y) (elemM n a b x) n = unitM n := by
  refine m_ext2 (by omega) (isM_mul (by omega)) (isM_unit hp) (by rw [mulM_len, elem_len, unitM_len]) fun i j hi hj => ?_
  rw [mulM_len, elem_len] at hi
  rw [mul_at (by rw [elem_len]; exact hi) hj, unit_at hi hj]
  refine cg_trans (cg_mod _ _) ?_
  rw [elem_len, sm_congr (g := fun k => (if i = k then 1 else 0) * at2 (elemM n a b x) k j + (if b = k then 1 else 0) * ((if a = i then y else 0) * at2 (elemM n a b x) k j)) fun k hk => by
    rw [elem_at hi hk ha hb hab]; grind]
  rw [sm_add, sm_unit hi, sm_unit hb, elem_at hi hj ha hb hab, elem_at hb hj ha hb hab, if_neg hab]
  obtain ⟨m, hm⟩ := hxy
  by_cases h : a = i
  · rw [if_pos h, if_pos h]
    refine ⟨m * (if b = j then 1 else 0), ?_⟩
    grind
  · rw [if_neg h, if_neg h]
    exact ⟨0, by grind⟩
/-- a matrix and one that undoes it -/
structure Undo (p : Int) (n : Nat) (A B : List (List Int)) : Prop where
  am : IsM p n A
  al : A.length = n
  bm : IsM p n B
  bl : B.length = n
  eq : mulM p B A n = unitM n
theorem undo_unit (hp : 2 ≤ p) : Undo p n (unitM n) (unitM n) := ⟨isM_unit hp, unitM_len, isM_unit hp, unitM_len, unit_mul (by omega) (isM_unit hp) unitM_len⟩
theorem undo_step (hp : 2 ≤ p) (U : Undo p n A B) (ha : a < n) (hb : b < n) (hab : a ≠ b) (hxy : cg p (x + y) 0) : Undo p n (mulM p (elemM n a b x) A n) (mulM p B (elemM n a b y) n) := by
  refine ⟨isM_mul (by omega), by rw [mulM_len, elem_len], isM_mul (by omega), by rw [mulM_len, U.bl], ?_⟩
  rw [mul_assocM (by omega) (by rw [mulM_len, elem_len]), ← mul_assocM (B := elemM n a b x) (A := elemM n a b y) (by omega) U.al, elem_mul hp ha hb hab hxy, unit_mul (by omega) U.am U.al, U.eq]
end
/-! ### what a machine responds -/
section
variable {p : Int} {n m q : Nat} {a b c d T B : List (List Int)}
def powX (p : Int) (a b : List (List Int)) (m : Nat) : Nat → List (List Int)
  | 0 => b
  | k + 1 => mulM p a (powX p a b m k) m
def respM (p : Int) (a b c d : List (List Int)) (m : Nat) : Nat → List (List Int)
  | 0 => d
  | k + 1 => mulM p c (powX p a b m k) m
theorem pow_len (M : IsMach p n m q a b c d) : ∀ k, (powX p a b m k).length = n
  | 0 => M.bl
  | k + 1 => by show (mulM p a _ m).length = n; rw [mulM_len, M.al]
theorem pow_isM (hp : 0 < p) (M : IsMach p n m q a b c d) : ∀ k, IsM p m (powX p a b m k)
  | 0 => M.bm
  | k + 1 => isM_mul hp
theorem resp_len (M : IsMach p n m q a b c d) : ∀ k, (respM p a b c d m k).length = q
  | 0 => M.dl
  | k + 1 => by show (mulM p c _ m).length = q; rw [mulM_len, M.cl]
theorem resp_isM (hp : 0 < p) (M : IsMach p n m q a b c d) : ∀ k, IsM p m (respM p a b c d m k)
  | 0 => M.dm
  | k + 1 => isM_mul hp
theorem mach_turn (hp : 0 < p) (M : IsMach p n m q a b c d) (U : Undo p n T B) : IsMach p n m q (mulM p (mulM p T a n) B n) (mulM p T b m) (mulM p c B n) d :=
  ⟨isM_mul hp, by rw [mulM_len, mulM_len, U.al], isM_mul hp, by rw [mulM_len, U.al], isM_mul hp, by rw [mulM_len, M.cl], M.dm, M.dl, M.n8, M.m4, M.q4, M.m1, M.q1⟩
theorem back_turn (hp : 0 < p) (U : Undo p n T B) {X : List (List Int)} {w : Nat} (hX : IsM p w X) (hl : X.length = n) : mulM p B (mulM p T X w) w = X := by
  rw [← mul_assocM (v := n) hp hl, U.eq, unit_mul hp hX hl]
theorem pow_turn (hp : 0 < p) (M : IsMach p n m q a b c d) (U : Undo p n T B) : ∀ k, powX p (mulM p (mulM p T a n) B n) (mulM p T b m) m k = mulM p T (powX p a b m k) m
  | 0 => rfl
  | k + 1 => by
    show mulM p (mulM p (mulM p T a n) B n) (powX p _ _ m k) m = mulM p T (mulM p a (powX p a b m k) m) m
    have l := pow_len M k
    rw [pow_turn hp M U k, mul_assocM hp (by rw [mulM_len, U.al]), back_turn hp U (pow_isM hp M k) l, mul_assocM hp l]
theorem resp_turn (hp : 0 < p) (M : IsMach p n m q a b c d) (U : Undo p n T B) : ∀ k, respM p (mulM p (mulM p T a n) B n) (mulM p T b m) (mulM p c B n) d m k = respM p a b c d m k
  | 0 => rfl
  | k + 1 => by
    show mulM p (mulM p c B n) (powX p _ _ m k) m = mulM p c (powX p a b m k) m
    have l := pow_len M k
    rw [pow_turn hp M U k, mul_assocM hp (by rw [mulM_len, U.al]), back_turn hp U (pow_isM hp M k) l]
/-! .. and by runs -/
def colM (X : List (List Int)) (j : Nat) : List Int := (List.range X.length).map fun i => at2 X i j
def unitV (m j : Nat) : List Int := (List.range m).map fun k => if j = k then 1 else 0
theorem col_len {X : List (List Int)} {j : Nat} : (colM X j).length = X.length := by simp [colM]
theorem app_unit (hp : 0 < p) {X : List (List Int)} {j : Nat} (hX : IsM p m X) (hj : j < m) : appV2 p X (unitV m j) = colM X j := by
  refine co_ext (by rw [appV2_len, col_len]) fun k => ?_
  by_cases hk : k < X.length
  · rw [appV2_co hk]
    unfold colM
    rw [co_range, if_pos hk]
    have w := hX.wide _ (row_in hk).2
    have r := hX.rd _ (row_in hk).2 j
    unfold dotV
    rw [w, sm_congr (g := fun i => (if j = i then 1 else 0) * co (X.getD k []) i) fun i hi => by
      unfold unitV
      rw [co_range, if_pos hi, Int.mul_comm], sm_unit hj]
    exact md r.1 r.2
  · rw [co_ge (by rw [appV2_len]; omega), co_ge (by rw [col_len]; omega)]
theorem app_zero {X : List (List Int)} {m q : Nat} (hl : X.length = q) : appV2 p X (List.replicate m 0) = List.replicate q 0 := by
  refine co_ext (by rw [appV2_len, List.length_replicate, hl]) fun k => ?_
  by_cases hk : k < X.length
  · rw [appV2_co hk, co_rep, if_pos (by omega)]
    unfold dotV
    rw [sm_zero fun i _ => by rw [co_rep]; split <;> exact Int.mul_zero _]
    exact Int.zero_emod p
  · rw [co_ge (by rw [appV2_len]; omega), co_ge (by rw [List.length_replicate]; omega)]
theorem app_col {A X : List (List Int)} {j : Nat} (hA : IsM p n A) (hl : X.length = n) (hj : j < m) : appV2 p A (colM X j) = colM (mulM p A X m) j := by
  refine co_ext (by rw [appV2_len, col_len, mulM_len]) fun k => ?_
  by_cases hk : k < A.length
  · rw [appV2_co hk]
    have w := hA.wide _ (row_in hk).2
    show _ = co ((List.range (mulM p A X m).length).map fun i => at2 (mulM p A X m) i j) k
    rw [co_range, mulM_len, if_pos hk, mul_at hk hj]
    unfold dotV
    rw [w, hl]
    congr 1
    refine sm_congr fun i hi => ?_
    unfold colM
    rw [co_range, if_pos (by omega)]; rfl
  · rw [co_ge (by rw [appV2_len]; omega), co_ge (by rw [col_len, mulM_len]; omega)]
theorem col_rd (hp : 0 < p) {X : List (List Int)} {j : Nat} (hX : IsM p m X) : Rd p (colM X j) := fun k => by
  unfold colM
  rw [co_range]
  split
  · exact at_rd hX hp _ _
  · omega
theorem zero_add' {s : List Int} (hs : Rd p s) (hn : s.length = n) : addV p (List.replicate n 0) s = s := by
  refine co_ext (by rw [addV_len, List.length_replicate, hn]) fun k => ?_
  rw [addV_co (by rw [List.length_replicate]; exact hn), co_rep]
  have : (if k < n then (0 : Int) else 0) = 0 := by split <;> rfl
  rw [this, Int.zero_add]
  exact md (hs k).1 (hs k).2
/-- one input, then none -/
def oneU (m j many : Nat) : List (List Int) := unitV m j :: List.replicate (many - 1) (List.replicate m 0)
theorem oneU_0 {m j many : Nat} : (oneU m j many).getD 0 [] = unitV m j := rfl
theorem oneU_s {m j many k : Nat} (h : k + 1 < many) : (oneU m j many).getD (k + 1) [] = List.replicate m 0 := getD_at (by
  show (List.replicate (many - 1) (List.replicate m (0 : Int)))[k]? = _
  rw [List.getElem?_replicate, if_pos (by omega)])
theorem st_resp (hp : 0 < p) (M : IsMach p n m q a b c d) {j many : Nat} (hj : j < m) : ∀ k, k < many → stAt p a b (List.replicate n 0) (oneU m j many) (k + 1) = colM (powX p a b m k) j
  | 0, _ => by
    show addV p (appV2 p a (List.replicate n 0)) (appV2 p b ((oneU m j many).getD 0 [])) = colM b j
    rw [oneU_0, app_zero M.al, app_unit hp M.bm hj, zero_add' (col_rd hp M.bm) (by rw [col_len, M.bl])]
  | k + 1, h => by
    show addV p (appV2 p a (stAt p a b (List.replicate n 0) (oneU m j many) (k + 1))) (appV2 p b ((oneU m j many).getD (k + 1) [])) = colM (mulM p a (powX p a b m k) m) j
    rw [st_resp hp M hj k (by omega), oneU_s h, app_zero M.bl, app_col M.am (pow_len M k) hj, add_zero (col_rd hp (isM_mul hp)) (by rw [col_len, mulM_len, M.al])]
theorem out_resp (hp : 0 < p) (M : IsMach p n m q a b c d) {j many : Nat} (hj : j < m) : ∀ k, k < many → outM p c d (stAt p a b (List.replicate n 0) (oneU m j many) k) ((oneU m j many).getD k []) = colM (respM p a b c d m k) j
  | 0, _ => by
    show addV p (appV2 p c (List.replicate n 0)) (appV2 p d ((oneU m j many).getD 0 [])) = colM d j
    rw [oneU_0, app_zero M.cl, app_unit hp M.dm hj, zero_add' (col_rd hp M.dm) (by rw [col_len, M.dl])]
  | k + 1, h => by
    show addV p (appV2 p c (stAt p a b (List.replicate n 0) (oneU m j many) (k + 1))) (appV2 p d ((oneU m j many).getD (k + 1) [])) = colM (mulM p c (powX p a b m k) m) j
    rw [st_resp hp M hj k (by omega), oneU_s h, app_zero M.dl, app_col M.cm (pow_len M k) hj, add_zero (col_rd hp (isM_mul hp)) (by rw [col_len, mulM_len, M.cl])]
theorem outs_resp (hp : 0 < p) (M : IsMach p n m q a b c d) {j many : Nat} (hj : j < m) : outsM p a b c d (List.replicate n 0) (oneU m j many) many = (List.range many).map fun k => colM (respM p a b c d m k) j := by
  unfold outsM
  exact List.map_congr_left fun k hk => out_resp hp M hj k (List.mem_range.mp hk)
end
end Y

set_option Elab.async false
set_option linter.all false
set_option maxRecDepth 100000
set_option maxHeartbeats 4000000
/-! Fn1: rows and columns exchanged, products of matrices. -/
namespace Y
open PySem
theorem v_xch {t : T} {b : Nat} {env : Env} {h : Heap} {x : Ex} : (den t b (.xch x)).v env h = ((den t b x).v env h).bind xchV := rfl
def b_exchanged : Sts := .cons (.ret (.xch (.var 0))) .nil
def colsM (A : List (List Int)) (w : Nat) : List (List Int) := (List.range w).map fun j => colM A j
theorem cols_len {A : List (List Int)} {w : Nat} : (colsM A w).length = w := by simp [colsM]
theorem cols_at {A : List (List Int)} {w j : Nat} (hj : j < w) : (colsM A w).getD j [] = colM A j := getD_range hj
def Exch (t : T) (i : Nat) : Prop := ∀ (A : List (List Int)) (w : Nat) h, (∀ r ∈ A, r.length = w) → 1 ≤ A.length → A.length ≤ 12 → 1 ≤ w → w ≤ 1000 → t.call i [tM A] h = .ok (tM (colsM A w)) h
theorem rowsOf_M : ∀ A : List (List Int), rowsOf (A.map tI) = some (A.map I)
  | [] => rfl
  | r :: A => by
    show (rowsOf (A.map tI)).map (I r :: ·) = _
    rw [rowsOf_M A]; rfl
theorem xch_ok {A : List (List Int)} {w : Nat} {h : Heap} (hw : ∀ r ∈ A, r.length = w) (h1 : 1 ≤ A.length) (h2 : A.length ≤ 12) (h3 : 1 ≤ w) (h4 : w ≤ 1000) : xchV (tM A) h = .ok (tM (colsM A w)) h := by
  have hh : ((A.map I).headD []).length = w := by
    cases A with
    | nil => simp at h1
    | cons r A => show (I r).length = w; rw [I_len]; exact hw r List.mem_cons_self
  show (match rowsOf (A.map tI) with
    | some xss => if (Nat.ble 1 xss.length && Nat.ble xss.length 12) && ((Nat.ble 1 (xss.headD []).length && Nat.ble (xss.headD []).length 1000) && xss.all fun r => Nat.beq r.length (xss.headD []).length) then
        R.ok (Val.tup ((List.range (xss.headD []).length).map fun i => Val.tup (xss.map fun (r : List Val) => r.getD i .non))) h else .bad
    | none => .bad) = _
  rw [rowsOf_M]
  show (if (Nat.ble 1 (A.map I).length && Nat.ble (A.map I).length 12) && ((Nat.ble 1 ((A.map I).headD []).length && Nat.ble ((A.map I).headD []).length 1000) && (A.map I).all fun r => Nat.beq r.length ((A.map I).headD []).length) then
        R.ok (Val.tup ((List.range ((A.map I).headD []).length).map fun i => Val.tup ((A.map I).map fun (r : List Val) => r.getD i .non))) h else .bad) = _
  rw [hh, List.length_map, show Nat.ble 1 A.length = true from Nat.ble_eq_true_of_le h1, show Nat.ble A.length 12 = true from Nat.ble_eq_true_of_le h2, show Nat.ble 1 w = true from Nat.ble_eq_true_of_le h3, show Nat.ble w 1000 = true from Nat.ble_eq_true_of_le h4]
  rw [show (A.map I).all (fun r => Nat.beq r.length w) = true from List.all_eq_true.mpr fun x hx => by
    obtain ⟨r, hr, rfl⟩ := List.mem_map.mp hx
    rw [I_len, hw r hr]; exact Nat.beq_refl w]
  rw [if_pos (by rfl)]
  congr 2
  unfold colsM
  rw [List.map_map]
  refine List.map_congr_left fun j hj => ?_
  have hj := List.mem_range.mp hj
  show Val.tup ((A.map I).map fun (r : List Val) => r.getD j .non) = tI (colM A j)
  show Val.tup _ = Val.tup (I (colM A j))
  congr 1
  unfold colM I
  rw [List.map_map, List.map_map]
  refine List.ext_getElem? fun k => ?_
  rw [List.getElem?_map, List.getElem?_map]
  by_cases hk : k < A.length
  · rw [List.getElem?_range hk, (row_in hk).1]
    have w' := hw _ (row_in hk).2
    show some ((I (A.getD k [])).getD j .non) = some (Val.int (co (A.getD k []) j))
    rw [getD_at (I_at (xs := A.getD k []) (i := j) (by omega))]
  · rw [List.getElem?_eq_none (by omega), List.getElem?_eq_none (by rw [List.length_range]; omega)]; rfl
theorem exchanged_ok {t' t : T} {i : Nat} (H : Has t' t i 1 0 b_exchanged) : Exch t' i := fun A w h hw h1 h2 h3 h4 => by
  rw [H _ _ rfl]
  unfold runB b_exchanged
  simp only [List.map_cons, List.map_nil, List.cons_append, List.nil_append, List.replicate]
  rw [r_cons, r_ret, v_xch, v_var, get_0, of_some, b_ok, xch_ok hw h1 h2 h3 h4, then_ok, sq_ret]
  exact leave_same (bel_rows _)
/-! the sum of products, the slots told -/
def e_dotG (x y u v : Nat) : Ex := .biL .sum (.lc [x, y] (.tup (.cons (.nm x) (.cons (.nm y) .nil))) (.zip (.var u) (.var v)) .none (.bin .Mult (.var x) (.var y)))
theorem dotG_ok {t : T} {b x y u v : Nat} {env : Env} {h : Heap} {p : Int} {r s : List Int} (hr : Rd p r) (hp : p < 2 ^ 30) (hl : s.length = r.length) (hn : r.length ≤ 1000) (g0 : env.get u = some (tI r)) (g1 : env.get v = some (tI s))
    (g2 : ∀ a c, Env.get (((wipe env [x, y]).set x (some a)).set y (some c)) x = some a) (g3 : ∀ a c, Env.get (((wipe env [x, y]).set x (some a)).set y (some c)) y = some c) :
    (den t b (e_dotG x y u v)).v env h = .ok (.int (dotV r s)) h := by
  unfold e_dotG
  rw [v_biL, l_lc0, i_zip, v_var, g0, of_some, b_ok, v_var, g1, of_some, b_ok, zipT, b_ok, zip_len, I_len]
  rw [lcL_map (n := r.length) (val := fun i => .tup [.int (co r i), .int (co s i)]) (out := fun i => .int (co r i * co s i)) (fun i hi => ⟨turn_zipT hi (by omega), by
    have e := a_mul (i := co r i) (j := co s i) (h := h) (by rw [rd_small hr (by omega)]; rfl)
    rw [g_tup, g_cons, g_nm, b_ok, g_cons, g_nm, b_ok, g_nil, b_ok, v_bin, v_var, g2, of_some, b_ok, v_var, g3, of_some, b_ok, e, b_ok]⟩) (turn_zipT_end hl), map_I]
  rw [b_ok, if_pos (isLen_lit (by simp; omega)), b_ok]
  show (match asInts (I ((List.range r.length).map fun i => co r i * co s i)) with
    | some ns => R.ok (Val.int ns.sum) h
    | none => .bad) = _
  rw [asInts_I]
  show R.ok (Val.int ((List.range r.length).map fun i => co r i * co s i).sum) h = _
  rw [sum_sm]; rfl
/-! products -/
def b_product (ex : Nat) : Sts := .cons (.asg (.nm 3) (.call ex (.cons (.var 2) .nil))) (.cons (.ret (.biL .tuple (.lc [4] (.nm 4) (.of (.var 1)) .none (.biL .tuple (.lc [5] (.nm 5) (.of (.var 3)) .none (.bin .Mod (e_dotG 6 7 4 5) (.var 0))))))) .nil)
def ProdM (t : T) (i : Nat) : Prop := ∀ (p : Int) (A B : List (List Int)) (n w : Nat) h, 0 < p → p < 2 ^ 30 → IsM p n A → IsM p w B → B.length = n → 1 ≤ n → n ≤ 12 → 1 ≤ w → w ≤ 1000 → A.length ≤ 1000 → t.call i [.int p, tM A, tM B] h = .ok (tM (mulM p A B w)) h
theorem dot_col {p : Int} {A B : List (List Int)} {n w i j : Nat} (hA : IsM p n A) (hl : B.length = n) (hi : i < A.length) : dotV (A.getD i []) (colM B j) = sm B.length fun k => at2 A i k * at2 B k j := by
  unfold dotV
  rw [hA.wide _ (row_in hi).2, hl]
  refine sm_congr fun k hk => ?_
  unfold colM
  rw [co_range, if_pos (by omega)]; rfl
theorem mul_rowM {p : Int} {A B : List (List Int)} {n w i : Nat} (hA : IsM p n A) (hl : B.length = n) (hi : i < A.length) : (List.range w).map (fun j => Val.int (dotV (A.getD i []) (colM B j) % p)) = I ((mulM p A B w).getD i []) := by
  rw [map_I, mulM_row hi]
  congr 1
  exact List.map_congr_left fun j _ => by rw [dot_col (p := p) (w := w) hA hl hi]
theorem map_rows {rows : List (List Int)} {n : Nat} (hl : rows.length = n) : (List.range n).map (fun i => tI (rows.getD i [])) = rows.map tI := by
  subst hl
  refine List.ext_getElem? fun i => ?_
  rw [List.getElem?_map, List.getElem?_map]
  by_cases hi : i < rows.length
  · rw [List.getElem?_range hi, (row_in hi).1]; rfl
  · rw [List.getElem?_eq_none (by simpa using Nat.le_of_not_lt hi), List.getElem?_eq_none (by omega)]; rfl
theorem product_ok {t' t : T} {i ex : Nat} (H : Has t' t i 3 5 (b_product ex)) (h1 : Exch t ex) : ProdM t' i := fun p A B n w h hp hp2 hA hB hl hn1 hn hw1 hw hAl => by
  rw [H _ _ rfl]
  unfold runB b_product
  have e1 := h1 B w h hB.wide (by omega) (by omega) hw1 hw
  have ll : ∀ (rows : List (List Int)), (rows.map tI).length = rows.length := fun _ => List.length_map _
  simp only [List.map_cons, List.map_nil, List.cons_append, List.nil_append, List.replicate]
  rw [r_cons, r_nm, v_call, x_cons, v_var, get_s, get_s, get_0, of_some, b_ok, x_nil, b_ok, b_ok, e1, then_ok, sq_nx]
  simp only [List.set]
  rw [r_cons, r_ret, v_biL, l_lc0, i_of, v_var, get_s, get_0, of_some, b_ok, iterOf_tup, b_ok, show (Iter.one (.vals (A.map tI))).len h = A.length from ll A]
  rw [lcL_map (n := A.length) (val := fun i => tI (A.getD i [])) (out := fun i => tI ((mulM p A B w).getD i [])) (fun i hi => ⟨turn_vals (by rw [List.getElem?_map, (row_in hi).1]; rfl), by
    have hr := hA.rd _ (row_in hi).2
    have hwd := hA.wide _ (row_in hi).2
    have em := mul_rowM (B := B) (w := w) hA hl hi
    generalize A.getD i [] = r at hr hwd em ⊢
    rw [g_nm, b_ok]
    simp only [wipe, List.set]
    rw [v_biL, l_lc0, i_of, v_var, get_s, get_s, get_s, get_0, of_some, b_ok, iterOf_tup, b_ok, show (Iter.one (.vals ((colsM B w).map tI))).len h = w from (ll _).trans cols_len]
    rw [lcL_map (n := w) (val := fun j => tI (colM B j)) (out := fun j => .int (dotV r (colM B j) % p)) (fun j hj => ⟨turn_vals (by rw [List.getElem?_map, (row_in (by rw [cols_len]; exact hj)).1, cols_at hj]; rfl), by
      rw [g_nm, b_ok]
      simp only [wipe, List.set]
      rw [v_bin, dotG_ok (r := r) (s := colM B j) hr hp2 (by rw [col_len]; omega) (by omega) rfl rfl (fun _ _ => rfl) (fun _ _ => rfl), b_ok, v_var, get_0, of_some, b_ok, a_mod hp, b_ok]⟩) (by have := turn_end (xs := (colsM B w).map tI) (h := h); rwa [ll, cols_len] at this)]
    rw [em, b_ok, if_pos (isLen_lit (by rw [I_len, mulM_row hi, List.length_map, List.length_range]; omega)), b_ok]
    rfl⟩) (by have := turn_end (xs := A.map tI) (h := h); rwa [ll] at this)]
  rw [map_rows mulM_len, b_ok, if_pos (isLen_lit (by rw [ll, mulM_len]; omega)), b_ok]
  exact leave_same (bel_rows _)
end Y

set_option Elab.async false
set_option linter.all false
set_option maxRecDepth 100000
set_option maxHeartbeats 4000000
/-! Fn2: the responses of a machine. -/
namespace Y
open PySem
theorem c_eqM0 {d : Nat} {xs : List Val} {h : Heap} (D : Dt d (.tup xs)) (hd : d ≤ 60) : cmpV .Eq (.tup xs) (.tup []) h = .ok (.bl xs.isEmpty) h := by
  show (match (if dataOk 60 h (.tup xs) && dataOk 60 h (.tup []) then some (veq 60 h (.tup xs) (.tup [])) else none) with
    | some b => R.ok (Val.bl b) h
    | none => .bad) = _
  rw [D.data 60 hd]
  cases xs with
  | nil => rfl
  | cons x xs => rfl
def b_need_number (a : Nat) : Sts := .cons (.ife (.not (.call a (.cons (.var 0) (.cons (.var 1) (.cons (.var 2) .nil))))) (.cons .never .nil) .nil) .nil
def NeedNum (t : T) (i : Nat) : Prop := ∀ (n lo hi : Int) h, lo ≤ n → n ≤ hi → t.call i [.int n, .int lo, .int hi] h = .ok .non h
theorem need_number_ok {t' t : T} {i a : Nat} (H : Has t' t i 3 0 (b_need_number a)) (h1 : IsIn t a) : NeedNum t' i := fun n lo hi h hl hh => by
  rw [H _ _ rfl]
  unfold runB b_need_number
  have e := h1 n lo hi h
  rw [decide_eq_true hl, decide_eq_true hh] at e
  simp only [List.map_cons, List.map_nil, List.cons_append, List.nil_append, List.replicate]
  rw [r_cons, r_ife, t_not, t_call, v_call, x_cons, v_var, get_0, of_some, b_ok, x_cons, v_var, get_s, get_0, of_some, b_ok, x_cons, v_var, get_s, get_s, get_0, of_some, b_ok, x_nil, b_ok, b_ok, b_ok, b_ok, e, tst_ok, tru_bl, of_some, b_ok, then_ok, if_neg (by decide), r_nil, sq_nx, r_nil]
  exact leave_nx
def s_resp (pr : Nat) : Sts := .cons (.ife (.cmp .Eq (.var 3) (.tup .nil)) (.cons (.expr (.app (.var 7) (.bin .Mult (.tup (.cons (.bin .Mult (.tup (.cons (.cst (.int 0)) .nil)) (.bi .len (.idx (.var 6) (.cst (.int 0))))) .nil)) (.bi .len (.var 6))))) .nil) (.cons (.expr (.app (.var 7) (.call pr (.cons (.var 0) (.cons (.var 5) (.cons (.var 8) .nil)))))) (.cons (.asg (.nm 8) (.call pr (.cons (.var 0) (.cons (.var 3) (.cons (.var 8) .nil))))) .nil))) .nil
def b_resp_of (pr : Nat) : Sts := .cons (.asg (.tup (.cons (.nm 3) (.cons (.nm 4) (.cons (.nm 5) (.cons (.nm 6) .nil))))) (.var 1)) (.cons (.par2 7 8 (.new (.disp (.cons (.var 6) .nil))) (.var 4)) (.cons (.whl (.cmp .Lt (.bi .len (.var 7)) (.var 2)) (s_resp pr)) (.cons (.ret (.bi .tuple (.var 7))) .nil)))
def respsM (p : Int) (a b c d : List (List Int)) (m many : Nat) : List (List (List Int)) := (List.range many).map (respM p a b c d m)
def tR (rs : List (List (List Int))) : Val := .tup (rs.map tM)
def RespM (t : T) (i : Nat) : Prop := ∀ (p : Int) (n m q : Nat) (a b c d : List (List Int)) (many : Nat) h, p ∈ primes → IsMach p n m q a b c d → 1 ≤ many → many ≤ 60 → t.call i [.int p, mach a b c d, .int many] h = .ok (tR (respsM p a b c d m many)) h
section
variable {t : T} {p : Int} {n m q : Nat} {a b c d : List (List Int)} {h : Heap} {many k : Nat}
theorem resps_len : (respsM p a b c d m k).length = k := by simp [respsM]
theorem resps_succ : respsM p a b c d m (k + 1) = respsM p a b c d m k ++ [respM p a b c d m k] := by
  unfold respsM
  rw [List.range_succ, List.map_append]; rfl
theorem pow_nil (h : a = []) (hb : b = []) : powX p a b m k = [] := by
  subst h hb
  cases k <;> rfl
theorem resp_nil (hb : b = []) (ha : a = []) (hc : c.length = q) : respM p a b c d m (k + 1) = List.replicate q (List.replicate m 0) := by
  show mulM p c (powX p a b m k) m = _
  rw [pow_nil ha hb]
  unfold mulM
  refine List.ext_getElem? fun i => ?_
  rw [List.getElem?_map, List.getElem?_replicate]
  by_cases hi : i < c.length
  · rw [List.getElem?_eq_getElem hi, if_pos (by omega)]
    show some _ = some _
    congr 1
    refine co_ext (by rw [List.length_map, List.length_range, List.length_replicate]) fun j => ?_
    rw [co_range, co_rep]
    split
    · exact Int.zero_emod p
    · rfl
  · rw [List.getElem?_eq_none (by omega), if_neg (by omega)]; rfl
theorem flat_one {α : Type} (x : α) : ∀ n, (List.replicate n [x]).flatten = List.replicate n x
  | 0 => rfl
  | n + 1 => by
    rw [List.replicate_succ, List.flatten_cons, flat_one x n, List.replicate_succ]; rfl
theorem mulT_ok {x : Val} {k : Nat} (hk : k ≤ 1000) : binV .Mult (.tup [x]) (.int (k : Int)) h = .ok (.tup (List.replicate k x)) h := by
  show (if Nat.ble 1 1000 && (decide (-1000 ≤ (k : Int)) && decide ((k : Int) ≤ 1000)) then R.ok (Val.tup (List.replicate (k : Int).toNat [x]).flatten) h else .bad) = _
  rw [decide_eq_true (by omega), decide_eq_true (by omega), Int.toNat_natCast, flat_one]; rfl
theorem resp_1 {pr : Nat} (h1 : ProdM t pr) (hp : p ∈ primes) (M : IsMach p n m q a b c d) (hk : k + 1 < many) (hm : many ≤ 60) :
    denSs t h.length (s_resp pr) [some (.int p), some (mach a b c d), some (.int many), some (tM a), some (tM b), some (tM c), some (tM d), some (.lst h.length), some (tM (powX p a b m k))] (h ++ [.lst ((respsM p a b c d m (k + 1)).map tM)]) =
      .nx [some (.int p), some (mach a b c d), some (.int many), some (tM a), some (tM b), some (tM c), some (tM d), some (.lst h.length), some (tM (powX p a b m (k + 1)))] (h ++ [.lst ((respsM p a b c d m (k + 2)).map tM)]) := by
  have rp := pr_rng hp
  have n8 := M.n8
  have m4 := M.m4
  have q4 := M.q4
  have m1 := M.m1
  have q1 := M.q1
  have al := M.al
  have cl := M.cl
  have dl := M.dl
  have e2 : (respsM p a b c d m (k + 2)).map tM = (respsM p a b c d m (k + 1)).map tM ++ [tM (respM p a b c d m (k + 1))] := by rw [resps_succ, List.map_append]; rfl
  have lx := pow_len M k
  have ix := pow_isM (by omega) M k
  have D : Dt 2 (tM a) := dt_M (by omega) fun r hr => by rw [M.am.wide r hr]; omega
  have k7 := app_app (h := h) (g := [.lst ((respsM p a b c d m (k + 1)).map tM)]) (m := 0) (xs := (respsM p a b c d m (k + 1)).map tM) (v := tM (respM p a b c d m (k + 1))) rfl (by rw [List.length_map, resps_len]; omega)
  rw [e2]
  have il : isLst (h ++ [.lst ((respsM p a b c d m (k + 1)).map tM)]) (.lst h.length) = true := by
    show (listAt (h ++ [.lst ((respsM p a b c d m (k + 1)).map tM)]) h.length).isSome = true
    rw [listAt_app0]; rfl
  have k7' : appV h.length (.lst h.length) (tM (respM p a b c d m (k + 1))) (h ++ [.lst ((respsM p a b c d m (k + 1)).map tM)]) = .ok .non (h ++ [.lst ((respsM p a b c d m (k + 1)).map tM ++ [tM (respM p a b c d m (k + 1))])]) := k7
  clear k7
  have e9 := c_eqM0 (h := h ++ [.lst ((respsM p a b c d m (k + 1)).map tM)]) D (by omega)
  by_cases ha : a = []
  · have hb : b = [] := List.eq_nil_of_length_eq_zero (by rw [M.bl]; rw [ha] at al; exact al.symm)
    have e3 : tM (respM p a b c d m (k + 1)) = .tup (List.replicate q (tI (List.replicate m 0))) := by
      rw [resp_nil hb ha M.cl]
      show Val.tup _ = _
      rw [List.map_replicate]
    rw [show (a.map tI).isEmpty = true by rw [ha]; rfl] at e9
    rw [pow_nil ha hb, pow_nil (k := k + 1) ha hb]
    generalize (respsM p a b c d m (k + 1)).map tM = L at *
    generalize tM (respM p a b c d m (k + 1)) = v at *
    have d0 := row_in (rows := d) (i := 0) (by omega)
    have w0 := M.dm.wide _ d0.2
    have e0 : idxV (tM d) (.int 0) (h ++ [.lst L]) = .ok (tI (d.getD 0 [])) _ := idx_rows (x := tM d) (k := 0) rfl (by omega)
    generalize d.getD 0 [] = d0' at e0 w0
    have e4 := zeros_ok (m := m) (h := h ++ [.lst L]) (by omega)
    have e5 := mulT_ok (x := tI (List.replicate m 0)) (k := q) (h := h ++ [.lst L]) (by omega)
    rw [← e3] at e5
    unfold s_resp
    rw [r_cons, r_ife, t_cmp, v_cmp, v_var]
    simp only [get_s, get_0]
    rw [of_some, b_ok, v_tup, x_nil, b_ok, if_pos (by rfl), b_ok, e9, tst_ok, tru_bl, of_some, then_ok, if_pos (by rfl), r_cons, r_expr, v_app, v_var]
    simp only [get_s, get_0]
    rw [of_some, b_ok, il, if_pos (by rfl), v_bin, v_tup, x_cons, v_bin, v_tup, x_cons, v_cst, b_ok, x_nil, b_ok, b_ok, if_pos (by rfl), b_ok, v_bi, v_idx, v_var]
    simp only [get_s, get_0]
    rw [of_some, b_ok, v_cst, b_ok, e0, b_ok, bi_lenT, I_len, w0, b_ok, e4, b_ok, x_nil, b_ok, b_ok, if_pos (by rfl), b_ok, v_bi, v_var]
    simp only [get_s, get_0]
    rw [of_some, b_ok, bi_lenT, List.length_map, dl, b_ok, e5, b_ok, k7', then_ok, sq_nx, r_nil, sq_nx, r_nil]
  · have hn : n ≠ 0 := fun e => ha (List.eq_nil_of_length_eq_zero (by omega))
    rw [show (a.map tI).isEmpty = false by cases a with
      | nil => exact absurd rfl ha
      | cons _ _ => rfl] at e9
    have f1 := h1 p c (powX p a b m k) n m (h ++ [.lst ((respsM p a b c d m (k + 1)).map tM)]) (by omega) rp.2 M.cm ix lx (by omega) (by omega) m1 (by omega) (by omega)
    have f2 := h1 p a (powX p a b m k) n m (h ++ [.lst ((respsM p a b c d m (k + 1)).map tM ++ [tM (respM p a b c d m (k + 1))])]) (by omega) rp.2 M.am ix lx (by omega) (by omega) m1 (by omega) (by omega)
    rw [show mulM p c (powX p a b m k) m = respM p a b c d m (k + 1) from rfl] at f1
    rw [show mulM p a (powX p a b m k) m = powX p a b m (k + 1) from rfl] at f2
    generalize (respsM p a b c d m (k + 1)).map tM = L at *
    generalize tM (respM p a b c d m (k + 1)) = v at *
    generalize powX p a b m (k + 1) = Y1 at *
    generalize powX p a b m k = Y0 at *
    unfold s_resp
    rw [r_cons, r_ife, t_cmp, v_cmp, v_var]
    simp only [get_s, get_0]
    rw [of_some, b_ok, v_tup, x_nil, b_ok, if_pos (by rfl), b_ok, e9, tst_ok, tru_bl, of_some, then_ok, if_neg (by decide), r_cons, r_expr, v_app, v_var]
    simp only [get_s, get_0]
    rw [of_some, b_ok, il, if_pos (by rfl), v_call]
    simp only [x_cons, v_var, get_s, get_0, of_some, b_ok, x_nil]
    rw [f1, b_ok, k7', then_ok, sq_nx, r_cons, r_nm, v_call]
    simp only [x_cons, v_var, get_s, get_0, of_some, b_ok, x_nil]
    rw [f2, then_ok, sq_nx, r_nil, sq_nx, r_nil]
    rfl
theorem bel_R {n : Nat} {rs : List (List (List Int))} : below n (tR rs) = true := by
  unfold tR below
  refine bel_all fun x hx => ?_
  obtain ⟨r, _, rfl⟩ := List.mem_map.mp hx
  exact bel_rows r
theorem resp_of_ok {t' : T} {i pr : Nat} (H : Has t' t i 3 6 (b_resp_of pr)) (h1 : ProdM t pr) : RespM t' i := fun p n m q a b c d many h hp M hm1 hm => by
  rw [H _ _ rfl]
  unfold runB b_resp_of
  obtain ⟨env', h', e, k, hk, he, hh⟩ := while_inv (test := (den t h.length (.cmp .Lt (.bi .len (.var 7)) (.var 2))).t) (body := denSs t h.length (s_resp pr))
    (fun j env h' => ∃ k, k + 1 + j = many ∧ env = [some (.int p), some (mach a b c d), some (.int many), some (tM a), some (tM b), some (tM c), some (tM d), some (.lst h.length), some (tM (powX p a b m k))] ∧ h' = h ++ [.lst ((respsM p a b c d m (k + 1)).map tM)])
    (Q := fun env h' => ∃ k, k + 1 = many ∧ env = [some (.int p), some (mach a b c d), some (.int many), some (tM a), some (tM b), some (tM c), some (tM d), some (.lst h.length), some (tM (powX p a b m k))] ∧ h' = h ++ [.lst ((respsM p a b c d m (k + 1)).map tM)])
    (fun j env h' ⟨k, hk, he, hh⟩ => by
      subst he hh
      have el : biV .len (.lst h.length) (h ++ [.lst ((respsM p a b c d m (k + 1)).map tM)]) = .ok (.int ((k + 1 : Nat) : Int)) (h ++ [.lst ((respsM p a b c d m (k + 1)).map tM)]) := by
        rw [bi_lenL (xs := (respsM p a b c d m (k + 1)).map tM) listAt_app0, List.length_map, resps_len]
      have et : (den t h.length (.cmp .Lt (.bi .len (.var 7)) (.var 2))).t [some (.int p), some (mach a b c d), some (.int many), some (tM a), some (tM b), some (tM c), some (tM d), some (.lst h.length), some (tM (powX p a b m k))] (h ++ [.lst ((respsM p a b c d m (k + 1)).map tM)]) = .ok (decide (k + 1 < many)) (h ++ [.lst ((respsM p a b c d m (k + 1)).map tM)]) := by
        rw [t_cmp, v_cmp, v_bi, v_var]
        simp only [get_s, get_0]
        rw [of_some, b_ok, el, b_ok, v_var]
        simp only [get_s, get_0]
        rw [of_some, b_ok, c_lt, tst_ok, tru_bl, of_some]
        congr 1
        exact decide_eq_decide.mpr (by omega)
      by_cases hj : j = 0
      · refine .inl ⟨_, ?_, k, by omega, rfl, rfl⟩
        rw [et, decide_eq_false (by omega)]
      · refine .inr ⟨_, _, _, j - 1, ?_, resp_1 h1 hp M (by omega) hm, by omega, k + 1, by omega, rfl, rfl⟩
        rw [et, decide_eq_true (by omega)]) (many - 1) fuelW (env := [some (.int p), some (mach a b c d), some (.int many), some (tM a), some (tM b), some (tM c), some (tM d), some (.lst h.length), some (tM b)]) (h := h ++ [.lst [tM d]]) (by unfold fuelW; omega) ⟨0, by omega, rfl, rfl⟩
  subst he hh
  rw [hk] at e
  simp only [List.map_cons, List.map_nil, List.cons_append, List.nil_append, List.replicate]
  rw [r_cons, r_asg, v_var, get_s, get_0, of_some, then_ok, g_mach, g_cons, g_nm, b_ok, g_cons, g_nm, b_ok, g_cons, g_nm, b_ok, g_cons, g_nm, b_ok, g_nil, then_ok, sq_nx]
  simp only [List.set]
  rw [r_cons, r_par2, v_new, l_disp, x_cons, v_var]
  simp only [get_s, get_0]
  rw [of_some, b_ok, x_nil, b_ok, b_ok, if_pos (by rfl), b_ok, new_app, then_ok, v_var]
  simp only [get_s, get_0]
  rw [of_some, then_ok, sq_nx]
  simp only [List.set]
  rw [r_cons, r_whl, e, sq_nx, r_cons, r_ret, v_bi, v_var]
  simp only [get_s, get_0]
  rw [of_some, b_ok, bi_tupL (xs := (respsM p a b c d m many).map tM) listAt_app0, then_ok, sq_ret]
  exact leave_more bel_R
def b_responses (np nm nn g ro : Nat) : Sts := .cons (.expr (.call np (.cons (.var 0) .nil))) (.cons (.expr (.call nm (.cons (.var 0) (.cons (.var 1) .nil)))) (.cons (.expr (.call nn (.cons (.var 2) (.cons (.cst (.int 1)) (.cons (.glo g) .nil))))) (.cons (.ret (.call ro (.cons (.var 0) (.cons (.var 1) (.cons (.var 2) .nil))))) .nil)))
theorem responses_ok {t' : T} {i np nm nn g ro : Nat} (H : Has t' t i 3 0 (b_responses np nm nn g ro)) (h0 : NeedPrime t np) (h1 : NeedMachine t nm) (h2 : NeedNum t nn) (h3 : RespM t ro) (hg : t.gl[g]? = some (.int 60)) : RespM t' i := fun p n m q a b c d many h hp M hm1 hm => by
  rw [H _ _ rfl]
  unfold runB b_responses
  have f0 := h0 p h hp
  have f1 := h1 p n m q a b c d h M
  have f2 := h2 many 1 60 h (by omega) (by omega)
  have f3 := h3 p n m q a b c d many h hp M hm1 hm
  simp only [List.map_cons, List.map_nil, List.cons_append, List.nil_append, List.replicate]
  rw [r_cons, r_expr, v_call, x_cons, v_var, get_0, of_some, b_ok, x_nil, b_ok, b_ok, f0, then_ok, sq_nx]
  rw [r_cons, r_expr, v_call, x_cons, v_var, get_0, of_some, b_ok, x_cons, v_var, get_s, get_0, of_some, b_ok, x_nil, b_ok, b_ok, b_ok, f1, then_ok, sq_nx]
  rw [r_cons, r_expr, v_call, x_cons, v_var, get_s, get_s, get_0, of_some, b_ok, x_cons, v_cst, b_ok, x_cons, v_glo, hg, of_some, b_ok, x_nil, b_ok, b_ok, b_ok, b_ok, f2, then_ok, sq_nx]
  rw [r_cons, r_ret, v_call, x_cons, v_var, get_0, of_some, b_ok, x_cons, v_var, get_s, get_0, of_some, b_ok, x_cons, v_var, get_s, get_s, get_0, of_some, b_ok, x_nil, b_ok, b_ok, b_ok, b_ok, f3, then_ok, sq_ret]
  exact leave_same bel_R
end
end Y

set_option Elab.async false
set_option linter.all false
set_option maxRecDepth 100000
set_option maxHeartbeats 4000000
/-! Fn3: the law's product of matrices, its unit. -/
namespace Y
open PySem
def e_msum : Ex := .biL .sum (.lc [7] (.nm 7) (.r1 (.bi .len (.var 2))) .none (.bin .Mult (.idx (.var 4) (.var 7)) (.idx (.idx (.var 2) (.var 7)) (.var 6))))
def s_lpr : Sts := .cons (.expr (.app (.var 5) (.bin .Mod (.bi .int e_msum) (.var 0)))) .nil
def s_lpr2 : Sts := .cons (.asg (.nm 5) (.new (.disp .nil))) (.cons (.for_ (.nm 6) (.r1 (.bi .len (.idx (.var 2) (.cst (.int 0))))) s_lpr) (.cons (.expr (.app (.var 3) (.bi .tuple (.var 5)))) .nil))
def b_lproduct : Sts := .cons (.asg (.nm 3) (.new (.disp .nil))) (.cons (.for_ (.nm 4) (.of (.var 1)) s_lpr2) (.cons (.ret (.bi .tuple (.var 3))) .nil))
section
variable {t : T} {h : Heap} {p : Int} {A B : List (List Int)} {r : List Int} {n w : Nat} {i j : Nat}
theorem app_last {G : Heap} {xs : List Val} {v : Val} (hl : xs.length ≤ 1000) : appV h.length (.lst (h.length + G.length)) v (h ++ (G ++ [.lst xs])) = .ok .non (h ++ (G ++ [.lst (xs ++ [v])])) := by
  have e := app_app (h := h) (g := G ++ [.lst xs]) (m := G.length) (xs := xs) (v := v) (by rw [List.getElem?_append_right (Nat.le_refl _), Nat.sub_self]; rfl) hl
  rw [e, List.set_append_right _ _ (Nat.le_refl _), Nat.sub_self]; rfl
theorem at_last {G : Heap} {xs : List Val} : listAt (h ++ (G ++ [.lst xs])) (h.length + G.length) = some xs := by
  unfold listAt
  rw [List.getElem?_append_right (Nat.le_add_right _ _), Nat.add_sub_cancel_left, List.getElem?_append_right (Nat.le_refl _), Nat.sub_self]; rfl
theorem lsum_1 {b0 : Nat} {H : Heap} {o1 o3 o5 o7 : Option Val} (hp : p < 2 ^ 30) (hr : Rd p r) (hrl : r.length = n) (hB : IsM p w B) (hl : B.length = n) (hn : n ≤ 1000) (hj : j < w) :
    (den t b0 e_msum).v [some (.int p), o1, some (tM B), o3, some (tI r), o5, some (.int (j : Int)), o7] H = .ok (.int (sm B.length fun k => co r k * at2 B k j)) H := by
  unfold e_msum
  rw [v_biL, l_lc0, i_r1, v_bi, v_var, get_s, get_s, get_0, of_some, b_ok, bi_lenT, List.length_map, b_ok, intK_int, rangeN (by omega), b_ok, len_up]
  rw [lcL_map (n := B.length) (val := fun i => .int i) (out := fun k => .int (co r k * at2 B k j)) (fun k hk => ⟨turn_up hk, by
    have hrow := row_in hk
    have w1 := hB.wide _ hrow.2
    have e1 := idx_nat (x := tI r) (xs := r) (k := k) (h := H) rfl (by omega)
    have e2 := idx_rows (x := tM B) (rows := B) (k := k) (h := H) rfl hk
    have e3 := idx_nat (x := tI (B.getD k [])) (xs := B.getD k []) (k := j) (h := H) rfl (by omega)
    have e := a_mul (i := co r k) (j := at2 B k j) (h := H) (by rw [rd_small hr (by omega)]; rfl)
    rw [show co (B.getD k []) j = at2 B k j from rfl] at e3
    generalize B.getD k [] = s at e2 e3
    generalize at2 B k j = y at e e3 ⊢
    rw [g_nm, b_ok]
    simp only [wipe, List.set]
    rw [v_bin, v_idx, v_var]
    simp only [get_s, get_0]
    rw [of_some, b_ok, v_var]
    simp only [get_s, get_0]
    rw [of_some, b_ok, e1, b_ok, v_idx, v_idx, v_var]
    simp only [get_s, get_0]
    rw [of_some, b_ok, v_var]
    simp only [get_s, get_0]
    rw [of_some, b_ok, e2, b_ok, v_var]
    simp only [get_s, get_0]
    rw [of_some, b_ok, e3, b_ok, e, b_ok]⟩) turn_up_end, map_I]
  rw [b_ok, if_pos (isLen_lit (by simp; omega)), b_ok]
  show (match asInts (I ((List.range B.length).map fun i => co r i * at2 B i j)) with
    | some ns => R.ok (Val.int ns.sum) H
    | none => .bad) = _
  rw [asInts_I]
  show R.ok (Val.int ((List.range B.length).map fun i => co r i * at2 B i j).sum) H = _
  rw [sum_sm]
/-- a row of the product, the first j numbers -/
def rowP (p : Int) (r : List Int) (B : List (List Int)) (j : Nat) : List Int := (List.range j).map fun j => (sm B.length fun k => co r k * at2 B k j) % p
theorem rowP_succ : rowP p r B (j + 1) = rowP p r B j ++ [(sm B.length fun k => co r k * at2 B k j) % p] := by
  unfold rowP
  rw [List.range_succ, List.map_append]; rfl
theorem rowP_len : (rowP p r B j).length = j := by simp [rowP]
theorem lpr_1 {o1 : Option Val} {G : Heap} (hp0 : 0 < p) (hp : p < 2 ^ 30) (hr : Rd p r) (hrl : r.length = n) (hB : IsM p w B) (hl : B.length = n) (hn : n ≤ 1000) (hj : j < w) (hw : w ≤ 1000) :
    denSs t h.length s_lpr [some (.int p), o1, some (tM B), some (.lst h.length), some (tI r), some (.lst (h.length + G.length)), some (.int (j : Int)), none] (h ++ (G ++ [.lst (I (rowP p r B j))])) =
      .nx [some (.int p), o1, some (tM B), some (.lst h.length), some (tI r), some (.lst (h.length + G.length)), some (.int (j : Int)), none] (h ++ (G ++ [.lst (I (rowP p r B (j + 1)))])) := by
  have e1 : ∀ H, (den t h.length e_msum).v [some (.int p), o1, some (tM B), some (.lst h.length), some (tI r), some (.lst (h.length + G.length)), some (.int (j : Int)), none] H = _ := fun H => lsum_1 (H := H) (o1 := o1) (o3 := some (.lst h.length)) (o5 := some (.lst (h.length + G.length))) (o7 := none) hp hr hrl hB hl hn hj
  have e2 := app_last (h := h) (G := G) (xs := I (rowP p r B j)) (v := .int ((sm B.length fun k => co r k * at2 B k j) % p)) (by rw [I_len, rowP_len]; omega)
  have e3 : I (rowP p r B j) ++ [.int ((sm B.length fun k => co r k * at2 B k j) % p)] = I (rowP p r B (j + 1)) := by
    rw [rowP_succ]
    unfold I
    rw [List.map_append]; rfl
  rw [e3] at e2
  have il : isLst (h ++ (G ++ [.lst (I (rowP p r B j))])) (.lst (h.length + G.length)) = true := by
    show (listAt (h ++ (G ++ [.lst (I (rowP p r B j))])) (h.length + G.length)).isSome = true
    rw [at_last]; rfl
  generalize (sm B.length fun k => co r k * at2 B k j) = z at *
  generalize I (rowP p r B j) = L at *
  generalize I (rowP p r B (j + 1)) = L2 at *
  unfold s_lpr
  rw [r_cons, r_expr, v_app, v_var]
  simp only [get_s, get_0]
  rw [of_some, b_ok, il, if_pos (by rfl), v_bin, v_bi, e1, b_ok, bi_int, b_ok, v_var]
  simp only [get_s, get_0]
  rw [of_some, b_ok, a_mod hp0, b_ok, e2, then_ok, sq_nx, r_nil]
/-- the product, the first i rows -/
def rowsP (p : Int) (A B : List (List Int)) (w i : Nat) : List Val := (List.range i).map fun k => tI ((mulM p A B w).getD k [])
theorem rowsP_succ : rowsP p A B w (i + 1) = rowsP p A B w i ++ [tI ((mulM p A B w).getD i [])] := by
  unfold rowsP
  rw [List.range_succ, List.map_append]; rfl
theorem rowsP_len : (rowsP p A B w i).length = i := by simp [rowsP]
theorem lpr_2 {G : Heap} {o4 o5 o6 : Option Val} (hp0 : 0 < p) (hp : p < 2 ^ 30) (hA : IsM p n A) (hB : IsM p w B) (hl : B.length = n) (hn1 : 1 ≤ n) (hn : n ≤ 1000) (hw : w ≤ 1000) (hi : i < A.length) (hAl : A.length ≤ 1000) :
    ∃ (G' : Heap) (o5' o6' : Option Val), denSs t h.length s_lpr2 [some (.int p), some (tM A), some (tM B), some (.lst h.length), some (tI (A.getD i [])), o5, o6, none] (h ++ (.lst (rowsP p A B w i) :: G)) =
      .nx [some (.int p), some (tM A), some (tM B), some (.lst h.length), some (tI (A.getD i [])), o5', o6', none] (h ++ (.lst (rowsP p A B w (i + 1)) :: G')) := by
  have rr := hA.rd _ (row_in hi).2
  have rw' := hA.wide _ (row_in hi).2
  have em : rowP p (A.getD i []) B w = (mulM p A B w).getD i [] := by rw [mulM_row hi]; rfl
  rw [rowsP_succ, ← em]
  have hol : (rowsP p A B w i).length ≤ 1000 := by rw [rowsP_len]; omega
  generalize rowsP p A B w i = L at *
  generalize A.getD i [] = r at *
  have b0 := row_in (rows := B) (i := 0) (by omega)
  have w0 := hB.wide _ b0.2
  have e0 : ∀ H, idxV (tM B) (.int 0) H = .ok (tI (B.getD 0 [])) H := fun H => idx_rows (x := tM B) (k := 0) rfl (by omega)
  generalize B.getD 0 [] = b0' at e0 w0
  obtain ⟨env', h', e, o6', he, hh⟩ := forL_inv (it := .one (.vals (upTo w 0))) (n := w) (val := fun i => .int i) (body := fun v env2 h2 => (denT t h.length (.nm 6) v env2 h2).then env2 fun env3 h3 => denSs t h.length s_lpr env3 h3)
    (fun j env h' => ∃ o6, env = [some (.int p), some (tM A), some (tM B), some (.lst h.length), some (tI r), some (.lst (h.length + (Cell.lst L :: G).length)), o6, none] ∧ h' = h ++ ((Cell.lst L :: G) ++ [.lst (I (rowP p r B j))]))
    (fun j env h' hj ⟨o6, he, hh⟩ => ⟨turn_up hj, by
      subst he hh
      refine ⟨_, _, ?_, some (.int j), rfl, rfl⟩
      rw [g_nm, then_ok]
      simp only [List.set]
      exact lpr_1 hp0 hp rr rw' hB hl hn hj hw⟩) (fun _ _ _ => turn_up_end) (env := [some (.int p), some (tM A), some (tM B), some (.lst h.length), some (tI r), some (.lst (h.length + (Cell.lst L :: G).length)), o6, none]) (h := h ++ ((Cell.lst L :: G) ++ [.lst []])) ⟨o6, rfl, rfl⟩
  subst he hh
  have k0 := at_last (h := h) (G := Cell.lst L :: G) (xs := I (rowP p r B w))
  have k1 := app_app (h := h) (g := (Cell.lst L :: G) ++ [.lst (I (rowP p r B w))]) (m := 0) (xs := L) (v := tI (rowP p r B w)) rfl hol
  have k1' : appV h.length (.lst h.length) (tI (rowP p r B w)) (h ++ ((Cell.lst L :: G) ++ [.lst (I (rowP p r B w))])) = .ok .non (h ++ (.lst (L ++ [tI (rowP p r B w)]) :: (G ++ [.lst (I (rowP p r B w))]))) := k1
  clear k1
  have il : isLst (h ++ ((Cell.lst L :: G) ++ [.lst (I (rowP p r B w))])) (.lst h.length) = true := by
    show (listAt (h ++ ((Cell.lst L :: G) ++ [.lst (I (rowP p r B w))])) h.length).isSome = true
    rw [listAt_app0]; rfl
  have kb : biV .tuple (.lst (h.length + (Cell.lst L :: G).length)) (h ++ ((Cell.lst L :: G) ++ [.lst (I (rowP p r B w))])) = .ok (tI (rowP p r B w)) (h ++ ((Cell.lst L :: G) ++ [.lst (I (rowP p r B w))])) := bi_tupL k0
  refine ⟨G ++ [.lst (I (rowP p r B w))], some (.lst (h.length + (Cell.lst L :: G).length)), o6', ?_⟩
  have en : new [] (h ++ (Cell.lst L :: G)) = .ok (.lst (h.length + (Cell.lst L :: G).length)) (h ++ ((Cell.lst L :: G) ++ [.lst []])) := by
    rw [new_app, List.length_append, List.append_assoc]
  generalize Cell.lst L :: G = G1 at *
  generalize tI (rowP p r B w) = x at *
  unfold s_lpr2
  rw [r_cons, r_nm, v_new, l_disp, x_nil, b_ok, if_pos (by rfl), b_ok, en, then_ok, sq_nx]
  simp only [List.set]
  rw [r_cons, r_for, i_r1, v_bi, v_idx, v_var]
  simp only [get_s, get_0]
  rw [of_some, b_ok, v_cst, b_ok, e0, b_ok, bi_lenT, I_len, w0, b_ok, intK_int, rangeN (by omega), then_ok, len_up, e, sq_nx]
  rw [r_cons, r_expr, v_app, v_var]
  simp only [get_s, get_0]
  rw [of_some, b_ok, il, if_pos (by rfl), v_bi, v_var]
  simp only [get_s, get_0]
  rw [of_some, b_ok, kb, b_ok, k1', then_ok, sq_nx, r_nil]
theorem lproduct_ok {t' : T} {i : Nat} (H : Has t' t i 3 5 b_lproduct) : ProdM t' i := fun p A B n w h hp hp2 hA hB hl hn1 hn hw1 hw hAl => by
  rw [H _ _ rfl]
  unfold runB b_lproduct
  obtain ⟨env', h', e, G, o4, o5, o6, he, hh⟩ := rows_loop (us := A) (body := fun v env2 h2 => (denT t h.length (.nm 4) v env2 h2).then env2 fun env3 h3 => denSs t h.length s_lpr2 env3 h3)
    (fun i env h' => ∃ G o4 o5 o6, env = [some (.int p), some (tM A), some (tM B), some (.lst h.length), o4, o5, o6, none] ∧ h' = h ++ (.lst (rowsP p A B w i) :: G)) (fun i env h' hi ⟨G, o4, o5, o6, he, hh⟩ => by
      subst he hh
      obtain ⟨G', o5', o6', e⟩ := lpr_2 (t := t) (h := h) (G := G) (o4 := o4) (o5 := o5) (o6 := o6) hp hp2 hA hB hl hn1 (by omega) hw hi hAl
      refine ⟨_, _, ?_, G', some (tI (A.getD i [])), o5', o6', rfl, rfl⟩
      rw [g_nm, then_ok]
      simp only [List.set]
      exact e) (env := [some (.int p), some (tM A), some (tM B), some (.lst h.length), none, none, none, none]) (h := h ++ [.lst []]) ⟨[], none, none, none, rfl, rfl⟩
  subst he hh
  simp only [List.map_cons, List.map_nil, List.cons_append, List.nil_append, List.replicate]
  rw [r_cons, r_nm, v_new, l_disp, x_nil, b_ok, if_pos (by rfl), b_ok, new_app, then_ok, sq_nx]
  simp only [List.set]
  rw [r_cons, r_for, i_of, v_var, get_s, get_0, of_some, b_ok, iterOf_tup, then_ok, show (Iter.one (.vals (A.map tI))).len (h ++ [.lst []]) = A.length from List.length_map _, e, sq_nx, r_cons, r_ret, v_bi, v_var]
  simp only [get_s, get_0]
  have el : rowsP p A B w A.length = (mulM p A B w).map tI := map_rows mulM_len
  rw [of_some, b_ok, bi_tupL (xs := (mulM p A B w).map tI) (by rw [listAt_app0, el]; rfl), then_ok, sq_ret]
  exact leave_more (bel_rows _)
/-! the unit -/
def b_lunit : Sts := .cons (.ret (.biL .tuple (.lc [1] (.nm 1) (.r1 (.var 0)) .none (.biL .tuple (.lc [2] (.nm 2) (.r1 (.var 0)) .none (.ife (.cmp .Eq (.var 1) (.var 2)) (.cst (.int 1)) (.cst (.int 0)))))))) .nil
def UnitL (t : T) (i : Nat) : Prop := ∀ (n : Nat) h, n ≤ 1000 → t.call i [.int n] h = .ok (tM (unitM n)) h
/-- a row of units, the slots told -/
def e_uni (x y : Nat) (it : It) : Ex := .biL .tuple (.lc [y] (.nm y) it .none (.ife (.cmp .Eq (.var x) (.var y)) (.cst (.int 1)) (.cst (.int 0))))
theorem uni_ok {b0 x y i : Nat} {env : Env} {it : It} (hit : denI t b0 it env h = .ok (.one (.vals (upTo n 0))) h) (hn : n ≤ 1000) (g1 : ∀ v, Env.get ((wipe env [y]).set y (some v)) x = some (.int (i : Int))) (g2 : ∀ v, Env.get ((wipe env [y]).set y (some v)) y = some v) :
    (den t b0 (e_uni x y it)).v env h = .ok (tI (unitV n i)) h := by
  unfold e_uni
  rw [v_biL, l_lc0, hit, b_ok, len_up]
  rw [lcL_map (n := n) (val := fun i => .int i) (out := fun k => .int (if i = k then 1 else 0)) (fun k hk => ⟨turn_up hk, by
    rw [g_nm, b_ok, v_ife, t_cmp, v_cmp, v_var, g1, of_some, b_ok, v_var, g2, of_some, b_ok, c_eqI, tst_ok, tru_bl, of_some, b_ok]
    by_cases e : i = k
    · rw [if_pos e, decide_eq_true (by omega), if_pos (by rfl), v_cst, b_ok]
    · rw [if_neg e, decide_eq_false (by omega), if_neg (by decide), v_cst, b_ok]⟩) turn_up_end, map_I]
  rw [b_ok, if_pos (isLen_lit (by simp; omega)), b_ok]
  rfl
theorem lunit_ok {t' : T} {i : Nat} (H : Has t' t i 1 2 b_lunit) : UnitL t' i := fun n h hn => by
  rw [H _ _ rfl]
  unfold runB b_lunit
  simp only [List.map_cons, List.map_nil, List.cons_append, List.nil_append, List.replicate]
  rw [r_cons, r_ret, v_biL, l_lc0, i_r1, v_var, get_0, of_some, b_ok, intK_int, rangeN (by omega), b_ok, len_up]
  rw [lcL_map (n := n) (val := fun i => .int i) (out := fun i => tI (unitV n i)) (fun i hi => ⟨turn_up hi, by
    rw [g_nm, b_ok]
    simp only [wipe, List.set]
    rw [show (den t h.length (.biL .tuple (.lc [2] (.nm 2) (.r1 (.var 0)) .none (.ife (.cmp .Eq (.var 1) (.var 2)) (.cst (.int 1)) (.cst (.int 0)))))).v [some (.int n), some (.int i), none] h = _ from uni_ok (x := 1) (y := 2) (it := .r1 (.var 0)) (n := n) (by rw [i_r1, v_var, get_0, of_some, b_ok, intK_int, rangeN (by omega)]) hn (fun _ => rfl) (fun _ => rfl), b_ok]⟩) turn_up_end]
  rw [b_ok, if_pos (isLen_lit (by simp; omega)), b_ok]
  have e : (List.range n).map (fun i => tI (unitV n i)) = (unitM n).map tI := by
    unfold unitM
    rw [List.map_map]; rfl
  rw [e]
  exact leave_same (bel_rows _)
end
end Y

set_option Elab.async false
set_option linter.all false
set_option maxRecDepth 100000
set_option maxHeartbeats 4000000
/-! Fn4: the law's responses, by runs. -/
namespace Y
open PySem
def e_wide : Ex := .bi .len (.idx (.var 8) (.cst (.int 0)))
def s_ans (rn : Nat) : Sts := .cons (.asg (.nm 9) (e_uni 4 10 (.r1 e_wide))) (.cons (.expr (.app (.var 3) (.idx (.call rn (.cons (.var 0) (.cons (.var 1) (.cons (.bin .Mult (.tup (.cons (.cst (.int 0)) .nil)) (.bi .len (.var 5))) (.cons (.bin .Add (.tup (.cons (.var 9) .nil)) (.bin .Mult (.tup (.cons (.bin .Mult (.tup (.cons (.cst (.int 0)) .nil)) e_wide) .nil)) (.bin .Sub (.var 2) (.cst (.int 1))))) .nil))))) (.cst (.int 0))))) .nil)
def e_ans : Ex := .biL .tuple (.lc [4] (.nm 4) (.r1 (.var 2)) .none (.biL .tuple (.lc [11] (.nm 11) (.r1 (.bi .len (.var 8))) .none (.biL .tuple (.lc [12] (.nm 12) (.of (.var 3)) .none (.idx (.idx (.var 12) (.var 4)) (.var 11)))))))
def b_answers (rn : Nat) : Sts := .cons (.asg (.tup (.cons (.nm 5) (.cons (.nm 6) (.cons (.nm 7) (.cons (.nm 8) .nil))))) (.var 1)) (.cons (.asg (.nm 3) (.new (.disp .nil))) (.cons (.for_ (.nm 4) (.r1 e_wide) (s_ans rn)) (.cons (.ret e_ans) .nil)))
section
variable {t : T} {p : Int} {n m q : Nat} {a b c d : List (List Int)} {h : Heap} {many j : Nat}
def outJ (p : Int) (a b c d : List (List Int)) (m many j : Nat) : List (List Int) := (List.range many).map fun k => colM (respM p a b c d m k) j
def outsJ (p : Int) (a b c d : List (List Int)) (m many j : Nat) : List Val := (List.range j).map fun j => tM (outJ p a b c d m many j)
theorem outsJ_len : (outsJ p a b c d m many j).length = j := by simp [outsJ]
theorem outsJ_succ : outsJ p a b c d m many (j + 1) = outsJ p a b c d m many j ++ [tM (outJ p a b c d m many j)] := by
  unfold outsJ
  rw [List.range_succ, List.map_append]; rfl
theorem outJ_at {k : Nat} (hk : k < many) : (outJ p a b c d m many j).getD k [] = colM (respM p a b c d m k) j := getD_range hk
theorem wide_ok {b0 : Nat} {env : Env} {H : Heap} (M : IsMach p n m q a b c d) (g : env.get 8 = some (tM d)) : (den t b0 e_wide).v env H = .ok (.int (m : Int)) H := by
  have dl := M.dl
  have q1 := M.q1
  have d0 := row_in (rows := d) (i := 0) (by omega)
  have w0 := M.dm.wide _ d0.2
  have e0 : idxV (tM d) (.int 0) H = .ok (tI (d.getD 0 [])) H := idx_rows (x := tM d) (k := 0) rfl (by omega)
  unfold e_wide
  rw [v_bi, v_idx, v_var, g, of_some, b_ok, v_cst, b_ok, e0, b_ok, bi_lenT, I_len, w0]
theorem oneU_len (hm : 1 ≤ many) : (oneU m j many).length = many := by
  unfold oneU
  rw [List.length_cons, List.length_replicate]; omega
theorem rd_unitV (hp : 2 ≤ p) : Rd p (unitV m j) := fun k => by
  unfold unitV
  rw [co_range]
  split
  · split <;> omega
  · omega
theorem isM_oneU (hp : 2 ≤ p) : IsM p m (oneU m j many) := by
  refine ⟨fun r hr => ?_, fun r hr => ?_⟩
  · rcases List.mem_cons.mp hr with rfl | hr
    · exact rd_unitV hp
    · rw [List.eq_of_mem_replicate hr]
      exact rd_zero (by omega)
  · rcases List.mem_cons.mp hr with rfl | hr
    · simp [unitV]
    · rw [List.eq_of_mem_replicate hr, List.length_replicate]
theorem ans_1 {rn : Nat} {o9 : Option Val} (h1 : RunM t rn) (hp : p ∈ primes) (M : IsMach p n m q a b c d) (hj : j < m) (hm1 : 1 ≤ many) (hm : many ≤ 60) :
    denSs t h.length (s_ans rn) [some (.int p), some (mach a b c d), some (.int many), some (.lst h.length), some (.int (j : Int)), some (tM a), some (tM b), some (tM c), some (tM d), o9, none, none, none] (h ++ [.lst (outsJ p a b c d m many j)]) =
      .nx [some (.int p), some (mach a b c d), some (.int many), some (.lst h.length), some (.int (j : Int)), some (tM a), some (tM b), some (tM c), some (tM d), some (tI (unitV m j)), none, none, none] (h ++ [.lst (outsJ p a b c d m many (j + 1))]) := by
  have rp := pr_rng hp
  have n8 := M.n8
  have m4 := M.m4
  have al := M.al
  have lo : (outsJ p a b c d m many j).length ≤ 1000 := by rw [outsJ_len]; omega
  have k7 := app_app (h := h) (g := [.lst (outsJ p a b c d m many j)]) (m := 0) (xs := outsJ p a b c d m many j) (v := tM (outJ p a b c d m many j)) rfl lo
  have k7' : appV h.length (.lst h.length) (tM (outJ p a b c d m many j)) (h ++ [.lst (outsJ p a b c d m many j)]) = .ok .non (h ++ [.lst (outsJ p a b c d m many (j + 1))]) := by rw [outsJ_succ]; exact k7
  clear k7
  have il : isLst (h ++ [.lst (outsJ p a b c d m many j)]) (.lst h.length) = true := by
    show (listAt (h ++ [.lst (outsJ p a b c d m many j)]) h.length).isSome = true
    rw [listAt_app0]; rfl
  have lz : (List.replicate n (0 : Int)).length = n := List.length_replicate
  have lu : (oneU m j many).length = many := oneU_len hm1
  generalize hH : h ++ [.lst (outsJ p a b c d m many j)] = H at *
  have f1 := h1 p n m q a b c d (List.replicate n 0) (oneU m j many) H hp M lz (rd_zero (by omega)) (by omega) (isM_oneU (by omega))
  rw [lu, outs_resp (by omega) M hj, show (List.range many).map (fun k => colM (respM p a b c d m k) j) = outJ p a b c d m many j from rfl] at f1
  have z1 := zeros_ok (m := n) (h := H) (by omega)
  have z2 := zeros_ok (m := m) (h := H) (by omega)
  have z3 := mulT_ok (x := tI (List.replicate m 0)) (k := many - 1) (h := H) (by omega)
  rw [show ((many - 1 : Nat) : Int) = (many : Int) - 1 by omega] at z3
  have z4 := cat_ok (xs := [tI (unitV m j)]) (ys := List.replicate (many - 1) (tI (List.replicate m 0))) (h := H) (by rw [List.length_replicate]; show 1 + _ ≤ _; omega)
  have z5 : [tI (unitV m j)] ++ List.replicate (many - 1) (tI (List.replicate m 0)) = (oneU m j many).map tI := by
    unfold oneU
    rw [List.map_cons, List.map_replicate]; rfl
  rw [z5] at z4
  have i0 : ∀ {u v : Val}, idxV (.tup [u, v]) (.int 0) H = .ok u H := rfl
  have u1 := uni_ok (t := t) (b0 := h.length) (x := 4) (y := 10) (i := j) (it := .r1 e_wide) (n := m) (env := [some (.int p), some (mach a b c d), some (.int many), some (.lst h.length), some (.int (j : Int)), some (tM a), some (tM b), some (tM c), some (tM d), o9, none, none, none]) (h := H) (by
    rw [i_r1, wide_ok M rfl, b_ok, intK_int, rangeN (by omega)]) (by omega) (fun _ => rfl) (fun _ => rfl)
  generalize stAt p a b (List.replicate n 0) (oneU m j many) many = S at f1
  generalize outJ p a b c d m many j = O at *
  generalize oneU m j many = U at *
  generalize List.replicate n (0 : Int) = Z at *
  generalize List.replicate (many - 1) (tI (List.replicate m 0)) = ZZ at *
  generalize tI (List.replicate m 0) = zz at *
  generalize tI (unitV m j) = uu at *
  have wd : ∀ (e9 : Option Val), (den t h.length e_wide).v [some (.int p), some (mach a b c d), some (.int many), some (.lst h.length), some (.int (j : Int)), some (tM a), some (tM b), some (tM c), some (tM d), e9, none, none, none] H = .ok (.int (m : Int)) H := fun _ => wide_ok M rfl
  unfold s_ans
  rw [r_cons, r_nm, u1, then_ok, sq_nx]
  simp only [List.set]
  rw [r_cons, r_expr, v_app, v_var]
  simp only [get_s, get_0]
  rw [of_some, b_ok, il, if_pos (by rfl), v_idx, v_call, x_cons, v_var]
  simp only [get_s, get_0]
  rw [of_some, b_ok, x_cons, v_var]
  simp only [get_s, get_0]
  rw [of_some, b_ok, x_cons, v_bin, v_tup, x_cons, v_cst, b_ok, x_nil, b_ok, b_ok, if_pos (by rfl), b_ok, v_bi, v_var]
  simp only [get_s, get_0]
  rw [of_some, b_ok, bi_lenT, List.length_map, al, b_ok, z1, b_ok, x_cons, v_bin, v_tup, x_cons, v_var]
  simp only [get_s, get_0]
  rw [of_some, b_ok, x_nil, b_ok, b_ok, if_pos (by rfl), b_ok, v_bin, v_tup, x_cons, v_bin, v_tup, x_cons, v_cst, b_ok, x_nil, b_ok, b_ok, if_pos (by rfl), b_ok, wd, b_ok, z2, b_ok, x_nil, b_ok, b_ok, if_pos (by rfl), b_ok, v_bin, v_var]
  simp only [get_s, get_0]
  rw [of_some, b_ok, v_cst, b_ok, a_sub, b_ok, z3, b_ok, z4, b_ok, x_nil, b_ok, b_ok, b_ok, b_ok, b_ok, f1, b_ok, v_cst, b_ok, i0, b_ok, k7', then_ok, sq_nx, r_nil]
theorem row_at2 {X : List (List Int)} {i : Nat} (hX : IsM p m X) (hi : i < X.length) : (List.range m).map (fun j => Val.int (at2 X i j)) = I (X.getD i []) := by
  rw [map_I]
  congr 1
  have w := hX.wide _ (row_in hi).2
  refine co_ext (by rw [List.length_map, List.length_range, w]) fun k => ?_
  rw [co_range]
  split
  · rfl
  · rw [co_ge (by omega)]
theorem ans_2 {b0 : Nat} {o4 o9 : Option Val} {H : Heap} {x : Nat} (hp : p ∈ primes) (M : IsMach p n m q a b c d) (hm : many ≤ 60) (hx : listAt H x = some (outsJ p a b c d m many m)) :
    (den t b0 e_ans).v [some (.int p), some (mach a b c d), some (.int many), some (.lst x), o4, some (tM a), some (tM b), some (tM c), some (tM d), o9, none, none, none] H = .ok (tR (respsM p a b c d m many)) H := by
  have rp := pr_rng hp
  have m4 := M.m4
  have q4 := M.q4
  have dl := M.dl
  unfold e_ans
  rw [v_biL, l_lc0, i_r1, v_var]
  simp only [get_s, get_0]
  rw [of_some, b_ok, intK_int, rangeN (by omega), b_ok, len_up]
  rw [lcL_map (n := many) (val := fun i => .int i) (out := fun k => tM (respM p a b c d m k)) (fun k hk => ⟨turn_up hk, by
    have xl := resp_len M k
    have xm := resp_isM (by omega) M k
    have eo : ∀ j, (outJ p a b c d m many j).getD k [] = colM (respM p a b c d m k) j := fun j => outJ_at hk
    generalize respM p a b c d m k = X at *
    rw [g_nm, b_ok]
    simp only [wipe, List.set]
    rw [v_biL, l_lc0, i_r1, v_bi, v_var]
    simp only [get_s, get_0]
    rw [of_some, b_ok, bi_lenT, List.length_map, dl, b_ok, intK_int, rangeN (by omega), b_ok, len_up]
    rw [lcL_map (n := q) (val := fun i => .int i) (out := fun i => tI (X.getD i [])) (fun i hi => ⟨turn_up hi, by
      rw [g_nm, b_ok]
      simp only [wipe, List.set]
      rw [v_biL, l_lc0, i_of, v_var]
      simp only [get_s, get_0]
      rw [of_some, b_ok, iterOf_lst hx, b_ok]
      have ln : (Iter.one (.cell x)).len H = m := by
        show (match listAt H x with
          | some xs => xs.length
          | none => 0) = m
        rw [hx]; exact outsJ_len
      rw [ln]
      rw [lcL_map (n := m) (val := fun j => tM (outJ p a b c d m many j)) (out := fun j => .int (at2 X i j)) (fun j hj => ⟨turn_cell hx (by
        unfold outsJ
        rw [List.getElem?_map, List.getElem?_range hj]; rfl), by
        have e1 : idxV (tM (outJ p a b c d m many j)) (.int (k : Int)) H = .ok (tI ((outJ p a b c d m many j).getD k [])) H := idx_rows rfl (by unfold outJ; rw [List.length_map, List.length_range]; exact hk)
        rw [eo] at e1
        have e2 : idxV (tI (colM X j)) (.int (i : Int)) H = .ok (.int (co (colM X j) i)) H := idx_nat rfl (by rw [col_len]; omega)
        rw [show co (colM X j) i = at2 X i j by unfold colM; rw [co_range, if_pos (by omega)]] at e2
        rw [g_nm, b_ok]
        simp only [wipe, List.set]
        rw [v_idx, v_idx, v_var]
        simp only [get_s, get_0]
        rw [of_some, b_ok, v_var]
        simp only [get_s, get_0]
        rw [of_some, b_ok, e1, b_ok, v_var]
        simp only [get_s, get_0]
        rw [of_some, b_ok, e2, b_ok]⟩) (by have := turn_cell_end hx; rwa [outsJ_len] at this)]
      rw [row_at2 xm (by omega), b_ok, if_pos (isLen_lit (by rw [I_len, xm.wide _ (row_in (by omega)).2]; omega)), b_ok]
      rfl⟩) turn_up_end]
    rw [map_rows xl, b_ok, if_pos (isLen_lit (by rw [List.length_map]; omega)), b_ok]
    rfl⟩) turn_up_end]
  rw [b_ok, if_pos (isLen_lit (by simp; omega)), b_ok]
  show R.ok (Val.tup ((List.range many).map fun k => tM (respM p a b c d m k))) H = _
  unfold tR respsM
  rw [List.map_map]; rfl
theorem answers_ok {t' : T} {i rn : Nat} (H : Has t' t i 3 10 (b_answers rn)) (h1 : RunM t rn) : RespM t' i := fun p n m q a b c d many h hp M hm1 hm => by
  rw [H _ _ rfl]
  unfold runB b_answers
  have m4 := M.m4
  obtain ⟨env', h', e, o4, o9, he, hh⟩ := forL_inv (it := .one (.vals (upTo m 0))) (n := m) (val := fun i => .int i) (body := fun v env2 h2 => (denT t h.length (.nm 4) v env2 h2).then env2 fun env3 h3 => denSs t h.length (s_ans rn) env3 h3)
    (fun j env h' => ∃ o4 o9, env = [some (.int p), some (mach a b c d), some (.int many), some (.lst h.length), o4, some (tM a), some (tM b), some (tM c), some (tM d), o9, none, none, none] ∧ h' = h ++ [.lst (outsJ p a b c d m many j)])
    (fun j env h' hj ⟨o4, o9, he, hh⟩ => ⟨turn_up hj, by
      subst he hh
      refine ⟨_, _, ?_, some (.int j), some (tI (unitV m j)), rfl, rfl⟩
      rw [g_nm, then_ok]
      simp only [List.set]
      exact ans_1 h1 hp M hj hm1 hm⟩) (fun _ _ _ => turn_up_end) (env := [some (.int p), some (mach a b c d), some (.int many), some (.lst h.length), none, some (tM a), some (tM b), some (tM c), some (tM d), none, none, none, none]) (h := h ++ [.lst []]) ⟨none, none, rfl, rfl⟩
  subst he hh
  simp only [List.map_cons, List.map_nil, List.cons_append, List.nil_append, List.replicate]
  rw [r_cons, r_asg, v_var, get_s, get_0, of_some, then_ok, g_mach, g_cons, g_nm, b_ok, g_cons, g_nm, b_ok, g_cons, g_nm, b_ok, g_cons, g_nm, b_ok, g_nil, then_ok, sq_nx]
  simp only [List.set]
  rw [r_cons, r_nm, v_new, l_disp, x_nil, b_ok, if_pos (by rfl), b_ok, new_app, then_ok, sq_nx]
  simp only [List.set]
  rw [r_cons, r_for, i_r1, wide_ok M rfl, b_ok, intK_int, rangeN (by omega), then_ok, len_up, e, sq_nx, r_cons, r_ret, ans_2 hp M hm (by rw [listAt_app0]; rfl), then_ok, sq_ret]
  exact leave_more bel_R
end
end Y

set_option Elab.async false
set_option linter.all false
set_option maxRecDepth 100000
set_option maxHeartbeats 4000000
/-! Fn5: the law's invertible matrices. -/
namespace Y
open PySem
/-- a list of lists, the rows' cells from s on -/
structure MatAt (H : Heap) (x s : Nat) (X : List (List Int)) : Prop where
  top : H[x]? = some (.lst ((List.range X.length).map fun k => .lst (s + k)))
  row : ∀ k, k < X.length → H[s + k]? = some (.lst (I (X.getD k [])))
theorem MatAt.app {H : Heap} {x s : Nat} {X : List (List Int)} (h : MatAt H x s X) (G : Heap) : MatAt (H ++ G) x s X := by
  refine ⟨?_, fun k hk => ?_⟩
  · rw [List.getElem?_append_left (List.getElem?_eq_some_iff.mp h.top).1]; exact h.top
  · rw [List.getElem?_append_left (List.getElem?_eq_some_iff.mp (h.row k hk)).1]; exact h.row k hk
theorem MatAt.other {H : Heap} {x s y : Nat} {X : List (List Int)} {c : Cell} (h : MatAt H x s X) (hx : y ≠ x) (hs : ∀ k, k < X.length → y ≠ s + k) : MatAt (H.set y c) x s X := by
  refine ⟨?_, fun k hk => ?_⟩
  · rw [List.getElem?_set_ne hx]; exact h.top
  · rw [List.getElem?_set_ne (hs k hk)]; exact h.row k hk
theorem MatAt.put {H : Heap} {x s j : Nat} {X : List (List Int)} {r : List Int} (h : MatAt H x s X) (hx : s + j ≠ x) (hj : j < X.length) : MatAt (H.set (s + j) (.lst (I r))) x s (X.set j r) := by
  refine ⟨?_, fun k hk => ?_⟩
  · rw [List.getElem?_set_ne hx, List.length_set]; exact h.top
  · rw [List.length_set] at hk
    by_cases e : j = k
    · subst e
      rw [List.getElem?_set_self (List.getElem?_eq_some_iff.mp (h.row j hj)).1, getD_at (List.getElem?_set_self hj)]
    · rw [List.getElem?_set_ne (by omega), h.row k hk]
      have e2 : (X.set j r).getD k [] = X.getD k [] := getD_at (by rw [List.getElem?_set_ne e, (row_in hk).1])
      rw [e2]
section
variable {t : T} {p : Int} {n : Nat} {h : Heap} {b0 : Nat} {env : Env} {H : Heap} {x s : Nat} {X : List (List Int)}
def e_copy (un : Nat) : Ex := .new (.lc [12] (.nm 12) (.of (.call un (.cons (.var 2) .nil))) .none (.new (.of (.var 12))))
def e_read (v : Nat) : Ex := .biL .tuple (.lc [12] (.nm 12) (.of (.var v)) .none (.bi .tuple (.var 12)))
theorem copy_ok {un : Nat} (h1 : UnitL t un) (g : env.get 2 = some (.int (n : Int))) (g12 : ∀ v, Env.get ((wipe env [12]).set 12 (some v)) 12 = some v) (hn : n ≤ 1000) :
    ∃ G, G.length = n + 1 ∧ MatAt (H ++ G) (H.length + n) H.length (unitM n) ∧ (den t b0 (e_copy un)).v env H = .ok (.lst (H.length + n)) (H ++ G) := by
  have ll : ((unitM n).map tI).length = n := by rw [List.length_map, unitM_len]
  obtain ⟨out, h', e2, ho, hh⟩ := lcL_inv (it := .one (.vals ((unitM n).map tI))) (n := n) (val := fun i => tI ((unitM n).getD i [])) (elt := fun x h2 => (denT t b0 (.nm 12) x (wipe env [12]) h2).bind fun env2 h3 => ((den t b0 (.new (.of (.var 12)))).v env2 h3).bind fun x h4 => .ok (some x) h4)
    (fun j h' acc => acc = (List.range j).map (fun k => .lst (H.length + k)) ∧ h' = H ++ (List.range j).map fun k => Cell.lst (I ((unitM n).getD k []))) (fun j h' acc hj ⟨ha, hh⟩ => by
      subst ha hh
      refine ⟨turn_vals (by rw [List.getElem?_map, (row_in (by rw [unitM_len]; exact hj)).1]; rfl), .lst (H.length + j), H ++ (List.range (j + 1)).map (fun k => Cell.lst (I ((unitM n).getD k []))), ?_, ?_, rfl⟩
      · rw [g_nm, b_ok, v_new, l_of, v_var, g12, of_some, b_ok, show seqOf (H ++ (List.range j).map fun k => Cell.lst (I ((unitM n).getD k []))) (tI ((unitM n).getD j [])) = some (I ((unitM n).getD j [])) from rfl, of_some, b_ok, new_app, b_ok]
        rw [List.length_append, List.length_map, List.length_range, List.append_assoc, List.range_succ, List.map_append]
        rfl
      · rw [List.range_succ, List.map_append]; rfl) (fun h acc _ => by have := turn_end (xs := (unitM n).map tI) (h := h); rwa [ll] at this) (h := H) ⟨rfl, by rw [List.range_zero, List.map_nil, List.append_nil]⟩
  subst ho hh
  refine ⟨(List.range n).map (fun k => Cell.lst (I ((unitM n).getD k []))) ++ [.lst ((List.range n).map (fun k => .lst (H.length + k)))], by simp, ⟨?_, fun k hk => ?_⟩, ?_⟩
  · rw [List.getElem?_append_right (Nat.le_add_right _ _), Nat.add_sub_cancel_left, List.getElem?_append_right (by simp), unitM_len]
    rw [List.length_map, List.length_range, Nat.sub_self]; rfl
  · rw [unitM_len] at hk
    rw [List.getElem?_append_right (Nat.le_add_right _ _), Nat.add_sub_cancel_left, List.getElem?_append_left (by simpa using hk), List.getElem?_map, List.getElem?_range hk]; rfl
  · unfold e_copy
    rw [v_new, l_lc0, i_of, v_call, x_cons, v_var, g, of_some, b_ok, x_nil, b_ok, b_ok, h1 n H hn, b_ok, iterOf_tup, b_ok, show (Iter.one (.vals ((unitM n).map tI))).len H = n from ll, e2, b_ok, if_pos (isLen_lit (by simp; omega)), b_ok, new_app]
    rw [List.length_append, List.length_map, List.length_range, List.append_assoc]
theorem read_ok {v : Nat} (A : MatAt H x s X) (g : env.get v = some (.lst x)) (g12 : ∀ u, Env.get ((wipe env [12]).set 12 (some u)) 12 = some u) (hn : X.length ≤ 1000) : (den t b0 (e_read v)).v env H = .ok (tM X) H := by
  have hl : listAt H x = some ((List.range X.length).map fun k => .lst (s + k)) := by unfold listAt; rw [A.top]
  unfold e_read
  rw [v_biL, l_lc0, i_of, v_var, g, of_some, b_ok, iterOf_lst hl, b_ok]
  have ln : (Iter.one (.cell x)).len H = X.length := by
    show (match listAt H x with
      | some xs => xs.length
      | none => 0) = X.length
    rw [hl]; simp
  rw [ln]
  rw [lcL_map (n := X.length) (val := fun k => .lst (s + k)) (out := fun k => tI (X.getD k [])) (fun k hk => ⟨turn_cell hl (by
    rw [List.getElem?_map, List.getElem?_range hk]; rfl), by
    rw [g_nm, b_ok, v_bi, v_var, g12, of_some, b_ok, bi_tupL (xs := I (X.getD k [])) (by unfold listAt; rw [A.row k hk]), b_ok]⟩) (by have := turn_cell_end hl; rwa [List.length_map, List.length_range] at this)]
  rw [map_rows rfl, b_ok, if_pos (isLen_lit (by rw [List.length_map]; omega)), b_ok]
  rfl
theorem g_sub {x y : Ex} {v : Val} : denT t b0 (.sub x y) v env H = ((den t b0 x).v env H).bind fun x h1 => ((den t b0 y).v env h1).bind fun y h2 => (putV b0 x y v h2).bind fun _ h3 => .ok env h3 := rfl
/-- X[j][k] = y -/
theorem sub_ok {v1 v2 v3 j k : Nat} {y : Int} (A : MatAt H x s X) (hj : j < X.length) (hk : k < (X.getD j []).length) (hb : b0 ≤ s) (g1 : env.get v1 = some (.lst x)) (g2 : env.get v2 = some (.int (j : Int))) (g3 : env.get v3 = some (.int (k : Int))) :
    denT t b0 (.sub (.idx (.var v1) (.var v2)) (.var v3)) (.int y) env H = .ok env (H.set (s + j) (.lst (I ((X.getD j []).set k y)))) := by
  have hl : listAt H x = some ((List.range X.length).map fun k => .lst (s + k)) := by unfold listAt; rw [A.top]
  have e1 : idxV (.lst x) (.int (j : Int)) H = .ok (.lst (s + j)) H := by
    show R.of ((listAt H x).bind fun xs => atV xs (j : Int)) H = _
    rw [hl]
    show R.of (atV ((List.range X.length).map fun k => Val.lst (s + k)) (j : Int)) H = _
    rw [at_nat (by simpa using hj), List.getElem?_map, List.getElem?_range hj]; rfl
  have e2 : putV b0 (.lst (s + j)) (.int (k : Int)) (.int y) H = .ok () (H.set (s + j) (.lst (I ((X.getD j []).set k y)))) := by
    show (match H[s + j]? with
      | some (.lst xs) => (match place xs.length (k : Int) with
        | some i => if mayPut b0 (s + j) (.int y) then R.ok () (H.set (s + j) (.lst (xs.set i (.int y)))) else .bad
        | none => .bad)
      | _ => .bad) = _
    rw [A.row j hj]
    show (match place (I (X.getD j [])).length (k : Int) with
        | some i => if mayPut b0 (s + j) (.int y) then R.ok () (H.set (s + j) (.lst ((I (X.getD j [])).set i (.int y)))) else .bad
        | none => .bad) = _
    rw [I_len, place_nat hk]
    show (if mayPut b0 (s + j) (.int y) then R.ok () (H.set (s + j) (.lst ((I (X.getD j [])).set k (.int y)))) else .bad) = _
    have m : mayPut b0 (s + j) (.int y) = true := by
      unfold mayPut
      rw [show Nat.ble b0 (s + j) = true from Nat.ble_eq_true_of_le (by omega)]; rfl
    rw [m, if_pos rfl]
    unfold I
    rw [List.map_set]
  rw [g_sub, v_idx, v_var, g1, of_some, b_ok, v_var, g2, of_some, b_ok, e1, b_ok, v_var, g3, of_some, b_ok, e2, b_ok]
end
end Y

set_option Elab.async false
set_option linter.all false
set_option maxRecDepth 100000
set_option maxHeartbeats 4000000
/-! Fn6: the law's invertible matrix, its machine told by others. -/
namespace Y
open PySem
def s_turn (tk un lp : Nat) : Sts := .cons (.par3 9 10 11 (.call tk (.cons (.var 0) (.cons (.var 2) .nil))) (.bin .Add (.cst (.int 1)) (.call tk (.cons (.var 0) (.cons (.bin .Sub (.var 2) (.cst (.int 1))) .nil)))) (.call tk (.cons (.var 0) (.cons (.var 1) .nil)))) (.cons (.asg (.nm 6) (.bin .Mod (.bi .int (.bin .Add (.var 9) (.var 10))) (.var 2))) (.cons (.asg (.nm 7) (e_copy un)) (.cons (.asg (.nm 8) (e_copy un)) (.cons (.asg (.tup (.cons (.sub (.idx (.var 7) (.var 9)) (.var 6)) (.cons (.sub (.idx (.var 8) (.var 9)) (.var 6)) .nil))) (.tup (.cons (.var 11) (.cons (.bin .Mod (.bi .int (.neg (.var 11))) (.var 1)) .nil)))) (.cons (.asg (.nm 4) (.call lp (.cons (.var 1) (.cons (e_read 7) (.cons (.var 4) .nil))))) (.cons (.asg (.nm 5) (.call lp (.cons (.var 1) (.cons (.var 5) (.cons (e_read 8) .nil))))) .nil))))))
def b_turned (tk un lp : Nat) : Sts := .cons (.par2 4 5 (.call un (.cons (.var 2) .nil)) (.call un (.cons (.var 2) .nil))) (.cons (.for_ (.nm 3) (.r1 (.ife (.cmp .Gt (.var 2) (.cst (.int 1))) (.bin .Mult (.cst (.int 2)) (.var 2)) (.cst (.int 0)))) (s_turn tk un lp)) (.cons (.ret (.tup (.cons (.var 4) (.cons (.var 5) .nil)))) .nil))
def TurnedL (t : T) (f : Nat) : Prop := ∀ (ns : List Int) (h : Heap) (at' : Nat) (i sd rs p : Int) (n : Nat), RowB ns h at' → 0 ≤ i → p ∈ primes → 1 ≤ n → n ≤ 12 →
  ∃ (A B : List (List Int)) (i' sd' rs' : Int), Undo p n A B ∧ 0 ≤ i' ∧ t.call f [.lst at', .int p, .int n] (rowH h at' i sd rs) = .ok (.tup [tM A, tM B]) (rowH h at' i' sd' rs')
section
variable {t : T} {ns : List Int} {h : Heap} {at' : Nat} {p : Int} {n : Nat} {A B : List (List Int)}
theorem turn_1 {tk un lp : Nat} {i sd rs : Int} {G : Heap} {o3 o6 o7 o8 o9 o10 o11 : Option Val} (h1 : Taken t tk) (h2 : UnitL t un) (h3 : ProdM t lp) (W : RowB ns h at') (hi : 0 ≤ i) (hp : p ∈ primes) (hn1 : 2 ≤ n) (hn : n ≤ 12) (U : Undo p n A B) :
    ∃ (A' B' : List (List Int)) (i' sd' rs' : Int) (G' : Heap) (o6' o7' o8' o9' o10' o11' : Option Val), Undo p n A' B' ∧ 0 ≤ i' ∧
      denSs t h.length (s_turn tk un lp) [some (.lst at'), some (.int p), some (.int n), o3, some (tM A), some (tM B), o6, o7, o8, o9, o10, o11, none] (rowH h at' i sd rs ++ G) =
        .nx [some (.lst at'), some (.int p), some (.int n), o3, some (tM A'), some (tM B'), o6', o7', o8', o9', o10', o11', none] (rowH h at' i' sd' rs' ++ G') := by
  have rp := pr_rng hp
  obtain ⟨j', i1, sd1, rs1, y1, z1, x1, e1⟩ := h1 ns (h ++ G) at' i sd rs n (W.app G) hi (by omega) (by omega)
  obtain ⟨j, rfl⟩ := Int.eq_ofNat_of_zero_le y1
  obtain ⟨s', i2, sd2, rs2, y2, z2, x2, e2⟩ := h1 ns (h ++ G) at' i1 sd1 rs1 ((n : Int) - 1) (W.app G) x1 (by omega) (by omega)
  obtain ⟨s, rfl⟩ := Int.eq_ofNat_of_zero_le y2
  obtain ⟨x, i3, sd3, rs3, y3, z3, x3, e3⟩ := h1 ns (h ++ G) at' i2 sd2 rs2 p (W.app G) x2 (by omega) (by omega)
  rw [row_app W, row_app W] at e1 e2 e3
  have em : ((j : Int) + (1 + (s : Int))) % (n : Int) = (((j + (1 + s)) % n : Nat) : Int) := by
    rw [Int.natCast_emod, Int.natCast_add, Int.natCast_add]; rfl
  have hk : (j + (1 + s)) % n < n := Nat.mod_lt _ (by omega)
  have hjn : j < n := by omega
  have hne : j ≠ (j + (1 + s)) % n := by
    intro e
    by_cases c : j + (1 + s) < n
    · rw [Nat.mod_eq_of_lt c] at e; omega
    · rw [Nat.mod_eq_sub_mod (by omega), Nat.mod_eq_of_lt (by omega)] at e; omega
  generalize (j + (1 + s)) % n = k at em hk hne
  have hy : 0 ≤ (-x) % p ∧ (-x) % p < p := md_rng (by omega) _
  have hxy : cg p (x + (-x) % p) 0 := cg_trans (cg_add (cg_refl _ _) (cg_mod _ _)) ⟨0, by omega⟩
  have hlen : h.length ≤ (rowH h at' i3 sd3 rs3 ++ G).length := by rw [List.length_append, row_len]; omega
  have hlen2 : (rowH h at' i3 sd3 rs3).length = h.length := row_len
  generalize hR : rowH h at' i3 sd3 rs3 = R at *
  generalize hy0 : (-x) % p = y at *
  -- the copies
  obtain ⟨G1, l1, M1, c1⟩ := copy_ok (t := t) (b0 := h.length) (un := un) (n := n) (H := R ++ G) (env := [some (.lst at'), some (.int p), some (.int n), o3, some (tM A), some (tM B), some (.int k), o7, o8, some (.int j), some (.int (1 + s)), some (.int x), none]) h2 rfl (fun _ => rfl) (by omega)
  obtain ⟨G2, l2, M2, c2⟩ := copy_ok (t := t) (b0 := h.length) (un := un) (n := n) (H := (R ++ G) ++ G1) (env := [some (.lst at'), some (.int p), some (.int n), o3, some (tM A), some (tM B), some (.int k), some (.lst ((R ++ G).length + n)), o8, some (.int j), some (.int (1 + s)), some (.int x), none]) h2 rfl (fun _ => rfl) (by omega)
  have M1' := M1.app G2
  have la : ((R ++ G) ++ G1).length = (R ++ G).length + (n + 1) := by rw [List.length_append, l1]
  generalize hx7 : (R ++ G).length = x7 at *
  rw [la] at M2 c2
  have wu : ((unitM n).getD j []).length = n := by rw [unit_row hjn, List.length_map, List.length_range]
  have s1 := sub_ok (t := t) (b0 := h.length) (v1 := 7) (v2 := 9) (v3 := 6) (y := x) (k := k) (env := [some (.lst at'), some (.int p), some (.int n), o3, some (tM A), some (tM B), some (.int k), some (.lst (x7 + n)), some (.lst (x7 + (n + 1) + n)), some (.int j), some (.int (1 + s)), some (.int x), none]) M1' (j := j) (by rw [unitM_len]; exact hjn) (by rw [wu]; exact hk) hlen rfl rfl rfl
  have M1'' : MatAt _ (x7 + n) x7 (elemM n j k x) := M1'.put (j := j) (r := ((unitM n).getD j []).set k x) (by omega) (by rw [unitM_len]; exact hjn)
  have M2' := M2.other (y := x7 + j) (c := .lst (I (((unitM n).getD j []).set k x))) (by omega) (fun k _ => by omega)
  have s2 := sub_ok (t := t) (b0 := h.length) (v1 := 8) (v2 := 9) (v3 := 6) (y := y) (k := k) (env := [some (.lst at'), some (.int p), some (.int n), o3, some (tM A), some (tM B), some (.int k), some (.lst (x7 + n)), some (.lst (x7 + (n + 1) + n)), some (.int j), some (.int (1 + s)), some (.int x), none]) M2' (j := j) (by rw [unitM_len]; exact hjn) (by rw [wu]; exact hk) (by omega) rfl rfl rfl
  have M2'' : MatAt _ (x7 + (n + 1) + n) (x7 + (n + 1)) (elemM n j k y) := M2'.put (j := j) (r := ((unitM n).getD j []).set k y) (by omega) (by rw [unitM_len]; exact hjn)
  have M1f := M1''.other (y := x7 + (n + 1) + j) (c := .lst (I (((unitM n).getD j []).set k y))) (by omega) (fun k hk => by rw [elem_len] at hk; omega)
  -- the heap at the end
  have hh : ∃ G', (((((R ++ G) ++ G1) ++ G2).set (x7 + j) (.lst (I (((unitM n).getD j []).set k x)))).set (x7 + (n + 1) + j) (.lst (I (((unitM n).getD j []).set k y)))) = R ++ G' := by
    rw [List.append_assoc, List.append_assoc, List.set_append_right _ _ (by rw [List.length_append] at hx7; omega), List.set_append_right _ _ (by rw [List.length_append] at hx7; omega)]
    exact ⟨_, rfl⟩
  generalize (((((R ++ G) ++ G1) ++ G2).set (x7 + j) (.lst (I (((unitM n).getD j []).set k x)))).set (x7 + (n + 1) + j) (.lst (I (((unitM n).getD j []).set k y)))) = HF at *
  obtain ⟨G', hG⟩ := hh
  have ie := isM_elem (p := p) (n := n) (a := j) (b := k) (x := x) (by omega) hjn hk ⟨y3, z3⟩
  have ie2 := isM_elem (p := p) (n := n) (a := j) (b := k) (x := y) (by omega) hjn hk hy
  have f1 := h3 p (elemM n j k x) A n n HF (by omega) rp.2 ie U.am U.al (by omega) hn (by omega) (by omega) (by rw [elem_len]; omega)
  have f2 := h3 p B (elemM n j k y) n n HF (by omega) rp.2 U.bm ie2 elem_len (by omega) hn (by omega) (by omega) (by rw [U.bl]; omega)
  have U' := undo_step (x := x) (y := y) (by omega) U hjn hk hne hxy
  have r1 : ∀ (o4 o5 : Option Val), (den t h.length (e_read 7)).v [some (.lst at'), some (.int p), some (.int n), o3, o4, o5, some (.int k), some (.lst (x7 + n)), some (.lst (x7 + (n + 1) + n)), some (.int j), some (.int (1 + s)), some (.int x), none] HF = .ok (tM (elemM n j k x)) HF := fun _ _ => read_ok M1f rfl (fun _ => rfl) (by rw [elem_len]; omega)
  have r2 : ∀ (o4 o5 : Option Val), (den t h.length (e_read 8)).v [some (.lst at'), some (.int p), some (.int n), o3, o4, o5, some (.int k), some (.lst (x7 + n)), some (.lst (x7 + (n + 1) + n)), some (.int j), some (.int (1 + s)), some (.int x), none] HF = .ok (tM (elemM n j k y)) HF := fun _ _ => read_ok M2'' rfl (fun _ => rfl) (by rw [elem_len]; omega)
  refine ⟨_, _, i3, sd3, rs3, G', some (.int k), some (.lst (x7 + n)), some (.lst (x7 + (n + 1) + n)), some (.int j), some (.int (1 + s)), some (.int x), U', x3, ?_⟩
  rw [hR, ← hG]
  generalize mulM p (elemM n j k x) A n = A2 at *
  generalize mulM p B (elemM n j k y) n = B2 at *
  generalize elemM n j k x = E1 at *
  generalize elemM n j k y = E2 at *
  unfold s_turn
  rw [r_cons, r_par3, v_call, x_cons, v_var, get_0, of_some, b_ok, x_cons, v_var, get_s, get_s, get_0, of_some, b_ok, x_nil, b_ok, b_ok, b_ok, e1, then_ok, v_bin, v_cst, b_ok, v_call, x_cons, v_var, get_0, of_some, b_ok, x_cons, v_bin, v_var, get_s, get_s, get_0, of_some, b_ok, v_cst, b_ok, a_sub, b_ok, x_nil, b_ok, b_ok, b_ok, e2, b_ok, a_add, then_ok, v_call, x_cons, v_var, get_0, of_some, b_ok, x_cons, v_var, get_s, get_0, of_some, b_ok, x_nil, b_ok, b_ok, b_ok, e3, then_ok, sq_nx]
  simp only [List.set]
  rw [r_cons, r_nm, v_bin, v_bi, v_bin, v_var]
  simp only [get_s, get_0]
  rw [of_some, b_ok, v_var]
  simp only [get_s, get_0]
  rw [of_some, b_ok, a_add, b_ok, bi_int, b_ok, v_var]
  simp only [get_s, get_0]
  rw [of_some, b_ok, a_mod (by omega), em, then_ok, sq_nx]
  simp only [List.set]
  rw [r_cons, r_nm, c1, then_ok, sq_nx]
  simp only [List.set]
  rw [r_cons, r_nm, c2, then_ok, sq_nx]
  simp only [List.set]
  rw [r_cons, r_asg, v_tup, x_cons, v_var]
  simp only [get_s, get_0]
  rw [of_some, b_ok, x_cons, v_bin, v_bi, v_neg, v_var]
  simp only [get_s, get_0]
  rw [of_some, b_ok, a_neg, b_ok, bi_int, b_ok, v_var]
  simp only [get_s, get_0]
  rw [of_some, b_ok, a_mod (by omega), hy0, b_ok, x_nil, b_ok, b_ok, b_ok, if_pos (by rfl), then_ok, g_tup, g_cons, s1, b_ok, g_cons, s2, b_ok, g_nil, then_ok, sq_nx]
  rw [r_cons, r_nm, v_call, x_cons, v_var]
  simp only [get_s, get_0]
  rw [of_some, b_ok, x_cons, r1, b_ok, x_cons, v_var]
  simp only [get_s, get_0]
  rw [of_some, b_ok, x_nil, b_ok, b_ok, b_ok, b_ok, f1, then_ok, sq_nx]
  simp only [List.set]
  rw [r_cons, r_nm, v_call, x_cons, v_var]
  simp only [get_s, get_0]
  rw [of_some, b_ok, x_cons, v_var]
  simp only [get_s, get_0]
  rw [of_some, b_ok, x_cons, r2, b_ok, x_nil, b_ok, b_ok, b_ok, b_ok, f2, then_ok, sq_nx, r_nil]
  rfl
theorem leave_rowG {i sd rs i' sd' rs' : Int} {v : Val} {G : Heap} (hv : ∀ n, below n v = true) : leave (rowH h at' i sd rs).length (.ret v (rowH h at' i' sd' rs' ++ G)) = .ok v (rowH h at' i' sd' rs') := by
  rw [leave_ret (hv _), row_len, ← row_len (h := h) (a := at') (i := i') (sd := sd') (rs := rs'), List.take_left]
theorem bel_MM {n : Nat} {A B : List (List Int)} : below n (.tup [tM A, tM B]) = true := by
  unfold below
  refine bel_all fun x hx => ?_
  simp only [List.mem_cons, List.not_mem_nil, or_false] at hx
  rcases hx with rfl | rfl <;> exact bel_rows _
theorem turned_ok {t' : T} {f tk un lp : Nat} (H : Has t' t f 3 10 (b_turned tk un lp)) (h1 : Taken t tk) (h2 : UnitL t un) (h3 : ProdM t lp) : TurnedL t' f := fun ns h at' i sd rs p n W hi hp hn1 hn => by
  rw [H _ _ rfl]
  unfold runB b_turned
  have rp := pr_rng hp
  have eN : ∃ N : Nat, N ≤ 100 ∧ (0 < N → 2 ≤ n) ∧ ∀ H, (den t (rowH h at' i sd rs).length (.ife (.cmp .Gt (.var 2) (.cst (.int 1))) (.bin .Mult (.cst (.int 2)) (.var 2)) (.cst (.int 0)))).v [some (.lst at'), some (.int p), some (.int n), none, some (tM (unitM n)), some (tM (unitM n)), none, none, none, none, none, none, none] H = .ok (.int (N : Int)) H := by
    by_cases c : 2 ≤ n
    · refine ⟨2 * n, by omega, fun _ => c, fun H => ?_⟩
      rw [v_ife, t_cmp, v_cmp, v_var, get_s, get_s, get_0, of_some, b_ok, v_cst, b_ok, c_gt, tst_ok, tru_bl, of_some, b_ok, decide_eq_true (by omega), if_pos (by rfl), v_bin, v_cst, b_ok, v_var, get_s, get_s, get_0, of_some, b_ok, a_mul (by rfl)]
      rfl
    · refine ⟨0, by omega, (fun c => by omega), fun H => ?_⟩
      rw [v_ife, t_cmp, v_cmp, v_var, get_s, get_s, get_0, of_some, b_ok, v_cst, b_ok, c_gt, tst_ok, tru_bl, of_some, b_ok, decide_eq_false (by omega), if_neg (by decide), v_cst]
      rfl
  obtain ⟨N, hN, hN2, eN⟩ := eN
  obtain ⟨env', h', e, A, B, i', sd', rs', G, o3, o6, o7, o8, o9, o10, o11, U, hi', he, hh⟩ := forL_inv (it := .one (.vals (upTo N 0))) (n := N) (val := fun i => .int i) (body := fun v env2 h2 => (denT t (rowH h at' i sd rs).length (.nm 3) v env2 h2).then env2 fun env3 h3 => denSs t (rowH h at' i sd rs).length (s_turn tk un lp) env3 h3)
    (fun j env h' => ∃ (A B : List (List Int)) (i' sd' rs' : Int) (G : Heap) (o3 o6 o7 o8 o9 o10 o11 : Option Val), Undo p n A B ∧ 0 ≤ i' ∧ env = [some (.lst at'), some (.int p), some (.int n), o3, some (tM A), some (tM B), o6, o7, o8, o9, o10, o11, none] ∧ h' = rowH h at' i' sd' rs' ++ G)
    (fun j env h' hj ⟨A, B, i', sd', rs', G, o3, o6, o7, o8, o9, o10, o11, U, hi', he, hh⟩ => ⟨turn_up hj, by
      subst he hh
      obtain ⟨A', B', i2, sd2, rs2, G2, q6, q7, q8, q9, q10, q11, U', hi2, e⟩ := turn_1 (t := t) (G := G) (i := i') (sd := sd') (rs := rs') (o3 := some (.int j)) (o6 := o6) (o7 := o7) (o8 := o8) (o9 := o9) (o10 := o10) (o11 := o11) h1 h2 h3 W hi' hp (hN2 (by omega)) hn U
      refine ⟨_, _, ?_, A', B', i2, sd2, rs2, G2, some (.int j), q6, q7, q8, q9, q10, q11, U', hi2, rfl, rfl⟩
      rw [g_nm, then_ok, row_len]
      simp only [List.set]
      exact e⟩) (fun _ _ _ => turn_up_end) (env := [some (.lst at'), some (.int p), some (.int n), none, some (tM (unitM n)), some (tM (unitM n)), none, none, none, none, none, none, none]) (h := rowH h at' i sd rs) ⟨unitM n, unitM n, i, sd, rs, [], none, none, none, none, none, none, none, undo_unit (by omega), hi, rfl, (List.append_nil _).symm⟩
  subst he hh
  refine ⟨A, B, i', sd', rs', U, hi', ?_⟩
  have u1 := h2 n (rowH h at' i sd rs) (by omega)
  simp only [List.map_cons, List.map_nil, List.cons_append, List.nil_append, List.replicate]
  rw [r_cons, r_par2, v_call, x_cons, v_var, get_s, get_s, get_0, of_some, b_ok, x_nil, b_ok, b_ok, u1, then_ok, v_call, x_cons, v_var, get_s, get_s, get_0, of_some, b_ok, x_nil, b_ok, b_ok, u1, then_ok, sq_nx]
  simp only [List.set]
  rw [r_cons, r_for, i_r1, eN, b_ok, intK_int, rangeN (by omega), then_ok, len_up, e, sq_nx, r_cons, r_ret, v_tup, x_cons, v_var]
  simp only [get_s, get_0]
  rw [of_some, b_ok, x_cons, v_var]
  simp only [get_s, get_0]
  rw [of_some, b_ok, x_nil, b_ok, b_ok, b_ok, if_pos (by rfl), then_ok, sq_ret]
  exact leave_rowG fun _ => bel_MM
end
end Y

set_option Elab.async false
set_option linter.all false
set_option maxRecDepth 100000
set_option maxHeartbeats 4000000
/-! Fn7: the law's machine told by others. -/
namespace Y
open PySem
def b_carried (tn lp : Nat) : Sts := .cons (.asg (.tup (.cons (.nm 3) (.cons (.nm 4) (.cons (.nm 5) (.cons (.nm 6) .nil))))) (.var 2)) (.cons (.ife (.cmp .Eq (.var 3) (.tup .nil)) (.cons (.ret (.var 2)) .nil) .nil) (.cons (.asg (.tup (.cons (.nm 7) (.cons (.nm 8) .nil))) (.call tn (.cons (.var 0) (.cons (.var 1) (.cons (.bi .len (.var 3)) .nil))))) (.cons (.ret (.tup (.cons (.call lp (.cons (.var 1) (.cons (.call lp (.cons (.var 1) (.cons (.var 7) (.cons (.var 3) .nil)))) (.cons (.var 8) .nil)))) (.cons (.call lp (.cons (.var 1) (.cons (.var 7) (.cons (.var 4) .nil)))) (.cons (.call lp (.cons (.var 1) (.cons (.var 5) (.cons (.var 8) .nil)))) (.cons (.var 6) .nil)))))) .nil)))
/-- machines of as many states, with the same responses -/
def CarriedL (t : T) (f : Nat) : Prop := ∀ (ns : List Int) (h : Heap) (at' : Nat) (i sd rs p : Int) (n m q : Nat) (a b c d : List (List Int)), RowB ns h at' → 0 ≤ i → p ∈ primes → IsMach p n m q a b c d →
  ∃ (a' b' c' : List (List Int)) (i' sd' rs' : Int), IsMach p n m q a' b' c' d ∧ (∀ k, respM p a' b' c' d m k = respM p a b c d m k) ∧ 0 ≤ i' ∧ t.call f [.lst at', .int p, mach a b c d] (rowH h at' i sd rs) = .ok (mach a' b' c' d) (rowH h at' i' sd' rs')
theorem carried_ok {t' t : T} {f tn lp : Nat} (H : Has t' t f 3 6 (b_carried tn lp)) (h1 : TurnedL t tn) (h2 : ProdM t lp) : CarriedL t' f := fun ns h at' i sd rs p n m q a b c d W hi hp M => by
  have rp := pr_rng hp
  have n8 := M.n8
  have m4 := M.m4
  have m1 := M.m1
  have q4 := M.q4
  have al := M.al
  have D : Dt 2 (tM a) := dt_M (by omega) fun r hr => by rw [M.am.wide r hr]; omega
  have e9 : ∀ G, cmpV .Eq (tM a) (.tup []) G = .ok (.bl (a.map tI).isEmpty) G := fun G => c_eqM0 D (by omega)
  rw [H _ _ rfl]
  unfold runB b_carried
  by_cases ha : a = []
  · refine ⟨a, b, c, i, sd, rs, M, fun _ => rfl, hi, ?_⟩
    rw [show (a.map tI).isEmpty = true by rw [ha]; rfl] at e9
    simp only [List.map_cons, List.map_nil, List.cons_append, List.nil_append, List.replicate]
    rw [r_cons, r_asg, v_var, get_s, get_s, get_0, of_some, then_ok, g_mach, g_cons, g_nm, b_ok, g_cons, g_nm, b_ok, g_cons, g_nm, b_ok, g_cons, g_nm, b_ok, g_nil, then_ok, sq_nx]
    simp only [List.set]
    rw [r_cons, r_ife, t_cmp, v_cmp, v_var]
    simp only [get_s, get_0]
    rw [of_some, b_ok, v_tup, x_nil, b_ok, if_pos (by rfl), b_ok, e9, tst_ok, tru_bl, of_some, then_ok, if_pos (by rfl), r_cons, r_ret, v_var]
    simp only [get_s, get_0]
    rw [of_some, then_ok, sq_ret, sq_ret]
    exact leave_rowV fun _ => bel_mach
  · have hn : n ≠ 0 := fun e => ha (List.eq_nil_of_length_eq_zero (by omega))
    rw [show (a.map tI).isEmpty = false by cases a with
      | nil => exact absurd rfl ha
      | cons _ _ => rfl] at e9
    obtain ⟨A, B, i1, sd1, rs1, U, hi1, e1⟩ := h1 ns h at' i sd rs p n W hi hp (by omega) (by omega)
    have f1 := h2 p A a n n (rowH h at' i1 sd1 rs1) (by omega) rp.2 U.am M.am M.al (by omega) (by omega) (by omega) (by omega) (by rw [U.al]; omega)
    have f2 := h2 p (mulM p A a n) B n n (rowH h at' i1 sd1 rs1) (by omega) rp.2 (isM_mul (by omega)) U.bm U.bl (by omega) (by omega) (by omega) (by omega) (by rw [mulM_len, U.al]; omega)
    have f3 := h2 p A b n m (rowH h at' i1 sd1 rs1) (by omega) rp.2 U.am M.bm M.bl (by omega) (by omega) m1 (by omega) (by rw [U.al]; omega)
    have f4 := h2 p c B n n (rowH h at' i1 sd1 rs1) (by omega) rp.2 M.cm U.bm U.bl (by omega) (by omega) (by omega) (by omega) (by rw [M.cl]; omega)
    refine ⟨_, _, _, i1, sd1, rs1, mach_turn (by omega) M U, resp_turn (by omega) M U, hi1, ?_⟩
    generalize mulM p (mulM p A a n) B n = a2 at *
    generalize mulM p A a n = a1 at *
    generalize mulM p A b m = b2 at *
    generalize mulM p c B n = c2 at *
    simp only [List.map_cons, List.map_nil, List.cons_append, List.nil_append, List.replicate]
    rw [r_cons, r_asg, v_var, get_s, get_s, get_0, of_some, then_ok, g_mach, g_cons, g_nm, b_ok, g_cons, g_nm, b_ok, g_cons, g_nm, b_ok, g_cons, g_nm, b_ok, g_nil, then_ok, sq_nx]
    simp only [List.set]
    rw [r_cons, r_ife, t_cmp, v_cmp, v_var]
    simp only [get_s, get_0]
    rw [of_some, b_ok, v_tup, x_nil, b_ok, if_pos (by rfl), b_ok, e9, tst_ok, tru_bl, of_some, then_ok, if_neg (by decide), r_nil, sq_nx]
    rw [r_cons, r_asg, v_call, x_cons, v_var]
    simp only [get_s, get_0]
    rw [of_some, b_ok, x_cons, v_var]
    simp only [get_s, get_0]
    rw [of_some, b_ok, x_cons, v_bi, v_var]
    simp only [get_s, get_0]
    rw [of_some, b_ok, bi_lenT, List.length_map, al, b_ok, x_nil, b_ok, b_ok, b_ok, b_ok, e1, then_ok, g_tup, g_cons, g_nm, b_ok, g_cons, g_nm, b_ok, g_nil, then_ok, sq_nx]
    simp only [List.set]
    rw [r_cons, r_ret, v_tup]
    simp only [x_cons, v_call, v_var, get_s, get_0, of_some, b_ok, x_nil, f1, f2, f3, f4]
    rw [if_pos (by rfl), then_ok, sq_ret]
    exact leave_rowV fun _ => bel_mach
end Y

set_option Elab.async false
set_option linter.all false
set_option maxRecDepth 100000
set_option maxHeartbeats 4000000
/-! K37L: the law's body. -/
namespace Y
open PySem
section k37
def b_law37 : Sts := .cons (.asg (.nm 1) (.new (.disp (.cons (.var 0) (.cons (.cst (.int 0)) (.cons (.cst (.int 3437)) (.cons (.cst (.int 0)) .nil))))))) (.cons (.par2 4 5 (.call 14 (.cons (.var 1) .nil)) (.bin .Add (.cst (.int 1)) (.call 11 (.cons (.var 1) (.cons (.cst (.int 12)) .nil))))) (.cons (.asg (.nm 2) (.call 18 (.cons (.var 1) (.cons (.var 4) (.cons (.cst (.int 5)) (.cons (.cst (.int 3)) .nil)))))) (.cons (.asg (.nm 3) (.call 10 (.cons (.var 4) (.cons (.var 2) (.cons (.var 5) .nil))))) (.cons (.ife (.not (.call 13 (.cons (.var 3) (.cons (.call 22 (.cons (.var 4) (.cons (.var 2) (.cons (.var 5) .nil)))) .nil)))) (.cons (.ret (.cst (.bl false))) .nil) .nil) (.cons (.ret (.cmp .Eq (.call 10 (.cons (.var 4) (.cons (.call 24 (.cons (.var 1) (.cons (.var 4) (.cons (.var 2) .nil)))) (.cons (.var 5) .nil)))) (.var 3))) .nil)))))
theorem dt_R {rs : List (List (List Int))} (hl : rs.length ≤ 1000) (h : ∀ r ∈ rs, r.length ≤ 1000) (h2 : ∀ r ∈ rs, ∀ x ∈ r, x.length ≤ 1000) : Dt 3 (tR rs) := .tup 2 _ (by rw [List.length_map]; exact hl) fun x hx => by
  obtain ⟨r, hr, rfl⟩ := List.mem_map.mp hx
  exact dt_M (h r hr) (h2 r hr)
/-- the law holds at every script -/
theorem law_resp {t' t : T} (q_law : Has t' t 25 1 5 b_law37) (q_prime : PrimeL t 14) (q_mach : MachL t 18) (q_taken : Taken t 11) (q_resp : RespM t 10) (q_ans : RespM t 22) (q_alike : AlikeD t 13 3) (q_car : CarriedL t 24) (ns : List Int) (hns : ns.length ≤ 1000) : ∃ h', t'.call 25 [.lst 0] [.ro (I ns)] = .ok (.bl true) h' := by
  rw [q_law _ _ rfl]
  unfold runB b_law37
  generalize hH : [Cell.ro (I ns), .lst [.lst 0, .int 0, .int 3437, .int 0]] = H
  have hH0 : H = rowH H 1 0 3437 0 := by rw [← hH]; rfl
  have B : RowB ns H 1 := by
    rw [← hH]
    exact ⟨Nat.lt_succ_self 1, by decide, rfl, hns⟩
  obtain ⟨p, i1, sd1, rs1, hp, hi1, e1⟩ := q_prime ns H 1 0 3437 0 B (Int.le_refl _)
  have hpp := some_prime hp
  have rp := pr_rng hpp
  obtain ⟨k', i2, sd2, rs2, y2, z2, hi2, e2⟩ := q_taken ns H 1 i1 sd1 rs1 12 B hi1 (by omega) (by omega)
  obtain ⟨k, rfl⟩ := Int.eq_ofNat_of_zero_le y2
  obtain ⟨n, m, q, a, b, c, d, i3, sd3, rs3, M, hi3, e3⟩ := q_mach ns H 1 i2 sd2 rs2 p 5 3 B hi2 (by omega) (by omega) (by omega) (by omega) (by omega)
  have e3' : t.call 18 [.lst 1, .int p, .int 5, .int 3] (rowH H 1 i2 sd2 rs2) = .ok (mach a b c d) (rowH H 1 i3 sd3 rs3) := e3
  obtain ⟨a', b', c', i4, sd4, rs4, M', hr, hi4, e4⟩ := q_car ns H 1 i3 sd3 rs3 p n m q a b c d B hi3 hpp M
  have hk : (1 : Int) + (k : Int) = ((1 + k : Nat) : Int) := by omega
  have f1 := q_resp p n m q a b c d (1 + k) (rowH H 1 i3 sd3 rs3) hpp M (by omega) (by omega)
  have f2 := q_ans p n m q a b c d (1 + k) (rowH H 1 i3 sd3 rs3) hpp M (by omega) (by omega)
  have f4 := q_resp p n m q a' b' c' d (1 + k) (rowH H 1 i4 sd4 rs4) hpp M' (by omega) (by omega)
  have er : respsM p a' b' c' d m (1 + k) = respsM p a b c d m (1 + k) := by
    unfold respsM
    exact List.map_congr_left fun j _ => hr j
  rw [er] at f4
  have m4 := M.m4
  have q4 := M.q4
  have D : Dt 3 (tR (respsM p a b c d m (1 + k))) := dt_R (by rw [resps_len]; omega) (fun r hr => by
    obtain ⟨j, _, rfl⟩ := List.mem_map.mp hr
    rw [resp_len M]; omega) (fun r hr x hx => by
    obtain ⟨j, _, rfl⟩ := List.mem_map.mp hr
    rw [(resp_isM (by omega) M j).wide x hx]; omega)
  have f3 := q_alike _ (rowH H 1 i3 sd3 rs3) D
  have f5 := c_eqD (h := rowH H 1 i4 sd4 rs4) D (by omega)
  generalize tR (respsM p a b c d m (1 + k)) = v at *
  refine ⟨(rowH H 1 i4 sd4 rs4).take 1, ?_⟩
  have e0 : [Cell.ro (I ns)] ++ [Cell.lst [.lst 0, .int 0, .int 3437, .int 0]] = rowH H 1 0 3437 0 := by rw [← hH0, ← hH]; rfl
  simp only [List.map_cons, List.map_nil, List.cons_append, List.nil_append, List.replicate]
  rw [r_cons, r_nm, v_new, l_disp, x_cons, v_var, get_0, of_some, b_ok, x_cons, v_cst, b_ok, x_cons, v_cst, b_ok, x_cons, v_cst, b_ok, x_nil, b_ok, b_ok, b_ok, b_ok, b_ok, if_pos (by rfl), b_ok, new_app, e0, then_ok, sq_nx]
  simp only [List.set, List.length_cons, List.length_nil, Nat.zero_add]
  rw [r_cons, r_par2, v_call, x_cons, v_var, get_s, get_0, of_some, b_ok, x_nil, b_ok, b_ok, e1, then_ok, v_bin, v_cst, b_ok, v_call, x_cons, v_var, get_s, get_0, of_some, b_ok, x_cons, v_cst, b_ok, x_nil, b_ok, b_ok, b_ok, e2, b_ok, a_add, then_ok, sq_nx]
  simp only [List.set]
  rw [r_cons, r_nm, v_call]
  simp only [x_cons, v_var, v_cst, get_s, get_0, of_some, b_ok, x_nil]
  rw [e3', then_ok, sq_nx]
  simp only [List.set]
  rw [hk, r_cons, r_nm, v_call]
  simp only [x_cons, v_var, v_cst, get_s, get_0, of_some, b_ok, x_nil]
  rw [f1, then_ok, sq_nx]
  simp only [List.set]
  rw [r_cons, r_ife, t_not, t_call, v_call]
  simp only [x_cons, v_call, v_var, v_cst, get_s, get_0, of_some, b_ok, x_nil]
  rw [f2]
  simp only [b_ok]
  rw [f3, tst_ok, tru_bl, of_some, b_ok, then_ok, if_neg (by decide), r_nil, sq_nx, r_cons, r_ret, v_cmp, v_call]
  simp only [x_cons, v_call, v_var, v_cst, get_s, get_0, of_some, b_ok, x_nil]
  rw [e4]
  simp only [b_ok]
  rw [f4, b_ok, f5, then_ok, sq_ret]
  exact leave_ret rfl
end k37
end Y

set_option Elab.async false
set_option linter.all false
set_option maxRecDepth 100000
set_option maxHeartbeats 0
namespace Y.k37
open PySem PySem.Spec PyProof.Rows L2 Y
def top (i : Nat) : Stmt := PySem.Challenge.pw_steerloops_k37_whole_responses.main.body.getD i (.Pass ⟨0, 0, 0, 0⟩)
def ds : List DT1 := [⟨top 7, ["value"], ["value"]⟩, ⟨top 8, ["value", "least", "most"], ["value", "least", "most"]⟩, ⟨top 9, ["value", "least", "most"], ["value", "least", "most"]⟩, ⟨top 10, ["value"], ["value"]⟩, ⟨top 12, ["rows"], ["rows"]⟩, ⟨top 13, ["p", "one", "other"], ["p", "one", "other", "columns", "row", "column", "a", "b"]⟩, ⟨top 18, ["p", "value", "high", "wide"], ["p", "value", "high", "wide", "row", "one"]⟩, ⟨top 19, ["value"], ["value"]⟩, ⟨top 20, ["p", "value"], ["p", "value", "a", "b", "c", "d"]⟩, ⟨top 21, ["p", "machine", "many"], ["p", "machine", "many", "a", "b", "c", "d", "found", "now"]⟩, ⟨top 22, ["p", "machine", "many"], ["p", "machine", "many"]⟩, ⟨top 24, ["_law_row", "_law_many"], ["_law_row", "_law_many", "_law_cell", "_law_found"]⟩, ⟨top 25, ["_law_row", "_law_things"], ["_law_row", "_law_things"]⟩, ⟨top 26, ["_law_found", "_law_due"], ["_law_found", "_law_due", "_law_k"]⟩, ⟨top 27, ["_law_row"], ["_law_row"]⟩, ⟨top 28, ["_law_row", "_law_p", "_law_high", "_law_wide"], ["_law_row", "_law_p", "_law_high", "_law_wide", "_law_line", "_law_at"]⟩, ⟨top 29, ["_law_p", "_law_one", "_law_other"], ["_law_p", "_law_one", "_law_other", "_law_found", "_law_line", "_law_told", "_law_place", "_law_at"]⟩, ⟨top 30, ["_law_many"], ["_law_many", "_law_at", "_law_place"]⟩, ⟨top 31, ["_law_row", "_law_p", "_law_most", "_law_side"], ["_law_row", "_law_p", "_law_most", "_law_side", "_law_n", "_law_m", "_law_q", "_law_a", "_law_b", "_law_c", "_law_line"]⟩, ⟨top 32, ["_law_p", "_law_rows", "_law_told"], ["_law_p", "_law_rows", "_law_told", "_law_line", "_law_a", "_law_x"]⟩, ⟨top 33, ["_law_p", "_law_one", "_law_other"], ["_law_p", "_law_one", "_law_other", "_law_a", "_law_b"]⟩, ⟨top 34, ["_law_p", "_law_machine_here", "_law_start", "_law_inputs"], ["_law_p", "_law_machine_here", "_law_start", "_law_inputs", "_law_told", "_law_a", "_law_b", "_law_c", "_law_d", "_law_outputs", "_law_state"]⟩, ⟨top 35, ["_law_p", "_law_machine_here", "_law_many"], ["_law_p", "_law_machine_here", "_law_many", "_law_found", "_law_at", "_law_a", "_law_b", "_law_c", "_law_d", "_law_first", "_law_place", "_law_i", "_law_told"]⟩, ⟨top 36, ["_law_row", "_law_p", "_law_many"], ["_law_row", "_law_p", "_law_many", "_law_turn", "_law_one", "_law_back", "_law_other", "_law_first", "_law_second", "_law_at", "_law_step", "_law_number", "_law_line"]⟩, ⟨top 37, ["_law_row", "_law_p", "_law_machine_here"], ["_law_row", "_law_p", "_law_machine_here", "_law_a", "_law_b", "_law_c", "_law_d", "_law_t", "_law_back"]⟩, ⟨top 38, ["_law_script"], ["_law_script", "_law_row", "_law_machine_here", "_law_told", "_law_p", "_law_many"]⟩]
def gl : List (Str × Val) := [("PRIMES", .tup [.int 2, .int 3, .int 5, .int 7, .int 11, .int 13, .int 17, .int 19, .int 23, .int 29, .int 31]), ("MOST_STATES", .int 8), ("MOST_SIDE", .int 4), ("MOST_STEPS", .int 60)]
def blts : List Str := ["ValueError", "all", "bool", "int", "isinstance", "len", "list", "range", "str", "sum", "tuple", "zip"]
theorem ds_ok : okDs ds = true := by kernel_rfl
abbrev R : PySem.W.OpenRow := PySem.W.OpenLaw.row PySem.Challenge.rw_steerloops_k37_whole_responses
abbrev hk : PySem.W.Hook := hookY 4 gl (faOf ds blts) (ds.map defD)
def ob (s : PySem.W.SharedT) : AlY := obsYG 4 gl (faOf ds blts) (ds.map defD) (HandSHeadRun.getT s)
theorem ob_eq (s : PySem.W.SharedT) : ob s = hk.obs s.abs := obsYG_eq (HandSHeadRun.getT_eq s)
def loose : List Str := "SteerError" :: "BadPrime" :: "BadNumber" :: "BadMachine" :: "PRIMES" :: "is_int" :: "is_in" :: "need_number" :: "need_prime" :: "exchanged" :: "product" :: "MOST_STATES" :: "MOST_SIDE" :: "MOST_STEPS" :: "are_rows" :: "is_side" :: "need_machine" :: "responses_of" :: "responses" :: "_law_taken" :: "_law_pick" :: "_law_alike" :: "_law_prime" :: "_law_matrix" :: "_law_product" :: "_law_unit" :: "_law_machine" :: "_law_applied" :: "_law_added" :: "_law_run" :: "_law_answers" :: "_law_turned" :: "_law_carried" :: []
theorem run (w : World) : HandSHeadRun.RunEq R (PySem.W.view R.prog [38]) hk ob 4000 loose w := by
  intro os
  kernel_rfl
noncomputable def defs : List Def := irs ds (gl.map (·.1)) blts
def defsV : List Def := [⟨"is_int", 1, 1, .cons (.ret (.and (.isi .int (.var 0)) (.not (.isi .bool (.var 0))))) .nil⟩,
  ⟨"is_in", 3, 3, .cons (.ret (.and (.call 0 (.cons (.var 0) .nil)) (.cmp2 .LtE .LtE (.var 1) (.var 0) (.var 2)))) .nil⟩,
  ⟨"need_number", 3, 3, .cons (.ife (.not (.call 1 (.cons (.var 0) (.cons (.var 1) (.cons (.var 2) .nil))))) (.cons .never .nil) .nil) .nil⟩,
  ⟨"need_prime", 1, 1, .cons (.ife (.or (.not (.call 0 (.cons (.var 0) .nil))) (.cmp .NotIn (.var 0) (.glo 0))) (.cons .never .nil) .nil) .nil⟩,
  ⟨"exchanged", 1, 1, .cons (.ret (.xch (.var 0))) .nil⟩,
  ⟨"product", 3, 8, .cons (.asg (.nm 3) (.call 4 (.cons (.var 2) .nil))) (.cons (.ret (.biL .tuple (.lc [4] (.nm 4) (.of (.var 1)) .none (.biL .tuple (.lc [5] (.nm 5) (.of (.var 3)) .none (.bin .Mod (.biL .sum (.lc [6, 7] (.tup (.cons (.nm 6) (.cons (.nm 7) .nil))) (.zip (.var 4) (.var 5)) .none (.bin .Mult (.var 6) (.var 7)))) (.var 0))))))) .nil)⟩,
  ⟨"are_rows", 4, 6, .cons (.ife (.or (.not (.isi .tuple (.var 1))) (.cmp .NotEq (.bi .len (.var 1)) (.var 2))) (.cons (.ret (.cst (.bl false))) .nil) .nil) (.cons (.for_ (.nm 4) (.of (.var 1)) (.cons (.ife (.or (.not (.isi .tuple (.var 4))) (.or (.cmp .NotEq (.bi .len (.var 4)) (.var 3)) (.not (.biL .all (.lc [5] (.nm 5) (.of (.var 4)) .none (.call 1 (.cons (.var 5) (.cons (.cst (.int 0)) (.cons (.bin .Sub (.var 0) (.cst (.int 1))) .nil))))))))) (.cons (.ret (.cst (.bl false))) .nil) .nil) .nil)) (.cons (.ret (.cst (.bl true))) .nil))⟩,
  ⟨"is_side", 1, 1, .cons (.ret (.and (.isi .tuple (.var 0)) (.cmp2 .LtE .LtE (.cst (.int 1)) (.bi .len (.var 0)) (.glo 2)))) .nil⟩,
  ⟨"need_machine", 2, 6, .cons (.ife (.or (.not (.isi .tuple (.var 1))) (.cmp .NotEq (.bi .len (.var 1)) (.cst (.int 4)))) (.cons .never .nil) .nil) (.cons (.asg (.tup (.cons (.nm 2) (.cons (.nm 3) (.cons (.nm 4) (.cons (.nm 5) .nil))))) (.var 1)) (.cons (.ife (.or (.not (.call 7 (.cons (.var 5) .nil))) (.or (.not (.call 7 (.cons (.idx (.var 5) (.cst (.int 0))) .nil))) (.not (.call 6 (.cons (.var 0) (.cons (.var 5) (.cons (.bi .len (.var 5)) (.cons (.bi .len (.idx (.var 5) (.cst (.int 0)))) .nil)))))))) (.cons .never .nil) .nil) (.cons (.ife (.or (.not (.isi .tuple (.var 2))) (.or (.cmp .Gt (.bi .len (.var 2)) (.glo 1)) (.not (.call 6 (.cons (.var 0) (.cons (.var 2) (.cons (.bi .len (.var 2)) (.cons (.bi .len (.var 2)) .nil)))))))) (.cons .never .nil) .nil) (.cons (.ife (.not (.call 6 (.cons (.var 0) (.cons (.var 3) (.cons (.bi .len (.var 2)) (.cons (.bi .len (.idx (.var 5) (.cst (.int 0)))) .nil)))))) (.cons .never .nil) .nil) (.cons (.ife (.not (.call 6 (.cons (.var 0) (.cons (.var 4) (.cons (.bi .len (.var 5)) (.cons (.bi .len (.var 2)) .nil)))))) (.cons .never .nil) .nil) .nil)))))⟩,
  ⟨"responses_of", 3, 9, .cons (.asg (.tup (.cons (.nm 3) (.cons (.nm 4) (.cons (.nm 5) (.cons (.nm 6) .nil))))) (.var 1)) (.cons (.par2 7 8 (.new (.disp (.cons (.var 6) .nil))) (.var 4)) (.cons (.whl (.cmp .Lt (.bi .len (.var 7)) (.var 2)) (.cons (.ife (.cmp .Eq (.var 3) (.tup .nil)) (.cons (.expr (.app (.var 7) (.bin .Mult (.tup (.cons (.bin .Mult (.tup (.cons (.cst (.int 0)) .nil)) (.bi .len (.idx (.var 6) (.cst (.int 0))))) .nil)) (.bi .len (.var 6))))) .nil) (.cons (.expr (.app (.var 7) (.call 5 (.cons (.var 0) (.cons (.var 5) (.cons (.var 8) .nil)))))) (.cons (.asg (.nm 8) (.call 5 (.cons (.var 0) (.cons (.var 3) (.cons (.var 8) .nil))))) .nil))) .nil)) (.cons (.ret (.bi .tuple (.var 7))) .nil)))⟩,
  ⟨"responses", 3, 3, .cons (.expr (.call 3 (.cons (.var 0) .nil))) (.cons (.expr (.call 8 (.cons (.var 0) (.cons (.var 1) .nil)))) (.cons (.expr (.call 2 (.cons (.var 2) (.cons (.cst (.int 1)) (.cons (.glo 3) .nil))))) (.cons (.ret (.call 9 (.cons (.var 0) (.cons (.var 1) (.cons (.var 2) .nil))))) .nil)))⟩,
  ⟨"_law_taken", 2, 4, .cons (.ife (.cmp .Gt (.idx (.var 0) (.cst (.int 3))) (.cst (.int 0))) (.cons (.asg (.nm 3) (.bin .Mod (.bi .int (.idx (.var 0) (.cst (.int 3)))) (.var 1))) (.cons (.asg (.sub (.var 0) (.cst (.int 3))) (.bin .FloorDiv (.idx (.var 0) (.cst (.int 3))) (.var 1))) (.cons (.ret (.var 3)) .nil))) .nil) (.cons (.asg (.sub (.var 0) (.cst (.int 1))) (.bin .Add (.idx (.var 0) (.cst (.int 1))) (.cst (.int 1)))) (.cons (.ife (.cmp .Gt (.idx (.var 0) (.cst (.int 1))) (.bi .len (.idx (.var 0) (.cst (.int 0))))) (.cons (.asg (.sub (.var 0) (.cst (.int 2))) (.bin .Mod (.bi .int (.bin .Add (.bin .Mult (.idx (.var 0) (.cst (.int 2))) (.cst (.int 48271))) (.cst (.int 11)))) (.cst (.int 2147483647)))) (.cons (.ret (.bin .Mod (.bi .int (.bin .FloorDiv (.idx (.var 0) (.cst (.int 2))) (.cst (.int 7)))) (.var 1))) .nil)) .nil) (.cons (.asg (.nm 2) (.idx (.idx (.var 0) (.cst (.int 0))) (.bin .Sub (.idx (.var 0) (.cst (.int 1))) (.cst (.int 1))))) (.cons (.asg (.sub (.var 0) (.cst (.int 2))) (.bin .Mod (.bi .int (.bin .Add (.bin .Add (.bin .Mult (.idx (.var 0) (.cst (.int 2))) (.cst (.int 48271))) (.var 2)) (.cst (.int 11)))) (.cst (.int 2147483647)))) (.cons (.ife (.cmp .GtE (.var 2) (.bin .Pow (.cst (.int 10)) (.cst (.int 18)))) (.cons (.asg (.sub (.var 0) (.cst (.int 3))) (.bin .FloorDiv (.var 2) (.var 1))) .nil) .nil) (.cons (.ret (.bin .Mod (.bi .int (.var 2)) (.var 1))) .nil))))))⟩,
  ⟨"_law_pick", 2, 2, .cons (.ret (.idx (.var 1) (.call 11 (.cons (.var 0) (.cons (.bi .len (.var 1)) .nil))))) .nil⟩,
  ⟨"_law_alike", 2, 3, .cons (.ife (.isi .seq (.var 1)) (.cons (.ife (.or (.not (.isi .seq (.var 0))) (.cmp .NotEq (.isi .list (.var 0)) (.isi .list (.var 1)))) (.cons (.ret (.cst (.bl false))) .nil) .nil) (.cons (.ife (.cmp .NotEq (.bi .len (.var 0)) (.bi .len (.var 1))) (.cons (.ret (.cst (.bl false))) .nil) .nil) (.cons (.ret (.cmp .Eq (.new (.lc [2] (.nm 2) (.r1 (.bi .len (.var 1))) (.some (.not (.call 13 (.cons (.idx (.var 0) (.var 2)) (.cons (.idx (.var 1) (.var 2)) .nil))))) (.var 2))) (.new (.disp .nil)))) .nil))) .nil) (.cons (.ife (.or (.cmp .Is (.var 1) (.cst .non)) (.isi .str (.var 1))) (.cons (.ret (.and (.cmp .Eq (.var 0) (.var 1)) (.cmp .Eq (.isi .str (.var 0)) (.isi .str (.var 1))))) .nil) .nil) (.cons (.ret (.and (.isi .int (.var 0)) (.and (.cmp .Eq (.isi .bool (.var 0)) (.isi .bool (.var 1))) (.cmp .Eq (.var 0) (.var 1))))) .nil))⟩,
  ⟨"_law_prime", 1, 1, .cons (.ret (.call 12 (.cons (.var 0) (.cons (.new (.disp (.cons (.cst (.int 2)) (.cons (.cst (.int 2)) (.cons (.cst (.int 3)) (.cons (.cst (.int 3)) (.cons (.cst (.int 5)) (.cons (.cst (.int 7)) (.cons (.cst (.int 13)) .nil))))))))) .nil)))) .nil⟩,
  ⟨"_law_matrix", 4, 6, .cons (.ret (.biL .tuple (.lc [4] (.nm 4) (.r1 (.var 2)) .none (.biL .tuple (.lc [5] (.nm 5) (.r1 (.var 3)) .none (.call 11 (.cons (.var 0) (.cons (.var 1) .nil)))))))) .nil⟩,
  ⟨"_law_product", 3, 8, .cons (.asg (.nm 3) (.new (.disp .nil))) (.cons (.for_ (.nm 4) (.of (.var 1)) (.cons (.asg (.nm 5) (.new (.disp .nil))) (.cons (.for_ (.nm 6) (.r1 (.bi .len (.idx (.var 2) (.cst (.int 0))))) (.cons (.expr (.app (.var 5) (.bin .Mod (.bi .int (.biL .sum (.lc [7] (.nm 7) (.r1 (.bi .len (.var 2))) .none (.bin .Mult (.idx (.var 4) (.var 7)) (.idx (.idx (.var 2) (.var 7)) (.var 6)))))) (.var 0)))) .nil)) (.cons (.expr (.app (.var 3) (.bi .tuple (.var 5)))) .nil)))) (.cons (.ret (.bi .tuple (.var 3))) .nil))⟩,
  ⟨"_law_unit", 1, 3, .cons (.ret (.biL .tuple (.lc [1] (.nm 1) (.r1 (.var 0)) .none (.biL .tuple (.lc [2] (.nm 2) (.r1 (.var 0)) .none (.ife (.cmp .Eq (.var 1) (.var 2)) (.cst (.int 1)) (.cst (.int 0)))))))) .nil⟩,
  ⟨"_law_machine", 4, 11, .cons (.par3 4 5 6 (.call 11 (.cons (.var 0) (.cons (.bin .Add (.var 2) (.cst (.int 1))) .nil))) (.bin .Add (.cst (.int 1)) (.call 11 (.cons (.var 0) (.cons (.var 3) .nil)))) (.bin .Add (.cst (.int 1)) (.call 11 (.cons (.var 0) (.cons (.var 3) .nil))))) (.cons (.par3 7 8 9 (.call 15 (.cons (.var 0) (.cons (.var 1) (.cons (.var 4) (.cons (.var 4) .nil))))) (.call 15 (.cons (.var 0) (.cons (.var 1) (.cons (.var 4) (.cons (.var 5) .nil))))) (.call 15 (.cons (.var 0) (.cons (.var 1) (.cons (.var 6) (.cons (.var 4) .nil)))))) (.cons (.ife (.and (.cmp .Eq (.call 11 (.cons (.var 0) (.cons (.cst (.int 3)) .nil))) (.cst (.int 0))) (.cmp .Gt (.var 4) (.cst (.int 0)))) (.cons (.asg (.nm 8) (.bin .Add (.sl (.var 8) .none (.some (.neg (.cst (.int 1))))) (.tup (.cons (.bin .Mult (.tup (.cons (.cst (.int 0)) .nil)) (.var 5)) .nil)))) .nil) .nil) (.cons (.ife (.and (.cmp .Eq (.call 11 (.cons (.var 0) (.cons (.cst (.int 3)) .nil))) (.cst (.int 0))) (.cmp .Gt (.var 4) (.cst (.int 0)))) (.cons (.asg (.nm 9) (.biL .tuple (.lc [10] (.nm 10) (.of (.var 9)) .none (.bin .Add (.tup (.cons (.cst (.int 0)) .nil)) (.sl (.var 10) (.some (.cst (.int 1))) .none))))) .nil) .nil) (.cons (.ret (.tup (.cons (.var 7) (.cons (.var 8) (.cons (.var 9) (.cons (.call 15 (.cons (.var 0) (.cons (.var 1) (.cons (.var 6) (.cons (.var 5) .nil))))) .nil)))))) .nil))))⟩,
  ⟨"_law_applied", 3, 6, .cons (.ret (.biL .tuple (.lc [3] (.nm 3) (.of (.var 1)) .none (.bin .Mod (.bi .int (.biL .sum (.lc [4, 5] (.tup (.cons (.nm 4) (.cons (.nm 5) .nil))) (.zip (.var 3) (.var 2)) .none (.bin .Mult (.var 4) (.var 5))))) (.var 0))))) .nil⟩,
  ⟨"_law_added", 3, 5, .cons (.ret (.biL .tuple (.lc [3, 4] (.tup (.cons (.nm 3) (.cons (.nm 4) .nil))) (.zip (.var 1) (.var 2)) .none (.bin .Mod (.bi .int (.bin .Add (.var 3) (.var 4))) (.var 0))))) .nil⟩,
  ⟨"_law_run", 4, 11, .cons (.asg (.tup (.cons (.nm 5) (.cons (.nm 6) (.cons (.nm 7) (.cons (.nm 8) .nil))))) (.var 1)) (.cons (.par2 9 10 (.new (.disp .nil)) (.var 2)) (.cons (.for_ (.nm 4) (.of (.var 3)) (.cons (.expr (.app (.var 9) (.call 20 (.cons (.var 0) (.cons (.call 19 (.cons (.var 0) (.cons (.var 7) (.cons (.var 10) .nil)))) (.cons (.call 19 (.cons (.var 0) (.cons (.var 8) (.cons (.var 4) .nil)))) .nil)))))) (.cons (.asg (.nm 10) (.call 20 (.cons (.var 0) (.cons (.call 19 (.cons (.var 0) (.cons (.var 5) (.cons (.var 10) .nil)))) (.cons (.call 19 (.cons (.var 0) (.cons (.var 6) (.cons (.var 4) .nil)))) .nil))))) .nil))) (.cons (.ret (.tup (.cons (.bi .tuple (.var 9)) (.cons (.var 10) .nil)))) .nil)))⟩,
  ⟨"_law_answers", 3, 13, .cons (.asg (.tup (.cons (.nm 5) (.cons (.nm 6) (.cons (.nm 7) (.cons (.nm 8) .nil))))) (.var 1)) (.cons (.asg (.nm 3) (.new (.disp .nil))) (.cons (.for_ (.nm 4) (.r1 (.bi .len (.idx (.var 8) (.cst (.int 0))))) (.cons (.asg (.nm 9) (.biL .tuple (.lc [10] (.nm 10) (.r1 (.bi .len (.idx (.var 8) (.cst (.int 0))))) .none (.ife (.cmp .Eq (.var 4) (.var 10)) (.cst (.int 1)) (.cst (.int 0)))))) (.cons (.expr (.app (.var 3) (.idx (.call 21 (.cons (.var 0) (.cons (.var 1) (.cons (.bin .Mult (.tup (.cons (.cst (.int 0)) .nil)) (.bi .len (.var 5))) (.cons (.bin .Add (.tup (.cons (.var 9) .nil)) (.bin .Mult (.tup (.cons (.bin .Mult (.tup (.cons (.cst (.int 0)) .nil)) (.bi .len (.idx (.var 8) (.cst (.int 0))))) .nil)) (.bin .Sub (.var 2) (.cst (.int 1))))) .nil))))) (.cst (.int 0))))) .nil))) (.cons (.ret (.biL .tuple (.lc [4] (.nm 4) (.r1 (.var 2)) .none (.biL .tuple (.lc [11] (.nm 11) (.r1 (.bi .len (.var 8))) .none (.biL .tuple (.lc [12] (.nm 12) (.of (.var 3)) .none (.idx (.idx (.var 12) (.var 4)) (.var 11))))))))) .nil)))⟩,
  ⟨"_law_turned", 3, 13, .cons (.par2 4 5 (.call 17 (.cons (.var 2) .nil)) (.call 17 (.cons (.var 2) .nil))) (.cons (.for_ (.nm 3) (.r1 (.ife (.cmp .Gt (.var 2) (.cst (.int 1))) (.bin .Mult (.cst (.int 2)) (.var 2)) (.cst (.int 0)))) (.cons (.par3 9 10 11 (.call 11 (.cons (.var 0) (.cons (.var 2) .nil))) (.bin .Add (.cst (.int 1)) (.call 11 (.cons (.var 0) (.cons (.bin .Sub (.var 2) (.cst (.int 1))) .nil)))) (.call 11 (.cons (.var 0) (.cons (.var 1) .nil)))) (.cons (.asg (.nm 6) (.bin .Mod (.bi .int (.bin .Add (.var 9) (.var 10))) (.var 2))) (.cons (.asg (.nm 7) (.new (.lc [12] (.nm 12) (.of (.call 17 (.cons (.var 2) .nil))) .none (.new (.of (.var 12)))))) (.cons (.asg (.nm 8) (.new (.lc [12] (.nm 12) (.of (.call 17 (.cons (.var 2) .nil))) .none (.new (.of (.var 12)))))) (.cons (.asg (.tup (.cons (.sub (.idx (.var 7) (.var 9)) (.var 6)) (.cons (.sub (.idx (.var 8) (.var 9)) (.var 6)) .nil))) (.tup (.cons (.var 11) (.cons (.bin .Mod (.bi .int (.neg (.var 11))) (.var 1)) .nil)))) (.cons (.asg (.nm 4) (.call 16 (.cons (.var 1) (.cons (.biL .tuple (.lc [12] (.nm 12) (.of (.var 7)) .none (.bi .tuple (.var 12)))) (.cons (.var 4) .nil))))) (.cons (.asg (.nm 5) (.call 16 (.cons (.var 1) (.cons (.var 5) (.cons (.biL .tuple (.lc [12] (.nm 12) (.of (.var 8)) .none (.bi .tuple (.var 12)))) .nil))))) .nil)))))))) (.cons (.ret (.tup (.cons (.var 4) (.cons (.var 5) .nil)))) .nil))⟩,
  ⟨"_law_carried", 3, 9, .cons (.asg (.tup (.cons (.nm 3) (.cons (.nm 4) (.cons (.nm 5) (.cons (.nm 6) .nil))))) (.var 2)) (.cons (.ife (.cmp .Eq (.var 3) (.tup .nil)) (.cons (.ret (.var 2)) .nil) .nil) (.cons (.asg (.tup (.cons (.nm 7) (.cons (.nm 8) .nil))) (.call 23 (.cons (.var 0) (.cons (.var 1) (.cons (.bi .len (.var 3)) .nil))))) (.cons (.ret (.tup (.cons (.call 16 (.cons (.var 1) (.cons (.call 16 (.cons (.var 1) (.cons (.var 7) (.cons (.var 3) .nil)))) (.cons (.var 8) .nil)))) (.cons (.call 16 (.cons (.var 1) (.cons (.var 7) (.cons (.var 4) .nil)))) (.cons (.call 16 (.cons (.var 1) (.cons (.var 5) (.cons (.var 8) .nil)))) (.cons (.var 6) .nil)))))) .nil)))⟩,
  ⟨"law", 1, 6, .cons (.asg (.nm 1) (.new (.disp (.cons (.var 0) (.cons (.cst (.int 0)) (.cons (.cst (.int 3437)) (.cons (.cst (.int 0)) .nil))))))) (.cons (.par2 4 5 (.call 14 (.cons (.var 1) .nil)) (.bin .Add (.cst (.int 1)) (.call 11 (.cons (.var 1) (.cons (.cst (.int 12)) .nil))))) (.cons (.asg (.nm 2) (.call 18 (.cons (.var 1) (.cons (.var 4) (.cons (.cst (.int 5)) (.cons (.cst (.int 3)) .nil)))))) (.cons (.asg (.nm 3) (.call 10 (.cons (.var 4) (.cons (.var 2) (.cons (.var 5) .nil))))) (.cons (.ife (.not (.call 13 (.cons (.var 3) (.cons (.call 22 (.cons (.var 4) (.cons (.var 2) (.cons (.var 5) .nil)))) .nil)))) (.cons (.ret (.cst (.bl false))) .nil) .nil) (.cons (.ret (.cmp .Eq (.call 10 (.cons (.var 4) (.cons (.call 24 (.cons (.var 1) (.cons (.var 4) (.cons (.var 2) .nil)))) (.cons (.var 5) .nil)))) (.var 3))) .nil)))))⟩]
theorem defs_eq : defs = defsV := by kernel_rfl
noncomputable abbrev tb (n : Nat) : T := tab defsV (gl.map (·.2)) n
def li : Nat := 25
end Y.k37

set_option Elab.async false
set_option linter.all false
set_option maxRecDepth 100000
set_option maxHeartbeats 0
namespace Y
namespace k37
theorem gl_at (n : Nat) {k : Nat} {v : Y.Val} (h : (gl.map (·.2))[k]? = some v) : (tb n).gl[k]? = some v := by rw [show (tb n).gl = gl.map (·.2) from tab_gl _ _ n]; exact h
theorem h_is_int (n : Nat) : IsInt (tb (n + 1)) 0 := is_int_ok (has_of (d := ⟨"is_int", 1, 1, b_is_int⟩) rfl)
theorem h_is_in (n : Nat) : IsIn (tb (n + 2)) 1 := is_in_ok (has_of (d := ⟨"is_in", 3, 3, b_is_in 0⟩) rfl) (h_is_int n)
theorem h_need_number (n : Nat) : NeedNum (tb (n + 3)) 2 := need_number_ok (has_of (d := ⟨"need_number", 3, 3, b_need_number 1⟩) rfl) (h_is_in n)
theorem h_need_prime (n : Nat) : NeedPrime (tb (n + 2)) 3 := need_prime_ok (has_of (d := ⟨"need_prime", 1, 1, b_need_prime 0 0⟩) rfl) (h_is_int n) (gl_at _ rfl)
theorem h_exchanged (n : Nat) : Exch (tb (n + 1)) 4 := exchanged_ok (has_of (d := ⟨"exchanged", 1, 1, b_exchanged⟩) rfl)
theorem h_product (n : Nat) : ProdM (tb (n + 2)) 5 := product_ok (has_of (d := ⟨"product", 3, 8, b_product 4⟩) rfl) (h_exchanged n)
theorem h_are_rows (n : Nat) : AreRows (tb (n + 3)) 6 := are_rows_ok (has_of (d := ⟨"are_rows", 4, 6, b_are_rows 1⟩) rfl) (h_is_in n)
theorem h_is_side (n : Nat) : IsSide (tb (n + 1)) 7 := is_side_ok (has_of (d := ⟨"is_side", 1, 1, b_is_side 2⟩) rfl) (gl_at n rfl)
theorem h_need_machine (n : Nat) : NeedMachine (tb (n + 4)) 8 := need_machine_ok (has_of (d := ⟨"need_machine", 2, 6, b_need_machine 1 7 6⟩) rfl) (h_is_side (n + 2)) (h_are_rows n) (gl_at _ rfl)
theorem h_resp_of (n : Nat) : RespM (tb (n + 3)) 9 := resp_of_ok (has_of (d := ⟨"responses_of", 3, 9, b_resp_of 5⟩) rfl) (h_product n)
theorem h_responses (n : Nat) : RespM (tb (n + 5)) 10 := responses_ok (has_of (d := ⟨"responses", 3, 3, b_responses 3 8 2 3 9⟩) rfl) (h_need_prime (n + 2)) (h_need_machine n) (h_need_number (n + 1)) (h_resp_of (n + 1)) (gl_at _ rfl)
theorem h_taken (n : Nat) : Taken (tb (n + 1)) 11 := taken_ok (has_of (d := ⟨"_law_taken", 2, 4, b_taken⟩) rfl)
theorem h_pick (n : Nat) : Pick (tb (n + 2)) 12 := pick_ok (has_of (d := ⟨"_law_pick", 2, 2, b_pick 11⟩) rfl) (h_taken n)
theorem h_prime (n : Nat) : PrimeL (tb (n + 3)) 14 := prime_ok (has_of (d := ⟨"_law_prime", 1, 1, b_prime 12⟩) rfl) (h_pick n)
theorem h_lmatrix (n : Nat) : MatrixL (tb (n + 2)) 15 := lmatrix_ok (has_of (d := ⟨"_law_matrix", 4, 6, b_lmatrix 11⟩) rfl) (h_taken n)
theorem h_lproduct (n : Nat) : ProdM (tb (n + 1)) 16 := lproduct_ok (has_of (d := ⟨"_law_product", 3, 8, b_lproduct⟩) rfl)
theorem h_lunit (n : Nat) : UnitL (tb (n + 1)) 17 := lunit_ok (has_of (d := ⟨"_law_unit", 1, 3, b_lunit⟩) rfl)
theorem h_lmachine (n : Nat) : MachL (tb (n + 3)) 18 := lmachine_ok (has_of (d := ⟨"_law_machine", 4, 11, b_lmachine 11 15⟩) rfl) (h_taken (n + 1)) (h_lmatrix n)
theorem h_lapplied (n : Nat) : Applied (tb (n + 1)) 19 := lapplied_ok (has_of (d := ⟨"_law_applied", 3, 6, b_lapplied⟩) rfl)
theorem h_ladded (n : Nat) : Added (tb (n + 1)) 20 := ladded_ok (has_of (d := ⟨"_law_added", 3, 5, b_ladded⟩) rfl)
theorem h_lrun (n : Nat) : RunM (tb (n + 2)) 21 := lrun_ok (has_of (d := ⟨"_law_run", 4, 11, b_lrun 20 19⟩) rfl) (h_ladded n) (h_lapplied n)
theorem h_answers (n : Nat) : RespM (tb (n + 3)) 22 := answers_ok (has_of (d := ⟨"_law_answers", 3, 13, b_answers 21⟩) rfl) (h_lrun n)
theorem h_turned (n : Nat) : TurnedL (tb (n + 2)) 23 := turned_ok (has_of (d := ⟨"_law_turned", 3, 13, b_turned 11 17 16⟩) rfl) (h_taken n) (h_lunit n) (h_lproduct n)
theorem h_carried (n : Nat) : CarriedL (tb (n + 3)) 24 := carried_ok (has_of (d := ⟨"_law_carried", 3, 9, b_carried 23 16⟩) rfl) (h_turned n) (h_lproduct (n + 1))
theorem h_alike (n : Nat) : ∀ d, AlikeD (tb (n + 1 + d)) 13 d
  | 0 => alikeD_0 (has_of (d := ⟨"_law_alike", 2, 3, b_alike 13⟩) rfl)
  | d + 1 => alikeD_s (has_of (d := ⟨"_law_alike", 2, 3, b_alike 13⟩) rfl) (h_alike n d)
theorem h_law (n : Nat) : Has (tb (n + 1)) (tb n) 25 1 5 b_law37 := has_of (d := ⟨"law", 1, 6, b_law37⟩) rfl
theorem law_ok (ns : List Int) (hns : ns.length ≤ 1000) : ∃ h', (tb 40).call 25 [.lst 0] [.ro (I ns)] = .ok (.bl true) h' :=
  law_resp (h_law 39) (h_prime 36) (h_lmachine 36) (h_taken 38) (h_responses 34) (h_answers 36) (h_alike 35 3) (h_carried 36) ns hns
end k37
end Y
open PySem PySem.W PySem.Calls PyProof.Rows
theorem PySem.Challenge.cw_steerloops_k37_whole_responses_holds : PySem.Challenge.rw_steerloops_k37_whole_responses.Holds := by
  w_on; o_law
  refine HandSHeadRun.head_any (r := OpenLaw.row PySem.Challenge.rw_steerloops_k37_whole_responses) (q := view (OpenLaw.row PySem.Challenge.rw_steerloops_k37_whole_responses).prog [38]) (H := Y.k37.hk) (ob := Y.k37.ob) (M := 4000) (loose := Y.k37.loose) (d := HandSHeadRun.topDef (OpenLaw.row PySem.Challenge.rw_steerloops_k37_whole_responses).prog 38) (kwd := []) Y.k37.ob_eq
    (by kernel_rfl) (fun s => by kernel_rfl) Y.k37.run (by kernel_rfl) (by kernel_rfl) (by kernel_rfl) (by rfl) (by first | assumption | decide +kernel) (by decide +kernel) ⟨rfl, rfl, rfl, rfl, rfl, by decide +kernel⟩ ?hw ?hc
  case hw => w_witness2
  case hc =>
    refine Y.walk_w (l := PySem.Challenge.rw_steerloops_k37_whole_responses) (n := 63) (k := 40) (x := "_law_script") rfl (by decide) (by kernel_rfl) ⟨rfl, by decide, by decide⟩ ?A
    intro w mg fa h y G hmg0
    obtain ⟨K, kx, c⟩ := y
    have hmg : mg ("law" : PySem.Str) = some (.ref fa) := by
      have e : (HandSHeadRun.topDef (OpenLaw.row PySem.Challenge.rw_steerloops_k37_whole_responses).prog 38).name = ("law" : PySem.Str) := by kernel_rfl
      rw [← e]
      exact hmg0
    obtain ⟨fd, hb, hf⟩ := Y.facts_of (P := (PySem.Challenge.rw_steerloops_k37_whole_responses).prog) (w := w) (n := 40) (i := 25) (x := "_law_script") kx G Y.k37.ds_ok (d := ⟨Y.k37.top 38, ["_law_script"], ["_law_script", "_law_row", "_law_machine_here", "_law_told", "_law_p", "_law_many"]⟩) rfl rfl hmg c
    refine ⟨K, fd, _, kx, hb, fun H a ns hl ho hs => ?_, hf⟩
    refine Y.sp_law ho hs ?_
    obtain ⟨h', e⟩ := Y.k37.law_ok ns (by omega)
    refine ⟨h', ?_⟩
    rw [show Y.irs Y.k37.ds (Y.k37.gl.map (·.1)) Y.k37.blts = Y.k37.defsV from Y.k37.defs_eq]
    exact e

