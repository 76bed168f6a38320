import PyProof.Rows.All
import HandS.Conv
import HandS.Deep
import HandS.Dict
import HandS.DictTup
import HandS.EndTab
import HandS.Exc
import HandS.ExcField
import HandS.ExcInit
import HandS.ExcIs
import HandS.ExcOwn
import HandS.ExcValue
import HandS.Flt
import HandS.ForMost
import HandS.IsInst
import HandS.Keys
import HandS.Lambda
import HandS.More
import HandS.SetFor
import HandS.Style
import HandS.TryOnly
import HandS.TupAny
import HandS.TupLe
import HandS.TupMul
import HandS.TupSets
import HandS.Wide
import HandS.WideBits
import HandS.WordsExc
import HandS.Zip
import KE.GoesNew
import KE.KTupSum
import PySem.Challenge.RW_othersum_k07_no_books
set_option Elab.async false
set_option linter.all false
set_option maxRecDepth 100000
set_option maxHeartbeats 0
namespace Ab
open PySem PySem.Spec PyProof.Rows L2
abbrev ZF (h : Heap) (z TI TO : Addr) (f : Value) (b : Bool) : Prop := h.get? z = some { cls := .type "zip", data := .fields #[f, .bool b, .bool false, .ref TI, .ref TO] }
def ZSt (h : Heap) (z TI TO : Addr) : Prop := ∃ (f : Value) (b : Bool), (f = .none ∨ ∃ a : Addr, f = rawInt (a : Int)) ∧ ZF h z TI TO f b
theorem same_refl (a : Addr) (h : Heap) : Heap.SameBut a h h := ⟨rfl, fun _ _ => rfl⟩
section
variable {prog : Program} {w : World} {A : Around} {E : Value → Shared → Prop} {s : Shared} {z TI TO i1 i2 l1 l2 : Addr}
theorem zfree {f : Value} {b : Bool} {Q : Bool → Shared → Prop} (hf : f = .none ∨ ∃ a : Addr, f = rawInt (a : Int)) (hz : ZF s.heap z TI TO f b) (h1 : Q true s)
    (h2 : ∀ h', ZF h' z TI TO f true → Heap.SameBut z s.heap h' → Q false { s with heap := h' }) : wpAny (model prog w) A (Builtin.SmallTypes.ownedTupleIsFree (.ref z)) Q E s := by
  unfold Builtin.SmallTypes.ownedTupleIsFree
  refine wpAny_bind (wpAny_field hz rfl (x := f) rfl ?_)
  rcases hf with rfl | ⟨a, rfl⟩
  · exact wpAny_pure h1
  · show wpAny _ _ (loadIfAlive _ >>= _) _ _ _
    refine wpAny_bind ?_
    intro Γ p hΓ
    rw [show (loadIfAlive (a : Int).toNat : Sem (Option Obj)) = .loadIfAlive (a : Int).toNat pure from rfl, Sem.wp_loadIfAlive]
    revert Γ p hΓ
    show wpAny _ _ (pure (s.heap.get? (a : Int).toNat)) _ _ _
    refine wpAny_pure ?_
    cases s.heap.get? (a : Int).toNat with
    | none => exact wpAny_pure h1
    | some o =>
      show wpAny _ _ (field (.ref z) 1 >>= _) _ _ _
      refine wpAny_bind (wpAny_field hz rfl (x := .bool b) rfl ?_)
      cases b with
      | true => exact wpAny_pure (h2 s.heap hz (same_refl _ _))
      | false =>
        show wpAny _ _ (setField (.ref z) 1 (.bool true) >>= _) _ _ _
        exact wpAny_bind (wpAny_setField_rec hz (by simp) fun h' hz' hs' => wpAny_pure (h2 h' hz' hs'))
theorem zany_item (D : ZipApart z TI TO i1 i2 l1 l2) {k1 k2 : Nat} {xs ys : Array Value} {x y : Value} {Q : Value → Shared → Prop} (hz : ZSt s.heap z TI TO) (hTI : IsPair s.heap TI (.ref i1) (.ref i2)) (hTO : ∃ a b, IsPair s.heap TO a b)
    (h1 : s.heap.IsListIter i1 l1 k1) (h2 : s.heap.IsListIter i2 l2 k2) (hl1 : s.heap.IsList l1 xs) (hl2 : s.heap.IsList l2 ys) (hx : xs[k1]? = some x) (hy : ys[k2]? = some y)
    (hQ : ∀ h', ZSt h' z TI TO → (∃ a b, IsPair h' TO a b) → h'.IsListIter i1 l1 (k1 + 1) → h'.IsListIter i2 l2 (k2 + 1) → IsPair h' s.heap.objs.size x y → h'.objs.size = s.heap.objs.size + 1 →
      (∀ c o, c ≠ z → c ≠ TO → c ≠ i1 → c ≠ i2 → s.heap.get? c = some o → h'.get? c = some o) → Q (.ref s.heap.objs.size) { s with heap := h' }) :
    wpAny (model prog w) A (Builtin.«zip.__next__» ⟨[.ref z], []⟩) (fun fin s' => ∃ v, fin = .done (.ret v) ∧ Q v s') E s := by
  obtain ⟨f, b, hf, hz⟩ := hz
  obtain ⟨a0, b0, hTO⟩ := hTO
  show wpAny _ _ (field (.ref z) 2 >>= _) _ _ _
  refine wpAny_bind (wpAny_field hz rfl (x := .bool false) rfl ?_)
  show wpAny _ _ (field (.ref z) 3 >>= _) _ _ _
  refine wpAny_bind (wpAny_field hz rfl (x := .ref TI) rfl ?_)
  refine wpAny_bind (wpAny_seqItems hTI rfl ?_)
  show wpAny _ _ (Builtin.SmallTypes.ownedTupleIsFree (.ref z) >>= _) _ _ _
  refine wpAny_bind (zfree hf hz ?_ fun g0 gz0 gs0 => ?_)
  · -- its own tuple again
    simp only [if_true]
    refine wpAny_bind (wpAny_rule ?_)
    refine wpAny_bind (wpAny_field hz rfl (x := .ref TO) rfl ?_)
    refine wpAny_bind (wpAny_setField_rec hz (by simp) fun g1 gz1 gs1 => ?_)
    replace gz1 : ZF g1 z TI TO .ellipsis b := gz1
    refine wpAny_bind ?_
    simp only [List.zipIdx_cons, List.zipIdx_nil, List.forIn_cons, List.forIn_nil]
    refine wpAny_bind (wpAny_bind (wpAny_onRaise ?_))
    show wpAny _ _ (Builtin.SmallTypes.nextOf (.ref i1) >>= _) _ _ _
    refine wpAny_bind (wpAny_nextOf_list_item (h1.extBut gs1.extBut D.i1z) (hl1.extBut gs1.extBut D.l1z) hx fun g2 gi2 gs2 => wpAny_pure ?_)
    have tO2 : IsPair g2 TO a0 b0 := gs2.extBut _ _ D.TOi1 (gs1.extBut _ _ D.TOz hTO)
    refine wpAny_bind (wpAny_seqItems tO2 rfl ?_)
    refine wpAny_bind (wpAny_updateSeq_pair tO2 fun g3 tO3 gs3 => ?_)
    replace tO3 : IsPair g3 TO x b0 := tO3
    refine wpAny_bind (wpAny_letGo (wpAny_pure ?_))
    refine wpAny_bind (wpAny_bind (wpAny_onRaise ?_))
    show wpAny _ _ (Builtin.SmallTypes.nextOf (.ref i2) >>= _) _ _ _
    refine wpAny_bind (wpAny_nextOf_list_item (((h2.extBut gs1.extBut D.i2z).extBut gs2.extBut D.i12.symm).extBut gs3.extBut D.TOi2.symm) (((hl2.extBut gs1.extBut D.l2z).extBut gs2.extBut D.l2i1).extBut gs3.extBut D.l2TO) hy fun g4 gi4 gs4 => wpAny_pure ?_)
    have tO4 : IsPair g4 TO x b0 := gs4.extBut _ _ D.TOi2 tO3
    refine wpAny_bind (wpAny_seqItems tO4 rfl ?_)
    refine wpAny_bind (wpAny_updateSeq_pair tO4 fun g5 tO5 gs5 => ?_)
    replace tO5 : IsPair g5 TO x y := tO5
    refine wpAny_bind (wpAny_letGo (wpAny_pure (wpAny_pure ?_)))
    refine wpAny_bind (wpAny_seqItems tO5 rfl ?_)
    refine wpAny_bind (wpAny_newTuple ?_)
    have sz : g5.objs.size = s.heap.objs.size := by rw [gs5.1, gs4.1, gs3.1, gs2.1, gs1.1]
    have gz5 : ZF g5 z TI TO .ellipsis b := gs5.extBut _ _ D.TOz.symm (gs4.extBut _ _ D.i2z.symm (gs3.extBut _ _ D.TOz.symm (gs2.extBut _ _ D.i1z.symm gz1)))
    have kp : ∀ c o, c ≠ z → c ≠ TO → c ≠ i1 → c ≠ i2 → s.heap.get? c = some o → g5.get? c = some o := fun c o n1 n2 n3 n4 e => gs5.extBut _ _ n2 (gs4.extBut _ _ n4 (gs3.extBut _ _ n2 (gs2.extBut _ _ n3 (gs1.extBut _ _ n1 e))))
    have it1 : g5.IsListIter i1 l1 (k1 + 1) := ((gi2.extBut gs3.extBut D.TOi1.symm).extBut gs4.extBut D.i12).extBut gs5.extBut D.TOi1.symm
    have it2 : g5.IsListIter i2 l2 (k2 + 1) := gi4.extBut gs5.extBut D.TOi2.symm
    have zlt : z < g5.objs.size := Heap.lt_size gz5
    show wpAny _ _ (Builtin.SmallTypes.ownedTupleHandOut (.ref z) (.ref g5.objs.size) >>= _) _ _ _
    refine wpAny_bind ?_
    unfold Builtin.SmallTypes.ownedTupleHandOut
    have gz6 : ZF (g5.push { cls := .type "tuple", data := .seq #[x, y] }) z TI TO .ellipsis b := Heap.get?_push_of_some _ gz5
    refine wpAny_bind (wpAny_setField_rec gz6 (by simp) fun g7 gz7 gs7 => ?_)
    replace gz7 : ZF g7 z TI TO (rawInt (g5.objs.size : Int)) b := gz7
    refine wpAny_setField_rec gz7 (by simp) fun g8 gz8 gs8 => ?_
    replace gz8 : ZF g8 z TI TO (rawInt (g5.objs.size : Int)) false := gz8
    have up : ∀ c o, c ≠ z → g5.get? c = some o → g8.get? c = some o := fun c o n1 e => gs8.extBut _ _ n1 (gs7.extBut _ _ n1 (Heap.get?_push_of_some _ e))
    have tT : IsPair g8 g5.objs.size x y := gs8.extBut _ _ (Nat.ne_of_gt zlt) (gs7.extBut _ _ (Nat.ne_of_gt zlt) (Heap.get?_push_size _ rfl))
    have sz8 : g8.objs.size = g5.objs.size + 1 := by rw [gs8.1, gs7.1, Heap.size_push]
    rw [sz] at tT sz8
    refine wpAny_pure ⟨_, rfl, ?_⟩
    show Q (.ref g5.objs.size) _
    rw [sz]
    exact hQ g8 ⟨_, _, .inr ⟨g5.objs.size, rfl⟩, gz8⟩ ⟨_, _, up _ _ D.TOz tO5⟩ (it1.at fun o e => up _ o D.i1z e) (it2.at fun o e => up _ o D.i2z e) tT sz8 fun c o n1 n2 n3 n4 e => up c o n1 (kp c o n1 n2 n3 n4 e)
  · -- a new tuple
    simp only [Bool.false_eq_true, if_false]
    refine wpAny_bind ?_
    simp only [← Array.forIn_toList, List.forIn_cons, List.forIn_nil]
    refine wpAny_bind (wpAny_bind (wpAny_holding ?_))
    show wpAny _ _ (Builtin.SmallTypes.nextOf (.ref i1) >>= _) _ _ _
    refine wpAny_bind (wpAny_nextOf_list_item (h1.extBut gs0.extBut D.i1z) (hl1.extBut gs0.extBut D.l1z) hx fun g2 gi2 gs2 => wpAny_pure (wpAny_pure ?_))
    refine wpAny_bind (wpAny_bind (wpAny_holding ?_))
    show wpAny _ _ (Builtin.SmallTypes.nextOf (.ref i2) >>= _) _ _ _
    refine wpAny_bind (wpAny_nextOf_list_item ((h2.extBut gs0.extBut D.i2z).extBut gs2.extBut D.i12.symm) ((hl2.extBut gs0.extBut D.l2z).extBut gs2.extBut D.l2i1) hy fun g4 gi4 gs4 => wpAny_pure (wpAny_pure (wpAny_pure ?_)))
    show wpAny _ _ (newTuple [x, y] >>= _) _ _ _
    refine wpAny_bind (wpAny_newTuple (wpAny_pure ⟨_, rfl, ?_⟩))
    have sz : g4.objs.size = s.heap.objs.size := by rw [gs4.1, gs2.1, gs0.1]
    have gz4 : ZF g4 z TI TO f true := gs4.extBut _ _ D.i2z.symm (gs2.extBut _ _ D.i1z.symm gz0)
    have kp : ∀ c o, c ≠ z → c ≠ TO → c ≠ i1 → c ≠ i2 → s.heap.get? c = some o → g4.get? c = some o := fun c o n1 n2 n3 n4 e => gs4.extBut _ _ n4 (gs2.extBut _ _ n3 (gs0.extBut _ _ n1 e))
    have it1 : g4.IsListIter i1 l1 (k1 + 1) := gi2.extBut gs4.extBut D.i12
    have tO4 : IsPair g4 TO a0 b0 := gs4.extBut _ _ D.TOi2 (gs2.extBut _ _ D.TOi1 (gs0.extBut _ _ D.TOz hTO))
    show Q (.ref g4.objs.size) { s with heap := g4.push { cls := .type "tuple", data := .seq #[x, y] } }
    have tT : IsPair (g4.push { cls := .type "tuple", data := .seq #[x, y] }) g4.objs.size x y := Heap.get?_push_size _ rfl
    have sz8 : (g4.push { cls := .type "tuple", data := .seq #[x, y] }).objs.size = g4.objs.size + 1 := by rw [Heap.size_push]
    have up : ∀ c o, g4.get? c = some o → (g4.push { cls := .type "tuple", data := .seq #[x, y] }).get? c = some o := fun c o e => Heap.get?_push_of_some _ e
    rw [sz] at tT sz8
    rw [sz]
    exact hQ _ ⟨f, true, hf, up _ _ gz4⟩ ⟨_, _, up _ _ tO4⟩ (it1.at fun o e => up _ o e) (gi4.at fun o e => up _ o e) tT sz8 fun c o n1 n2 n3 n4 e => up c o (kp c o n1 n2 n3 n4 e)
theorem zany_end (D : ZipApart z TI TO i1 i2 l1 l2) {k1 k2 : Nat} {xs ys : Array Value} {Q : Fin → Shared → Prop} (hh : A.handled = none) (hz : ZSt s.heap z TI TO) (hTI : IsPair s.heap TI (.ref i1) (.ref i2)) (hTO : ∃ a b, IsPair s.heap TO a b)
    (h1 : s.heap.IsListIter i1 l1 k1) (h2 : s.heap.IsListIter i2 l2 k2) (hl1 : s.heap.IsList l1 xs) (hl2 : s.heap.IsList l2 ys) (hend : xs[k1]? = none ∨ ys[k2]? = none)
    (hE : ∀ h' e, (∀ c o, c ≠ z → c ≠ TO → c ≠ i1 → c ≠ i2 → s.heap.get? c = some o → h'.get? c = some o) → (∃ o, h'.get? e = some o ∧ o.cls = .type "StopIteration") → E (.ref e) { s with heap := h' }) :
    wpAny (model prog w) A (Builtin.«zip.__next__» ⟨[.ref z], []⟩) Q E s := by
  obtain ⟨f, b, hf, hz⟩ := hz
  obtain ⟨a0, b0, hTO⟩ := hTO
  show wpAny _ _ (field (.ref z) 2 >>= _) _ _ _
  refine wpAny_bind (wpAny_field hz rfl (x := .bool false) rfl ?_)
  show wpAny _ _ (field (.ref z) 3 >>= _) _ _ _
  refine wpAny_bind (wpAny_field hz rfl (x := .ref TI) rfl ?_)
  refine wpAny_bind (wpAny_seqItems hTI rfl ?_)
  show wpAny _ _ (Builtin.SmallTypes.ownedTupleIsFree (.ref z) >>= _) _ _ _
  refine wpAny_bind (zfree hf hz ?_ fun g0 gz0 gs0 => ?_)
  · simp only [if_true]
    refine wpAny_bind (wpAny_rule ?_)
    refine wpAny_bind (wpAny_field hz rfl (x := .ref TO) rfl ?_)
    refine wpAny_bind (wpAny_setField_rec hz (by simp) fun g1 gz1 gs1 => ?_)
    replace gz1 : ZF g1 z TI TO .ellipsis b := gz1
    refine wpAny_bind ?_
    simp only [List.zipIdx_cons, List.zipIdx_nil, List.forIn_cons, List.forIn_nil]
    refine wpAny_bind (wpAny_bind (wpAny_onRaise ?_))
    show wpAny _ _ (Builtin.SmallTypes.nextOf (.ref i1) >>= _) _ _ _
    cases hx : xs[k1]? with
    | none =>
      refine wpAny_bind (wpAny_nextOf_list_end hh (h1.extBut gs1.extBut D.i1z) (hl1.extBut gs1.extBut D.l1z) hx fun g2 e gs2 he => ?_)
      obtain ⟨oe, hoe, hce⟩ := he
      have gz2 : ZF g2 z TI TO .ellipsis b := gs2 _ _ D.i1z.symm gz1
      have nz : e ≠ z := fun q => by subst q; rw [gz2] at hoe; cases hoe; simp at hce
      exact wpAny_setField_rec gz2 (by simp) fun g3 _ gs3 => hE g3 e (fun c o n1 _ n3 _ q => gs3.extBut _ _ n1 (gs2 _ _ n3 (gs1.extBut _ _ n1 q))) ⟨oe, gs3.extBut _ _ nz hoe, hce⟩
    | some x =>
      have hy : ys[k2]? = none := by rcases hend with q | q; rw [hx] at q; cases q; exact q
      refine wpAny_bind (wpAny_nextOf_list_item (h1.extBut gs1.extBut D.i1z) (hl1.extBut gs1.extBut D.l1z) hx fun g2 gi2 gs2 => wpAny_pure ?_)
      have tO2 : IsPair g2 TO a0 b0 := gs2.extBut _ _ D.TOi1 (gs1.extBut _ _ D.TOz hTO)
      refine wpAny_bind (wpAny_seqItems tO2 rfl ?_)
      refine wpAny_bind (wpAny_updateSeq_pair tO2 fun g3 tO3 gs3 => ?_)
      refine wpAny_bind (wpAny_letGo (wpAny_pure ?_))
      refine wpAny_bind (wpAny_bind (wpAny_onRaise ?_))
      show wpAny _ _ (Builtin.SmallTypes.nextOf (.ref i2) >>= _) _ _ _
      refine wpAny_bind (wpAny_nextOf_list_end hh (((h2.extBut gs1.extBut D.i2z).extBut gs2.extBut D.i12.symm).extBut gs3.extBut D.TOi2.symm) (((hl2.extBut gs1.extBut D.l2z).extBut gs2.extBut D.l2i1).extBut gs3.extBut D.l2TO) hy fun g4 e gs4 he => ?_)
      obtain ⟨oe, hoe, hce⟩ := he
      have gz4 : ZF g4 z TI TO .ellipsis b := gs4 _ _ D.i2z.symm (gs3.extBut _ _ D.TOz.symm (gs2.extBut _ _ D.i1z.symm gz1))
      have nz : e ≠ z := fun q => by subst q; rw [gz4] at hoe; cases hoe; simp at hce
      exact wpAny_setField_rec gz4 (by simp) fun g5 _ gs5 => hE g5 e (fun c o n1 n2 n3 n4 q => gs5.extBut _ _ n1 (gs4 _ _ n4 (gs3.extBut _ _ n2 (gs2.extBut _ _ n3 (gs1.extBut _ _ n1 q))))) ⟨oe, gs5.extBut _ _ nz hoe, hce⟩
  · simp only [Bool.false_eq_true, if_false]
    refine wpAny_bind ?_
    simp only [← Array.forIn_toList, List.forIn_cons, List.forIn_nil]
    refine wpAny_bind (wpAny_bind (wpAny_holding ?_))
    show wpAny _ _ (Builtin.SmallTypes.nextOf (.ref i1) >>= _) _ _ _
    cases hx : xs[k1]? with
    | none =>
      refine wpAny_bind (wpAny_nextOf_list_end hh (h1.extBut gs0.extBut D.i1z) (hl1.extBut gs0.extBut D.l1z) hx fun g2 e gs2 he => ?_)
      exact hE g2 e (fun c o n1 _ n3 _ q => gs2 _ _ n3 (gs0.extBut _ _ n1 q)) he
    | some x =>
      have hy : ys[k2]? = none := by rcases hend with q | q; rw [hx] at q; cases q; exact q
      refine wpAny_bind (wpAny_nextOf_list_item (h1.extBut gs0.extBut D.i1z) (hl1.extBut gs0.extBut D.l1z) hx fun g2 gi2 gs2 => wpAny_pure (wpAny_pure ?_))
      refine wpAny_bind (wpAny_bind (wpAny_holding ?_))
      show wpAny _ _ (Builtin.SmallTypes.nextOf (.ref i2) >>= _) _ _ _
      refine wpAny_bind (wpAny_nextOf_list_end hh ((h2.extBut gs0.extBut D.i2z).extBut gs2.extBut D.i12.symm) ((hl2.extBut gs0.extBut D.l2z).extBut gs2.extBut D.l2i1) hy fun g4 e gs4 he => ?_)
      exact hE g4 e (fun c o n1 n2 n3 n4 q => gs4 _ _ n4 (gs2.extBut _ _ n3 (gs0.extBut _ _ n1 q))) he
theorem znext_item (D : ZipApart z TI TO i1 i2 l1 l2) {k1 k2 : Nat} {xs ys : Array Value} {x y : Value} {Q : Value → Shared → Prop} (hz : ZSt s.heap z TI TO) (hTI : IsPair s.heap TI (.ref i1) (.ref i2)) (hTO : ∃ a b, IsPair s.heap TO a b)
    (h1 : s.heap.IsListIter i1 l1 k1) (h2 : s.heap.IsListIter i2 l2 k2) (hl1 : s.heap.IsList l1 xs) (hl2 : s.heap.IsList l2 ys) (hx : xs[k1]? = some x) (hy : ys[k2]? = some y)
    (hQ : ∀ h', ZSt h' z TI TO → (∃ a b, IsPair h' TO a b) → h'.IsListIter i1 l1 (k1 + 1) → h'.IsListIter i2 l2 (k2 + 1) → IsPair h' s.heap.objs.size x y → h'.objs.size = s.heap.objs.size + 1 →
      (∀ c o, c ≠ z → c ≠ TO → c ≠ i1 → c ≠ i2 → s.heap.get? c = some o → h'.get? c = some o) → Q (.ref s.heap.objs.size) { s with heap := h' }) :
    wpAny (model prog w) A (Builtin.SmallTypes.nextOf (.ref z)) Q E s := by
  have hT : s.TypeIs (.ref z) "zip" := by obtain ⟨f, b, _, q⟩ := id hz; exact ⟨_, q, rfl⟩
  unfold Builtin.SmallTypes.nextOf
  refine wpAny_bind (wpAny_callSpecial?_slot (name := Str.ofString "__next__") hT F.slot_zip_next (wpAny_call_entry F.slot_zip_next hT F.entry_zip_next
    (zany_item D hz hTI hTO h1 h2 hl1 hl2 hx hy fun h' a1 a2 a3 a4 a5 a6 a7 => wpAny_pure (hQ h' a1 a2 a3 a4 a5 a6 a7)) (F.args_zip_next_1 _)))
theorem znext_end (D : ZipApart z TI TO i1 i2 l1 l2) {k1 k2 : Nat} {xs ys : Array Value} {Q : Value → Shared → Prop} (hh : A.handled = none) (hz : ZSt s.heap z TI TO) (hTI : IsPair s.heap TI (.ref i1) (.ref i2)) (hTO : ∃ a b, IsPair s.heap TO a b)
    (h1 : s.heap.IsListIter i1 l1 k1) (h2 : s.heap.IsListIter i2 l2 k2) (hl1 : s.heap.IsList l1 xs) (hl2 : s.heap.IsList l2 ys) (hend : xs[k1]? = none ∨ ys[k2]? = none)
    (hE : ∀ h' e, (∀ c o, c ≠ z → c ≠ TO → c ≠ i1 → c ≠ i2 → s.heap.get? c = some o → h'.get? c = some o) → (∃ o, h'.get? e = some o ∧ o.cls = .type "StopIteration") → E (.ref e) { s with heap := h' }) :
    wpAny (model prog w) A (Builtin.SmallTypes.nextOf (.ref z)) Q E s := by
  have hT : s.TypeIs (.ref z) "zip" := by obtain ⟨f, b, _, q⟩ := id hz; exact ⟨_, q, rfl⟩
  unfold Builtin.SmallTypes.nextOf
  exact wpAny_bind (wpAny_callSpecial?_slot (name := Str.ofString "__next__") hT F.slot_zip_next (wpAny_call_entry F.slot_zip_next hT F.entry_zip_next
    (zany_end D hh hz hTI hTO h1 h2 hl1 hl2 hend hE) (F.args_zip_next_1 _)))
theorem enxt_item {e it : Addr} {c : Int} {old : Value} {wi : List Addr} {R : Value → Heap → Prop} {Q : Value → Shared → Prop} (he : IsEnum s.heap e it c old) (hew : e ∉ wi)
    (inner : ∀ (Q' : Value → Shared → Prop), (∀ x h' tk, R x h' → (∀ b o, b ∉ wi → s.heap.get? b = some o → h'.get? b = some o) → s.heap.objs.size ≤ h'.objs.size → Q' x { s with heap := h', toks := tk }) → wpAny (model prog w) A (Builtin.SmallTypes.nextOf (.ref it)) Q' E s)
    (hQ : ∀ x h1 h' tk T, R x h1 → (∀ b o, b ∉ wi → s.heap.get? b = some o → h1.get? b = some o) → s.heap.objs.size ≤ h1.objs.size → T = h1.objs.size → IsEnumOut h' e it (c + 1) x T → h'.get? T = some { cls := .type "tuple", data := .seq #[.int c tk, x] } →
      (∀ b o, b ≠ e → h1.get? b = some o → h'.get? b = some o) → Q (.ref T) { s with heap := h', toks := tk + 1 }) :
    wpAny (model prog w) A (Builtin.«enumerate.__next__» ⟨[.ref e], []⟩) (fun fin s' => ∃ v, fin = .done (.ret v) ∧ Q v s') E s := by
  obtain ⟨hp, g, d, tk₀, os⟩ := s
  show wpAny _ _ (field (.ref e) 2 >>= _) _ _ _
  refine wpAny_bind (wpAny_field he rfl (x := .ref it) rfl ?_)
  refine wpAny_bind (inner _ fun x g1 tk hR k1 sz1 => ?_)
  have e1 : IsEnum g1 e it c old := k1 e _ hew he
  show wpAny _ _ (field (.ref e) 3 >>= _) _ _ ⟨g1, g, d, tk, os⟩
  refine wpAny_bind (wpAny_field e1 rfl (x := rawInt c) rfl ?_)
  show wpAny _ _ (field (.ref e) 4 >>= _) _ _ ⟨g1, g, d, tk, os⟩
  refine wpAny_bind (wpAny_field e1 rfl (x := .none) rfl ?_)
  show wpAny _ _ (mkInt c >>= _) _ _ ⟨g1, g, d, tk, os⟩
  refine wpAny_bind (wpAny_mkInt ?_)
  show wpAny _ _ (setField (.ref e) 3 (rawInt (c + 1)) >>= _) _ _ ⟨g1, g, d, tk + 1, os⟩
  refine wpAny_bind (wpAny_setField_rec e1 (by simp) fun g2 e2 s2 => ?_)
  replace s2 : Heap.SameBut e g1 g2 := s2
  replace e2 : IsEnum g2 e it (c + 1) old := e2
  show wpAny _ _ (setField (.ref e) 4 .none >>= _) _ _ ⟨g2, g, d, tk + 1, os⟩
  refine wpAny_bind (wpAny_setField_rec e2 (by simp) fun g3 e3 s3 => ?_)
  replace s3 : Heap.SameBut e g2 g3 := s3
  replace e3 : IsEnum g3 e it (c + 1) old := e3
  show wpAny _ _ (newTuple [.int c tk, x] >>= _) _ _ ⟨g3, g, d, tk + 1, os⟩
  refine wpAny_bind (wpAny_newTuple ?_)
  have e4 : IsEnum (g3.push { cls := .type "tuple", data := .seq #[.int c tk, x] }) e it (c + 1) old := Heap.get?_push_of_some _ e3
  have sz : g3.objs.size = g1.objs.size := by rw [s3.1, s2.1]
  have t4 : (g3.push { cls := .type "tuple", data := .seq #[.int c tk, x] }).get? g1.objs.size = some { cls := .type "tuple", data := .seq #[.int c tk, x] } := by rw [← sz]; exact Heap.get?_push_size _ rfl
  have k4 : ∀ b o, b ≠ e → g1.get? b = some o → (g3.push { cls := .type "tuple", data := .seq #[.int c tk, x] }).get? b = some o := fun b o n q => Heap.get?_push_of_some _ (s3.extBut b o n (s2.extBut b o n q))
  generalize g3.push { cls := .type "tuple", data := .seq #[.int c tk, x] } = g4 at e4 t4 k4
  have elt : e < g1.objs.size := Heap.lt_size e1
  show wpAny _ _ (Builtin.SmallTypes.ownedTupleIsFree (.ref e) >>= _) _ _ ⟨g4, g, d, tk + 1, os⟩
  rw [sz]
  refine wpAny_bind ?_
  unfold Builtin.SmallTypes.ownedTupleIsFree
  refine wpAny_bind (wpAny_field e4 rfl (x := .none) rfl (wpAny_pure ?_))
  simp only [if_true]
  refine wpAny_bind (wpAny_rule ?_)
  refine wpAny_bind (wpAny_field e4 rfl (x := old) rfl ?_)
  refine wpAny_bind (wpAny_setField_rec e4 (by simp) fun g5 e5 s5 => ?_)
  replace s5 : Heap.SameBut e g4 g5 := s5
  replace e5 : IsEnum g5 e it (c + 1) x := e5
  show wpAny _ _ (Builtin.SmallTypes.ownedTupleHandOut (.ref e) (.ref g1.objs.size) >>= _) _ _ ⟨g5, g, d, tk + 1, os⟩
  refine wpAny_bind ?_
  unfold Builtin.SmallTypes.ownedTupleHandOut
  refine wpAny_bind (wpAny_setField_rec e5 (by simp) fun g6 e6 s6 => ?_)
  replace s6 : Heap.SameBut e g5 g6 := s6
  replace e6 : IsEnumOut g6 e it (c + 1) x g1.objs.size := e6
  refine wpAny_setField_rec e6 (by simp) fun g7 e7 s7 => ?_
  replace s7 : Heap.SameBut e g6 g7 := s7
  replace e7 : IsEnumOut g7 e it (c + 1) x g1.objs.size := e7
  have up : ∀ b o, b ≠ e → g4.get? b = some o → g7.get? b = some o := fun b o n q => s7.extBut b o n (s6.extBut b o n (s5.extBut b o n q))
  refine wpAny_bind (wpAny_letGo (wpAny_pure ⟨_, rfl, hQ x g1 g7 tk _ hR k1 sz1 rfl e7 (up _ _ (Nat.ne_of_gt elt) t4) fun b o n q => up b o n (k4 b o n q)⟩))
end
end Ab
namespace PySem
open Sem (wp)
open AutoSeq1 (wpAny_loadPart')
theorem meets_enum_zip (z TI TO : Addr) (f : Value) (b : Bool) :
    Meets (Builtin.«enumerate.__new__» ⟨[.type "enumerate", .ref z], []⟩) (fun _ R s => s.heap.get? z = some { cls := .type "zip", data := .fields #[f, .bool b, .bool false, .ref TI, .ref TO] } ∧
      R (.ok (.ret (.ref s.heap.objs.size))) { s with heap := s.heap.push { cls := .type "enumerate", data := .fields #[.none, .bool false, .ref z, rawInt 0, .none, .none] } }) :=
  .of_wp fun prog w A R s h => by
    obtain ⟨hp, g, d, tk, os⟩ := s; obtain ⟨hl, h⟩ := h
    have hsub := sub_enumerate
    have self : ∀ {A' : Around} {E : Value → Shared → Prop} {Q : Value → Shared → Prop}, Q (.ref z) ⟨hp, g, d, tk, os⟩ → wpAny (model prog w) A' (pyIter (.ref z)) Q E ⟨hp, g, d, tk, os⟩ := fun {A' E Q} q => by
      have hT : Shared.TypeIs ⟨hp, g, d, tk, os⟩ (.ref z) "zip" := ⟨_, hl, rfl⟩
      refine wpAny_pyIter_slot hT F.slot_zip_iter (wpAny_call_entry F.slot_zip_iter hT F.entry_zip_iter ?_ (F.args_zip_iter_1 _))
      show wpAny _ _ (ret (.ref z)) _ _ _
      exact wpAny_pure ⟨_, rfl, "zip", _, hT, F.slot_zip_next.lookup, q⟩
    wp_walk using wpAny_loadPart' hl
    refine wpAny_stack_any fun st => wpAny_pure ?_
    split
    · rename_i c _ _ _ _ _
      cases (c == Value.type "enumerate")
      · wp_walk using wpAny_loadPart' hl, self
        exact ⟨_, rfl, h⟩
      · wp_walk using wpAny_loadPart' hl, self
        exact ⟨_, rfl, h⟩
    · wp_walk using wpAny_loadPart' hl, self
      exact ⟨_, rfl, h⟩
theorem call_enum_zip {prog : Program} {w : World} {A : Around} {E : Value → Shared → Prop} {s : Shared} {z TI TO : Addr} {f : Value} {b : Bool} {Q : Value → Shared → Prop} (hz : s.heap.get? z = some { cls := .type "zip", data := .fields #[f, .bool b, .bool false, .ref TI, .ref TO] })
    (h : ∀ h', IsEnum h' s.heap.objs.size z 0 .none → h'.objs.size = s.heap.objs.size + 1 → (∀ b o, s.heap.get? b = some o → h'.get? b = some o) → Q (.ref s.heap.objs.size) { s with heap := h' }) :
    wpAny (model prog w) A (call (.type "enumerate") [.ref z]) Q E s := by
  refine callType_new F.called_enumerate (by decide) (F.typeCall_enumerate_1 _) (F.newCall_enumerate_1 _) (fun obj => F.args_object_init_2 obj _) F.entry_enumerate_new (meets_enum_zip z TI TO f b) ⟨hz, ?_⟩
  have he : IsEnum (s.heap.push { cls := .type "enumerate", data := .fields #[.none, .bool false, .ref z, rawInt 0, .none, .none] }) s.heap.objs.size z 0 .none := Heap.get?_push_size s.heap rfl
  exact ⟨⟨_, he, rfl⟩, h _ he (Heap.size_push ..) fun b o x => Heap.get?_push_of_some _ x⟩
end PySem
namespace Ab
open PySem PySem.Spec PyProof.Rows L2
def Itez (K : PySem.W.Frag) (a b : Addr) : It :=
  ⟨fun i H => ∃ (xs ys : List V) (x y : V), SqL K H a xs ∧ SqL K H b ys ∧ xs[i]? = some x ∧ ys[i]? = some y,
    fun i H v H' => ∃ T1 T2 x y, v = .ref T2 ∧ H T1 = none ∧ H T2 = none ∧ T1 ≠ T2 ∧ H' = upd (upd H T1 (.tup [x, y])) T2 (.tup [.int (i : Nat), .ref T1]) ∧ (∀ xs, SqL K H a xs → xs[i]? = some x) ∧ ∀ ys, SqL K H b ys → ys[i]? = some y,
    fun i H => ∃ xs ys : List V, SqL K H a xs ∧ SqL K H b ys ∧ (xs.length ≤ i ∨ ys.length ≤ i)⟩
theorem ZSt.at {h h' : Heap} {z TI TO : Addr} (x : ZSt h z TI TO) (k : ∀ o, h.get? z = some o → h'.get? z = some o) : ZSt h' z TI TO := let ⟨f, b, q, e⟩ := x; ⟨f, b, q, k _ e⟩
theorem turn_enz {P : Program} {w : World} {K : PySem.W.Frag} {elts : List Expr} {kk : Nat} {tpos : Pos} {a b e z TI TO i1 i2 : Addr} (D : ZipApart z TI TO i1 i2 a b) (ne : e ≠ z ∧ e ≠ TI ∧ e ≠ TO ∧ e ≠ i1 ∧ e ≠ i2) :
    Turn P w K (.Tuple elts kk tpos) (Itez K a b) [e, z, TI, TO, i1, i2] e (fun i h => (∃ old, IsEnum h e z ((i : Nat) : Int) old) ∧ ZSt h z TI TO ∧ IsPair h TI (.ref i1) (.ref i2) ∧ (∃ x y, IsPair h TO x y) ∧ h.IsListIter i1 a i ∧ h.IsListIter i2 b i) where
  mem := by simp
  obj := fun i h st c hc => by
    obtain ⟨⟨old, he⟩, ⟨f, b, _, hz⟩, hTI, ⟨x, y, hTO⟩, ⟨o1, e1, _, d1⟩, ⟨o2, e2, _, d2⟩⟩ := st
    have e' : c = e ∨ c = z ∨ c = TI ∨ c = TO ∨ c = i1 ∨ c = i2 := by simpa using hc
    rcases e' with q | q | q | q | q | q
    · rw [q]; exact ⟨_, he, fun v q => nomatch q⟩
    · rw [q]; exact ⟨_, hz, fun v q => nomatch q⟩
    · rw [q]; exact ⟨_, hTI, fun v q => nomatch q⟩
    · rw [q]; exact ⟨_, hTO, fun v q => nomatch q⟩
    · rw [q]; exact ⟨o1, e1, fun v q => by rw [d1] at q; cases q⟩
    · rw [q]; exact ⟨o2, e2, fun v q => by rw [d2] at q; cases q⟩
  keep := fun i h h' st k => by
    obtain ⟨⟨old, he⟩, hz, hTI, ⟨x, y, hTO⟩, h1, h2⟩ := st
    exact ⟨⟨old, k e (by simp) _ he⟩, hz.at fun o q => k z (by simp) o q, k TI (by simp) _ hTI, ⟨x, y, k TO (by simp) _ hTO⟩, h1.at fun o q => k i1 (by simp) o q, h2.at fun o q => k i2 (by simp) o q⟩
  item := by
    intro X hP hw hK hc i pins s σ H E I hf st hg
    subst hP hw hK
    obtain ⟨⟨old, he⟩, hz, hTI, hTO, h1, h2⟩ := st
    obtain ⟨xs, ys, x, y, hqx, hqy, hx, hy⟩ := hg
    obtain ⟨its, rv, p, _⟩ := I.list hqx
    obtain ⟨its2, rv2, p2, _⟩ := I.list hqy
    obtain ⟨u, hu, ru⟩ := rv.get hx
    obtain ⟨u2, hu2, ru2⟩ := rv2.get hy
    obtain ⟨n1, n2, n3, n4, n5⟩ := ne
    have hT : s.TypeIs (.ref e) "enumerate" := ⟨_, he, rfl⟩
    unfold pyNext
    refine wpAny_bind (wpAny_attempt (wpAny_callSpecial?_slot (name := Str.ofString "__next__") hT F.slot_enumerate_next (wpAny_call_entry F.slot_enumerate_next hT F.entry_enumerate_next
      (enxt_item (wi := [z, TO, i1, i2]) (R := fun v h' => v = .ref s.heap.objs.size ∧ ZSt h' z TI TO ∧ (∃ a b, IsPair h' TO a b) ∧ h'.IsListIter i1 a (i + 1) ∧ h'.IsListIter i2 b (i + 1) ∧ IsPair h' s.heap.objs.size u u2) he (by simp [n1, n3, n4, n5])
        (fun Q' q => znext_item D hz hTI hTO h1 h2 p.isList p2.isList (x := u) (y := u2) (by simpa using hu) (by simpa using hu2) fun h' a1 a2 a3 a4 a5 a6 a7 => q _ h' s.toks ⟨rfl, a1, a2, a3, a4, a5⟩ (fun b o hb r => a7 b o (fun z => hb (by simp [z])) (fun z => hb (by simp [z])) (fun z => hb (by simp [z])) (fun z => hb (by simp [z])) r) (by rw [a6]; omega))
        fun v g1 g2 tk T ⟨ev, a1, a2, a3, a4, a5⟩ k1 sz1 eT eo tT k2 => wpAny_pure ?_) (F.args_enumerate_next_1 _))))
    subst ev
    refine ⟨_, rfl, wpAny_letOwnedTupleGo_enum (s := { s with heap := g2, toks := tk + 1 }) eo fun g3 he' sb => ?_⟩
    have lt1 : s.heap.objs.size < g1.objs.size := Heap.lt_size a5
    have el : e < s.heap.objs.size := Heap.lt_size he
    have k3 : ∀ b o, b ≠ e → g1.get? b = some o → g3.get? b = some o := fun b o hb q => (sb.2 b hb).trans (k2 b o hb q)
    have new1 : ObjOk X.prog X.w (upd H s.heap.objs.size (.tup [x, y])) g1 s.heap.objs.size (.tup [x, y]) := ⟨by show 2 ≤ sizeLine; decide, [u, u2], .cons ru (.cons ru2 .nil), ⟨_, a5, rfl, _, rfl⟩⟩
    have I1 : Inv X pins σ (upd H s.heap.objs.size (.tup [x, y])) { s with heap := g1, toks := tk } :=
      I.turnedNew (ch := [z, TO, i1, i2]) k1 (fun c hc => hf c (by simp at hc ⊢; rcases hc with q | q | q | q <;> simp [q])) (Nat.le_refl _) new1
    have hT3 : g3.get? T = some { cls := .type "tuple", data := .seq #[.int i tk, .ref s.heap.objs.size] } := (sb.2 T (Nat.ne_of_gt (Nat.lt_of_lt_of_le el (by rw [eT]; exact sz1)))).trans tT
    have new2 : ObjOk X.prog X.w (upd (upd H s.heap.objs.size (.tup [x, y])) T (.tup [.int (i : Nat), .ref s.heap.objs.size])) g3 T (.tup [.int (i : Nat), .ref s.heap.objs.size]) :=
      ⟨by show 2 ≤ sizeLine; decide, [.int i tk, .ref s.heap.objs.size], .cons ⟨_, rfl⟩ (.cons rfl .nil), ⟨_, hT3, rfl, _, rfl⟩⟩
    have fe := hf e (by simp)
    have I2 : Inv X pins σ (upd (upd H s.heap.objs.size (.tup [x, y])) T (.tup [.int (i : Nat), .ref s.heap.objs.size])) { s with heap := g3, toks := tk + 1 } :=
      I1.turnedNew (t' := tk + 1) (ch := [e]) (fun b o hb q => k3 b o (fun z => hb (by simp [z])) q) (fun c hc => by
        obtain rfl : c = e := by simpa using hc
        exact ⟨by rw [upd_ne (Nat.ne_of_lt el)]; exact fe.1, fe.2⟩) (by rw [eT]; exact Nat.le_refl _) new2
    have nT : s.heap.objs.size ≠ T := by rw [eT]; exact Nat.ne_of_lt lt1
    have leT : s.heap.objs.size ≤ T := by rw [eT]; exact sz1
    refine ⟨.ref T, _, I2, rfl, ⟨_, T, x, y, rfl, I.hok.fresh (Nat.le_refl _), I.hok.fresh leT, nT, rfl, fun l hl => by rw [I.list_inj hl hqx]; exact hx, fun l hl => by rw [I.list_inj hl hqy]; exact hy⟩, ⟨⟨.ref s.heap.objs.size, ?_⟩, a1.at fun o q => k3 z o (Ne.symm n1) q, ?_, ?_, a3.at fun o q => k3 i1 o (Ne.symm n4) q, a4.at fun o q => k3 i2 o (Ne.symm n5) q⟩, fun c hc => ?_⟩
    · have e1 : ((i + 1 : Nat) : Int) = (i : Int) + 1 := by omega
      rw [e1]; exact he'
    · exact k3 TI _ (Ne.symm n2) (k1 TI _ (by simp [D.TIz, D.TITO, D.TIi1, D.TIi2]) hTI)
    · obtain ⟨c1, c2, q⟩ := a2
      exact ⟨c1, c2, k3 TO _ (Ne.symm n3) q⟩
    · have hlt : c < s.heap.objs.size := by
        have e' : c = e ∨ c = z ∨ c = TI ∨ c = TO ∨ c = i1 ∨ c = i2 := by simpa using hc
        obtain ⟨f, b, _, hz⟩ := hz
        obtain ⟨_, _, hTO⟩ := hTO
        rcases e' with q | q | q | q | q | q
        · rw [q]; exact el
        · rw [q]; exact Heap.lt_size hz
        · rw [q]; exact Heap.lt_size hTI
        · rw [q]; exact Heap.lt_size hTO
        · rw [q]; obtain ⟨_, q, _⟩ := h1; exact Heap.lt_size q
        · rw [q]; obtain ⟨_, q, _⟩ := h2; exact Heap.lt_size q
      rw [upd_ne (Nat.ne_of_lt (Nat.lt_of_lt_of_le hlt leT)), upd_ne (Nat.ne_of_lt hlt)]
      exact (hf c hc).1
  done := by
    intro X hP hw hK hc i pins s σ H E I hf st hg
    subst hP hw hK
    obtain ⟨⟨old, he⟩, hz, hTI, hTO, h1, h2⟩ := st
    obtain ⟨xs, ys, hqx, hqy, hend⟩ := hg
    obtain ⟨its, rv, p, _⟩ := I.list hqx
    obtain ⟨its2, rv2, p2, _⟩ := I.list hqy
    have l1 := rv.length
    have l2 := rv2.length
    have he2 : its.toArray[i]? = none ∨ its2.toArray[i]? = none := by
      rcases hend with q | q
      · exact .inl (by simp; omega)
      · exact .inr (by simp; omega)
    have hT : s.TypeIs (.ref e) "enumerate" := ⟨_, he, rfl⟩
    unfold pyNext
    refine wpAny_bind (wpAny_attempt (wpAny_callSpecial?_slot (name := Str.ofString "__next__") hT F.slot_enumerate_next (wpAny_call_entry F.slot_enumerate_next hT F.entry_enumerate_next ?_ (F.args_enumerate_next_1 _))))
    show wpAny _ _ (field (.ref e) 2 >>= _) _ _ _
    refine wpAny_bind (wpAny_field he rfl (x := .ref z) rfl ?_)
    refine wpAny_bind (znext_end D (I.ok.hd hc) hz hTI hTO h1 h2 p.isList p2.isList he2 fun h' x hk hx => ?_)
    obtain ⟨o, ho, hcl⟩ := hx
    refine wpAny_bind (wpAny_isInstance (T := "StopIteration") (b := true) ⟨o, ho, hcl⟩ isSubtype_stop ?_)
    refine wpAny_pure ⟨rfl, I.turnedL (t' := s.toks) (ch := [z, TO, i1, i2]) (fun c o hb q => hk c o (fun q' => hb (by simp [q'])) (fun q' => hb (by simp [q'])) (fun q' => hb (by simp [q'])) (fun q' => hb (by simp [q'])) q) fun c hc => hf c (by simp at hc ⊢; rcases hc with q | q | q | q <;> simp [q])⟩
  self := fun A i s Q E st h => let ⟨⟨_, he⟩, _⟩ := st; wpAny_pyIter_enum he h
def iEz (K : PySem.W.Frag) (ta : TA) : TI := fun σ H R => ta σ H fun vs H1 => ∃ a b xs ys, vs = [.ref a, .ref b] ∧ SqL K H1 a xs ∧ SqL K H1 b ys ∧ R (Itez K a b) H1
theorem pi_enz {X : Cx} {e e2 : Expr} {ta : TA} {p pos p2 pos2 tpos : Pos} {elts : List Expr} {kk : Nat} (hg0 : Gl X "enumerate") (hm0 : X.mg "enumerate" = none) (hg : Gl X "zip") (hm : X.mg "zip" = none) (ha : PA X [e, e2] ta)
    (hs : starEach [e, e2] X.env = (false, eval e X.env) :: starEach [e2] X.env := by rfl) (hpl : (backTo pos (starEach [e2] X.env)).any (·.1) = false := by rfl) :
    PI X (.Tuple elts kk tpos) (.Call (.Name "enumerate" p2) [.Call (.Name "zip" p) [e, e2] [] pos] [] pos2) (iEz X.K ta) := by
  refine ⟨fun pins s σ H R I h => ?_⟩
  refine Call_ (ld_blt I hg0 hm0 boot_enumerate (PyProof.Rows.callWith_type1 ?_ rfl rfl))
  show wpAny _ _ (spliced ((false, eval (.Call (.Name "zip" p) [e, e2] [] pos) X.env) :: _)) _ _ _
  refine Calls.spliced_cons ?_
  refine Call_ (ld_blt I hg hm PyProof.Rows.boot_zip (PyProof.Rows.callWith_type1 (thn (ha.run pos pins s σ H _ I h) fun us s1 ⟨vs, H1, I1, r1, q1⟩ => ?_) hs hpl))
  obtain ⟨a, b, xs, ys, ex, hqx, hqy, q⟩ := q1
  subst ex
  cases r1 with
  | cons r rr =>
    cases rr with
    | cons r' rr =>
      cases rr
      cases r
      cases r'
      obtain ⟨its, rv, q1, _⟩ := I1.list hqx
      obtain ⟨its2, rv2, q2, _⟩ := I1.list hqy
      refine call_zip_2 q1.isList q2.isList fun h' hz hTI hTO h1 h2 hsz hk => ?_
      refine Calls.spliced_nil ?_
      refine call_enum_zip (s := { s1 with heap := h' }) hz fun h2' he hsz2 hk2 => wpAny_pyIter_enum he ?_
      have I2 : Inv X pins σ H1 { s1 with heap := h2' } := I1.kept (t' := s1.toks) fun b o e => hk2 b o (hk b o e)
      have hsz : h'.objs.size = s1.heap.objs.size + 5 := hsz
      refine ⟨h'.objs.size, [h'.objs.size, s1.heap.objs.size + 4, s1.heap.objs.size + 2, s1.heap.objs.size + 3, s1.heap.objs.size, s1.heap.objs.size + 1], _, _, H1, rfl, I2, turn_enz (PySem.W.ktu_apart s1.heap.objs.size a b q1.lt q2.lt) ?_, ⟨⟨_, he⟩, ⟨_, _, .inl rfl, hk2 _ _ hz⟩, hk2 _ _ hTI, ⟨_, _, hk2 _ _ hTO⟩, h1.at fun o e => hk2 _ o e, h2.at fun o e => hk2 _ o e⟩, fun c hcm => ?_, q⟩
      · rw [hsz]
        refine ⟨?_, ?_, ?_, ?_, ?_⟩ <;> exact Nat.ne_of_gt (by omega)
      · have e' : c = h'.objs.size ∨ c = s1.heap.objs.size + 4 ∨ c = s1.heap.objs.size + 2 ∨ c = s1.heap.objs.size + 3 ∨ c = s1.heap.objs.size ∨ c = s1.heap.objs.size + 1 := by simpa using hcm
        have hle : s1.heap.objs.size ≤ c := by
          rcases e' with z | z | z | z | z | z
          · rw [z, hsz]; omega
          · rw [z]; exact Nat.le_add_right _ _
          · rw [z]; exact Nat.le_add_right _ _
          · rw [z]; exact Nat.le_add_right _ _
          · rw [z]; exact Nat.le_refl _
          · rw [z]; exact Nat.le_add_right _ _
        exact I1.fpOk hle (I1.hok.fresh hle)
def Itz3 (K : PySem.W.Frag) (a b c : Addr) (xs ys zs : List V) : It :=
  ⟨fun i H => (SqL K H a xs ∧ SqL K H b ys ∧ SqL K H c zs) ∧ i < min (min xs.length ys.length) zs.length,
    fun i H v H' => ∃ T x y u, v = .ref T ∧ H T = none ∧ H' = upd H T (.tup [x, y, u]) ∧ xs[i]? = some x ∧ ys[i]? = some y ∧ zs[i]? = some u,
    fun i H => (SqL K H a xs ∧ SqL K H b ys ∧ SqL K H c zs) ∧ min (min xs.length ys.length) zs.length ≤ i⟩
theorem vals_back {xs : List V} {us : List Value} (r : Vals xs us) {i : Nat} {u : Value} (e : us[i]? = some u) : ∃ x, xs[i]? = some x ∧ RelV x u := by
  have hl := r.length
  have hi : i < xs.length := by
    have := (List.getElem?_eq_some_iff.mp e).1
    omega
  obtain ⟨u', e', q⟩ := r.get (List.getElem?_eq_getElem hi)
  rw [e] at e'
  cases e'
  exact ⟨_, List.getElem?_eq_getElem hi, q⟩
theorem turn_z3 {P : Program} {w : World} {K : PySem.W.Frag} {elts : List Expr} {kk : Nat} {tpos : Pos} {a b c N : Addr} {xs ys zs : List V} (ha : a < N) (hb : b < N) (hc : c < N) :
    Turn P w K (.Tuple elts kk tpos) (Itz3 K a b c xs ys zs) [N + 5, N + 3, N + 4, N, N + 1, N + 2] (N + 5) (fun i h => IsZip h (N + 5) (N + 3) (N + 4) .none ∧ IsTupOf3 h (N + 3) (.ref N) (.ref (N + 1)) (.ref (N + 2)) ∧ (∃ a1 a2 a3, IsTupOf3 h (N + 4) a1 a2 a3) ∧ h.IsListIter N a i ∧ h.IsListIter (N + 1) b i ∧ h.IsListIter (N + 2) c i ∧ i ≤ min (min xs.length ys.length) zs.length) where
  mem := by simp
  obj := fun i h st d hd => by
    obtain ⟨hz, hTI, ⟨_, _, _, hTO⟩, ⟨o1, e1, _, d1⟩, ⟨o2, e2, _, d2⟩, ⟨o3, e3, _, d3⟩, _⟩ := st
    have e' : d = N + 5 ∨ d = N + 3 ∨ d = N + 4 ∨ d = N ∨ d = N + 1 ∨ d = N + 2 := by simpa using hd
    rcases e' with q | q | q | q | q | q
    · rw [q]; exact ⟨_, hz, fun v q => nomatch q⟩
    · rw [q]; exact ⟨_, hTI, fun v q => nomatch q⟩
    · rw [q]; exact ⟨_, hTO, fun v q => nomatch q⟩
    · rw [q]; exact ⟨o1, e1, fun v q => by rw [d1] at q; cases q⟩
    · rw [q]; exact ⟨o2, e2, fun v q => by rw [d2] at q; cases q⟩
    · rw [q]; exact ⟨o3, e3, fun v q => by rw [d3] at q; cases q⟩
  keep := fun i h h' st k => by
    obtain ⟨hz, hTI, ⟨a1, a2, a3, hTO⟩, h1, h2, h3, hi⟩ := st
    exact ⟨k _ (by simp) _ hz, k _ (by simp) _ hTI, ⟨a1, a2, a3, k _ (by simp) _ hTO⟩, h1.at fun o q => k N (by simp) o q, h2.at fun o q => k (N + 1) (by simp) o q, h3.at fun o q => k (N + 2) (by simp) o q, hi⟩
  item := by
    intro X hP hw hK hcl i pins s σ H E I hf st hg
    subst hP hw hK
    obtain ⟨hz, hTI, hTO, h1, h2, h3, hi⟩ := st
    obtain ⟨⟨q1, q2, q3⟩, hlt⟩ := hg
    obtain ⟨its1, rv1, p1, _⟩ := I.list q1
    obtain ⟨its2, rv2, p2, _⟩ := I.list q2
    obtain ⟨its3, rv3, p3, _⟩ := I.list q3
    have l1 := rv1.length
    have l2 := rv2.length
    have l3 := rv3.length
    have hh : X.A.in1.handled = none := I.ok.hd hcl
    have S := zip_sep3 (N := N) (fp1 := [a]) (fp2 := [b]) (fp3 := [c]) (by simp [ha]) (by simp [hb]) (by simp [hc])
    have G := GoesN.zip3 (elts := elts) (x1 := kk) (pos := tpos) S (Draws.list (prog := X.prog) (w := X.w) hh N a (Nat.ne_of_lt ha) its1.toArray) (Draws.list hh (N + 1) b (Nat.ne_of_lt (Nat.lt_succ_of_lt hb)) its2.toArray) (Draws.list hh (N + 2) c (Nat.ne_of_lt (Nat.lt_succ_of_lt (Nat.lt_succ_of_lt hc))) its3.toArray)
    refine wpAny_mono (G.goes i s (fun v s2 => ∃ x H', Inv X pins σ H' s2 ∧ RelV x v ∧ (Itz3 X.K a b c xs ys zs).yld i H x H' ∧ (IsZip s2.heap (N + 5) (N + 3) (N + 4) .none ∧ IsTupOf3 s2.heap (N + 3) (.ref N) (.ref (N + 1)) (.ref (N + 2)) ∧ (∃ a1 a2 a3, IsTupOf3 s2.heap (N + 4) a1 a2 a3) ∧ s2.heap.IsListIter N a (i + 1) ∧ s2.heap.IsListIter (N + 1) b (i + 1) ∧ s2.heap.IsListIter (N + 2) c (i + 1) ∧ i + 1 ≤ min (min xs.length ys.length) zs.length) ∧ ∀ b ∈ [N + 5, N + 3, N + 4, N, N + 1, N + 2], H' b = none) E (by
        rw [List.size_toArray, List.size_toArray, List.size_toArray, ← l1, ← l2, ← l3]; exact hlt) ⟨hz, hTI, hTO, ⟨h1, p1.isList⟩, ⟨h2, p2.isList⟩, ⟨h3, p3.isList⟩⟩ fun v h' tk hY st' hk htk => ?_) (fun r s1 ⟨v, e, q⟩ => ⟨v, e, q⟩) fun _ _ x => x
    obtain ⟨T, x, y, u, rfl, hnew, ex, ey, eu, hT⟩ := hY
    obtain ⟨hz', hTI', hTO', h1', h2', h3'⟩ := st'
    obtain ⟨vx, gx, rx⟩ := vals_back rv1 (by simpa using ex)
    obtain ⟨vy, gy, ry⟩ := vals_back rv2 (by simpa using ey)
    obtain ⟨vu, gu, ru⟩ := vals_back rv3 (by simpa using eu)
    have new : ObjOk X.prog X.w (upd H T (.tup [vx, vy, vu])) h' T (.tup [vx, vy, vu]) := ⟨by show 3 ≤ sizeLine; decide, [x, y, u], .cons rx (.cons ry (.cons ru .nil)), hT⟩
    have I1 : Inv X pins σ (upd H T (.tup [vx, vy, vu])) { s with heap := h', toks := tk } :=
      I.turnedNew (ch := [N + 5, N + 4, N, N + 1, N + 2]) hk (fun d hd => hf d (by simp at hd ⊢; rcases hd with q | q | q | q | q <;> simp [q])) hnew new
    refine ⟨.ref T, _, I1, rfl, ⟨T, vx, vy, vu, rfl, I.hok.fresh hnew, rfl, gx, gy, gu⟩, ⟨hz', hTI', hTO', h1'.1, h2'.1, h3'.1, hlt⟩, fun d hd => ?_⟩
    have dlt : d < s.heap.objs.size := by
      obtain ⟨_, _, _, hTO⟩ := hTO
      have e' : d = N + 5 ∨ d = N + 3 ∨ d = N + 4 ∨ d = N ∨ d = N + 1 ∨ d = N + 2 := by simpa using hd
      rcases e' with q | q | q | q | q | q
      · rw [q]; exact Heap.lt_size hz
      · rw [q]; exact Heap.lt_size hTI
      · rw [q]; exact Heap.lt_size hTO
      · rw [q]; obtain ⟨_, q, _⟩ := h1; exact Heap.lt_size q
      · rw [q]; obtain ⟨_, q, _⟩ := h2; exact Heap.lt_size q
      · rw [q]; obtain ⟨_, q, _⟩ := h3; exact Heap.lt_size q
    rw [upd_ne (Nat.ne_of_lt (Nat.lt_of_lt_of_le dlt hnew))]
    exact (hf d hd).1
  done := by
    intro X hP hw hK hcl i pins s σ H E I hf st hg
    subst hP hw hK
    obtain ⟨hz, hTI, hTO, h1, h2, h3, hi⟩ := st
    obtain ⟨⟨q1, q2, q3⟩, hle⟩ := hg
    obtain ⟨its1, rv1, p1, _⟩ := I.list q1
    obtain ⟨its2, rv2, p2, _⟩ := I.list q2
    obtain ⟨its3, rv3, p3, _⟩ := I.list q3
    have l1 := rv1.length
    have l2 := rv2.length
    have l3 := rv3.length
    have hh : X.A.in1.handled = none := I.ok.hd hcl
    have S := zip_sep3 (N := N) (fp1 := [a]) (fp2 := [b]) (fp3 := [c]) (by simp [ha]) (by simp [hb]) (by simp [hc])
    have G := GoesN.zip3 (elts := elts) (x1 := kk) (pos := tpos) S (Draws.list (prog := X.prog) (w := X.w) hh N a (Nat.ne_of_lt ha) its1.toArray) (Draws.list hh (N + 1) b (Nat.ne_of_lt (Nat.lt_succ_of_lt hb)) its2.toArray) (Draws.list hh (N + 2) c (Nat.ne_of_lt (Nat.lt_succ_of_lt (Nat.lt_succ_of_lt hc))) its3.toArray)
    have ei : i = min (min its1.toArray.size its2.toArray.size) its3.toArray.size := by
      rw [List.size_toArray, List.size_toArray, List.size_toArray, ← l1, ← l2, ← l3]
      exact Nat.le_antisymm hi hle
    exact G.stops s (fun s1 => Inv X pins σ H s1) E (by rw [← ei]; exact ⟨hz, hTI, hTO, ⟨h1, p1.isList⟩, ⟨h2, p2.isList⟩, ⟨h3, p3.isList⟩⟩) fun h' tk hk htk =>
      I.turnedL (ch := [N + 5, N + 4, N, N + 1, N + 2]) hk (fun d hd => hf d (by simp at hd ⊢; rcases hd with q | q | q | q | q <;> simp [q]))
  self := fun A i s Q E st h => wpAny_pyIter_zip st.1 h
def iZ3 (K : PySem.W.Frag) (ta : TA) : TI := fun σ H R => ta σ H fun vs H1 => ∃ a b c xs ys zs, vs = [.ref a, .ref b, .ref c] ∧ SqL K H1 a xs ∧ SqL K H1 b ys ∧ SqL K H1 c zs ∧ R (Itz3 K a b c xs ys zs) H1
theorem pi_z3 {X : Cx} {e e2 e3 : Expr} {ta : TA} {p pos tpos : Pos} {elts : List Expr} {kk : Nat} (hg : Gl X "zip") (hm : X.mg "zip" = none) (ha : PA X [e, e2, e3] ta)
    (hs : starEach [e, e2, e3] X.env = (false, eval e X.env) :: starEach [e2, e3] X.env := by rfl) (hpl : (backTo pos (starEach [e2, e3] X.env)).any (·.1) = false := by rfl) :
    PI X (.Tuple elts kk tpos) (.Call (.Name "zip" p) [e, e2, e3] [] pos) (iZ3 X.K ta) := by
  refine ⟨fun pins s σ H R I h => ?_⟩
  refine Call_ (ld_blt I hg hm PyProof.Rows.boot_zip (PyProof.Rows.callWith_type1 (thn (ha.run pos pins s σ H _ I h) fun us s1 ⟨vs, H1, I1, r1, q1⟩ => ?_) hs hpl))
  obtain ⟨a, b, c, xs, ys, zs, ex, qx, qy, qz, q⟩ := q1
  subst ex
  cases r1 with
  | cons r rr =>
    cases rr with
    | cons r' rr =>
      cases rr with
      | cons r3 rr =>
        cases rr
        cases r
        cases r'
        cases r3
        obtain ⟨its, rv, p1, _⟩ := I1.list qx
        obtain ⟨its2, rv2, p2, _⟩ := I1.list qy
        obtain ⟨its3, rv3, p3, _⟩ := I1.list qz
        refine zip_begins3 (begins_list a its.toArray) (begins_list b its2.toArray) (begins_list c its3.toArray) p1.isList p2.isList p3.isList fun h' hz hTI hTO h1 h2 h3 hsz hk => wpAny_pyIter_zip hz ?_
        have I2 : Inv X pins σ H1 { s1 with heap := h' } := I1.kept (t' := s1.toks) hk
        refine ⟨_, _, _, _, H1, rfl, I2, turn_z3 (N := s1.heap.objs.size) p1.lt p2.lt p3.lt, ⟨hz, hTI, ⟨_, _, _, hTO⟩, ⟨_, h1, rfl, rfl⟩, ⟨_, h2, rfl, rfl⟩, ⟨_, h3, rfl, rfl⟩, Nat.zero_le _⟩, fun d hd => ?_, q⟩
        have e' : d = s1.heap.objs.size + 5 ∨ d = s1.heap.objs.size + 3 ∨ d = s1.heap.objs.size + 4 ∨ d = s1.heap.objs.size ∨ d = s1.heap.objs.size + 1 ∨ d = s1.heap.objs.size + 2 := by simpa using hd
        have hle : s1.heap.objs.size ≤ d := by
          rcases e' with z | z | z | z | z | z
          · rw [z]; exact Nat.le_add_right _ _
          · rw [z]; exact Nat.le_add_right _ _
          · rw [z]; exact Nat.le_add_right _ _
          · rw [z]; exact Nat.le_refl _
          · rw [z]; exact Nat.le_add_right _ _
          · rw [z]; exact Nat.le_add_right _ _
        exact I1.fpOk hle (I1.hok.fresh hle)
def Ietu (K : PySem.W.Frag) (a : Addr) (xs : List V) : It :=
  ⟨fun i H => SqT K H a xs ∧ i < xs.length, fun i H v H' => ∃ T x, v = .ref T ∧ H T = none ∧ H' = upd H T (.tup [.int (i : Nat), x]) ∧ xs[i]? = some x, fun i H => SqT K H a xs ∧ xs.length ≤ i⟩
theorem turn_etu {P : Program} {w : World} {K : PySem.W.Frag} {elts : List Expr} {kk : Nat} {tpos : Pos} {a N : Addr} {xs : List V} (ha : a < N) :
    Turn P w K (.Tuple elts kk tpos) (Ietu K a xs) [N + 1, N] (N + 1) (fun i h => (∃ old, IsEnum h (N + 1) N (0 + ((i : Nat) : Int)) old) ∧ h.IsTupleIter N a i ∧ i ≤ xs.length) where
  mem := by simp
  obj := fun i h st d hd => by
    obtain ⟨⟨old, he⟩, ⟨o1, e1, _, d1⟩, _⟩ := st
    have e' : d = N + 1 ∨ d = N := by simpa using hd
    rcases e' with q | q
    · rw [q]; exact ⟨_, he, fun v q => nomatch q⟩
    · rw [q]; exact ⟨o1, e1, fun v z => by rw [d1] at z; cases z⟩
  keep := fun i h h' st k => by
    obtain ⟨⟨old, he⟩, h1, hi⟩ := st
    exact ⟨⟨old, k _ (by simp) _ he⟩, h1.at fun o q => k N (by simp) o q, hi⟩
  item := by
    intro X hP hw hK hcl i pins s σ H E I hf st hg
    subst hP hw hK
    obtain ⟨⟨old, he⟩, h1, hi⟩ := st
    obtain ⟨q1, hlt⟩ := hg
    obtain ⟨its1, rv1, p1, _⟩ := I.tuple q1
    have l1 := rv1.length
    have hh : X.A.in1.handled = none := I.ok.hd hcl
    have G := GoesN.enumFrom (elts := elts) (x1 := kk) (pos := tpos) 0 (Draws.tuple (prog := X.prog) (w := X.w) hh N a (Nat.ne_of_lt ha) its1.toArray) (N + 1) (Nat.succ_ne_self N) (fun hm => by
      rcases List.mem_cons.mp hm with q | q
      · exact Nat.succ_ne_self N q
      · exact Nat.ne_of_gt (Nat.lt_succ_of_lt ha) (List.mem_singleton.mp q)) (by simp)
    refine wpAny_mono (G.goes i s (fun v s2 => ∃ x H', Inv X pins σ H' s2 ∧ RelV x v ∧ (Ietu X.K a xs).yld i H x H' ∧ ((∃ old, IsEnum s2.heap (N + 1) N (0 + ((i + 1 : Nat) : Int)) old) ∧ s2.heap.IsTupleIter N a (i + 1) ∧ i + 1 ≤ xs.length) ∧ ∀ b ∈ [N + 1, N], H' b = none) E (by
        rw [List.size_toArray, ← l1]; exact hlt) ⟨⟨old, he⟩, h1, show s.heap.IsTuple a its1.toArray from p1⟩ fun v h' tk hY st' hk htk => ?_) (fun r s1 ⟨v, e, q⟩ => ⟨v, e, q⟩) fun _ _ x => x
    obtain ⟨T, t, x, rfl, hnew, ex, hT⟩ := hY
    obtain ⟨he', h1'⟩ := st'
    obtain ⟨vx, gx, rx⟩ := vals_back rv1 (by simpa using ex)
    have new : ObjOk X.prog X.w (upd H T (.tup [.int (i : Nat), vx])) h' T (.tup [.int (i : Nat), vx]) := ⟨by show 2 ≤ sizeLine; decide, [.int (0 + (i : Int)) t, x], .cons ⟨_, by rw [Int.zero_add]⟩ (.cons rx .nil), hT⟩
    have I1 : Inv X pins σ (upd H T (.tup [.int (i : Nat), vx])) { s with heap := h', toks := tk } :=
      I.turnedNew (ch := [N + 1, N]) hk hf hnew new
    refine ⟨.ref T, _, I1, rfl, ⟨T, vx, rfl, I.hok.fresh hnew, rfl, gx⟩, ⟨he', h1'.1, hlt⟩, fun d hd => ?_⟩
    have dlt : d < s.heap.objs.size := by
      have e' : d = N + 1 ∨ d = N := by simpa using hd
      rcases e' with q | q
      · rw [q]; exact Heap.lt_size he
      · rw [q]; obtain ⟨_, q, _⟩ := h1; exact Heap.lt_size q
    rw [upd_ne (Nat.ne_of_lt (Nat.lt_of_lt_of_le dlt hnew))]
    exact (hf d hd).1
  done := by
    intro X hP hw hK hcl i pins s σ H E I hf st hg
    subst hP hw hK
    obtain ⟨⟨old, he⟩, h1, hi⟩ := st
    obtain ⟨q1, hle⟩ := hg
    obtain ⟨its1, rv1, p1, _⟩ := I.tuple q1
    have l1 := rv1.length
    have hh : X.A.in1.handled = none := I.ok.hd hcl
    have G := GoesN.enumFrom (elts := elts) (x1 := kk) (pos := tpos) 0 (Draws.tuple (prog := X.prog) (w := X.w) hh N a (Nat.ne_of_lt ha) its1.toArray) (N + 1) (Nat.succ_ne_self N) (fun hm => by
      rcases List.mem_cons.mp hm with q | q
      · exact Nat.succ_ne_self N q
      · exact Nat.ne_of_gt (Nat.lt_succ_of_lt ha) (List.mem_singleton.mp q)) (by simp)
    have ei : i = its1.toArray.size := by
      rw [List.size_toArray, ← l1]
      exact Nat.le_antisymm hi hle
    exact G.stops s (fun s1 => Inv X pins σ H s1) E (by rw [← ei]; exact ⟨⟨old, he⟩, h1, show s.heap.IsTuple a its1.toArray from p1⟩) fun h' tk hk htk => I.turnedL (ch := [N + 1, N]) hk hf
  self := fun A i s Q E st h => by
    obtain ⟨⟨_, he⟩, _⟩ := st
    exact wpAny_pyIter_enum he h
def iEt (K : PySem.W.Frag) (ta : TA) : TI := fun σ H R => ta σ H fun vs H1 => ∃ a, vs = [.ref a] ∧ ((∃ xs, SqL K H1 a xs ∧ R (Ite K a) H1) ∨ ∃ xs, SqT K H1 a xs ∧ R (Ietu K a xs) H1)
end Ab
namespace PySem
open Sem (wp)
open AutoSeq1 (wpAny_loadPart')
theorem meets_enum_tup (l : Addr) (items : Array Value) (n : Nat) (dct : Option Addr) (sl : Array (Option Value)) :
    Meets (Builtin.«enumerate.__new__» ⟨[.type "enumerate", .ref l], []⟩) (fun _ R s => s.heap.get? l = some { cls := .type "tuple", dict := dct, data := .seq items n, slots := sl } ∧
      R (.ok (.ret (.ref (s.heap.push { cls := .type "tuple_iterator", data := .fields #[.ref l, .int 0 0] }).objs.size)))
        { s with heap := (s.heap.push { cls := .type "tuple_iterator", data := .fields #[.ref l, .int 0 0] }).push { cls := .type "enumerate", data := .fields #[.none, .bool false, .ref s.heap.objs.size, rawInt 0, .none, .none] } }) :=
  .of_wp fun prog w A R s h => by
    obtain ⟨hp, g, d, tk, os⟩ := s; obtain ⟨hl, h⟩ := h
    have hsub := sub_enumerate
    have hL : Heap.IsTuple (Shared.heap ⟨hp, g, d, tk, os⟩) l items := ⟨_, hl, rfl, n, rfl⟩
    wp_walk using wpAny_loadPart' hl
    refine wpAny_stack_any fun st => wpAny_pure ?_
    split
    · rename_i c _ _ _ _ _
      cases (c == Value.type "enumerate")
      · wp_walk using wpAny_loadPart' hl, wpAny_pyIter_tuple hL
        exact ⟨_, rfl, h⟩
      · wp_walk using wpAny_loadPart' hl, wpAny_pyIter_tuple hL
        exact ⟨_, rfl, h⟩
    · wp_walk using wpAny_loadPart' hl, wpAny_pyIter_tuple hL
      exact ⟨_, rfl, h⟩
theorem call_enum_tup {prog : Program} {w : World} {A : Around} {E : Value → Shared → Prop} {s : Shared} {l : Addr} {items : Array Value} {Q : Value → Shared → Prop} (hL : s.heap.IsTuple l items)
    (h : ∀ h', IsEnum h' (s.heap.objs.size + 1) s.heap.objs.size 0 .none → h'.IsTupleIter s.heap.objs.size l 0 → (∀ b o, s.heap.get? b = some o → h'.get? b = some o) → Q (.ref (s.heap.objs.size + 1)) { s with heap := h' }) :
    wpAny (model prog w) A (call (.type "enumerate") [.ref l]) Q E s := by
  obtain ⟨⟨c, dct, dt, sl⟩, hl, hc, n, hd⟩ := hL
  replace hc : c = .type "tuple" := hc
  replace hd : dt = .seq items n := hd
  subst hc hd
  refine callType_new F.called_enumerate (by decide) (F.typeCall_enumerate_1 _) (F.newCall_enumerate_1 _) (fun obj => F.args_object_init_2 obj _) F.entry_enumerate_new (meets_enum_tup l items n dct sl) ⟨hl, ?_⟩
  have hz : (s.heap.push { cls := .type "tuple_iterator", data := .fields #[.ref l, .int 0 0] }).objs.size = s.heap.objs.size + 1 := Heap.size_push ..
  show _ ∧ _
  rw [hz]
  have he : IsEnum ((s.heap.push { cls := .type "tuple_iterator", data := .fields #[.ref l, .int 0 0] }).push { cls := .type "enumerate", data := .fields #[.none, .bool false, .ref s.heap.objs.size, rawInt 0, .none, .none] }) (s.heap.objs.size + 1) s.heap.objs.size 0 .none := by
    have := Heap.get?_push_size (s.heap.push { cls := .type "tuple_iterator", data := .fields #[.ref l, .int 0 0] }) (o := { cls := .type "enumerate", data := .fields #[.none, .bool false, .ref s.heap.objs.size, rawInt 0, .none, .none] }) rfl
    rw [hz] at this; exact this
  exact ⟨⟨_, he, rfl⟩, h _ he ⟨_, Heap.get?_push_of_some _ (Heap.get?_push_size _ rfl), rfl, rfl⟩ fun b o x => Heap.get?_push_of_some _ (Heap.get?_push_of_some _ x)⟩
end PySem
namespace Ab
open PySem PySem.Spec PyProof.Rows L2
theorem pi_enumA {X : Cx} {e : Expr} {ta : TA} {p pos tpos : Pos} {elts : List Expr} {kk : Nat} (hg : Gl X "enumerate") (hm : X.mg "enumerate" = none) (ha : PA X [e] ta) (hs : starEach [e] X.env = [(false, eval e X.env)] := by rfl) :
    PI X (.Tuple elts kk tpos) (.Call (.Name "enumerate" p) [e] [] pos) (iEt X.K ta) := by
  refine ⟨fun pins s σ H R I h => ?_⟩
  refine Call_ (ld_blt I hg hm boot_enumerate (PyProof.Rows.callWith_type1 (thn (ha.run pos pins s σ H _ I h) fun us s1 ⟨vs, H1, I1, r1, q1⟩ => ?_) hs rfl))
  obtain ⟨a, ex, q⟩ := q1
  subst ex
  cases r1 with
  | cons r rr =>
    cases rr
    cases r
    have fresh2 : ∀ b, b ∈ [s1.heap.objs.size + 1, s1.heap.objs.size] → FpOk X pins H1 b := fun b hb => by
      have e' : b = s1.heap.objs.size + 1 ∨ b = s1.heap.objs.size := by simpa using hb
      have hle : s1.heap.objs.size ≤ b := by
        rcases e' with z | z
        · rw [z]; exact Nat.le_succ _
        · rw [z]; exact Nat.le_refl _
      exact I1.fpOk hle (I1.hok.fresh hle)
    rcases q with ⟨xs, hq, q⟩ | ⟨xs, hq, q⟩
    · obtain ⟨its, rv, p', hz⟩ := I1.list hq
      refine call_enumerate_list p'.isList fun h' he hit hsz hk => wpAny_pyIter_enum he ?_
      have I2 : Inv X pins σ H1 { s1 with heap := h' } := I1.kept (t' := s1.toks) hk
      exact ⟨s1.heap.objs.size + 1, [s1.heap.objs.size + 1, s1.heap.objs.size], _, _, H1, rfl, I2, turn_enum a (s1.heap.objs.size + 1) s1.heap.objs.size, ⟨⟨.none, he⟩, hit, Nat.succ_ne_self _⟩, fresh2, q⟩
    · obtain ⟨its, rv, p', hz⟩ := I1.tuple hq
      obtain ⟨o1, ho1, _⟩ := id p'
      refine call_enum_tup (show s1.heap.IsTuple a its.toArray from p') fun h' he hit hk => wpAny_pyIter_enum he ?_
      have I2 : Inv X pins σ H1 { s1 with heap := h' } := I1.kept (t' := s1.toks) hk
      exact ⟨s1.heap.objs.size + 1, [s1.heap.objs.size + 1, s1.heap.objs.size], _, _, H1, rfl, I2, turn_etu (N := s1.heap.objs.size) (Heap.lt_size ho1), ⟨⟨.none, he⟩, hit, Nat.zero_le _⟩, fresh2, q⟩
end Ab
namespace Ab
open PySem PySem.Spec PyProof.Rows L2
section
variable {X : Cx}
def rCntD (K : PySem.W.Frag) : V → List V → Hp → VK → Prop := fun x xs H Q => ∃ (a : Addr) (y : V) (d : PyData) (ds : List PyData), x = .ref a ∧ xs = [y] ∧ Dp K H (.ref a) (.list ds) ∧ Dp K H y d ∧
  SeqAt.shaped (.list ds) = true ∧ SeqAt.shaped d = true ∧ Q (.int (ds.countP fun z => PyData.eqv z d : Nat)) H
theorem mt_countD (room : X.A.units + 65 < cLine) : MtR X "list.count" (rCntD X.K) := by
  intro pins s σ H x xs v us Q I rx rxs h
  obtain ⟨a, y, d, ds, rfl, rfl, dl, dy, s1, s2, q⟩ := h
  cases rx
  cases rxs with
  | cons ry rt =>
    rename_i u0 ut
    cases rt
    obtain ⟨bs, rd⟩ := Dp.reads I d y u0 dy ry
    have lay := SeqAt.canLay_of_shaped s1
    have lay : PyData.canLayAll0 ds = true := lay
    have fits : X.A.units + 1 + min (PyData.depthAll ds) d.depth < cLine := room_in_shaped s2 room
    cases dl with
    | lst hs ha =>
      obtain ⟨its, rv, ⟨⟨cls, dd, data, slots⟩, n, ho, hc, hdn, hdt⟩, hlen⟩ := I.list hs
      simp only at hc hdt
      subst hc hdt
      obtain ⟨as, rs⟩ := Dp.readsAll I ds _ its ha rv
      have em : its.map (SeqAt.readOf s.heap) = ds := SeqAt.readsAll_map ds its as lay rs
      refine call_meets PySem.F.slot_list_count ⟨_, ho, rfl⟩ PySem.F.entry_list_count (PySem.F.args_list_count_2 _ _)
        (SeqAt.list_countAt a its.toArray n dd slots u0 fun u => PyData.eqv (SeqAt.readOf s.heap u) d) ⟨ho, SeqAt.items_eqAt (vs := its.toArray) (show ReadsAll s.heap its.toArray.toList ds as from rs) rd lay (SeqAt.canLay_of_shaped s2) fits, ?_⟩
      have ec : its.toArray.toList.countP (fun u => PyData.eqv (SeqAt.readOf s.heap u) d) = ds.countP fun z => PyData.eqv z d := by
        rw [← em, List.countP_map]
        rfl
      refine ⟨.int (ds.countP fun z => PyData.eqv z d : Nat), H, I.tok _, ⟨s.toks, ?_⟩, q⟩
      show Value.int ((its.toArray.toList.countP (fun u => PyData.eqv (SeqAt.readOf s.heap u) d) : Nat) : Int) s.toks = _
      rw [ec]
def rCnt2 (K : PySem.W.Frag) : V → List V → Hp → VK → Prop := fun x xs H Q => rCntI K x xs H Q ∨ rCntD K x xs H Q
theorem mt_count2 (room : X.A.units + 65 < cLine) : MtR X "list.count" (rCnt2 X.K) := fun pins s σ H x xs v us Q I rx rxs h => h.elim (mt_lcount pins s σ H x xs v us Q I rx rxs) (mt_countD room pins s σ H x xs v us Q I rx rxs)
end
end Ab
namespace Ab
open PySem PySem.Spec PyProof.Rows L2
def ItzM (K : PySem.W.Frag) (a b : Addr) (n : Nat) : It :=
  ⟨fun i H => ∃ (xs ys : List V) (x y : V), SqT K H a xs ∧ SqL K H b ys ∧ min xs.length ys.length = n ∧ xs[i]? = some x ∧ ys[i]? = some y,
    fun i H v H' => ∃ T x y, v = .ref T ∧ H T = none ∧ H' = upd H T (.tup [x, y]) ∧ (∀ xs, SqT K H a xs → xs[i]? = some x) ∧ ∀ ys, SqL K H b ys → ys[i]? = some y,
    fun i H => ∃ xs ys : List V, SqT K H a xs ∧ SqL K H b ys ∧ min xs.length ys.length = n ∧ n ≤ i⟩
theorem turn_zM {P : Program} {w : World} {K : PySem.W.Frag} {elts : List Expr} {kk : Nat} {tpos : Pos} {a b N n : Addr} (ha : a < N) (hb : b < N) :
    Turn P w K (.Tuple elts kk tpos) (ItzM K a b n) [N + 4, N + 2, N + 3, N, N + 1] (N + 4) (fun i h => IsZip h (N + 4) (N + 2) (N + 3) .none ∧ IsTupOf2 h (N + 2) (.ref N) (.ref (N + 1)) ∧ (∃ a1 a2, IsTupOf2 h (N + 3) a1 a2) ∧ h.IsTupleIter N a i ∧ h.IsListIter (N + 1) b i ∧ i ≤ n) where
  mem := by simp
  obj := fun i h st d hd => by
    obtain ⟨hz, hTI, ⟨_, _, hTO⟩, ⟨o1, e1, _, d1⟩, ⟨o2, e2, _, d2⟩, _⟩ := st
    have e' : d = N + 4 ∨ d = N + 2 ∨ d = N + 3 ∨ d = N ∨ d = N + 1 := by simpa using hd
    rcases e' with q | q | q | q | q
    · rw [q]; exact ⟨_, hz, fun v q => nomatch q⟩
    · rw [q]; exact ⟨_, hTI, fun v q => nomatch q⟩
    · rw [q]; exact ⟨_, hTO, fun v q => nomatch q⟩
    · rw [q]; exact ⟨o1, e1, fun v q => by rw [d1] at q; cases q⟩
    · rw [q]; exact ⟨o2, e2, fun v q => by rw [d2] at q; cases q⟩
  keep := fun i h h' st k => by
    obtain ⟨hz, hTI, ⟨a1, a2, hTO⟩, h1, h2, hi⟩ := st
    exact ⟨k _ (by simp) _ hz, k _ (by simp) _ hTI, ⟨a1, a2, k _ (by simp) _ hTO⟩, h1.at fun o q => k N (by simp) o q, h2.at fun o q => k (N + 1) (by simp) o q, hi⟩
  item := by
    intro X hP hw hK hcl i pins s σ H E I hf st hg
    subst hP hw hK
    obtain ⟨hz, hTI, hTO, h1, h2, hi⟩ := st
    obtain ⟨xs, ys, x0, y0, q1, q2, hn, g1, g2⟩ := hg
    have hlt : i < min xs.length ys.length := Nat.lt_min.mpr ⟨(List.getElem?_eq_some_iff.mp g1).1, (List.getElem?_eq_some_iff.mp g2).1⟩
    obtain ⟨its1, rv1, p1, _⟩ := I.tuple q1
    obtain ⟨its2, rv2, p2, _⟩ := I.list q2
    have l1 := rv1.length
    have l2 := rv2.length
    have hh : X.A.in1.handled = none := I.ok.hd hcl
    have S := zip_sep2 (N := N) (fp1 := [a]) (fp2 := [b]) (by simp [ha]) (by simp [hb])
    have G := GoesN.zip2 (elts := elts) (x1 := kk) (pos := tpos) S (Draws.tuple (prog := X.prog) (w := X.w) hh N a (Nat.ne_of_lt ha) its1.toArray) (Draws.list hh (N + 1) b (Nat.ne_of_lt (Nat.lt_succ_of_lt hb)) its2.toArray)
    refine wpAny_mono (G.goes i s (fun v s2 => ∃ x H', Inv X pins σ H' s2 ∧ RelV x v ∧ (ItzM X.K a b n).yld i H x H' ∧ (IsZip s2.heap (N + 4) (N + 2) (N + 3) .none ∧ IsTupOf2 s2.heap (N + 2) (.ref N) (.ref (N + 1)) ∧ (∃ a1 a2, IsTupOf2 s2.heap (N + 3) a1 a2) ∧ s2.heap.IsTupleIter N a (i + 1) ∧ s2.heap.IsListIter (N + 1) b (i + 1) ∧ i + 1 ≤ n) ∧ ∀ b ∈ [N + 4, N + 2, N + 3, N, N + 1], H' b = none) E (by
        rw [List.size_toArray, List.size_toArray, ← l1, ← l2]; exact hlt) ⟨hz, hTI, hTO, ⟨h1, p1⟩, ⟨h2, p2.isList⟩⟩ fun v h' tk hY st' hk htk => ?_) (fun r s1 ⟨v, e, q⟩ => ⟨v, e, q⟩) fun _ _ x => x
    obtain ⟨T, x, y, rfl, hnew, ex, ey, hT⟩ := hY
    obtain ⟨hz', hTI', hTO', h1', h2'⟩ := st'
    obtain ⟨vx, gx, rx⟩ := vals_back rv1 (by simpa using ex)
    obtain ⟨vy, gy, ry⟩ := vals_back rv2 (by simpa using ey)
    have new : ObjOk X.prog X.w (upd H T (.tup [vx, vy])) h' T (.tup [vx, vy]) := ⟨by show 2 ≤ sizeLine; decide, [x, y], .cons rx (.cons ry .nil), hT⟩
    have I1 : Inv X pins σ (upd H T (.tup [vx, vy])) { s with heap := h', toks := tk } :=
      I.turnedNew (ch := [N + 4, N + 3, N, N + 1]) hk (fun d hd => hf d (by simp at hd ⊢; rcases hd with q | q | q | q <;> simp [q])) hnew new
    refine ⟨.ref T, _, I1, rfl, ⟨T, vx, vy, rfl, I.hok.fresh hnew, rfl, fun l hl => by rw [I.tuple_inj hl q1]; exact gx, fun l hl => by rw [I.list_inj hl q2]; exact gy⟩, ⟨hz', hTI', hTO', h1'.1, h2'.1, hn ▸ hlt⟩, fun d hd => ?_⟩
    have dlt : d < s.heap.objs.size := by
      obtain ⟨_, _, hTO⟩ := hTO
      have e' : d = N + 4 ∨ d = N + 2 ∨ d = N + 3 ∨ d = N ∨ d = N + 1 := by simpa using hd
      rcases e' with q | q | q | q | q
      · rw [q]; exact Heap.lt_size hz
      · rw [q]; exact Heap.lt_size hTI
      · rw [q]; exact Heap.lt_size hTO
      · rw [q]; obtain ⟨_, q, _⟩ := h1; exact Heap.lt_size q
      · rw [q]; obtain ⟨_, q, _⟩ := h2; exact Heap.lt_size q
    rw [upd_ne (Nat.ne_of_lt (Nat.lt_of_lt_of_le dlt hnew))]
    exact (hf d hd).1
  done := by
    intro X hP hw hK hcl i pins s σ H E I hf st hg
    subst hP hw hK
    obtain ⟨hz, hTI, hTO, h1, h2, hi⟩ := st
    obtain ⟨xs, ys, q1, q2, hn, hle⟩ := hg
    subst hn
    obtain ⟨its1, rv1, p1, _⟩ := I.tuple q1
    obtain ⟨its2, rv2, p2, _⟩ := I.list q2
    have l1 := rv1.length
    have l2 := rv2.length
    have hh : X.A.in1.handled = none := I.ok.hd hcl
    have S := zip_sep2 (N := N) (fp1 := [a]) (fp2 := [b]) (by simp [ha]) (by simp [hb])
    have G := GoesN.zip2 (elts := elts) (x1 := kk) (pos := tpos) S (Draws.tuple (prog := X.prog) (w := X.w) hh N a (Nat.ne_of_lt ha) its1.toArray) (Draws.list hh (N + 1) b (Nat.ne_of_lt (Nat.lt_succ_of_lt hb)) its2.toArray)
    have ei : i = min its1.toArray.size its2.toArray.size := by
      rw [List.size_toArray, List.size_toArray, ← l1, ← l2]
      exact Nat.le_antisymm hi hle
    exact G.stops s (fun s1 => Inv X pins σ H s1) E (by rw [← ei]; exact ⟨hz, hTI, hTO, ⟨h1, p1⟩, ⟨h2, p2.isList⟩⟩) fun h' tk hk htk =>
      I.turnedL (ch := [N + 4, N + 3, N, N + 1]) hk (fun d hd => hf d (by simp at hd ⊢; rcases hd with q | q | q | q <;> simp [q]))
  self := fun A i s Q E st h => wpAny_pyIter_zip st.1 h
def iZipM (K : PySem.W.Frag) (ta : TA) : TI := fun σ H R => ta σ H fun vs H1 => ∃ a b xs ys, vs = [.ref a, .ref b] ∧ ((SqL K H1 a xs ∧ SqL K H1 b ys ∧ R (Itz K a b) H1) ∨ (SqT K H1 a xs ∧ SqT K H1 b ys ∧ R (RZ.ItzT K a b) H1) ∨ (SqT K H1 a xs ∧ SqL K H1 b ys ∧ R (ItzM K a b (min xs.length ys.length)) H1))
theorem pi_zipM {X : Cx} {e e2 : Expr} {ta : TA} {p pos tpos : Pos} {elts : List Expr} {kk : Nat} (hg : Gl X "zip") (hm : X.mg "zip" = none) (ha : PA X [e, e2] ta)
    (hs : starEach [e, e2] X.env = (false, eval e X.env) :: starEach [e2] X.env := by rfl) (hpl : (backTo pos (starEach [e2] X.env)).any (·.1) = false := by rfl) :
    PI X (.Tuple elts kk tpos) (.Call (.Name "zip" p) [e, e2] [] pos) (iZipM X.K ta) := by
  refine ⟨fun pins s σ H R I h => ?_⟩
  refine Call_ (ld_blt I hg hm PyProof.Rows.boot_zip (PyProof.Rows.callWith_type1 (thn (ha.run pos pins s σ H _ I h) fun us s1 ⟨vs, H1, I1, r1, q1⟩ => ?_) hs hpl))
  obtain ⟨a, b, xs, ys, ex, q1⟩ := q1
  subst ex
  cases r1 with
  | cons r rr =>
    cases rr with
    | cons r' rr =>
      cases rr
      cases r
      cases r'
      have fresh5 : ∀ c, c ∈ [s1.heap.objs.size + 4, s1.heap.objs.size + 2, s1.heap.objs.size + 3, s1.heap.objs.size, s1.heap.objs.size + 1] → FpOk X pins H1 c := fun c hcm => by
        have e' : c = s1.heap.objs.size + 4 ∨ c = s1.heap.objs.size + 2 ∨ c = s1.heap.objs.size + 3 ∨ c = s1.heap.objs.size ∨ c = s1.heap.objs.size + 1 := by simpa using hcm
        have hle : s1.heap.objs.size ≤ c := by
          rcases e' with z | z | z | z | z
          · rw [z]; exact Nat.le_add_right _ _
          · rw [z]; exact Nat.le_add_right _ _
          · rw [z]; exact Nat.le_add_right _ _
          · rw [z]; exact Nat.le_refl _
          · rw [z]; exact Nat.le_add_right _ _
        exact I1.fpOk hle (I1.hok.fresh hle)
      rcases q1 with ⟨hqx, hqy, q⟩ | ⟨hqx, hqy, q⟩ | ⟨hqx, hqy, q⟩
      · obtain ⟨its, rv, p1, _⟩ := I1.list hqx
        obtain ⟨its2, rv2, p2, _⟩ := I1.list hqy
        refine call_zip_2 p1.isList p2.isList fun h' hz hTI hTO h1 h2 hsz hk => wpAny_pyIter_zip hz ?_
        have I2 : Inv X pins σ H1 { s1 with heap := h' } := I1.kept (t' := s1.toks) hk
        exact ⟨_, _, _, _, H1, rfl, I2, turn_zip (PySem.W.ktu_apart s1.heap.objs.size a b p1.lt p2.lt), ⟨hz, hTI, ⟨_, _, hTO⟩, h1, h2⟩, fresh5, q⟩
      · obtain ⟨its, rv, p1, _⟩ := I1.tuple hqx
        obtain ⟨its2, rv2, p2, _⟩ := I1.tuple hqy
        obtain ⟨o1, ho1, _⟩ := id p1
        obtain ⟨o2, ho2, _⟩ := id p2
        refine RZ.call_zipT (show s1.heap.IsTuple a its.toArray from p1) (show s1.heap.IsTuple b its2.toArray from p2) fun h' hz hTI hTO h1 h2 hsz hk => wpAny_pyIter_zip hz ?_
        have I2 : Inv X pins σ H1 { s1 with heap := h' } := I1.kept (t' := s1.toks) hk
        exact ⟨_, _, _, _, H1, rfl, I2, RZ.turn_zipT (PySem.W.ktu_apart s1.heap.objs.size a b (Heap.lt_size ho1) (Heap.lt_size ho2)), ⟨hz, hTI, ⟨_, _, hTO⟩, h1, h2⟩, fresh5, q⟩
      · obtain ⟨its, rv, p1, _⟩ := I1.tuple hqx
        obtain ⟨its2, rv2, p2, _⟩ := I1.list hqy
        obtain ⟨o1, ho1, _⟩ := id p1
        refine zip_begins2 (begins_tuple a its.toArray) (begins_list b its2.toArray) p1 p2.isList fun h' hz hTI hTO h1 h2 hsz hk => wpAny_pyIter_zip hz ?_
        have I2 : Inv X pins σ H1 { s1 with heap := h' } := I1.kept (t' := s1.toks) hk
        exact ⟨_, _, _, _, H1, rfl, I2, turn_zM (N := s1.heap.objs.size) (Heap.lt_size ho1) p2.lt, ⟨hz, hTI, ⟨_, _, hTO⟩, ⟨_, h1, rfl, rfl⟩, ⟨_, h2, rfl, rfl⟩, Nat.zero_le _⟩, fresh5, q⟩
end Ab
namespace Ab
open PySem PySem.Spec PyProof.Rows L2
section
variable {prog : Program} {w : World} {A : Around} {E : Value → Shared → Prop} {s : Shared}
theorem sort_le1 {a : Addr} {vs : List Value} {n : Nat} {P : PySem.Fin → Shared → Prop} (ho : s.heap.get? a = some (seqObj "list" vs.toArray n)) (h1 : vs.length ≤ 1)
    (h : ∀ out : Array Value, out.toList.Perm vs → P (.done (.ret .none)) { s with heap := sortedHeap s.heap a vs out }) :
    wpAny (model prog w) A (Builtin.«list.sort» ⟨[.ref a], []⟩) P E s := by
  refine SK.plain_sort (r := fun _ => 0) ho (by omega) (fun h2 Q hQ => absurd h2 (by omega)) fun ps out e1 e2 e3 => ?_
  exact h out (TS.out_rank (r := fun _ => 0) e1 e2 e3).1
end
theorem sq_ints {X : Cx} {pins : List (Addr × Obj)} {σ : L2.St} {H : Hp} {s : Shared} (I : Inv X pins σ H s) {b : Addr} {ns : List Int} (e : H b = some (.tup (ns.map V.int))) : TS.TupInts s.heap (.ref b) ns :=
  tupI_raw I (.of e)
theorem keys_int : ∀ ns : List Int, (ns.map (Sum.inl : Int → L2.Key)).map kV = ns.map V.int
  | [] => rfl
  | n :: ns => by rw [List.map_cons, List.map_cons, List.map_cons, keys_int ns]; rfl
theorem keys_back {H : Hp} : ∀ {kvs : List (List L2.Key × V)} {bs : List Addr} {ks : List (List Int)}, IsKeys H kvs bs → kvs.map (·.1) = ks.map (fun k => k.map Sum.inl) → ∃ bk : List (Addr × List Int), bk.map Prod.fst = bs ∧ bk.map Prod.snd = ks ∧ ∀ q ∈ bk, H q.1 = some (.tup (q.2.map V.int))
  | _, _, ks, .nil, e => by
    cases ks with
    | nil => exact ⟨[], rfl, rfl, fun _ h => by cases h⟩
    | cons k ks => cases e
  | kv :: kvs, b :: bs, ks, .cons h t, e => by
    cases ks with
    | nil => cases e
    | cons k ks =>
      rw [List.map_cons, List.map_cons] at e
      injection e with e1 e2
      obtain ⟨bk, b1, b2, b3⟩ := keys_back t e2
      refine ⟨(b, k) :: bk, by rw [List.map_cons, b1], by rw [List.map_cons, b2], fun q hq => ?_⟩
      rcases List.mem_cons.mp hq with rfl | hq
      · have h' : H b = some (.tup (kv.1.map kV)) := h
        rw [e1, keys_int] at h'
        exact h'
      · exact b3 q hq
theorem perm_map_back {α β : Type} (f : α → β) : ∀ {out : List β} {l : List α}, out.Perm (l.map f) → ∃ ys : List α, ys.Perm l ∧ out = ys.map f
  | [], l, p => by
    have : l.map f = [] := p.symm.eq_nil
    exact ⟨[], by rw [List.map_eq_nil_iff.mp this], rfl⟩
  | o :: out, l, p => by
    obtain ⟨q, hq, e⟩ := List.mem_map.mp (p.mem_iff.mp List.mem_cons_self)
    obtain ⟨s, t, rfl⟩ := List.append_of_mem hq
    rw [List.map_append, List.map_cons] at p
    have p2 : out.Perm ((s ++ t).map f) := by
      rw [List.map_append]
      have := p.trans List.perm_middle
      rw [e] at this
      exact this.cons_inv
    obtain ⟨ys, y1, y2⟩ := perm_map_back f p2
    exact ⟨q :: ys, (y1.cons q).trans List.perm_middle.symm, by rw [List.map_cons, e, y2]⟩
section
variable {X : Cx}
def rSortedDT (K : PySem.W.Frag) : List V → Hp → VK → Prop := fun xs H Q => ∃ (a : Addr) (kvs : List (List L2.Key × V)) (ks : List (List Int)) (d : Nat) (B : Int), xs = [V.ref a] ∧ Rd H a (.dT kvs) ∧ kvs.map (·.1) = ks.map (fun k => k.map Sum.inl) ∧ ks.length < 64 ∧ (1 ≤ d ∨ ks.length ≤ 1) ∧ (∀ k ∈ ks, k.length = d ∧ TS.Bd B k) ∧
  ∀ (ys : List (Addr × List Int)) (p : Addr), (ys.map Prod.snd).Perm ks → ys.Pairwise (fun q r => TS.code B q.2 ≤ TS.code B r.2) → (∀ q ∈ ys, H q.1 = some (.tup (q.2.map V.int))) → H p = none → Q (.ref p) (upd H p (.lst (ys.map fun q => V.ref q.1)))
theorem call_sortedDT (hcalm : X.calm = true) : CallR X (.builtin "sorted") (rSortedDT X.K) := by
  intro pins s σ H xs us Q I r q
  obtain ⟨a, kvs, ks, d, B, ex, hd, hks, h64, hd1, hB, q⟩ := q
  subst ex
  obtain ⟨u, eu, rx⟩ := vals1 r
  subst eu
  cases rx
  obtain ⟨z, hs, ls, pr, o, es, ep, ho, hx, hdt, he, hn⟩ := (show ObjOk X.prog X.w H s.heap a (.dT kvs) from hd.ok I.hok)
  have l1 : es.size = ls.length := size_of_entries he
  have l2 : kvs.length = ls.length := Paired.length pr
  have l3 : kvs.length = ks.length := by
    have e := congrArg List.length hks
    rw [List.length_map, List.length_map] at e
    exact e
  obtain ⟨bk, b1, b2, b3⟩ := keys_back (isKeys_of pr) hks
  have lb : bk.length = ks.length := by rw [← b2, List.length_map]
  refine Calls.call_function_entry PyProof.Rows.kind_sorted PyProof.Rows.plain_sorted PyProof.Rows.entry_sorted (PyProof.Rows.args_sorted1 _) ?_
  unfold Builtin.«sorted»
  refine wpAny_bind (m := checkCount "sorted" 1 1 _) (wpAny_pure ?_)
  refine wpAny_bind (PySem.W.kdu_collect (A := X.A.in1) (kdl_raw hs hx hdt) (I.ok.hd hcalm) ho (by rw [sizeLine_eq]; omega) fun h' tk acc hk it => ?_)
  have ea : acc.toList = bk.map fun q => Value.ref q.1 := by
    have e1 : acc.toList = ls.map fun x => Value.ref x.2.1 := by
      have hl : acc.toList.length = ls.length := by rw [Array.length_toList, it.1]; exact l1
      apply List.ext_getElem?
      intro j
      rw [List.getElem?_map]
      cases hj : acc.toList[j]? with
      | none =>
        have h1 := List.getElem?_eq_none_iff.mp hj
        rw [List.getElem?_eq_none (by omega)]
        all_goals rfl
      | some v =>
        obtain ⟨en, hen, hv⟩ := it.2 j v (by rw [← Array.getElem?_toList]; exact hj)
        have qe := entry_at he j
        rw [hen] at qe
        cases hb : ls[j]? with
        | none =>
          rw [hb] at qe
          exact nomatch (show some en = none from qe)
        | some b =>
          rw [hb] at qe
          have e2 : en = entryOfKey (tupleKind (mixKind X.prog X.w)) b := Option.some.inj qe
          rw [hv, e2]
          all_goals rfl
    rw [e1]
    have e2 : (ls.map fun x => x.2.1).map Value.ref = (bk.map Prod.fst).map Value.ref := by rw [b1]
    rw [List.map_map, List.map_map] at e2
    exact e2
  have I1 : Inv X pins σ H { s with heap := h', toks := tk } := I.kept hk
  have hal : acc.toList.length = ks.length := by rw [ea, List.length_map, lb]
  have tups : TS.TupsOk h' d B acc.toList := fun v hv => by
    rw [ea] at hv
    obtain ⟨p, hp, rfl⟩ := List.mem_map.mp hv
    have mk : p.2 ∈ ks := by rw [← b2]; exact List.mem_map.mpr ⟨p, hp, rfl⟩
    exact ⟨p.2, sq_ints I1 (b3 p hp), hB _ mk⟩
  refine wpAny_bind (wpAny_newList ?_ (by rw [hal, sizeLine_eq]; omega))
  have hoL : (h'.push (seqObj "list" acc.toList.toArray 0)).get? h'.objs.size = some (seqObj "list" acc.toList.toArray 0) := Heap.get?_push_size _ rfl
  show wpAny _ _ _ _ _ { s with heap := h'.push (seqObj "list" acc.toList.toArray 0), toks := tk }
  have keep : ∀ b o, h'.get? b = some o → o.cls = .type "tuple" → (h'.push (seqObj "list" acc.toList.toArray 0)).get? b = some o := fun b o e _ => Heap.get?_push_of_some _ e
  have tups2 := tups.keeps keep
  have fin : ∀ out : Array Value, out.toList.Perm acc.toList → (out.toList.Pairwise fun u v => TS.code B (TS.intsOf h' u) ≤ TS.code B (TS.intsOf h' v)) →
      (∃ v' H', Inv X pins σ H' { s with heap := sortedHeap (h'.push (seqObj "list" acc.toList.toArray 0)) h'.objs.size acc.toList out, toks := tk } ∧ RelV v' (.ref h'.objs.size) ∧ Q v' H') := fun out p so => by
    obtain ⟨e', he'⟩ := PyProof.Rows.sortedHeap_at (vs := acc.toList) (out := out) hoL
    rw [ea] at p
    have p2 : ∃ ys : List (Addr × List Int), ys.Perm bk ∧ out.toList = ys.map fun q => Value.ref q.1 := by
      obtain ⟨ys, y1, y2⟩ := perm_map_back _ p
      exact ⟨ys, y1, y2⟩
    obtain ⟨ys, y1, y2⟩ := p2
    have ym : ∀ q ∈ ys, H q.1 = some (.tup (q.2.map V.int)) := fun q hq => b3 q (y1.mem_iff.mp hq)
    have hlen : (ys.map fun q => V.ref q.1).length ≤ sizeLine := by
      rw [List.length_map, y1.length_eq, lb]
      exact Nat.le_trans (Nat.le_of_lt h64) (by decide)
    have rv : Vals (ys.map fun q => V.ref q.1) out.toList := by
      rw [y2]
      have := vals_refs (ys.map Prod.fst)
      rw [List.map_map, List.map_map] at this
      exact this
    have so2 : ys.Pairwise fun q r => TS.code B q.2 ≤ TS.code B r.2 := by
      rw [y2, List.pairwise_map] at so
      refine List.Pairwise.imp_of_mem (fun {q r} hq hr h => ?_) so
      rw [(sq_ints I1 (ym q hq)).ints, (sq_ints I1 (ym r hr)).ints] at h
      exact h
    refine ⟨.ref h'.objs.size, upd H h'.objs.size (.lst (ys.map fun q => V.ref q.1)), I1.laid (t' := tk) (fun b u e => ?_) (Nat.le_refl _)
      (show ObjOk X.prog X.w _ _ _ (.lst (ys.map fun q => V.ref q.1)) from ⟨hlen, out.toList, e', rv, by rw [Array.toArray_toList]; exact he'⟩), rfl, q ys _ (by rw [← b2]; exact y1.map _) so2 ym (I1.hok.fresh (Nat.le_refl _))⟩
    have hb : b < h'.objs.size := Heap.lt_size e
    rw [PyProof.Rows.sortedHeap_old (Nat.ne_of_lt hb) (by rw [size_push']; exact Nat.lt_succ_of_lt hb)]
    exact Heap.get?_push_of_some _ e
  rcases hd1 with hd1 | hd1
  · refine wpAny_bind (wpAny_holding (wpAny_call_entry PyProof.Rows.slot_list_sort ⟨_, hoL, rfl⟩ PyProof.Rows.entry_list_sort
      (TS.sort_tups (s := { s with heap := h'.push (seqObj "list" acc.toList.toArray 0), toks := tk }) hoL (by rw [hal]; exact h64) hd1 tups2 (fun v => TS.code B (TS.intsOf h' v)) (fun v hv ns t => ?_) fun out g1 g2 => ⟨_, rfl, ?_⟩) (PyProof.Rows.args_list_sort _)))
    · obtain ⟨ns0, t0, _⟩ := tups v hv
      have e : ns = ns0 := t.ints.symm.trans (t0.keeps keep).ints
      rw [e, t0.ints]
    · obtain ⟨v', H', i1, i2, i3⟩ := fin out g1 g2
      exact wpAny_pure ⟨_, rfl, v', H', i1, i2, i3⟩
  · refine wpAny_bind (wpAny_holding (wpAny_call_entry PyProof.Rows.slot_list_sort ⟨_, hoL, rfl⟩ PyProof.Rows.entry_list_sort
      (sort_le1 (s := { s with heap := h'.push (seqObj "list" acc.toList.toArray 0), toks := tk }) hoL (by rw [hal]; exact hd1) fun out g1 => ⟨_, rfl, ?_⟩) (PyProof.Rows.args_list_sort _)))
    obtain ⟨v', H', i1, i2, i3⟩ := fin out g1 (by
      have : out.toList.length ≤ 1 := by rw [g1.length_eq, hal]; exact hd1
      match e : out.toList, this with
      | [], _ => exact .nil
      | [_], _ => exact List.pairwise_singleton _ _)
    exact wpAny_pure ⟨_, rfl, v', H', i1, i2, i3⟩
end
end Ab
namespace Ab
open PySem PySem.Spec PyProof.Rows L2 PySem.W
section
variable {prog : Program} {w : World} {A : Around} {E : Value → Shared → Prop} {s : Shared}
theorem adjust_rev (n : Nat) : Builtin.Slice.sliceAdjust none none (-1) (n : Int) = ((n : Int) - 1, -1) := by
  have h1 : ((-1 : Int) < 0) := by omega
  unfold Builtin.Slice.sliceAdjust
  simp only [h1, if_true]
theorem places_rev (n : Nat) : Builtin.Slice.slicePlaces ((n : Int) - 1) (-1) (-1) = n := by
  unfold Builtin.Slice.slicePlaces
  have h1 : ¬ ((-1 : Int) > 0) := by omega
  simp only [h1, if_false]
  by_cases h : (n : Int) - 1 > -1
  · rw [if_pos h, show (- -1 : Int) = 1 by decide, Int.ediv_one]; omega
  · rw [if_neg h]; omega
theorem sliceApplied_rev {sl : Addr} {vk : Value} {n : Nat} {Q : Int × Int × Nat → Shared → Prop} (hs : s.heap.IsSliceOf sl .none .none vk) (pk : IsPart vk (some (-1)))
    (h : Q ((n : Int) - 1, -1, n) s) : wpAny (model prog w) A (Builtin.Slice.sliceApplied (.ref sl) (pure (n : Int))) Q E s := by
  obtain ⟨os, hos, hcs, hds⟩ := id hs
  unfold Builtin.Slice.sliceApplied Builtin.Slice.sliceFields
  refine wpAny_bind (wpAny_bind (wpAny_field hos hds (x := .none) rfl (wpAny_bind (wpAny_field hos hds (x := .none) rfl (wpAny_bind (wpAny_field hos hds (x := vk) rfl (wpAny_pure ?_)))))))
  refine wpAny_bind (HT.slicePart_ pk ?_)
  show wpAny _ _ (if ((-1 : Int) == 0) = true then _ else _) _ _ s
  rw [if_neg (by decide)]
  refine wpAny_bind (HT.slicePart_ .none (wpAny_bind (HT.slicePart_ .none (wpAny_bind (wpAny_pure ?_)))))
  show wpAny _ _ (match Builtin.Slice.sliceAdjust none none (-1) (n : Int) with | (lo, hi) => pure (lo, (-1 : Int), Builtin.Slice.slicePlaces lo hi (-1))) _ _ s
  rw [adjust_rev n]
  show wpAny _ _ (pure ((n : Int) - 1, (-1 : Int), Builtin.Slice.slicePlaces ((n : Int) - 1) (-1) (-1))) _ _ s
  rw [places_rev]
  exact wpAny_pure h
theorem pick_rev (xs : Array Value) : ((List.range xs.size).filterMap fun (m : Nat) => xs[((xs.size : Int) - 1 + (m : Int) * (-1)).toNat]?).toArray = xs.toList.reverse.toArray := by
  congr 1
  have e : ∀ m, m ∈ List.range xs.size → xs[((xs.size : Int) - 1 + (m : Int) * (-1)).toNat]? = xs.toList.reverse[m]? := by
    intro m hm
    have hm := List.mem_range.mp hm
    have e1 : ((xs.size : Int) - 1 + (m : Int) * (-1)).toNat = xs.size - 1 - m := by omega
    rw [e1, List.getElem?_reverse (by simpa using hm)]
    simp
  have key : ∀ (l : List Value), (List.range l.length).filterMap (fun m => l[m]?) = l := by
    intro l
    apply List.ext_getElem?
    intro i
    have : (List.range l.length).filterMap (fun m => l[m]?) = l := by
      induction l with
      | nil => rfl
      | cons a l ih =>
        rw [List.length_cons, List.range_succ_eq_map, List.filterMap_cons, List.filterMap_map]
        simp only [List.getElem?_cons_zero]
        have e2 : ((fun m => (a :: l)[m]?) ∘ Nat.succ) = fun m => l[m]? := by
          funext m; simp
        rw [e2, ih]
    rw [this]
  have z := key xs.toList.reverse
  rw [List.length_reverse, Array.length_toList] at z
  rw [← z]
  generalize List.range xs.size = l at e
  induction l with
  | nil => rfl
  | cons a l ih => rw [List.filterMap_cons, List.filterMap_cons, e a List.mem_cons_self, ih fun m hm => e m (List.mem_cons_of_mem _ hm)]
theorem getItem_tuple_rev {t sl : Addr} {items : Array Value} {vk : Value} {Q : Value → Shared → Prop} (ht : IsTup s.heap t items) (hs : s.heap.IsSliceOf sl .none .none vk) (pk : IsPart vk (some (-1)))
    (h : Q (.ref s.heap.objs.size) { s with heap := s.heap.push { cls := .type "tuple", data := .seq items.toList.reverse.toArray } })
    (hsz : items.size ≤ sizeLine) : wpAny (model prog w) A (getItem (.ref t) (.ref sl)) Q E s := by
  have htake : sizeOk (.seq items.toList.reverse.toArray) := by
    show items.toList.reverse.toArray.size ≤ sizeLine
    rw [List.size_toArray, List.length_reverse, Array.length_toList]
    exact hsz
  obtain ⟨os, hos, hcs, hds⟩ := id hs
  have hTs : s.TypeIs (.ref sl) "slice" := ⟨os, hos, hcs⟩
  unfold getItem
  try with_reducible refine wpAny_holding ?_
  first | refine wpAny_bind (wpAny_pure ?_) | skip
  refine wpAny_bind (wpAny_sequenceKey ht.typeIs (by decide) ?_)
  refine wpAny_bind (wpAny_callSpecial?_slot (name := Str.ofString "__getitem__") ht.typeIs PyProof.Rows.slot_tuple_getitem
    (wpAny_call_entry PyProof.Rows.slot_tuple_getitem ht.typeIs entry_tuple_getitem ?_ (args_tuple_getitem _ _)))
  show wpAny _ _ (Builtin.Tuple.tupleItemsOf (.ref t) >>= _) _ _ s
  refine wpAny_bind (tupleItemsOf_ ht ?_)
  refine wpAny_bind (wpAny_typeOf hTs ?_)
  rw [if_pos (by decide)]
  refine wpAny_bind (sliceApplied_rev hs pk ?_)
  have hno : ¬ (((((items.size : Nat) : Int) - 1) == 0 && (-1 : Int) == 1 && items.size == items.size) = true) := by
    intro q
    rw [Bool.and_eq_true, Bool.and_eq_true] at q
    have q1 : (-1 : Int) = 1 := eq_of_beq q.1.2
    cases q1
  show wpAny _ _ (if ((((items.size : Nat) : Int) - 1) == 0 && (-1 : Int) == 1 && items.size == items.size) = true then _ else _) _ _ s
  rw [if_neg hno, pick_rev]
  first
    | exact wpAny_bind (m := Builtin.Tuple.tupleExact _) (wpAny_newObj_type (wpAny_pure ⟨_, rfl, wpAny_pure h⟩) htake)
    | exact wpAny_bind (m := Builtin.Tuple.tupleExact _) (wpAny_newObj_type (wpAny_bind (wpAny_pure (wpAny_pure ⟨_, rfl, wpAny_pure h⟩))) htake)
    | exact wpAny_bind (wpAny_bind (m := Builtin.Tuple.tupleExact _) (wpAny_newObj_type (wpAny_pure (wpAny_pure ⟨_, rfl, wpAny_pure h⟩)) htake))
    | exact wpAny_bind (wpAny_bind (m := Builtin.Tuple.tupleExact _) (wpAny_newObj_type (wpAny_pure ⟨_, rfl, wpAny_pure h⟩) htake))
end
def tRevA (K : PySem.W.Frag) (te : TE) : TE := fun σ H Q => te σ H fun x H1 => ∃ a xs, x = .ref a ∧ ((SqL K H1 a xs ∧ ∀ p, H1 p = none → Q (.ref p) (upd H1 p (.lst xs.reverse))) ∨ (SqT K H1 a xs ∧ ∀ p, H1 p = none → Q (.ref p) (upd H1 p (.tup xs.reverse))))
theorem pe_revA {X : Cx} {e : Expr} {te : TE} {k : Nat} {p1 p2 p3 pos : Pos} (he : PE X e te) : PE X (.Subscript e (.Slice none none (some (.UnaryOp .USub (.Constant (.int 1) k p1) p2)) p3) pos) (tRevA X.K te) := by
  refine ⟨fun pins s σ H Q I h => ?_⟩
  refine Subscript_ (thn (he.run pins s σ H _ I h) fun v s1 ⟨x, H1, I1, r1, q1⟩ => ?_)
  obtain ⟨a, xs, ex, q⟩ := q1
  subst ex
  cases r1
  have hst : PO X (some (.UnaryOp .USub (.Constant (.int 1) k p1) p2)) (tPart (tUn (rU fun i => .int (-i)) (tC (.int 1)))) := po_some (pe_un un_neg pe_int)
  refine wpAny_Slice (thn (po_none.run pins s1 σ H1 (fun o H2 => o = none ∧ H2 = H1) I1 ⟨rfl, rfl⟩) fun vl s2 ⟨l, H2, I2, pl, el, e2⟩ => ?_)
  subst el e2
  refine thn (po_none.run pins s2 σ H2 (fun o H3 => o = none ∧ H3 = H2) I2 ⟨rfl, rfl⟩) fun vu s3 ⟨u, H3, I3, pu, eu, e3⟩ => ?_
  subst eu e3
  refine thn (hst.run pins s3 σ H3 (fun o H4 => o = some (-1) ∧ H4 = H3) I3 ⟨1, rfl, -1, rfl, rfl, rfl⟩) fun vs s4 ⟨o, H4, I4, ps, eo, e4⟩ => ?_
  subst eo e4
  have I5 : Inv X pins σ H4 { s4 with heap := s4.heap.push { cls := .type "slice", data := .fields #[vl, vu, vs] } } := I4.kept (t' := s4.toks) fun b ob q => Heap.get?_push_of_some _ q
  rcases q with ⟨hx, q⟩ | ⟨hx, q⟩
  · obtain ⟨its, r, ht, hz⟩ := I5.list hx
    have hlen := r.length
    show wpAny (model X.prog X.w) X.A (subscriptTail e (.Slice none none (some (.UnaryOp .USub (.Constant (.int 1) k p1) p2)) p3) (.ref a) (.ref s4.heap.objs.size)) (EP X pins σ Q) X.xe { s4 with heap := s4.heap.push { cls := .type "slice", data := .fields #[vl, vu, vs] } }
    refine tail_any (ops := [.ref a, .ref s4.heap.objs.size]) ht.isList.typeIs (PySem.slot_list_getitem.lookup) ?_ (by with_unfolding_all rfl)
    refine wpAny_getItem_list_slice ht.isList (Heap.IsSliceOf.new _ vl vu vs) pl pu ps (by decide) ?_ (by rw [List.size_toArray]; omega)
    rw [PySem.W.krv_pick]
    refine ⟨.ref _, _, I5.laid (t' := s4.toks) (o := .lst xs.reverse) (fun b ob q => Heap.get?_push_of_some _ q) (Nat.le_refl _) ?_, rfl, q _ (I5.hok.fresh (Nat.le_refl _))⟩
    exact ⟨by rw [List.length_reverse]; exact hz, _, 0, r.reverse, Heap.get?_push_size _ rfl⟩
  · cases pl; cases pu
    obtain ⟨its, r, ht, hz⟩ := I5.tuple hx
    have hlen := r.length
    show wpAny (model X.prog X.w) X.A (subscriptTail e (.Slice none none (some (.UnaryOp .USub (.Constant (.int 1) k p1) p2)) p3) (.ref a) (.ref s4.heap.objs.size)) (EP X pins σ Q) X.xe { s4 with heap := s4.heap.push { cls := .type "slice", data := .fields #[.none, .none, vs] } }
    refine tail_any (ops := [.ref a, .ref s4.heap.objs.size]) ht.typeIs (PyProof.Rows.slot_tuple_getitem.lookup) ?_ (by with_unfolding_all rfl)
    refine getItem_tuple_rev ht (Heap.IsSliceOf.new _ .none .none vs) ps ?_ (by rw [List.size_toArray]; omega)
    refine ⟨.ref _, _, I5.laid (t' := s4.toks) (o := .tup xs.reverse) (fun b ob q => Heap.get?_push_of_some _ q) (Nat.le_refl _) ?_, rfl, q _ (I5.hok.fresh (Nat.le_refl _))⟩
    exact ⟨by rw [List.length_reverse]; exact hz, _, r.reverse, IsTup.new _ _⟩
end Ab
namespace Ab
open PySem PySem.W PySem.Spec PySem.Calls PyProof.Rows
section
variable {pr : Program} {ww : World} {A' : Around} {E' : Value → Shared → Prop} {st : Shared} {F : PySem.W.Frag} {y B : Addr} {oy : Obj} {ody : Option Obj}
theorem obj_data {N : Str} {at_ gt_ : Value} (z1 : (clsIn F B).isSome = true) (z2 : findIn F (.ref B) N = some (some at_)) (z3 : specialIn F at_ "__get__" = some (some gt_)) (z4 : takesIn F at_ = some true) : findObj F B ody N = some (.bind gt_ at_) := by
  obtain ⟨dc, z5⟩ := Option.isSome_iff_exists.mp z1
  unfold findObj
  simp [z5, z2, z3, z4]
theorem class_attr {Q' : Option Value → Shared → Prop} (z : L2.ExcC F B) (Y : F.In st.heap) (J : PySem.W.InstAt st.heap y oy B ody) (q : Q' (some (.ref B)) { st with toks := st.toks + 1 }) : wpAny (model pr ww) A' (getAttr? (.ref y) "__class__") Q' E' st := by
  have ff : findObj F B ody "__class__" = some (.bind (.builtin "getset_descriptor.__get__") (.builtin "object.__class__")) := obj_data (by obtain ⟨dc, z5, _⟩ := any_some z.hd; rw [z5]; rfl) z.ha z.hn z.ht
  obtain ⟨hh, gg, dd, tt, oo⟩ := st
  have l0 := J.type (M := model pr ww)
  have l1 := looks_findIn (M := model pr ww) Y z.hg
  have l2 := looks_findIn (M := model pr ww) Y z.hk
  have l3 := looks_find (M := model pr ww) Y J ff
  have sb : Looks (model pr ww) hh (isInstance (.ref y) (.type "BaseException")) true := l0.andThen (looks_subIn Y z.hs)
  have g0 : (false && onTheHeap (Value.builtin "BaseException.__getattribute__")) = false := rfl
  have g1 : (onTheHeap (Value.ref B) && Value.builtin "BaseException.__getattribute__" == Value.builtin "object.__getattribute__") = false := by rw [show (Value.builtin "BaseException.__getattribute__" == Value.builtin "object.__getattribute__") = false by decide +kernel]; rfl
  unfold getAttr? getAttrBy?; unfold getAttrBy
  refine wpAny_bind (wpAny_mkText (wpAny_bind (wpAny_attempt (wpAny_holding (wpAny_bind (l0.at (wpAny_bind (l1.at ?_))))))))
  show wpAny _ _ (if (onTheHeap (Value.ref B) && Value.builtin "BaseException.__getattribute__" == Value.builtin "object.__getattribute__") = true then _ else _) _ _ _
  rw [g1, if_neg Bool.false_ne_true]
  unfold getAttrByItsOwn; unfold hookBefore; refine wpAny_bind ?_
  rw [if_pos (show onTheHeap (Value.ref B) = true from rfl)]
  refine l2.at (wpAny_bind (wpAny_attempt (wpAny_holding ?_)))
  unfold callGetattribute
  rw [g0, if_neg Bool.false_ne_true]
  unfold boundAndCalled
  rw [PySem.F.excAttr_ValueError.ga.bind (.ref y)]
  with_reducible refine wpAny_bind (wpAny_pure ?_)
  show wpAny _ _ (call (.builtin "BaseException.__getattribute__") [.ref y, .str "__class__" tt]) _ _ _
  refine wpAny_call (codeAny_call_builtin (PySem.F.excAttr_ValueError.ga.plain) (PySem.F.entry_bexc_ga) ?_)
  refine @check_slot (model pr ww) _ _ ⟨hh, gg, dd, tt + 1, oo⟩ "BaseException.__getattribute__" "BaseException" "__getattribute__" (.ref y) [.str "__class__" tt] [] _ (by decide +kernel) (by decide +kernel) sb (PySem.F.args_bexc_ga (.ref y) (.str "__class__" tt)) ?_
  unfold Builtin.«object.__getattribute__»; refine wpAny_bind (wpAny_of_eq (a := ((Value.ref y : Value), [Value.str "__class__" tt])) (by first | rfl | (simp only [slotArgs]; rfl)) ?_)
  refine wpAny_bind (wpAny_pure (wpAny_bind (l0.at (wpAny_bind (l3.at ?_)))))
  show wpAny _ _ (holding [Value.builtin "object.__class__"] (call (.builtin "getset_descriptor.__get__") [.builtin "object.__class__", .ref y, .ref B]) >>= ret) _ _ _
  refine wpAny_bind (wpAny_holding (wpAny_call (class_get (s := ⟨hh, gg, dd, tt + 1, oo⟩) (ox := oy) (od := ody) Y J z.hm ?_)))
  refine wpAny_pure ?_
  show wpAny _ _ (handedOut (.ref B)) _ _ _
  rw [handedOut_of (v := .ref B) rfl]
  first
    | exact wpAny_pure (wpAny_pure q)
    | exact wpAny_pure q
    | exact wpAny_pure (wpAny_bind (wpAny_pure (wpAny_pure q)))
theorem kitx_flds (z : L2.ExcC F B) : KitX F (.ref y) (.ref B) (fun h => PySem.W.InstAt h y oy B ody) :=
  { ty := fun _ _ _ J => J.type
    it := fun _ _ Y _ => by
      obtain ⟨dc, q, _⟩ := any_some z.hd
      unfold clsIn at q
      split at q
      · rename_i e1 e2 e3 e4 e5
        intro A2 Q2 E2 s2 kk qq
        unfold isType loadHead
        exact wpAny_bind (wpAny_loadPart (kk _ _ (Y _ _ e5)) (wpAny_pure qq))
      · cases q
    ne := fun h tp dd its n sl Y e => by
      obtain ⟨dc, q, _⟩ := any_some z.hd
      refine Bool.eq_false_iff.mpr fun w => ?_
      have same : B = tp := Value.ref.inj (beq_iff_eq.mp w)
      subst same
      unfold clsIn at q
      split at q
      · rename_i e1 e2 e3 e4 e5
        have clash := (Y _ _ e5).symm.trans e
        cases clash
      · cases q
    ca := fun Y J q => class_attr z Y J q }
end
end Ab
namespace Ab
open PySem PySem.Spec PyProof.Rows L2
inductive D where
  | non | bl (b : Bool) | int (i : Int) | str (s : Str) | tup (ds : List D) | lst (ds : List D) | ref (a : Addr) | scr (ds : List D)
  | exc (c : Nat) (fs : List (Str × D))
inductive Cell where
  | lst (ds : List D) | dct (kvs : List (List Int × D)) | ins (c : Nat) (fs : List (Str × D))
abbrev AH := Addr → Option Cell
abbrev Env' := List (Option D)
structure Exn where
  c : Nat
  fs : List (Str × D)
abbrev PQ := D → AH → Prop
abbrev PX := Exn → AH → Prop
abbrev FT := Nat → List D → AH → PX → PQ → Prop
abbrev PV := Env' → AH → Prop
abbrev NX : PX := fun _ _ => False
def put (h : AH) (a : Addr) (c : Cell) : AH := fun b => if b = a then some c else h b
def cut (h : AH) (a : Addr) : AH := fun b => if b = a then none else h b
def Sub (h h' : AH) : Prop := ∀ a c, h a = some c → h' a = some c
inductive BO where
  | add | sub | mul | fdiv | mod | pow | lsh | mulN | addN
  deriving DecidableEq
inductive CO where
  | lt | le | gt | ge | eq | ne | is | isnot | isin | notin | isinD | notinD
  deriving DecidableEq
inductive IK where
  | seq | rng1 | rng2 | rng3 | zip | enm | enz | zip3
  deriving DecidableEq
inductive BI where
  | len | abs | int | sum | min1 | min2 | min3 | max2 | tuple | list | listF | all | any | sorted | sortedF
  deriving DecidableEq
inductive SK where
  | lo | hi | both
  deriving DecidableEq
inductive MI where
  | append | extend | popAt | insert | index | count | remove
  deriving DecidableEq
inductive M0 where
  | pop | reverse | clear
  deriving DecidableEq
inductive CI where
  | int | bool | str | list | tuple | dict | verr | own (c : Nat)
  deriving DecidableEq
inductive DO where
  | get | getD | isin | notin | srt (f : Bool)
  deriving DecidableEq
inductive Tg where
  | var (i : Nat) | tup (ts : List Tg)
inductive E where
  | nil | cons (a b : E) | omit
  | var (i : Nat) | int (n : Int) | bl (b : Bool) | non | str (s : Str) | cst (x : Str) (d : D)
  | bin (o : BO) (a b : E) | neg (a : E) | not (a : E) | cmp (o : CO) (a b : E) | cmp2 (o p : CO) (a b c : E) | and (es : E) | or (es : E) | ife (t a b : E)
  | tup (es : E) | lst (f : Bool) (es : E) | ix (a i : E) | sl (f : Bool) (m : SK) (a lo hi : E)
  | call (f : Nat) (es : E) | blt (b : BI) (es : E) | isi (a : E) (cs : List CI) | meth (m : MI) (o es : E)
  | comp (f : Bool) (own : List Nat) (t : Tg) (k : IK) (it c e : E) | frz (a : E) | dict0 | fld (a : E) (f : Str) | lam (g : Nat) (e : E) | meth0 (m : M0) (o : E) | rev (f : Bool) (a : E) | rng (t f : Bool) (k : IK) (es : E) | dop (o : DO) (a k z : E) | die
inductive S where
  | nil | cons (s r : S)
  | expr (e : E) | asg (t : Tg) (e : E) | sub (o i e : E) | par (i j : Nat) (a b : E)
  | ife (t : E) (a b : S) | whl (t : E) (b : S) | for (t : Tg) (k : IK) (it : E) (b : S)
  | ret (e : E) | pass | brk | cnt | rse (c : Nat) (fs : List Str) (es : E) | try_ (b hs : S) | hnd (c : Nat) (v : Option Nat) (b r : S) | hnil | cut (s : S) | sub2 (o i p j e : E) | die | frzb (i : Nat) (s : S) | dput (o i e : E)
mutual
def flat : D → Bool
  | .ref _ => false
  | .scr _ => false
  | .tup ds => flats ds
  | .lst ds => flats ds
  | .exc _ _ => false
  | _ => true
def flats : List D → Bool
  | [] => true
  | d :: ds => flat d && flats ds
end
mutual
def py : D → PyData
  | .bl b => .bool b
  | .int i => .int i
  | .str s => .str s
  | .tup ds => .tuple (pys ds)
  | .lst ds => .list (pys ds)
  | _ => .none
def pys : List D → List PyData
  | [] => []
  | d :: ds => py d :: pys ds
end
theorem pys_map : ∀ ds : List D, pys ds = ds.map py
  | [] => rfl
  | d :: ds => by rw [List.map_cons, ← pys_map ds]; rfl
def shp (d : D) : Bool := flat d && SeqAt.shaped (py d)
def eqD (a b : D) : Bool := PyData.eqv (py a) (py b)
mutual
inductive Rz (h : AH) : D → D → Prop
  | id {d : D} : flat d = true → Rz h d d
  | ref {a : Addr} {ds es : List D} : h a = some (.lst ds) → Rzs h ds es → Rz h (.ref a) (.lst es)
  | tup {ds es : List D} : Rzs h ds es → Rz h (.tup ds) (.tup es)
  | lst {ds es : List D} : Rzs h ds es → Rz h (.lst ds) (.lst es)
inductive Rzs (h : AH) : List D → List D → Prop
  | nil : Rzs h [] []
  | cons {d e : D} {ds es : List D} : Rz h d e → Rzs h ds es → Rzs h (d :: ds) (e :: es)
end
def seqW (d : D) (h : AH) (K : List D → Prop) : Prop :=
  match d with
  | .tup ds => K ds
  | .lst ds => K ds
  | .ref a => ∃ ds, h a = some (.lst ds) ∧ K ds
  | .scr ds => K ds
  | _ => False
def lstW (d : D) (h : AH) (K : List D → Prop) : Prop :=
  match d with
  | .lst ds => K ds
  | .ref a => ∃ ds, h a = some (.lst ds) ∧ K ds
  | .scr ds => K ds
  | _ => False
abbrev Src := Option (Addr × List D)
def still (s : Src) (h : AH) (P : Prop) : Prop :=
  match s with
  | none => P
  | some (a, ds) => h a = some (.lst ds) ∧ P
def lnew (f : Bool) (ds : List D) (h : AH) (Q : PQ) : Prop :=
  ds.length ≤ sizeLine ∧ match f with
  | true => Q (.lst ds) h
  | false => ∀ p, h p = none → Q (.ref p) (put h p (.lst ds))
def MulOk (i j : Int) : Prop := CMulW i j
def binW (o : BO) (x y : D) (h : AH) (Q : PQ) : Prop :=
  match o, x, y with
  | .add, .int i, .int j => Q (.int (i + j)) h
  | .add, .tup a, .tup b => a.length + b.length ≤ sizeLine ∧ Q (.tup (a ++ b)) h
  | .add, .lst a, .lst b => a.length + b.length ≤ sizeLine ∧ Q (.lst (a ++ b)) h
  | .add, .ref a, .ref b => ∃ ds es, h a = some (.lst ds) ∧ h b = some (.lst es) ∧ ds.length + es.length ≤ sizeLine ∧ Q (.lst (ds ++ es)) h
  | .add, .ref a, .lst es => ∃ ds, h a = some (.lst ds) ∧ ds.length + es.length ≤ sizeLine ∧ Q (.lst (ds ++ es)) h
  | .add, .lst ds, .ref b => ∃ es, h b = some (.lst es) ∧ ds.length + es.length ≤ sizeLine ∧ Q (.lst (ds ++ es)) h
  | .add, .str a, .str b => a.length + b.length ≤ sizeLine ∧ Q (.str (a ++ b)) h
  | .mul, .tup a, .int k => (a ≠ [] ∧ 2 ≤ k ∧ k ≤ 1000 ∧ a.length ≤ 1000) ∧ Q (.tup (List.replicate k.toNat a).flatten) h
  | .mul, .lst a, .int k => (-(2 ^ 63) ≤ k ∧ k < 2 ^ 63 ∧ a.length * k.toNat ≤ sizeLine) ∧ Q (.lst (List.replicate k.toNat a).flatten) h
  | .sub, .int i, .int j => Q (.int (i - j)) h
  | .mul, .int i, .int j => MulOk i j ∧ Q (.int (i * j)) h
  | .fdiv, .int i, .int j => (j ≠ 0 ∧ Builtin.divisionGoesByPylong i j = false) ∧ Q (.int (i.fdiv j)) h
  | .mod, .int i, .int j => j ≠ 0 ∧ Q (.int (i.fmod j)) h
  | .lsh, .int i, .int j => (i = 1 ∧ 0 ≤ j ∧ j ≤ 1000000) ∧ Q (.int (2 ^ j.toNat)) h
  | .mulN, .lst a, .int k => (-(2 ^ 63) ≤ k ∧ k < 2 ^ 63 ∧ a.length * k.toNat ≤ sizeLine) ∧ ∀ p, h p = none → Q (.ref p) (put h p (.lst (List.replicate k.toNat a).flatten))
  | .pow, .int i, .int j => (0 ≤ j ∧ j ≤ 1000000 ∧ i.natAbs < 2 ^ 64) ∧ Q (.int (i ^ j.toNat)) h
  | .addN, .lst a, .lst b => a.length + b.length ≤ sizeLine ∧ ∀ p, h p = none → Q (.ref p) (put h p (.lst (a ++ b)))
  | _, _, _ => False
def eqW (x y : D) (h : AH) (K : Bool → Prop) : Prop :=
  match x, y with
  | .int i, .int j => K (decide (i = j))
  | _, _ => ∃ x' y', Rz h x x' ∧ Rz h y y' ∧ shp x' = true ∧ shp y' = true ∧ K (eqD x' y')
def isNon : D → Bool
  | .non => true
  | _ => false
def ii (x y : D) (K : Int → Int → Prop) : Prop := match x, y with | .int i, .int j => K i j | _, _ => False
def scV : D → Option V
  | .non => some .non
  | .bl b => some (.bl b)
  | .int i => some (.int i)
  | .str s => some (.str s)
  | _ => none
def scVs : List D → Option (List V)
  | [] => some []
  | d :: ds => match scV d, scVs ds with
    | some v, some vs => some (v :: vs)
    | _, _ => none
def inW (x y : D) (h : AH) (K : Bool → Prop) : Prop := seqW y h fun ds => ∃ v vs, scV x = some v ∧ scVs ds = some vs ∧ K (inV v vs)
abbrev rzL (h : AH) (y : D) (ys : List D) : Prop := match y with
  | .tup ds => Rz h (.tup ds) (.tup ys)
  | y => Rz h y (.lst ys)
def inD (x y : D) (h : AH) (K : Bool → Prop) : Prop := ∃ x' ys, Rz h x x' ∧ rzL h y ys ∧ shp x' = true ∧ shp (.lst ys) = true ∧ K (ys.any fun z => eqD z x')
def cmpW (o : CO) (x y : D) (h : AH) (K : Bool → Prop) : Prop :=
  match o with
  | .lt => ii x y fun i j => K (decide (i < j))
  | .le => ii x y fun i j => K (decide (i ≤ j))
  | .gt => ii x y fun i j => K (decide (j < i))
  | .ge => ii x y fun i j => K (decide (j ≤ i))
  | .eq => eqW x y h K
  | .ne => eqW x y h fun b => K (!b)
  | .is => match y with | .non => K (isNon x) | .bl b => (match x with | .bl a => K (decide (a = b)) | _ => False) | _ => False
  | .isnot => match y with | .non => K (!isNon x) | .bl b => (match x with | .bl a => K (!decide (a = b)) | _ => False) | _ => False
  | .isin => inW x y h K
  | .notin => inW x y h fun b => K (!b)
  | .isinD => inD x y h K
  | .notinD => inD x y h fun b => K (!b)
def ixW (x y : D) (h : AH) (Q : PQ) : Prop :=
  match y with
  | .int i => seqW x h fun ds => ∃ d, atI ds i = some d ∧ Q d h
  | _ => False
def cutD (ds : List D) (lo hi : Option Int) : List D := (ds.drop (HT.sIx ds.length 0 lo)).take (HT.sIx ds.length ds.length hi - HT.sIx ds.length 0 lo)
def slW (f : Bool) (x : D) (lo hi : Option Int) (h : AH) (Q : PQ) : Prop :=
  match x with
  | .tup ds => Q (.tup (cutD ds lo hi)) h
  | .lst ds => lnew f (cutD ds lo hi) h Q
  | .ref a => ∃ ds, h a = some (.lst ds) ∧ lnew f (cutD ds lo hi) h Q
  | _ => False
def intsOf : List D → Option (List Int)
  | [] => some []
  | .int i :: ds => (intsOf ds).map (i :: ·)
  | _ => none
def bltW (b : BI) (xs : List D) (h : AH) (Q : PQ) : Prop :=
  match b, xs with
  | .len, [d] => (match d with | .str s => s.length ≤ sizeLine ∧ Q (.int s.length) h | d => seqW d h fun ds => Q (.int ds.length) h)
  | .abs, [.int i] => Q (.int (if i < 0 then -i else i)) h
  | .int, [.int i] => Q (.int i) h
  | .int, [.bl b] => Q (.int (b2i b)) h
  | .sum, [d] => seqW d h fun ds => ∃ ns : List Int, ds = ns.map D.int ∧ Q (.int ns.sum) h
  | .min1, [d] => lstW d h fun ds => ∃ ns : List Int, ds = ns.map D.int ∧ 0 < ns.length ∧ ∀ m, m ∈ ns → (∀ y, y ∈ ns → m ≤ y) → Q (.int m) h
  | .min2, [.int i, .int j] => Q (.int (if j < i then j else i)) h
  | .min3, [.int i, .int j, .int l] => Q (.int (if l < (if j < i then j else i) then l else (if j < i then j else i))) h
  | .max2, [.int i, .int j] => Q (.int (if j > i then j else i)) h
  | .tuple, [d] => seqW d h fun ds => Q (.tup ds) h
  | .list, [d] => seqW d h fun ds => lnew false ds h Q
  | .listF, [d] => seqW d h fun ds => lnew true ds h Q
  | .all, [d] => lstW d h fun ds => ∃ bs : List Bool, ds = bs.map D.bl ∧ Q (.bl (bs.all id)) h
  | .any, [d] => lstW d h fun ds => ∃ bs : List Bool, ds = bs.map D.bl ∧ Q (.bl (bs.any id)) h
  | .sorted, [d] => lstW d h fun ds => ∃ ns : List Int, ds = ns.map D.int ∧ ns.length < 64 ∧ ∀ ns' : List Int, ns'.Perm ns → ns'.Pairwise (· ≤ ·) → lnew false (ns'.map D.int) h Q
  | .sortedF, [d] => lstW d h fun ds => ∃ ns : List Int, ds = ns.map D.int ∧ ns.length < 64 ∧ ∀ ns' : List Int, ns'.Perm ns → ns'.Pairwise (· ≤ ·) → lnew true (ns'.map D.int) h Q
  | _, _ => False
def isiOne (d : D) (h : AH) (c : CI) : Option Bool :=
  match d with
  | .non => (match c with | .own _ => some false | .verr => some false | _ => some false)
  | .bl _ => (match c with | .bool => some true | .int => some true | _ => some false)
  | .int _ => (match c with | .int => some true | _ => some false)
  | .str _ => (match c with | .str => some true | _ => some false)
  | .tup _ => (match c with | .tuple => some true | _ => some false)
  | .lst _ => (match c with | .list => some true | _ => some false)
  | .scr _ => (match c with | .list => some true | _ => some false)
  | .ref a => (match h a with | some (.lst _) => (match c with | .list => some true | _ => some false) | some (.dct _) => (match c with | .dict => some true | _ => some false) | _ => none)
  | .exc e _ => (match c with | .own c => some (c == 0 || c == e) | .verr => some true | _ => some false)
def isiAny (d : D) (h : AH) : List CI → Option Bool
  | [] => some false
  | c :: cs => match isiOne d h c with | some true => some true | some false => isiAny d h cs | none => none
def methW (m : MI) (x : D) (xs : List D) (h : AH) (Q : PQ) : Prop :=
  match m, x, xs with
  | .append, .ref a, [d] => ∃ ds, h a = some (.lst ds) ∧ ds.length < sizeLine ∧ Q .non (put h a (.lst (ds ++ [d])))
  | .extend, .ref a, [.lst es] => ∃ ds, h a = some (.lst ds) ∧ ds.length + es.length ≤ sizeLine ∧ Q .non (put h a (.lst (ds ++ es)))
  | .extend, .ref a, [.ref b] => ∃ ds es, h a = some (.lst ds) ∧ h b = some (.lst es) ∧ ds.length + es.length ≤ sizeLine ∧ Q .non (put h a (.lst (ds ++ es)))
  | .popAt, .ref a, [.int i] => ∃ ds, h a = some (.lst ds) ∧ ∃ k d, (-(2 ^ 63) ≤ i ∧ i < 2 ^ 63) ∧ seqIndex? i ds.length = some k ∧ ds[k]? = some d ∧ Q d (put h a (.lst (ds.eraseIdx k)))
  | .insert, .ref a, [.int i, d] => ∃ ds, h a = some (.lst ds) ∧ ds.length < sizeLine ∧ (0 ≤ i ∧ i < 2 ^ 63) ∧ Q .non (put h a (.lst (ds.take i.toNat ++ [d] ++ ds.drop i.toNat)))
  | .index, x, [d] => lstW x h fun ds => ∃ x' d' j z, x' = D.lst ds ∧ d' = d ∧ shp x' = true ∧ shp d' = true ∧ ds[j]? = some z ∧ eqD z d = true ∧ (∀ m z', m < j → ds[m]? = some z' → eqD z' d = false) ∧ Q (.int (j : Nat)) h
  | .count, x, [.int k] => lstW x h fun ds => shp (.lst ds) = true ∧ Q (.int (ds.countP fun z => eqD z (.int k) : Nat)) h
  | .count, x, [.bl b] => lstW x h fun ds => shp (.lst ds) = true ∧ Q (.int (ds.countP fun z => eqD z (.bl b) : Nat)) h
  | .remove, .ref a, [.int k] => ∃ ns : List Int, h a = some (.lst (ns.map D.int)) ∧ ∃ j : Nat, ns[j]? = some k ∧ (∀ m : Nat, m < j → ns[m]? ≠ some k) ∧ Q .non (put h a (.lst ((ns.eraseIdx j).map D.int)))
  | _, _, _ => False
def meth0W (m : M0) (x : D) (h : AH) (Q : PQ) : Prop :=
  match x with
  | .ref a => ∃ ds, h a = some (.lst ds) ∧ match m with
    | .pop => ∃ d, ds[ds.length - 1]? = some d ∧ Q d (put h a (.lst ds.dropLast))
    | .reverse => Q .non (put h a (.lst ds.reverse))
    | .clear => Q .non (put h a (.lst []))
  | _ => False
def recvW (m : MI) (x : D) (h : AH) (P : Prop) : Prop :=
  match x with
  | .ref a => (∃ ds, h a = some (.lst ds)) ∧ P
  | .lst _ => P
  | _ => False
def enm : Nat → List D → List D
  | _, [] => []
  | n, d :: ds => .tup [.int n, d] :: enm (n + 1) ds
def zipD : List D → List D → List D
  | a :: as, b :: bs => .tup [a, b] :: zipD as bs
  | _, _ => []
@[irreducible] def rngL (lo : Int) (n : Nat) : List D := (List.range n).map fun (i : Nat) => D.int (lo + (i : Int))
@[irreducible] def rngD (lo : Int) (n : Nat) : List D := (List.range n).map fun (i : Nat) => D.int (lo + (i : Int) * (-1))
def zip3D : List D → List D → List D → List D
  | a :: as, b :: bs, c :: cs => .tup [a, b, c] :: zip3D as bs cs
  | _, _, _ => []
def srcOf (d : D) (ds : List D) : Src := match d with | .ref a => some (a, ds) | _ => none
def enmW (d : D) (h : AH) (K : Src → List D → Prop) : Prop :=
  match d with
  | .lst ds => K none (enm 0 ds)
  | .tup ds => K none (enm 0 ds)
  | .ref a => ∃ ds, h a = some (.lst ds) ∧ K (some (a, ds)) (enm 0 ds)
  | _ => False
def itW (k : IK) (xs : List D) (h : AH) (K : Src → List D → Prop) : Prop :=
  match k, xs with
  | .seq, [d] => (match d with | .str s => K none (s.cps.toList.map fun c => .str ⟨#[c]⟩) | d => seqW d h fun ds => K (srcOf d ds) ds)
  | .rng1, [.int j] => (-(2 ^ 62) ≤ j ∧ j < 2 ^ 62) ∧ K none (rngL 0 j.toNat)
  | .rng2, [.int i, .int j] => (-(2 ^ 62) ≤ i ∧ i < 2 ^ 62 ∧ -(2 ^ 62) ≤ j ∧ j < 2 ^ 62) ∧ K none (rngL i (j - i).toNat)
  | .rng3, [.int i, .int j, .int c] => (c = -1 ∧ -(2 ^ 62) ≤ i ∧ i < 2 ^ 62 ∧ -(2 ^ 62) ≤ j ∧ j < 2 ^ 62) ∧ K none (rngD i (i - j).toNat)
  | .enm, [d] => enmW d h K
  | .zip, [.lst ds, .lst es] => K none (zipD ds es)
  | .zip, [.tup ds, .tup es] => K none (zipD ds es)
  | .zip, [.tup ds, .lst es] => K none (zipD ds es)
  | .zip, [.tup ds, .ref b] => ∃ es, h b = some (.lst es) ∧ K (some (b, es)) (zipD ds es)
  | .enz, [.lst ds, .lst es] => K none (enm 0 (zipD ds es))
  | .zip3, [.lst ds, .lst es, .lst fs] => K none (zip3D ds es fs)
  | _, _ => False
def lookD (ks : List (List Int × D)) (k : List Int) : Option D := (ks.find? fun kv => decide (kv.1 = k)).map (·.2)
def putD (ks : List (List Int × D)) (k : List Int) (d : D) : List (List Int × D) :=
  if (ks.any fun kv => decide (kv.1 = k)) = true then ks.map (fun kv => if kv.1 = k then (kv.1, d) else kv) else ks ++ [(k, d)]
def isDW (x : D) (h : AH) : Prop := match x with | .ref a => ∃ ks, h a = some (.dct ks) | _ => False
def dgetW (x y : D) (h : AH) (K : Option D → Prop) : Prop :=
  match x, y with
  | .ref a, .tup ds => ∃ ks ns, h a = some (.dct ks) ∧ ds = ns.map D.int ∧ K (lookD ks ns)
  | _, _ => False
def dsrtW (f : Bool) (x : D) (h : AH) (Q : PQ) : Prop :=
  match x with
  | .ref a => ∃ (ks : List (List Int × D)) (n : Nat) (B : Int), h a = some (.dct ks) ∧ ks.length < 64 ∧ (1 ≤ n ∨ ks.length ≤ 1) ∧ (∀ kv ∈ ks, kv.1.length = n ∧ TS.Bd B kv.1) ∧
      ∀ ys : List (List Int), ys.Perm (ks.map (·.1)) → (ys.Pairwise fun y z => TS.code B y ≤ TS.code B z) → lnew f (ys.map fun y => D.tup (y.map D.int)) h Q
  | _ => False
def dputW (x y d : D) (h : AH) (K : AH → Prop) : Prop :=
  match x, y with
  | .ref a, .tup ds => ∃ ks ns, h a = some (.dct ks) ∧ ds = ns.map D.int ∧ ks.length < sizeLine ∧ K (put h a (.dct (putD ks ns d)))
  | _, _ => False
mutual
def tgW : Tg → D → Env' → AH → (Env' → Prop) → Prop
  | .var i, d, v, _, K => K (v.set i (some d))
  | .tup ts, d, v, h, K => seqW d h fun ds => tgsW ts ds v h K
def tgsW : List Tg → List D → Env' → AH → (Env' → Prop) → Prop
  | [], [], v, _, K => K v
  | t :: ts, d :: ds, v, h, K => tgW t d v h fun v' => tgsW ts ds v' h K
  | _, _, _, _, _ => False
end
def wipeE (v : Env') : List Nat → Env'
  | [] => v
  | i :: is => (wipeE v is).set i none
def compW (s : Src) (T : D → AH → PV → Prop) (C : Env' → AH → (Bool → AH → Prop) → Prop) (R : Env' → AH → PQ → Prop) : List D → List D → AH → (List D → AH → Prop) → Prop
  | [], acc, h, K => still s h (K acc h)
  | x :: xs, acc, h, K => still s h (T x h fun v h => C v h fun c h => (c = true → R v h fun d h => acc.length < sizeLine ∧ compW s T C R xs (acc ++ [d]) h K) ∧ (c = false → compW s T C R xs acc h K))
def cpW (f : Bool) (rs : List D) (h : AH) (Q : PQ) : Prop := match f with
  | true => Q (.lst rs) h
  | false => ∀ p, h p = none → Q (.ref p) (put h p (.lst rs))
def blW (d : D) (K : Bool → Prop) : Prop := match d with | .bl c => K c | _ => False
def intI (d : D) (K : Int → Prop) : Prop := match d with | .int i => K i | _ => False
def revW (f : Bool) (d : D) (h : AH) (Q : PQ) : Prop :=
  match d with
  | .tup ds => Q (.tup ds.reverse) h
  | .lst ds => lnew f ds.reverse h Q
  | .ref a => ∃ ds, h a = some (.lst ds) ∧ lnew f ds.reverse h Q
  | _ => False
def rngT (t f : Bool) (xs : List D) (h : AH) (Q : PQ) : Prop := match t with | true => Q (.tup xs) h | false => lnew f xs h Q
def rngW (t f : Bool) (k : IK) (ds : List D) (h : AH) (Q : PQ) : Prop :=
  match k, ds with
  | .rng1, [.int j] => RgOk 0 j ∧ rngT t f (rngL 0 j.toNat) h Q
  | .rng2, [.int i, .int j] => RgOk i j ∧ rngT t f (rngL i (j - i).toNat) h Q
  | _, _ => False
mutual
def wpE (F : FT) : E → Env' → AH → PX → PQ → Prop
  | .var i, v, h, _, Q => match v[i]? with | some (some d) => Q d h | _ => False
  | .omit, _, h, _, Q => Q (.bl true) h
  | .dict0, _, h, _, Q => ∀ p, h p = none → Q (.ref p) (put h p (.dct []))
  | .int n, _, h, _, Q => Q (.int n) h
  | .bl b, _, h, _, Q => Q (.bl b) h
  | .non, _, h, _, Q => Q .non h
  | .str s, _, h, _, Q => Q (.str s) h
  | .cst _ d, _, h, _, Q => Q d h
  | .bin o a b, v, h, X, Q => wpE F a v h X fun x h => wpE F b v h X fun y h => binW o x y h Q
  | .neg a, v, h, X, Q => wpE F a v h X fun x h => match x with | .int i => Q (.int (-i)) h | _ => False
  | .not a, v, h, X, Q => wpE F a v h X fun x h => blW x fun c => Q (.bl (!c)) h
  | .cmp o a b, v, h, X, Q => wpE F a v h X fun x h => wpE F b v h X fun y h => cmpW o x y h fun c => Q (.bl c) h
  | .cmp2 o p a b c, v, h, X, Q => wpE F a v h X fun x h => wpE F b v h X fun y h => cmpW o x y h fun k => (k = true → wpE F c v h X fun z h => cmpW p y z h fun k => Q (.bl k) h) ∧ (k = false → Q (.bl false) h)
  | .and es, v, h, X, Q => wpA F es v h X Q
  | .or es, v, h, X, Q => wpB F es v h X Q
  | .ife t a b, v, h, X, Q => wpE F t v h X fun x h => blW x fun c => (c = true → wpE F a v h X Q) ∧ (c = false → wpE F b v h X Q)
  | .tup es, v, h, X, Q => wpL F es v h X fun ds h => ds.length ≤ sizeLine ∧ Q (.tup ds) h
  | .lst f es, v, h, X, Q => wpL F es v h X fun ds h => lnew f ds h Q
  | .ix a i, v, h, X, Q => wpE F a v h X fun x h => wpE F i v h X fun y h => ixW x y h Q
  | .sl f m a lo hi, v, h, X, Q => match m with
    | .lo => wpE F a v h X fun x h => wpE F lo v h X fun l h => intI l fun l => slW f x (some l) none h Q
    | .hi => wpE F a v h X fun x h => wpE F hi v h X fun u h => intI u fun u => slW f x none (some u) h Q
    | .both => wpE F a v h X fun x h => wpE F lo v h X fun l h => intI l fun l => wpE F hi v h X fun u h => intI u fun u => slW f x (some l) (some u) h Q
  | .call f es, v, h, X, Q => wpL F es v h X fun ds h => F f ds h X Q
  | .blt b es, v, h, X, Q => wpL F es v h X fun ds h => bltW b ds h Q
  | .isi a cs, v, h, X, Q => wpE F a v h X fun d h => ∃ b, isiAny d h cs = some b ∧ Q (.bl b) h
  | .meth m o es, v, h, X, Q => wpE F o v h X fun x h => recvW m x h (wpL F es v h X fun ds h => methW m x ds h Q)
  | .meth0 m o, v, h, X, Q => wpE F o v h X fun x h => meth0W m x h Q
  | .comp f own t k it c e, v, h, X, Q => wpL F it v h X fun ds h => itW k ds h fun s xs =>
      compW s (fun d h K => tgW t d (wipeE v own) h fun v => K v h) (fun v h K => wpE F c v h NX fun d h => blW d fun b => K b h) (fun v h K => wpE F e v h NX K) xs [] h fun rs h => cpW f rs h Q
  | .rev f a, v, h, X, Q => wpE F a v h X fun d h => revW f d h Q
  | .rng t f k es, v, h, X, Q => wpL F es v h X fun ds h => rngW t f k ds h Q
  | .dop o a k z, v, h, X, Q => match o with
    | .get => wpE F a v h X fun x h => wpE F k v h X fun y h => dgetW x y h fun o => ∃ d, o = some d ∧ Q d h
    | .getD => wpE F a v h X fun x h => isDW x h ∧ wpE F k v h X fun y h => wpE F z v h X fun d h => dgetW x y h fun o => Q (o.getD d) h
    | .isin => wpE F k v h X fun y h => wpE F a v h X fun x h => dgetW x y h fun o => Q (.bl o.isSome) h
    | .notin => wpE F k v h X fun y h => wpE F a v h X fun x h => dgetW x y h fun o => Q (.bl (!o.isSome)) h
    | .srt f => wpE F a v h X fun x h => dsrtW f x h Q
  | .fld a f, v, h, X, Q => wpE F a v h X fun x h => match x with | .exc _ fs => ∃ d, fs.lookup f = some d ∧ Q d h | _ => False
  | .lam _ e, v, h, _, Q => wpE F e v h (fun x h => Q (.exc x.c x.fs) h) fun _ h => Q .non h
  | .frz a, v, h, X, Q => wpE F a v h X fun d h => match d with | .ref a => ∃ ds, h a = some (.lst ds) ∧ Q (.lst ds) (cut h a) | d => Q d h
  | _, _, _, _, _ => False
def wpL (F : FT) : E → Env' → AH → PX → (List D → AH → Prop) → Prop
  | .nil, _, h, _, Q => Q [] h
  | .cons a b, v, h, X, Q => wpE F a v h X fun d h => wpL F b v h X fun ds h => Q (d :: ds) h
  | _, _, _, _, _ => False
def wpA (F : FT) : E → Env' → AH → PX → PQ → Prop
  | .cons a b, v, h, X, Q => match b with
    | .nil => wpE F a v h X fun x h => blW x fun c => Q (.bl c) h
    | b => wpE F a v h X fun x h => blW x fun c => (c = true → wpA F b v h X Q) ∧ (c = false → Q (.bl false) h)
  | _, _, _, _, _ => False
def wpB (F : FT) : E → Env' → AH → PX → PQ → Prop
  | .cons a b, v, h, X, Q => match b with
    | .nil => wpE F a v h X fun x h => blW x fun c => Q (.bl c) h
    | b => wpE F a v h X fun x h => blW x fun c => (c = true → Q (.bl true) h) ∧ (c = false → wpB F b v h X Q)
  | _, _, _, _, _ => False
end
@[irreducible] def Cut (p : Prop) : Prop := p
theorem cut_in {p : Prop} (h : p) : Cut p := by unfold Cut; exact h
theorem cut_out {p : Prop} (h : Cut p) : p := by unfold Cut at h; exact h
structure Ends' where
  nx : PV
  rt : PQ
  bk : PV := fun _ _ => False
  ct : PV := fun _ _ => False
  xx : Exn → PV
def setW (o i d : D) (h : AH) (K : AH → Prop) : Prop :=
  match o, i with
  | .ref a, .int k => ∃ ds, h a = some (.lst ds) ∧ ∃ j, L2.ixN ds.length k = some j ∧ K (put h a (.lst (ds.set j d)))
  | _, _ => False
def forW (s : Src) (T : D → Env' → AH → PV → Prop) (B : PV → Env' → AH → Prop) (fin : PV) : List D → Env' → AH → Prop
  | [], v, h => still s h (fin v h)
  | x :: xs, v, h => still s h (T x v h fun v h => B (fun v h => forW s T B fin xs v h) v h)
def takesC (c : Nat) (x : Exn) : Bool := c == 0 || c == x.c
mutual
def wpS (F : FT) : S → Ends' → Env' → AH → Prop
  | .nil, D, v, h => D.nx v h
  | .cons s r, D, v, h => wpS F s { D with nx := fun v h => wpS F r D v h } v h
  | .expr e, D, v, h => wpE F e v h (fun x h => D.xx x v h) fun _ h => D.nx v h
  | .asg t e, D, v, h => wpE F e v h (fun x h => D.xx x v h) fun d h => tgW t d v h fun v => D.nx v h
  | .sub o i e, D, v, h => wpE F e v h (fun x h => D.xx x v h) fun d h => wpE F o v h (fun x h => D.xx x v h) fun x h => wpE F i v h (fun x h => D.xx x v h) fun y h => setW x y d h fun h => D.nx v h
  | .sub2 o i p j e, D, v, h => wpE F e v h (fun x h => D.xx x v h) fun d h => match d with
    | .tup [d1, d2] => wpE F o v h (fun x h => D.xx x v h) fun x h => wpE F i v h (fun x h => D.xx x v h) fun y h => setW x y d1 h fun h =>
        wpE F p v h (fun x h => D.xx x v h) fun x h => wpE F j v h (fun x h => D.xx x v h) fun y h => setW x y d2 h fun h => D.nx v h
    | _ => False
  | .dput o i e, D, v, h => wpE F e v h (fun x h => D.xx x v h) fun d h => wpE F o v h (fun x h => D.xx x v h) fun x h => wpE F i v h (fun x h => D.xx x v h) fun y h => dputW x y d h fun h => D.nx v h
  | .par i j a b, D, v, h => wpE F a v h (fun x h => D.xx x v h) fun x h => wpE F b v h (fun x h => D.xx x v h) fun y h => D.nx ((v.set i (some x)).set j (some y)) h
  | .ife t a b, D, v, h => wpE F t v h (fun x h => D.xx x v h) fun x h => blW x fun c => (c = true → wpS F a D v h) ∧ (c = false → wpS F b D v h)
  | .whl t b, D, v, h => ∃ W : Nat → Env' → AH → Prop, (∃ m, W m v h) ∧ ∀ m v h, W m v h → wpE F t v h (fun x h => D.xx x v h) fun x h => blW x fun c =>
      (c = true → wpS F b { D with nx := fun v h => ∃ m', m' < m ∧ W m' v h, ct := fun v h => ∃ m', m' < m ∧ W m' v h, bk := D.nx } v h) ∧ (c = false → D.nx v h)
  | .for t k it b, D, v, h => wpL F it v h (fun x h => D.xx x v h) fun ds h => itW k ds h fun s xs =>
      forW s (fun d v h K => tgW t d v h fun v => K v h) (fun nx v h => wpS F b { D with nx := nx, ct := nx, bk := D.nx } v h) D.nx xs v h
  | .ret e, D, v, h => wpE F e v h (fun x h => D.xx x v h) D.rt
  | .pass, D, v, h => D.nx v h
  | .brk, D, v, h => D.bk v h
  | .cnt, D, v, h => D.ct v h
  | .rse c fs es, D, v, h => match fs with
    | [] => D.xx ⟨c, []⟩ v h
    | f :: fs => wpL F es v h (fun x h => D.xx x v h) fun ds h => ds.length = fs.length + 1 ∧ D.xx ⟨c, ((f :: fs).zip ds).reverse⟩ v h
  | .cut s, D, v, h => Cut (wpS F s D v h)
  | .frzb i s, D, v, h => match v[i]? with
    | some (some (.ref a)) => ∃ ds, h a = some (.lst ds) ∧ wpS F s D (v.set i (some (.lst ds))) (cut h a)
    | _ => wpS F s D v h
  | .try_ b hs, D, v, h => wpS F b { D with xx := fun x v h => wpH F hs x D v h } v h
  | _, _, _, _ => False
def wpH (F : FT) : S → Exn → Ends' → Env' → AH → Prop
  | .hnil, x, D, v, h => D.xx x v h
  | .hnd c o b r, x, D, v, h => match takesC c x with
    | true => (match o with
      | some i => wpS F b { nx := fun v h => D.nx (v.set i none) h, rt := D.rt, bk := fun v h => D.bk (v.set i none) h, ct := fun v h => D.ct (v.set i none) h, xx := fun _ _ _ => False } (v.set i (some (.exc x.c x.fs))) h
      | none => wpS F b { D with xx := fun _ _ _ => False } v h)
    | false => wpH F r x D v h
  | _, _, _, _, _ => False
end
structure Fn where
  name : Str
  ps : List Str
  N : List Str
  body : S
def wpCall0 (P : Nat → Option Fn) : Nat → FT
  | 0, _, _, _, _, _ => False
  | k + 1, f, ds, h, X, Q => match P f with
    | some fn => ds.length = fn.ps.length ∧ wpS (wpCall0 P k) fn.body { nx := fun _ h' => ∃ h'', Sub h'' h' ∧ Q .non h'', rt := fun d h' => ∃ h'', Sub h'' h' ∧ Q d h'', xx := fun x _ h' => ∃ h'', Sub h'' h' ∧ X x h'' }
        (ds.map some ++ List.replicate (fn.N.length - ds.length) none) h
    | none => False
@[irreducible] def wpCall (P : Nat → Option Fn) (k : Nat) : FT := wpCall0 P k
theorem wpCall_eq {P : Nat → Option Fn} {k : Nat} : wpCall P k = wpCall0 P k := by unfold wpCall; rfl
theorem wpCall_zero {P : Nat → Option Fn} {f : Nat} {ds : List D} {h : AH} {X : PX} {Q : PQ} (w : wpCall P 0 f ds h X Q) : False := by rw [wpCall_eq] at w; exact w
theorem wpCall_succ {P : Nat → Option Fn} {k f : Nat} {ds : List D} {h : AH} {X : PX} {Q : PQ} {fn : Fn} (e : P f = some fn) : wpCall P (k + 1) f ds h X Q ↔ (ds.length = fn.ps.length ∧ wpS (wpCall P k) fn.body { nx := fun _ h' => ∃ h'', Sub h'' h' ∧ Q .non h'', rt := fun d h' => ∃ h'', Sub h'' h' ∧ Q d h'', xx := fun x _ h' => ∃ h'', Sub h'' h' ∧ X x h'' }
        (ds.map some ++ List.replicate (fn.N.length - ds.length) none) h) := by
  rw [wpCall_eq, wpCall_eq]
  unfold wpCall0
  rw [e]
end Ab
namespace Ab
open PySem PySem.Spec PyProof.Rows L2
def exT (a C : Addr) (d : Option Addr) : HO := .ext fun h => ∃ (oe : Obj) (vs : Array Value), h.get? a = some oe ∧ Zc (.ref C) d oe ∧ oe.data = .fields vs
structure CAT where
  cls : Nat → Option Addr
  tabs : List (Addr × Str)
  kt : Bool
instance : CoeFun CAT fun _ => Nat → Option Addr := ⟨CAT.cls⟩
def FnOut (K : PySem.W.Frag) (C : Addr) (fs : List (Str × D)) : Prop := ∀ f ∈ fs.map (·.1), PySem.W.findIn K (.ref C) f = some none
structure TqT (K : PySem.W.Frag) (CA : CAT) (Z : Hp) (a : Addr) (xs : List V) : Prop where
  sq : SqT K Z a xs
  nk : CA.kt = false → Z a = some (.tup xs)
theorem TqT.of {K : PySem.W.Frag} {CA : CAT} {Z : Hp} {a : Addr} {xs : List V} (e : Z a = some (.tup xs)) : TqT K CA Z a xs := ⟨.of e, fun _ => e⟩
mutual
inductive VR (K : PySem.W.Frag) (CA : CAT) (Z : Hp) : V → D → Prop
  | non : VR K CA Z .non .non
  | bl (b : Bool) : VR K CA Z (.bl b) (.bl b)
  | int (i : Int) : VR K CA Z (.int i) (.int i)
  | str (s : Str) : VR K CA Z (.str s) (.str s)
  | tup {a : Addr} {xs : List V} {ds : List D} : TqT K CA Z a xs → VRs K CA Z xs ds → VR K CA Z (.ref a) (.tup ds)
  | lst {a : Addr} {xs : List V} {ds : List D} : Z a = some (.lst xs) → VRs K CA Z xs ds → VR K CA Z (.ref a) (.lst ds)
  | scr {a : Addr} {xs : List V} {ds : List D} : SqL K Z a xs → VRs K CA Z xs ds → VR K CA Z (.ref a) (.scr ds)
  | ref (a : Addr) : VR K CA Z (.ref a) (.ref a)
  | exc {a C : Addr} {c : Nat} : CA c = some C → Z a = some (exT a C none) → VR K CA Z (.ref a) (.exc c [])
  | excF {a C dd : Addr} {c : Nat} {gs : List (Str × V)} {fs : List (Str × D)} : CA c = some C → Z a = some (exT a C (some dd)) → Z dd = some (.xd gs) → FRs K CA Z gs fs → FnOut K C fs → VR K CA Z (.ref a) (.exc c fs)
inductive VRs (K : PySem.W.Frag) (CA : CAT) (Z : Hp) : List V → List D → Prop
  | nil : VRs K CA Z [] []
  | cons {x : V} {d : D} {xs : List V} {ds : List D} : VR K CA Z x d → VRs K CA Z xs ds → VRs K CA Z (x :: xs) (d :: ds)
inductive FRs (K : PySem.W.Frag) (CA : CAT) (Z : Hp) : List (Str × V) → List (Str × D) → Prop
  | nil : FRs K CA Z [] []
  | cons {f : Str} {x : V} {d : D} {xs : List (Str × V)} {ds : List (Str × D)} : VR K CA Z x d → FRs K CA Z xs ds → FRs K CA Z ((f, x) :: xs) ((f, d) :: ds)
end
def Ext (Z Z' : Hp) : Prop := ∀ a o, Z a = some o → Z' a = some o
theorem Ext.refl (Z : Hp) : Ext Z Z := fun _ _ h => h
theorem Ext.trans {A B C : Hp} (x : Ext A B) (y : Ext B C) : Ext A C := fun a o h => y a o (x a o h)
theorem rd_mono {Z Z' : Hp} (e : Ext Z Z') {a : Addr} {u : HO} (h : Rd Z a u) : Rd Z' a u := by
  rcases h with h | ⟨o, h⟩
  · exact .inl (e _ _ h)
  · exact .inr ⟨o, e _ _ h⟩
theorem sqT_mono {K : PySem.W.Frag} {Z Z' : Hp} (e : Ext Z Z') {a : Addr} {xs : List V} (h : SqT K Z a xs) : SqT K Z' a xs := h.imp (rd_mono e) id
theorem sqL_mono {K : PySem.W.Frag} {Z Z' : Hp} (e : Ext Z Z') {a : Addr} {xs : List V} (h : SqL K Z a xs) : SqL K Z' a xs := h.imp (rd_mono e) id
section
variable {K : PySem.W.Frag} {CA : CAT} {Z Z' : Hp}
mutual
theorem VR.mono (e : Ext Z Z') : ∀ {x : V} {d : D}, VR K CA Z x d → VR K CA Z' x d
  | _, _, .non => .non
  | _, _, .bl b => .bl b
  | _, _, .int i => .int i
  | _, _, .str s => .str s
  | _, _, .tup h r => .tup ⟨sqT_mono e h.sq, fun z => e _ _ (h.nk z)⟩ (VRs.mono e r)
  | _, _, .lst h r => .lst (e _ _ h) (VRs.mono e r)
  | _, _, .scr h r => .scr (sqL_mono e h) (VRs.mono e r)
  | _, _, .ref a => .ref a
  | _, _, .exc h r => .exc h (e _ _ r)
  | _, _, .excF h r1 r2 r3 r4 => .excF h (e _ _ r1) (e _ _ r2) (FRs.mono e r3) r4
theorem VRs.mono (e : Ext Z Z') : ∀ {xs : List V} {ds : List D}, VRs K CA Z xs ds → VRs K CA Z' xs ds
  | _, _, .nil => .nil
  | _, _, .cons h r => .cons (VR.mono e h) (VRs.mono e r)
theorem FRs.mono (e : Ext Z Z') : ∀ {xs : List (Str × V)} {ds : List (Str × D)}, FRs K CA Z xs ds → FRs K CA Z' xs ds
  | _, _, .nil => .nil
  | _, _, .cons h r => .cons (VR.mono e h) (FRs.mono e r)
end
theorem FRs.get : ∀ {xs : List (Str × V)} {ds : List (Str × D)} {f : Str} {d : D}, FRs K CA Z xs ds → ds.lookup f = some d → ∃ x, xs.lookup f = some x ∧ VR K CA Z x d
  | _, _, _, _, .nil, e => by cases e
  | _, _, f, d, .cons (f := g) r t, e => by
    rw [List.lookup_cons] at e ⊢
    split at e
    · cases e
      exact ⟨_, rfl, r⟩
    · exact FRs.get t e
theorem FRs.zip : ∀ (ns : List Str) {xs : List V} {ds : List D}, VRs K CA Z xs ds → FRs K CA Z (ns.zip xs) (ns.zip ds)
  | [], _, _, _ => by rw [List.zip_nil_left, List.zip_nil_left]; exact .nil
  | _ :: _, _, _, .nil => by rw [List.zip_nil_right, List.zip_nil_right]; exact .nil
  | _ :: ns, _, _, .cons r t => .cons r (FRs.zip ns t)
theorem FRs.append : ∀ {xs ys : List (Str × V)} {ds es : List (Str × D)}, FRs K CA Z xs ds → FRs K CA Z ys es → FRs K CA Z (xs ++ ys) (ds ++ es)
  | _, _, _, _, .nil, s => s
  | _, _, _, _, .cons r t, s => .cons r (FRs.append t s)
theorem FRs.reverse : ∀ {xs : List (Str × V)} {ds : List (Str × D)}, FRs K CA Z xs ds → FRs K CA Z xs.reverse ds.reverse
  | _, _, .nil => .nil
  | _, _, .cons q t => by
    rw [List.reverse_cons, List.reverse_cons]
    exact FRs.append (FRs.reverse t) (.cons q .nil)
theorem VRs.len : ∀ {xs : List V} {ds : List D}, VRs K CA Z xs ds → xs.length = ds.length
  | _, _, .nil => rfl
  | _, _, .cons _ r => congrArg (· + 1) r.len
theorem VRs.get : ∀ {xs : List V} {ds : List D} {i : Nat} {d : D}, VRs K CA Z xs ds → ds[i]? = some d → ∃ x, xs[i]? = some x ∧ VR K CA Z x d
  | _, _, _, _, .nil, e => by simp at e
  | _, _, 0, _, .cons r _, e => by simp at e; subst e; exact ⟨_, rfl, r⟩
  | _, _, i + 1, _, .cons _ t, e => by
    obtain ⟨x, h1, h2⟩ := VRs.get (i := i) t (by simpa using e)
    exact ⟨x, by simpa using h1, h2⟩
theorem VRs.set {x : V} {d : D} (r : VR K CA Z x d) : ∀ {xs : List V} {ds : List D} (i : Nat), VRs K CA Z xs ds → VRs K CA Z (xs.set i x) (ds.set i d)
  | _, _, _, .nil => .nil
  | _, _, 0, .cons _ t => .cons r t
  | _, _, i + 1, .cons q t => .cons q (VRs.set r i t)
theorem VRs.append : ∀ {xs ys : List V} {ds es : List D}, VRs K CA Z xs ds → VRs K CA Z ys es → VRs K CA Z (xs ++ ys) (ds ++ es)
  | _, _, _, _, .nil, s => s
  | _, _, _, _, .cons r t, s => .cons r (VRs.append t s)
theorem VRs.rep : ∀ (k : Nat) {xs : List V} {ds : List D}, VRs K CA Z xs ds → VRs K CA Z (List.replicate k xs).flatten (List.replicate k ds).flatten
  | 0, _, _, _ => .nil
  | k + 1, _, _, r => by
    rw [List.replicate_succ, List.replicate_succ, List.flatten_cons, List.flatten_cons]
    exact VRs.append r (VRs.rep k r)
theorem VRs.reverse : ∀ {xs : List V} {ds : List D}, VRs K CA Z xs ds → VRs K CA Z xs.reverse ds.reverse
  | _, _, .nil => .nil
  | _, _, .cons q t => by
    rw [List.reverse_cons, List.reverse_cons]
    exact VRs.append (VRs.reverse t) (.cons q .nil)
theorem VRs.dropLast : ∀ {xs : List V} {ds : List D}, VRs K CA Z xs ds → VRs K CA Z xs.dropLast ds.dropLast
  | _, _, .nil => .nil
  | _, _, .cons q .nil => .nil
  | _, _, .cons q (.cons q' t) => .cons q (VRs.dropLast (.cons q' t))
theorem VRs.erase : ∀ (i : Nat) {xs : List V} {ds : List D}, VRs K CA Z xs ds → VRs K CA Z (xs.eraseIdx i) (ds.eraseIdx i)
  | _, _, _, .nil => .nil
  | 0, _, _, .cons q t => t
  | i + 1, _, _, .cons q t => .cons q (VRs.erase i t)
theorem VRs.take : ∀ {xs : List V} {ds : List D} (n : Nat), VRs K CA Z xs ds → VRs K CA Z (xs.take n) (ds.take n)
  | _, _, 0, _ => .nil
  | _, _, _ + 1, .nil => .nil
  | _, _, n + 1, .cons r t => .cons r (VRs.take n t)
theorem VRs.drop : ∀ {xs : List V} {ds : List D} (n : Nat), VRs K CA Z xs ds → VRs K CA Z (xs.drop n) (ds.drop n)
  | _, _, 0, r => r
  | _, _, _ + 1, .nil => .nil
  | _, _, n + 1, .cons _ t => VRs.drop n t
theorem VRs.ints : ∀ {xs : List V} {ns : List Int}, VRs K CA Z xs (ns.map D.int) → xs = ns.map V.int
  | _, [], .nil => rfl
  | _, n :: ns, .cons r t => by cases r; rw [List.map_cons, VRs.ints t]
theorem VRs.bools : ∀ {xs : List V} {ns : List Bool}, VRs K CA Z xs (ns.map D.bl) → xs = ns.map V.bl
  | _, [], .nil => rfl
  | _, n :: ns, .cons r t => by cases r; rw [List.map_cons, VRs.bools t]
theorem VRs.of_ints : ∀ ns : List Int, VRs K CA Z (ns.map V.int) (ns.map D.int)
  | [] => .nil
  | n :: ns => .cons (.int n) (VRs.of_ints ns)
end
abbrev DRs (K : PySem.W.Frag) (CA : CAT) (Z : Hp) (vs : List (List L2.Key × V)) (ks : List (List Int × D)) : Prop := Paired (fun (p : List L2.Key × V) (q : List Int × D) => p.1 = q.1.map Sum.inl ∧ VR K CA Z p.2 q.2) vs ks
theorem inl_inj : ∀ {a b : List Int}, a.map (Sum.inl : Int → L2.Key) = b.map Sum.inl ↔ a = b := by
  intro a b
  constructor
  · intro h
    exact (List.map_inj_right (f := (Sum.inl : Int → L2.Key)) fun x y e => by cases e; rfl).mp h
  · intro h; rw [h]
theorem DRs.mono {K : PySem.W.Frag} {CA : CAT} {Z Z' : Hp} (e : Ext Z Z') {vs : List (List L2.Key × V)} {ks : List (List Int × D)} (r : DRs K CA Z vs ks) : DRs K CA Z' vs ks := by
  unfold DRs at r ⊢
  induction r with
  | nil => exact .nil
  | cons h t ih => exact .cons ⟨h.1, h.2.mono e⟩ ih
def OR (K : PySem.W.Frag) (CA : CAT) (Z : Hp) : Option V → Option D → Prop
  | none, none => True
  | some x, some d => VR K CA Z x d
  | _, _ => False
theorem DRs.val {K : PySem.W.Frag} {CA : CAT} {Z : Hp} {vs : List (List L2.Key × V)} {ks : List (List Int × D)} (r : DRs K CA Z vs ks) (n : List Int) : OR K CA Z (valV vs (n.map Sum.inl)) (lookD ks n) := by
  unfold DRs at r
  induction r with
  | nil => exact True.intro
  | @cons p q ps qs h t ih =>
    by_cases e : q.1 = n
    · have e' : p.1 = n.map Sum.inl := by rw [h.1, e]
      have b : lookD (q :: qs) n = some q.2 := by simp [lookD, List.find?_cons, e]
      rw [valV_pos e', b]; exact h.2
    · have e' : ¬ p.1 = n.map Sum.inl := fun z => e (inl_inj.mp (h.1.symm.trans z))
      have b : lookD (q :: qs) n = lookD qs n := by simp [lookD, List.find?_cons, e]
      rw [valV_neg e', b]; exact ih
theorem DRs.any {K : PySem.W.Frag} {CA : CAT} {Z : Hp} {vs : List (List L2.Key × V)} {ks : List (List Int × D)} (r : DRs K CA Z vs ks) (n : List Int) : (vs.any fun kv => decide (kv.1 = n.map Sum.inl)) = ks.any fun kv => decide (kv.1 = n) := by
  unfold DRs at r
  induction r with
  | nil => rfl
  | @cons p q ps qs h t ih =>
    rw [List.any_cons, List.any_cons, ih, h.1]
    congr 1
    exact decide_eq_decide.mpr inl_inj
theorem DRs.put {K : PySem.W.Frag} {CA : CAT} {Z : Hp} {vs : List (List L2.Key × V)} {ks : List (List Int × D)} (r : DRs K CA Z vs ks) (n : List Int) {x : V} {d : D} (rx : VR K CA Z x d) : DRs K CA Z (putK vs (n.map Sum.inl) x) (putD ks n d) := by
  unfold putK putD
  rw [r.any n]
  split
  · rename_i hc
    clear hc
    unfold DRs at r ⊢
    induction r with
    | nil => exact .nil
    | @cons p q ps qs h t ih =>
      rw [List.map_cons, List.map_cons]
      refine .cons ?_ ih
      by_cases e : q.1 = n
      · rw [if_pos e, if_pos (show p.1 = n.map Sum.inl by rw [h.1, e])]; exact ⟨h.1, rx⟩
      · rw [if_neg e, if_neg (fun z => e (inl_inj.mp (h.1.symm.trans z)))]; exact h
  · exact Paired.snoc r ⟨rfl, rx⟩
theorem DRs.len {K : PySem.W.Frag} {CA : CAT} {Z : Hp} {vs : List (List L2.Key × V)} {ks : List (List Int × D)} (r : DRs K CA Z vs ks) : vs.length = ks.length := Paired.length r
theorem DRs.keys {K : PySem.W.Frag} {CA : CAT} {Z : Hp} {vs : List (List L2.Key × V)} {ks : List (List Int × D)} (r : DRs K CA Z vs ks) : vs.map (·.1) = (ks.map (·.1)).map (fun k => k.map Sum.inl) := by
  unfold DRs at r
  induction r with
  | nil => rfl
  | cons h t ih => rw [List.map_cons, List.map_cons, List.map_cons, ih, h.1]
def CR (K : PySem.W.Frag) (CA : CAT) (Z : Hp) : Option HO → Cell → Prop
  | some (.lst xs), .lst ds => VRs K CA Z xs ds
  | some (.dT vs), .dct ks => DRs K CA Z vs ks
  | _, _ => False
theorem CR.mono {K : PySem.W.Frag} {CA : CAT} {Z Z' : Hp} (e : Ext Z Z') {o : Option HO} {c : Cell} (h : CR K CA Z o c) : CR K CA Z' o c := by
  unfold CR at h ⊢
  split at h
  · exact h.mono e
  · exact DRs.mono e h
  · exact h.elim
def isTbl : HO → Bool
  | .tbl _ => true
  | _ => false
def plO : HO → Bool
  | .tbl _ => false
  | .ext _ => false
  | _ => true
theorem tabs_new {T : List (Addr × Str)} {H : Hp} {p : Addr} {o : HO} (t : LamX.Tabs T H) (e : H p = none) : LamX.Tabs T (upd H p o) := t.ext fun b u q => by rw [upd_ne (ne_of_none q e)]; exact q
theorem tabs_write {T : List (Addr × Str)} {H : Hp} {p : Addr} {o u : HO} (t : LamX.Tabs T H) (e : H p = some u) (hu : plO u = true) : LamX.Tabs T (upd H p o) := fun q hq => by
  obtain ⟨ps, h1, h2, h3⟩ := t q hq
  refine ⟨ps, ?_, h2, fun pos cv hc => ?_⟩
  · rw [upd_ne (fun z => by rw [z, e] at h1; cases h1; cases hu)]; exact h1
  · obtain ⟨c, e1, e2⟩ := h3 pos cv hc
    refine ⟨c, e1, ?_⟩
    rw [upd_ne (fun z => by
      rw [z, e] at e2
      rw [Option.some.inj e2] at hu
      cases hu)]
    exact e2
structure HR (K : PySem.W.Frag) (CA : CAT) (R Z : Hp) (h : AH) (H : Hp) : Prop where
  sub : Ext Z H
  fr : ∀ a o, R a = some o → H a = some o ∧ Z a = none ∧ h a = none
  cell : ∀ a c, h a = some c → Z a = none ∧ CR K CA Z (H a) c
  tab : LamX.Tabs CA.tabs H
  nt : ∀ a o, Z a = some o ∨ R a = some o → isTbl o = false
  rl : ∀ a xs, R a ≠ some (.tup xs)
theorem CR.plO {K : PySem.W.Frag} {CA : CAT} {Z : Hp} {o : HO} {c : Cell} (h : CR K CA Z (some o) c) : Ab.plO o = true := by
  unfold CR at h
  split at h
  · rename_i e
    cases e; rfl
  · rename_i e
    cases e; rfl
  · exact h.elim
theorem HR.at {K : PySem.W.Frag} {CA : CAT} {R Z : Hp} {h : AH} {H : Hp} (r : HR K CA R Z h H) {a : Addr} {c : Cell} (e : h a = some c) : ∃ o, H a = some o ∧ plO o = true := by
  obtain ⟨z, q⟩ := r.cell _ _ e
  cases x : H a with
  | some o => rw [x] at q; exact ⟨o, rfl, q.plO⟩
  | none => rw [x] at q; exact q.elim
structure SR (K : PySem.W.Frag) (CA : CAT) (R Z : Hp) (v : Env') (h : AH) (σ : L2.St) (H : Hp) : Prop extends HR K CA R Z h H where
  env : ∀ (i : Nat) d, v[i]? = some (some d) → ∃ x, σ[i]? = some (some x) ∧ VR K CA Z x d
  len : v.length = σ.length
section
variable {K : PySem.W.Frag} {CA : CAT} {R Z Z' : Hp} {v : Env'} {h : AH} {σ : L2.St} {H : Hp}
theorem HR.lst (r : HR K CA R Z h H) {a : Addr} {ds : List D} (e : h a = some (.lst ds)) : ∃ xs, H a = some (.lst xs) ∧ VRs K CA Z xs ds ∧ Z a = none := by
  obtain ⟨z, c⟩ := r.cell _ _ e
  revert c
  cases H a with
  | none => intro c; exact c.elim
  | some o =>
    cases o with
    | lst xs => intro c; exact ⟨xs, rfl, c, z⟩
    | _ => intro c; exact c.elim
theorem HR.dct (r : HR K CA R Z h H) {a : Addr} {ks : List (List Int × D)} (e : h a = some (.dct ks)) : ∃ vs, H a = some (.dT vs) ∧ DRs K CA Z vs ks ∧ Z a = none := by
  obtain ⟨z, c⟩ := r.cell _ _ e
  revert c
  cases H a with
  | none => intro c; exact c.elim
  | some o =>
    cases o with
    | dT vs => intro c; exact ⟨vs, rfl, c, z⟩
    | _ => intro c; exact c.elim
theorem HR.there (r : HR K CA R Z h H) {a : Addr} {c : Cell} (e : h a = some c) : ∃ o, H a = some o := by
  obtain ⟨z, q⟩ := r.cell _ _ e
  cases x : H a with
  | some o => exact ⟨o, rfl⟩
  | none => rw [x] at q; exact q.elim
theorem HR.free (r : HR K CA R Z h H) {p : Addr} (e : H p = none) : h p = none := by
  cases q : h p with
  | none => rfl
  | some c =>
    obtain ⟨o, x⟩ := r.there q
    rw [e] at x; cases x
theorem HR.freeZ (r : HR K CA R Z h H) {p : Addr} (e : H p = none) : Z p = none := by
  cases q : Z p with
  | none => rfl
  | some c => rw [r.sub _ _ q] at e; cases e
theorem ext_new {p : Addr} {o : HO} (e : Z p = none) : Ext Z (upd Z p o) := fun a u q => by
  rw [upd_ne (ne_of_none q e)]; exact q
theorem HR.fresh (r : HR K CA R Z h H) {p : Addr} (o : HO) (e : H p = none) (hn : isTbl o = false := by rfl) : HR K CA R (upd Z p o) h (upd H p o) where
  rl := r.rl
  tab := tabs_new r.tab e
  nt := fun a u q => by
    rcases q with q | q
    · by_cases x : a = p
      · subst x; rw [upd_same] at q; cases q; exact hn
      · rw [upd_ne x] at q; exact r.nt _ _ (.inl q)
    · exact r.nt _ _ (.inr q)
  sub := fun a u q => by
    by_cases x : a = p
    · subst x; rw [upd_same] at q ⊢; exact q
    · rw [upd_ne x] at q ⊢; exact r.sub _ _ q
  cell := fun a c q => by
    obtain ⟨u, x⟩ := r.there q
    have n : a ≠ p := ne_of_none x e
    obtain ⟨z, y⟩ := r.cell _ _ q
    rw [upd_ne n, upd_ne n]
    exact ⟨z, y.mono (ext_new (r.freeZ e))⟩
  fr := fun a u q => by
    obtain ⟨x, y, z⟩ := r.fr _ _ q
    have n : a ≠ p := ne_of_none x e
    rw [upd_ne n, upd_ne n]
    exact ⟨x, y, z⟩
theorem HR.new (r : HR K CA R Z h H) {p : Addr} {o : HO} {c : Cell} (e : H p = none) (q : CR K CA Z (some o) c) : HR K CA R Z (put h p c) (upd H p o) where
  rl := r.rl
  tab := tabs_new r.tab e
  nt := r.nt
  sub := fun a u x => by rw [upd_ne (ne_of_none x (r.freeZ e))]; exact r.sub _ _ x
  cell := fun a c' x => by
    unfold put at x
    by_cases y : a = p
    · subst y
      rw [if_pos rfl] at x; cases x
      rw [upd_same]
      exact ⟨r.freeZ e, q⟩
    · rw [if_neg y] at x
      rw [upd_ne y]
      exact r.cell _ _ x
  fr := fun a u q => by
    obtain ⟨x, y, z⟩ := r.fr _ _ q
    have n : a ≠ p := ne_of_none x e
    rw [upd_ne n]
    refine ⟨x, y, ?_⟩
    unfold put
    rw [if_neg n]; exact z
theorem HR.write (r : HR K CA R Z h H) {p : Addr} {o : HO} {c c' : Cell} (e : h p = some c) (q : CR K CA Z (some o) c') : HR K CA R Z (put h p c') (upd H p o) where
  rl := r.rl
  tab := let ⟨u, e1, e2⟩ := r.at e; tabs_write r.tab e1 e2
  nt := r.nt
  sub := fun a u x => by
    have n : a ≠ p := fun y => by subst y; rw [(r.cell _ _ e).1] at x; cases x
    rw [upd_ne n]; exact r.sub _ _ x
  cell := fun a c'' x => by
    unfold put at x
    by_cases y : a = p
    · subst y
      rw [if_pos rfl] at x; cases x
      rw [upd_same]
      exact ⟨(r.cell _ _ e).1, q⟩
    · rw [if_neg y] at x
      rw [upd_ne y]
      exact r.cell _ _ x
  fr := fun a u q => by
    obtain ⟨x, y, z⟩ := r.fr _ _ q
    have n : a ≠ p := fun w => by subst w; rw [e] at z; cases z
    rw [upd_ne n]
    refine ⟨x, y, ?_⟩
    unfold put
    rw [if_neg n]; exact z
theorem HR.frz (r : HR K CA R Z h H) {p : Addr} {o : HO} {c : Cell} (e : h p = some c) (q : H p = some o) : HR K CA R (upd Z p o) (cut h p) H where
  rl := r.rl
  tab := r.tab
  nt := fun a u x => by
    rcases x with x | x
    · by_cases y : a = p
      · subst y
        rw [upd_same] at x; cases x
        obtain ⟨u, e1, e2⟩ := r.at e
        rw [q] at e1; cases e1
        revert e2
        cases o <;> first
          | exact fun _ => rfl
          | exact fun z => nomatch z
      · rw [upd_ne y] at x; exact r.nt _ _ (.inl x)
    · exact r.nt _ _ (.inr x)
  sub := fun a u x => by
    by_cases y : a = p
    · subst y; rw [upd_same] at x; cases x; exact q
    · rw [upd_ne y] at x; exact r.sub _ _ x
  cell := fun a c' x => by
    unfold cut at x
    by_cases y : a = p
    · rw [if_pos y] at x; cases x
    · rw [if_neg y] at x
      obtain ⟨z, w⟩ := r.cell _ _ x
      rw [upd_ne y]
      exact ⟨z, w.mono (ext_new (r.cell _ _ e).1)⟩
  fr := fun a u q => by
    obtain ⟨x, y, z⟩ := r.fr _ _ q
    have n : a ≠ p := fun w => by subst w; rw [e] at z; cases z
    rw [upd_ne n]
    refine ⟨x, y, ?_⟩
    unfold cut
    rw [if_neg n]; exact z
theorem HR.adopt (r : HR K CA R Z h H) {p : Addr} {xs : List V} (e : H p = some (.tup xs)) : ∃ Z', Ext Z Z' ∧ Z' p = some (.tup xs) ∧ HR K CA R Z' h H := by
  by_cases z : Z p = none
  · refine ⟨upd Z p (.tup xs), ext_new z, upd_same, ?_, ?_, ?_, r.tab, ?_, r.rl⟩
    · intro a o q
      by_cases x : a = p
      · subst x; rw [upd_same] at q; cases q; exact e
      · rw [upd_ne x] at q; exact r.sub _ _ q
    · intro a o q
      obtain ⟨x, y, w⟩ := r.fr _ _ q
      have n : a ≠ p := fun n => by subst n; rw [e] at x; cases x; exact r.rl _ _ q
      rw [upd_ne n]
      exact ⟨x, y, w⟩
    · intro a c q
      obtain ⟨x, y⟩ := r.cell _ _ q
      have n : a ≠ p := fun n => by
        subst n
        rw [e] at y
        cases c <;> exact y
      rw [upd_ne n]
      exact ⟨x, y.mono (ext_new z)⟩
    · intro a o q
      rcases q with q | q
      · by_cases x : a = p
        · subst x; rw [upd_same] at q; cases q; rfl
        · rw [upd_ne x] at q; exact r.nt _ _ (.inl q)
      · exact r.nt _ _ (.inr q)
  · cases q : Z p with
    | none => exact absurd q z
    | some o =>
      have := r.sub _ _ q
      rw [e] at this
      cases this
      exact ⟨Z, Ext.refl Z, q, r⟩
theorem HR.less {h' : AH} (r : HR K CA R Z h H) (s : Sub h' h) : HR K CA R Z h' H := ⟨r.sub, fun a o q => ⟨(r.fr a o q).1, (r.fr a o q).2.1, by
  cases x : h' a with
  | none => rfl
  | some c => have y := s a c x; rw [(r.fr a o q).2.2] at y; cases y⟩, fun a c q => r.cell a c (s a c q), r.tab, r.nt, r.rl⟩
theorem HR.extN {H' : Hp} (r : HR K CA R Z h H) (e : LamX.ExtN H H') (t : LamX.Tabs CA.tabs H') : HR K CA R Z h H' :=
  have nt : ∀ {a o}, H a = some o → isTbl o = false → H' a = some o := fun {a o} x y => e a o x fun ps z => by rw [z] at y; cases y
  ⟨fun a o x => nt (r.sub _ _ x) (r.nt _ _ (.inl x)), fun a o x => ⟨nt (r.fr _ _ x).1 (r.nt _ _ (.inr x)), (r.fr _ _ x).2⟩, fun a c x => by
    obtain ⟨u, e1, e2⟩ := r.at x
    have q := r.cell _ _ x
    rw [nt e1 (by revert e2; cases u <;> first | exact fun _ => rfl | exact fun z => nomatch z)]
    rw [e1] at q
    exact q, t, r.nt, r.rl⟩
theorem SR.with {Z' : Hp} {h' : AH} {H' : Hp} (r : SR K CA R Z v h σ H) (e : Ext Z Z') (q : HR K CA R Z' h' H') : SR K CA R Z' v h' σ H' :=
  ⟨q, fun i d x => let ⟨y, a, b⟩ := r.env i d x; ⟨y, a, b.mono e⟩, r.len⟩
theorem SR.set (r : SR K CA R Z v h σ H) (i : Nat) {x : V} {d : D} (q : VR K CA Z x d) : SR K CA R Z (v.set i (some d)) h (σ.set i (some x)) H := by
  refine ⟨r.toHR, fun j e y => ?_, by simpa using r.len⟩
  by_cases z : i = j
  · subst z
    by_cases l : i < v.length
    · rw [List.getElem?_set_self l] at y
      cases y
      exact ⟨x, List.getElem?_set_self (by rw [← r.len]; exact l), q⟩
    · rw [List.getElem?_eq_none (by simpa using Nat.le_of_not_lt l)] at y; cases y
  · rw [List.getElem?_set_ne z] at y ⊢
    exact r.env j e y
theorem SR.unset (r : SR K CA R Z v h σ H) (i : Nat) : SR K CA R Z (v.set i none) h (σ.set i none) H := by
  refine ⟨r.toHR, fun j e y => ?_, by simpa using r.len⟩
  by_cases z : i = j
  · subst z
    by_cases l : i < v.length
    · rw [List.getElem?_set_self l] at y
      cases y
    · rw [List.getElem?_eq_none (by simpa using Nat.le_of_not_lt l)] at y; cases y
  · rw [List.getElem?_set_ne z] at y ⊢
    exact r.env j e y
theorem SR.wipe (r : SR K CA R Z v h σ H) : ∀ is : List Nat, SR K CA R Z (wipeE v is) h (wipe σ is) H
  | [] => r
  | i :: is => (SR.wipe r is).unset i
theorem SR.of (r : HR K CA R Z h H) {xs : List V} {ds : List D} (q : VRs K CA Z xs ds) (n : Nat) : SR K CA R Z (ds.map some ++ List.replicate n none) h (xs.map some ++ List.replicate n none) H := by
  refine ⟨r, fun i d y => ?_, by simp [q.len]⟩
  by_cases l : i < ds.length
  · rw [List.getElem?_append_left (by simpa using l), List.getElem?_map] at y
    have l2 : i < xs.length := by rw [q.len]; exact l
    rw [List.getElem?_append_left (by simpa using l2), List.getElem?_map]
    cases z : ds[i]? with
    | none => rw [z] at y; cases y
    | some d' =>
      rw [z] at y; cases y
      obtain ⟨x, a, b⟩ := q.get z
      exact ⟨x, by rw [a]; rfl, b⟩
  · rw [List.getElem?_append_right (by simpa using Nat.le_of_not_lt l), List.getElem?_replicate] at y
    split at y
    · cases y
    · cases y
end
inductive XR (K : PySem.W.Frag) (CA : CAT) (Z : Hp) : Value → Option Addr → Exn → Prop
  | plain {C : Addr} {c : Nat} : CA c = some C → XR K CA Z (.ref C) none ⟨c, []⟩
  | flds {C dd : Addr} {c : Nat} {gs : List (Str × V)} {fs : List (Str × D)} : CA c = some C → Z dd = some (.xd gs) → FRs K CA Z gs fs → FnOut K C fs → XR K CA Z (.ref C) (some dd) ⟨c, fs⟩
theorem XR.mono {K : PySem.W.Frag} {CA : CAT} {Z Z' : Hp} (e : Ext Z Z') {cls : Value} {dd : Option Addr} {x : Exn} (h : XR K CA Z cls dd x) : XR K CA Z' cls dd x := by
  cases h with
  | plain h => exact .plain h
  | flds h r1 r2 r3 => exact .flds h (e _ _ r1) (r2.mono e) r3
theorem XR.cls {K : PySem.W.Frag} {CA : CAT} {Z : Hp} {cls : Value} {dd : Option Addr} {x : Exn} (h : XR K CA Z cls dd x) : ∃ C, cls = .ref C ∧ CA x.c = some C := by
  cases h with
  | plain h => exact ⟨_, rfl, h⟩
  | flds h _ _ _ => exact ⟨_, rfl, h⟩
theorem XR.val {K : PySem.W.Frag} {CA : CAT} {Z : Hp} {C : Addr} {dd : Option Addr} {x : Exn} (h : XR K CA Z (.ref C) dd x) {a : Addr} (e : Z a = none) : VR K CA (upd Z a (exT a C dd)) (.ref a) (.exc x.c x.fs) := by
  have ex : Ext Z (upd Z a (exT a C dd)) := ext_new e
  cases h with
  | plain h => exact .exc h upd_same
  | flds h r1 r2 r3 => exact .excF h upd_same (ex _ _ r1) (r2.mono ex) r3
section
variable (K : PySem.W.Frag) (CA : CAT)
def KQ (R Z : Hp) (v : Env') (σ : L2.St) (Qd : PQ) (Q : VK) : Prop := ∀ Z' h' x d H', Ext Z Z' → SR K CA R Z' v h' σ H' → VR K CA Z' x d → Qd d h' → Q x H'
def KL (R Z : Hp) (v : Env') (σ : L2.St) (Qd : List D → AH → Prop) (Q : List V → Hp → Prop) : Prop := ∀ Z' h' xs ds H', Ext Z Z' → SR K CA R Z' v h' σ H' → VRs K CA Z' xs ds → Qd ds h' → Q xs H'
def KX (R Z : Hp) (σ : L2.St) (X : PX) (W : WX) : Prop := ∀ Z' h' x cls dd H', Ext Z Z' → HR K CA R Z' h' H' → XR K CA Z' cls dd x → X x h' → W cls dd σ H'
def rdE (W : WX) (F : FT) (e : E) : TE := fun σ H Q => ∃ R Z v h X Qd, SR K CA R Z v h σ H ∧ wpE F e v h X Qd ∧ KQ K CA R Z v σ Qd Q ∧ KX K CA R Z σ X W
def rdL (W : WX) (F : FT) (e : E) : TA := fun σ H Q => ∃ R Z v h X Qd, SR K CA R Z v h σ H ∧ wpL F e v h X Qd ∧ KL K CA R Z v σ Qd Q ∧ KX K CA R Z σ X W
structure KD (R Z : Hp) (Dd : Ends') (D : Ends) (W : WX) : Prop where
  nx : ∀ Z' v' h' σ' H', Ext Z Z' → SR K CA R Z' v' h' σ' H' → Dd.nx v' h' → D.nx σ' H'
  bk : ∀ Z' v' h' σ' H', Ext Z Z' → SR K CA R Z' v' h' σ' H' → Dd.bk v' h' → D.bk σ' H'
  ct : ∀ Z' v' h' σ' H', Ext Z Z' → SR K CA R Z' v' h' σ' H' → Dd.ct v' h' → D.ct σ' H'
  rt : ∀ Z' h' x d H', Ext Z Z' → HR K CA R Z' h' H' → VR K CA Z' x d → Dd.rt d h' → D.rt x H'
  xx : ∀ Z' v' h' σ' H' x cls dd, Ext Z Z' → SR K CA R Z' v' h' σ' H' → XR K CA Z' cls dd x → Dd.xx x v' h' → W cls dd σ' H'
def rdS (W : WX) (F : FT) (s : S) : TS := fun D σ H => ∃ R Z v h Dd, SR K CA R Z v h σ H ∧ wpS F s Dd v h ∧ KD K CA R Z Dd D W
def spF (F : FT) (i n : Nat) : Sp := fun vs H Q Ex => vs.length = n ∧ ∃ R Z h ds X Qd, HR K CA R Z h H ∧ VRs K CA Z vs ds ∧ F i ds h X Qd ∧
  (∀ Z' h' x d H', Ext Z Z' → HR K CA R Z' h' H' → VR K CA Z' x d → Qd d h' → Q x H') ∧ ∀ Z' h' x cls dd H', Ext Z Z' → HR K CA R Z' h' H' → XR K CA Z' cls dd x → X x h' → Ex cls dd H'
end
section
variable {K : PySem.W.Frag} {CA : CAT} {R Z Z' : Hp} {v : Env'} {σ : L2.St}
theorem KQ.mono {Qd : PQ} {Q : VK} (k : KQ K CA R Z v σ Qd Q) (e : Ext Z Z') : KQ K CA R Z' v σ Qd Q := fun Z2 h x d H f => k Z2 h x d H (e.trans f)
theorem KL.mono {Qd : List D → AH → Prop} {Q : List V → Hp → Prop} (k : KL K CA R Z v σ Qd Q) (e : Ext Z Z') : KL K CA R Z' v σ Qd Q := fun Z2 h x d H f => k Z2 h x d H (e.trans f)
theorem KX.mono {X : PX} {W : WX} (k : KX K CA R Z σ X W) (e : Ext Z Z') : KX K CA R Z' σ X W := fun Z2 h x c d H f => k Z2 h x c d H (e.trans f)
theorem KD.mono {Dd : Ends'} {D : Ends} {W : WX} (k : KD K CA R Z Dd D W) (e : Ext Z Z') : KD K CA R Z' Dd D W :=
  ⟨fun Z2 a b c d f => k.nx Z2 a b c d (e.trans f), fun Z2 a b c d f => k.bk Z2 a b c d (e.trans f), fun Z2 a b c d f => k.ct Z2 a b c d (e.trans f), fun Z2 a b c d f => k.rt Z2 a b c d (e.trans f),
    fun Z2 a b c d x y z f => k.xx Z2 a b c d x y z (e.trans f)⟩
end
theorem PE_weak {X : Cx} {e : Expr} {t t' : TE} (h : PE X e t) (w : ∀ σ H Q, t' σ H Q → t σ H Q) : PE X e t' := ⟨fun p s σ H Q I q => h.run p s σ H Q I (w σ H Q q)⟩
theorem PT_weak {X : Cx} {e : Expr} {t t' : TT} (h : PT X e t) (w : ∀ σ H Q, t' σ H Q → t σ H Q) : PT X e t' := ⟨fun p s σ H Q I q => h.run p s σ H Q I (w σ H Q q)⟩
theorem PW_weak {X : Cx} {e : Expr} {t t' : TT} (h : PW X e t) (w : ∀ σ H Q, t' σ H Q → t σ H Q) : PW X e t' := ⟨fun a p s σ H Q I q => h.run a p s σ H Q I (w σ H Q q)⟩
theorem PA_weak {X : Cx} {e : List Expr} {t t' : TA} (h : PA X e t) (w : ∀ σ H Q, t' σ H Q → t σ H Q) : PA X e t' := ⟨fun p a s σ H Q I q => h.run p a s σ H Q I (w σ H Q q)⟩
theorem PS_weak {X : Cx} {e : Stmt} {t t' : TS} (h : PS X e t) (w : ∀ D σ H, t' D σ H → t D σ H) : PS X e t' := ⟨fun p s σ H D I q => h.run p s σ H D I (w D σ H q)⟩
theorem PSs_weak {X : Cx} {e : List Stmt} {t t' : TS} (h : PSs X e t) (w : ∀ D σ H, t' D σ H → t D σ H) : PSs X e t' := ⟨fun p s σ H D I q => h.run p s σ H D I (w D σ H q)⟩
end Ab
namespace Ab
open PySem PySem.Spec PyProof.Rows L2
structure Gbl where
  fns : Nat → Option Fn
  cls : Nat → Option Str
  pl : List Nat
  csts : List (Str × D)
  fl : List (Nat × List Str) := []
  lams : List Nat := []
  lmN : List (List Str) := []
  kt : Bool := true
def noPar (p : Arguments) : Bool := p.posonlyargs.isEmpty && (p.args.isEmpty && (p.vararg.isNone && (p.kwonlyargs.isEmpty && (p.kw_defaults.isEmpty && (p.kwarg.isNone && p.defaults.isEmpty)))))
theorem noPar_eq {p : Arguments} (h : noPar p = true) : p = ⟨[], [], none, [], [], none, []⟩ := by
  unfold noPar at h
  simp only [Bool.and_eq_true, List.isEmpty_iff, Option.isNone_iff_eq_none] at h
  obtain ⟨h1, h2, h3, h4, h5, h6, h7⟩ := h
  cases p
  dsimp only at h1 h2 h3 h4 h5 h6 h7
  rw [h1, h2, h3, h4, h5, h6, h7]
def isName : Expr → Bool
  | .Name _ _ => true
  | _ => false
mutual
def deq : D → D → Bool
  | .non, .non => true
  | .bl a, .bl b => a == b
  | .int a, .int b => a == b
  | .str a, .str b => a == b
  | .tup a, .tup b => deqs a b
  | _, _ => false
def deqs : List D → List D → Bool
  | [], [] => true
  | a :: as, b :: bs => deq a b && deqs as bs
  | _, _ => false
end
mutual
theorem deq_eq : ∀ {a b : D}, deq a b = true → a = b
  | .non, .non, _ => rfl
  | .bl a, .bl b, h => by simp [deq] at h; rw [h]
  | .int a, .int b, h => by simp [deq] at h; rw [h]
  | .str a, .str b, h => by simp [deq] at h; rw [h]
  | .tup a, .tup b, h => by
    have h' : deqs a b = true := h
    rw [deqs_eq h']
  | .non, .bl _, h | .non, .int _, h | .non, .str _, h | .non, .tup _, h | .non, .lst _, h | .non, .ref _, h | .non, .exc _ _, h | .non, .scr _, h => by cases h
  | .bl _, .non, h | .bl _, .int _, h | .bl _, .str _, h | .bl _, .tup _, h | .bl _, .lst _, h | .bl _, .ref _, h | .bl _, .exc _ _, h | .bl _, .scr _, h => by cases h
  | .int _, .non, h | .int _, .bl _, h | .int _, .str _, h | .int _, .tup _, h | .int _, .lst _, h | .int _, .ref _, h | .int _, .exc _ _, h | .int _, .scr _, h => by cases h
  | .str _, .non, h | .str _, .bl _, h | .str _, .int _, h | .str _, .tup _, h | .str _, .lst _, h | .str _, .ref _, h | .str _, .exc _ _, h | .str _, .scr _, h => by cases h
  | .tup _, .non, h | .tup _, .bl _, h | .tup _, .int _, h | .tup _, .str _, h | .tup _, .lst _, h | .tup _, .ref _, h | .tup _, .exc _ _, h | .tup _, .scr _, h => by cases h
  | .lst _, _, h | .ref _, _, h | .exc _ _, _, h | .scr _, _, h => by simp [deq] at h
theorem deqs_eq : ∀ {a b : List D}, deqs a b = true → a = b
  | [], [], _ => rfl
  | a :: as, b :: bs, h => by
    have h' : (deq a b && deqs as bs) = true := h
    obtain ⟨h1, h2⟩ := Bool.and_eq_true_iff.mp h'
    rw [deq_eq h1, deqs_eq h2]
  | [], _ :: _, h | _ :: _, [], h => by cases h
end
def visB (sc : Scope) (x : Str) : Bool := (sc.names.lookup x == some .local) || ((sc.names.lookup x == some .cell) || (sc.names.lookup x == some .free))
theorem visB_ok {sc : Scope} {x : Str} (h : visB sc x = true) : Vis sc x := by
  unfold visB at h
  simp only [Bool.or_eq_true, beq_iff_eq] at h
  exact h
def okN (x : Str) : Bool := !(x == ("__debug__" : Str)) && !(x == ("__classdict__" : Str))
def glB (sc : Scope) (x : Str) : Bool := sc.names.lookup x == some .globalImplicit && (!(x == ("__debug__" : Str)) && !(x == ("__name__" : Str)))
theorem glB_ok {X : Cx} {x : Str} (h : glB X.env.scope x = true) : Gl X x ∧ (x == ("__debug__" : Str)) = false ∧ x ≠ "__name__" := by
  unfold glB at h
  simp only [Bool.and_eq_true, beq_iff_eq, Bool.not_eq_true'] at h
  obtain ⟨h1, h2, h3⟩ := h
  exact ⟨h1, h2, fun e => by rw [e] at h3; simp at h3⟩
abbrev FnS := Option Scope
def fnB (fs : FnS) (x : Str) : Bool := match fs with | none => true | some s => s.names.lookup x == some .cell
def locB (fs : FnS) (sc : Scope) (x : Str) : Bool := (sc.names.lookup x == some .local) || (sc.names.lookup x == some .cell && fnB fs x)
mutual
def mT (N : List Str) (fs : FnS) (sc : Scope) : Tg → Expr → Bool
  | .var i, e => match e with | .Name x _ => (N[i]? == some x) && locB fs sc x | _ => false
  | .tup ts, e => match e with | .Tuple es _ _ => mTs N fs sc ts es | _ => false
def mTs (N : List Str) (fs : FnS) (sc : Scope) : List Tg → List Expr → Bool
  | [], es => match es with | [] => true | _ => false
  | t :: ts, es => match es with | e :: es => mT N fs sc t e && mTs N fs sc ts es | _ => false
end
mutual
def tgV : Tg → List Nat
  | .var i => [i]
  | .tup ts => tgVs ts
def tgVs : List Tg → List Nat
  | [] => []
  | t :: ts => tgV t ++ tgVs ts
end
def boM : BO → Operator → Bool
  | .add, .Add | .sub, .Sub | .mul, .Mult | .fdiv, .FloorDiv | .mod, .Mod | .pow, .Pow | .lsh, .LShift | .mulN, .Mult | .addN, .Add => true
  | _, _ => false
def coM : CO → CmpOp → Bool
  | .lt, .Lt | .le, .LtE | .gt, .Gt | .ge, .GtE | .eq, .Eq | .ne, .NotEq | .is, .Is | .isnot, .IsNot | .isin, .In | .notin, .NotIn | .isinD, .In | .notinD, .NotIn => true
  | _, _ => false
def noSet : Expr → Bool
  | .Set _ _ _ => false
  | _ => true
def noStar : Expr → Bool
  | .Starred _ _ => false
  | _ => true
def noSlice : Expr → Bool
  | .Slice _ _ _ _ => false
  | _ => true
def noCall0 : Expr → Bool
  | .Call (.Name _ _) [] [] _ => false
  | _ => true
def rngK : IK → Bool
  | .rng1 | .rng2 => true
  | _ => false
def noComp : Expr → Bool
  | .ListComp _ _ _ _ | .SetComp _ _ _ _ | .DictComp _ _ _ _ _ => false
  | _ => true
def biN : BI → Str
  | .len => "len" | .abs => "abs" | .int => "int" | .sum => "sum" | .min1 | .min2 | .min3 => "min" | .max2 => "max" | .tuple => "tuple" | .list | .listF => "list" | .all => "all" | .any => "any" | .sorted | .sortedF => "sorted"
def biA : BI → Nat
  | .min2 | .max2 => 2 | .min3 => 3 | _ => 1
def miN : MI → Str
  | .append => "append" | .extend => "extend" | .popAt => "pop" | .insert => "insert" | .index => "index" | .count => "count" | .remove => "remove"
def miA : MI → Nat
  | .insert => 2 | _ => 1
def m0N : M0 → Str
  | .pop => "pop" | .reverse => "reverse" | .clear => "clear"
def ciN (G : Gbl) : CI → Option Str
  | .int => some "int" | .bool => some "bool" | .str => some "str" | .list => some "list" | .tuple => some "tuple" | .dict => some "dict" | .verr => some "ValueError" | .own c => G.cls c
def mCs (G : Gbl) (sc : Scope) : List CI → List Expr → Bool
  | [], [] => true
  | c :: cs, .Name x _ :: es => ciN G c == some x && glB sc x && mCs G sc cs es
  | _, _ => false
def mCl (G : Gbl) (sc : Scope) (cs : List CI) (e : Expr) : Bool :=
  match cs, e with
  | [c], .Name x p => mCs G sc [c] [.Name x p]
  | cs, .Tuple es _ _ => !cs.isEmpty && (decide (cs.length ≤ 100) && mCs G sc cs es)
  | _, _ => false
def itA (sc : Scope) (k : IK) (tg : Expr) (e : Expr) : Option (List Expr) :=
  match k with
  | .seq => some [e]
  | .rng1 => match e with | .Call (.Name x _) [a] [] _ => if x == ("range" : Str) && glB sc x then some [a] else none | _ => none
  | .rng2 => match e with | .Call (.Name x _) [a, b] [] _ => if x == ("range" : Str) && glB sc x then some [a, b] else none | _ => none
  | .rng3 => match e with | .Call (.Name x _) [a, b, c] [] _ => if x == ("range" : Str) && glB sc x then some [a, b, c] else none | _ => none
  | .zip => match e, tg with | .Call (.Name x _) [a, b] [] _, .Tuple _ _ _ => if x == ("zip" : Str) && glB sc x then some [a, b] else none | _, _ => none
  | .enz => match e, tg with | .Call (.Name x _) [.Call (.Name y _) [a, b] [] _] [] _, .Tuple _ _ _ => if (x == ("enumerate" : Str) && glB sc x) && (y == ("zip" : Str) && glB sc y) then some [a, b] else none | _, _ => none
  | .zip3 => match e, tg with | .Call (.Name x _) [a, b, c] [] _, .Tuple _ _ _ => if x == ("zip" : Str) && glB sc x then some [a, b, c] else none | _, _ => none
  | .enm => match e, tg with | .Call (.Name x _) [a] [] _, .Tuple _ _ _ => if x == ("enumerate" : Str) && glB sc x then some [a] else none | _, _ => none
def ownP (N : List Str) (own : List Nat) : List (Str × Nat) := own.filterMap fun i => (N[i]?).map fun x => (x, i)
def blkB (N : List Str) (sc scope : Scope) (own : List Nat) : Bool :=
  (scope.kind == .function) && (scope.names.all fun y => scope.names.lookup y.1 == some y.2) && ((ownP N own).map (·.2) == own)
    && (scope.names.all fun y => !(y.2 == .free) || (sc.names.lookup y.1 == some .cell || sc.names.lookup y.1 == some .free))
    && (scope.names.all fun y => !(y.2 == .local || y.2 == .cell) || ((ownP N own).any (·.1 == y.1) || !N.contains y.1))
mutual
def mE (G : Gbl) (N : List Str) : E → FnS → Scope → Expr → Bool
  | .var i, _, sc, e => match e with | .Name x _ => (N[i]? == some x) && (visB sc x && okN x) | _ => false
  | .int n, _, _, e => match e with | .Constant (.int m) _ _ => n == m | _ => false
  | .bl b, _, _, e => match e with | .Constant (.bool c) _ _ => b == c | _ => false
  | .non, _, _, e => match e with | .Constant .none _ _ => true | _ => false
  | .str s, _, _, e => match e with | .Constant (.str t) _ _ => s == t | _ => false
  | .cst y d, _, sc, e => match e with | .Name x _ => x == y && glB sc x && (match G.csts.lookup x with | some d' => deq d d' | none => false) | _ => false
  | .bin o a b, fs, sc, e => match e with | .BinOp x p y _ => boM o p && (mE G N a fs sc x && mE G N b fs sc y) | _ => false
  | .neg a, fs, sc, e => match e with | .UnaryOp .USub x _ => mE G N a fs sc x | _ => false
  | .not a, fs, sc, e => match e with | .UnaryOp .Not x _ => mE G N a fs sc x | _ => false
  | .cmp o a b, fs, sc, e => match e with | .Compare x [p] [y] _ => coM o p && (mE G N a fs sc x && mE G N b fs sc y) | _ => false
  | .cmp2 o o' a b c, fs, sc, e => match e with | .Compare x [p, q] [y, z] _ => coM o p && coM o' q && (mE G N a fs sc x && (mE G N b fs sc y && mE G N c fs sc z)) | _ => false
  | .and es, fs, sc, e => match e with | .BoolOp .And xs _ => mL G N es fs sc xs | _ => false
  | .or es, fs, sc, e => match e with | .BoolOp .Or xs _ => mL G N es fs sc xs | _ => false
  | .ife t a b, fs, sc, e => match e with | .IfExp x y z _ => mE G N t fs sc x && (mE G N a fs sc y && mE G N b fs sc z) | _ => false
  | .tup es, fs, sc, e => match e with | .Tuple xs _ _ => mL G N es fs sc xs | _ => false
  | .lst _ es, fs, sc, e => match e with | .List xs _ => mL G N es fs sc xs | _ => false
  | .ix a i, fs, sc, e => match e with | .Subscript x y _ => mE G N a fs sc x && mE G N i fs sc y | _ => false
  | .sl _ m a lo hi, fs, sc, e => match e with
    | .Subscript x (.Slice l u none _) _ => mE G N a fs sc x && (match m, l, u with
      | .lo, some l, none => mE G N lo fs sc l
      | .hi, none, some u => mE G N hi fs sc u
      | .both, some l, some u => mE G N lo fs sc l && mE G N hi fs sc u
      | _, _, _ => false)
    | _ => false
  | .call f es, fs, sc, e => match e with | .Call (.Name x _) xs [] _ => (G.fns f).map (·.name) == some x && (glB sc x && (!xs.isEmpty && mL G N es fs sc xs)) | _ => false
  | .blt b es, fs, sc, e => match e with | .Call (.Name x _) xs [] _ => biN b == x && (glB sc x && (xs.length == biA b && mL G N es fs sc xs)) | _ => false
  | .isi a cs, fs, sc, e => match e with | .Call (.Name x _) [y, z] [] _ => x == ("isinstance" : Str) && (glB sc x && (mE G N a fs sc y && mCl G sc cs z)) | _ => false
  | .meth m o es, fs, sc, e => match e with | .Call (.Attribute x n p) ys [] q => n == miN m && (p.endLine == q.line && (mE G N o fs sc x && (ys.length == miA m && mL G N es fs sc ys))) | _ => false
  | .meth0 m o, fs, sc, e => match e with | .Call (.Attribute x n p) [] [] q => n == m0N m && (p.endLine == q.line && mE G N o fs sc x) | _ => false
  | .comp _ own t k it c el, fs, sc, e => match e with
    | .ListComp x gs scope _ => match gs with
      | [⟨tg, iter, ifs, w⟩] => w == 0 && (blkB N sc scope own && ((tgV t).all own.contains && (mT N (some scope) (relS scope sc) t tg && ((match itA sc k tg iter with | some ys => mL G N it fs sc ys | none => false)
          && ((match ifs with | [] => isOm c | [y] => mE G N c (some scope) (relS scope sc) y | _ => false) && mE G N el (some scope) (relS scope sc) x)))))
      | _ => false
    | _ => false
  | .frz a, fs, sc, e => mE G N a fs sc e
  | .fld a f, fs, sc, e => match e with | .Attribute x n _ => n == f && (isName x && mE G N a fs sc x) | _ => false
  | .lam g a, fs, sc, e => match fs with
    | none => (match e with | .Call (.Name x _) [.Lambda params body scope _] [] _ => (G.fns g).map (·.name) == some x && (glB sc x && (G.lams.contains g && (G.lmN.contains N && (noPar params && (LamX.lamSB sc scope && mE G N a (some scope) scope body))))) | _ => false)
    | some _ => false
  | .rev _ a, fs, sc, e => match e with | .Subscript x (.Slice none none (some (.UnaryOp .USub (.Constant (.int n) _ _) _)) _) _ => n == 1 && mE G N a fs sc x | _ => false
  | .rng t _ k es, fs, sc, e => match e with | .Call (.Name x _) [y] [] _ => (if t then ("tuple" : Str) else "list") == x && (glB sc x && match itA sc k y y with | some ys => rngK k && mL G N es fs sc ys | none => false) | _ => false
  | .die, _, _, e => noSet e && (noStar e && (noSlice e && (noCall0 e && noComp e)))
  | .dop o a k z, fs, sc, e => !G.kt && (match o with
    | .get => (match e with | .Subscript x y _ => mE G N a fs sc x && mE G N k fs sc y | _ => false)
    | .getD => (match e with | .Call (.Attribute x n p) [y, u] [] q => n == ("get" : Str) && (p.endLine == q.line && (mE G N a fs sc x && (mE G N k fs sc y && mE G N z fs sc u))) | _ => false)
    | .isin => (match e with | .Compare y [.In] [x] _ => mE G N k fs sc y && mE G N a fs sc x | _ => false)
    | .notin => (match e with | .Compare y [.NotIn] [x] _ => mE G N k fs sc y && mE G N a fs sc x | _ => false)
    | .srt _ => (match e with | .Call (.Name n _) [x] [] _ => n == ("sorted" : Str) && (glB sc n && mE G N a fs sc x) | _ => false))
  | .dict0, _, _, e => match e with | .Dict ks vs _ => ks.isEmpty && vs.isEmpty | _ => false
  | _, _, _, _ => false
def mL (G : Gbl) (N : List Str) : E → FnS → Scope → List Expr → Bool
  | .nil, _, _, es => match es with | [] => true | _ => false
  | .cons a b, fs, sc, es => match es with | e :: es => mE G N a fs sc e && mL G N b fs sc es | _ => false
  | _, _, _, _ => false
def isOm : E → Bool
  | .omit => true
  | _ => false
end
end Ab
namespace Ab
open PySem PySem.Spec PyProof.Rows L2
def bltL : List Str := ["len", "abs", "int", "sum", "min", "max", "tuple", "list", "range", "zip", "enumerate", "isinstance", "sorted", "str", "set", "dict", "all", "any", "bool", "ValueError"]
def tyL : List String := ["int", "bool", "str", "list", "tuple", "dict"]
def scL : List String := ["NoneType", "bool", "int", "str", "list", "tuple", "dict"]
structure ClsFacts (CA : CAT) (K : PySem.W.Frag) : Prop where
  ex : ∀ (i : Nat) C, CA i = some C → ExcC K C
  own : ∀ (i j : Nat) C C', CA i = some C → CA j = some C' → PySem.W.kitOne K (.ref C) (.ref C') = some (j == 0 || j == i)
  ve : ∀ (i : Nat) C, CA i = some C → PySem.W.kitOne K (.ref C) (.type "ValueError") = some true
  ty : ∀ (i : Nat) C t, CA i = some C → tyL.contains t = true → PySem.W.kitOne K (.ref C) (.type t) = some false
  sc : ∀ (j : Nat) C t, CA j = some C → scL.contains t = true → PySem.W.kitOne K (.type t) (.ref C) = some false
  exm : ∀ (i j : Nat) C C', CA i = some C → CA j = some C' → PySem.W.exmOne K (.ref C) (.ref C') = some (j == 0 || j == i)
  kp : ∀ (i : Nat) C, CA i = some C → PySem.W.keepIn K (.ref C) = true
  sub : ∀ (i : Nat) C, CA i = some C → PySem.W.subIn K (.ref C) (.type "BaseException") = some true
  tyc : ∀ (i : Nat) C, CA i = some C → PySem.W.typeIn K (.ref C) = some (.type "type")
def spI (K : PySem.W.Frag) (C : Addr) (fs : List Str) : Sp := fun vs H Q _ => vs.length = fs.length + 1 ∧ ∃ (a : Addr) (xs : List V), vs = .ref a :: xs ∧ OexC K C ∧ (∀ f ∈ fs, PySem.W.findIn K (.ref C) f = some none) ∧ H a = some (exo a C none) ∧
  ∀ dx, H dx = none → dx ≠ a → Q .non (upd (upd H dx (exd dx (fs.zip xs).reverse)) a (exo a C (some dx)))
structure FldOk (K : PySem.W.Frag) (P : Program) (w : World) (mg : Str → Option Value) (base : Heap) (C : Addr) (fs : List Str) : Prop where
  ini : ∃ fI fd ps, OexC K C ∧ PySem.W.findIn K (.ref C) "__init__" = some (some (.ref fI)) ∧ PySem.W.typeIn K (.ref fI) = some (.type "function") ∧ Binds K fd ps [] ∧ FnOk P w K mg base (L2.CX P w) 1 fI fd ps (spI K C fs)
  out : ∀ f ∈ fs, PySem.W.findIn K (.ref C) f = some none
  few : fs.length ≤ 900
structure AskOk (K : PySem.W.Frag) (CA : CAT) (mg : Str → Option Value) (x : Str) : Prop where
  ex : ∃ (g : Addr) (pg : Arguments) (sg : Scope) (dV kV doc pm cdv ct oc : Value) (an od : Option Addr) (osl : Array (Option Value)) (Ng : List Str) (a c e er : Str) (CS : Addr) (bg : List Stmt),
    mg x = some (.ref g) ∧ PySem.W.keepIn K (.ref g) = true ∧ K.lookup g = some ⟨oc, od, .func (PySem.W.fnOf x x pg bg sg dV kV doc pm an cdv ct), osl⟩ ∧ PySem.W.codeIn K cdv x = true ∧ L2.Binds K (PySem.W.fnOf x x pg bg sg dV kV doc pm an cdv ct) [a] [] ∧ FnScope Ng [a] sg ∧
    Ng = [a, c, er] ∧ sg.names.lookup a = some .local ∧ sg.names.lookup c = some .local ∧ sg.names.lookup er = some .local ∧ sg.names.lookup e = some .globalImplicit ∧ mg e = some (.ref CS) ∧ CA 0 = some CS ∧ okN a = true ∧ okN c = true ∧ okN er = true ∧ (e == ("__debug__" : Str)) = false ∧
    ∃ p1 p2 p3 p4 p5 p6 p7 p8 p9 p10 p11 p12 p13 p14 k, bg = [.Assign [.Name c p1] (.Constant .none k p2) p3, .Try [.Expr (.Call (.Name a p4) [] [] p5) p6] [.ExceptHandler (some (.Name e p7)) (some er) [.Assign [.Name c p8] (.Name er p9) p10] p11] [] [] p12, .Return (some (.Name c p13)) p14]
structure GOk (G : Gbl) (F : FT) (k : Nat) (CA : CAT) (P : Program) (w : World) (K : PySem.W.Frag) (mg : Str → Option Value) (base : Heap) : Prop where
  kt : G.kt = false → CA.kt = false
  fns : ∀ (i : Nat) fn, G.fns i = some fn → ∃ f fd, mg fn.name = some (.ref f) ∧ PySem.W.keepIn K (.ref f) = true ∧ Binds K fd fn.ps [] ∧ FnOk P w K mg base (L2.CX P w) (5 * k) f fd fn.ps (spF K CA F i fn.ps.length)
  fl : ∀ (i : Nat) fn, G.fns i = some fn → ∀ ds h Xd Qd, F i ds h Xd Qd → ds.length = fn.ps.length
  blt : ∀ x, bltL.contains x = true → mg x = none
  cls : ∀ (i : Nat) x, G.cls i = some x → ∃ C, CA i = some C ∧ mg x = some (.ref C)
  cf : ClsFacts CA K
  exc : ∀ (i : Nat) C, G.pl.contains i = true → CA i = some C → PySem.W.excIn K C [.type "ValueError", .type "Exception", .type "BaseException", .type "object"] "ValueError.__new__" = true
  cst : ∀ x d, G.csts.lookup x = some d → ∃ u v, mg x = some u ∧ RelV v u ∧ VR K CA (fun _ => none) v d
  flo : ∀ (i : Nat) fs C, G.fl.lookup i = some fs → CA i = some C → FldOk K P w mg base C fs
  ask : ∀ (i : Nat) fn, G.lams.contains i = true → G.fns i = some fn → AskOk K CA mg fn.name
def TabOk (CA : CAT) (k : Nat) (X : Cx) : Prop := Room (5 * k + 4) X.A ∧ ∃ c Pt, X.env.code = .ref c ∧ (Pt, X.env.qual ++ "<lambda>") ∈ CA.tabs ∧ (∀ p ∈ CA.tabs, p.1 = Pt → p.2 = X.env.qual ++ "<lambda>") ∧ LamX.TabB X.base X.mg c Pt
structure CxOk (G : Gbl) (N : List Str) (F : FT) (k : Nat) (CA : CAT) (fs : FnS) (sc : Scope) (X : Cx) (W : WX) : Prop where
  g : GOk G F k CA X.prog X.w X.K X.mg X.base
  hN : X.N = N
  nd : X.N.Nodup
  hsc : X.env.scope = sc
  hfn : ∀ x, fnB fs x = true → X.fn x = true
  room : Room (5 * k + 2) X.A
  calm : X.calm = true
  tk : Takes X W
  tb : fs = none → G.lmN.contains N = true → TabOk CA k X
section
variable (G : Gbl) (N : List Str) (F : FT) (k : Nat) (CA : CAT)
def SndE (e : E) : Prop := ∀ fs sc X W x, CxOk G N F k CA fs sc X W → mE G N e fs sc x = true → PE X x (rdE X.K CA W F e) ∧ PT X x (tB (rdE X.K CA W F e))
def rd1 (K : PySem.W.Frag) (W : WX) (es : E) : TE := fun σ H Q => rdL K CA W F es σ H fun vs H1 => ∃ x, vs = [x] ∧ Q x H1
def rdA (K : PySem.W.Frag) (W : WX) (es : E) : TE := fun σ H Q => ∃ R Z v h X Qd, SR K CA R Z v h σ H ∧ wpA F es v h X Qd ∧ KQ K CA R Z v σ Qd Q ∧ KX K CA R Z σ X W
def rdB (K : PySem.W.Frag) (W : WX) (es : E) : TE := fun σ H Q => ∃ R Z v h X Qd, SR K CA R Z v h σ H ∧ wpB F es v h X Qd ∧ KQ K CA R Z v σ Qd Q ∧ KX K CA R Z σ X W
structure SndLX (X : Cx) (W : WX) (es : E) (xs : List Expr) : Prop where
  pa : PA X xs (rdL X.K CA W F es)
  one : ∀ x, xs = [x] → PE X x (rd1 F CA X.K W es)
  aE : ∀ pos, xs ≠ [] → PE X (.BoolOp .And xs pos) (rdA F CA X.K W es)
  aT : ∀ pos, xs ≠ [] → PW X (.BoolOp .And xs pos) (tB (rdA F CA X.K W es))
  oE : ∀ pos, xs ≠ [] → PE X (.BoolOp .Or xs pos) (rdB F CA X.K W es)
  oT : ∀ pos, xs ≠ [] → PW X (.BoolOp .Or xs pos) (tB (rdB F CA X.K W es))
def SndL (es : E) : Prop := ∀ fs sc X W xs, CxOk G N F k CA fs sc X W → mL G N es fs sc xs = true → SndLX F CA X W es xs
end
section
variable {G : Gbl} {N : List Str} {F : FT} {k : Nat} {CA : CAT} {fs : FnS} {sc : Scope} {X : Cx} {W : WX} {a b : E} {x y : Expr}
theorem two {σ : L2.St} {H : Hp} {R Z : Hp} {v : Env'} {h : AH} {Xd : PX} {K : PySem.W.Frag} {Qd : D → D → AH → Prop} {Q : V → V → Hp → Prop} (s : SR K CA R Z v h σ H)
    (hw : wpE F a v h Xd fun d h => wpE F b v h Xd fun e h => Qd d e h) (kx : KX K CA R Z σ Xd W)
    (q : ∀ Z' h' x y d e H', Ext Z Z' → SR K CA R Z' v h' σ H' → VR K CA Z' x d → VR K CA Z' y e → Qd d e h' → Q x y H') : rdE K CA W F a σ H fun x H1 => rdE K CA W F b σ H1 fun y H2 => Q x y H2 :=
  ⟨R, Z, v, h, Xd, _, s, hw, fun Z1 h1 x d H1 e1 s1 r1 q1 => ⟨R, Z1, v, h1, Xd, _, s1, q1, fun Z2 h2 y e H2 e2 s2 r2 q2 => q Z2 h2 x y d e H2 (e1.trans e2) s2 (r1.mono e2) r2 q2, kx.mono e1⟩, kx⟩
theorem op_fdivD : OpR X (binaryOp .FloorDiv) (rI (fun i j => j ≠ 0 ∧ Builtin.divisionGoesByPylong i j = false) fun i j => .int (i.fdiv j)) := opI fun _ _ _ _ _ _ _ hc q => floordiv_int hc.1 q (.inl hc.2)
def rBin (K : PySem.W.Frag) : BO → R2
  | .add => fun x y H Q => ((rI0 (fun i j => .int (i + j))) x y H Q ∨ rCatA K x y H Q) ∨ (rCat x y H Q ∨ ∃ i j, x = .str i ∧ y = .str j ∧ i.length + j.length ≤ sizeLine ∧ Q (.str (i ++ j)) H)
  | .sub => rI0 fun i j => .int (i - j)
  | .mul => fun x y H Q => ((rI CMulW fun i j => .int (i * j)) x y H Q ∨ rRepT K x y H Q) ∨ rRep x y H Q
  | .lsh => fun x y H Q => ∃ k : Nat, x = .int 1 ∧ y = .int (k : Int) ∧ k ≤ 134217727 ∧ Q (.int (2 ^ k)) H
  | .fdiv => rI (fun i j => j ≠ 0 ∧ Builtin.divisionGoesByPylong i j = false) fun i j => .int (i.fdiv j)
  | .mulN => rRep
  | .addN => rCat
  | .mod => rI (fun _ j => j ≠ 0) fun i j => .int (i.fmod j)
  | .pow => rI CPow fun i j => .int (i ^ j.toNat)
theorem op_bin {o : BO} {p : Operator} (h : boM o p = true) : OpR X (binaryOp p) (rBin X.K o) := by
  unfold boM at h
  split at h
  · exact (op_add.or op_catA).or (op_cat.or op_add_str)
  · exact op_sub
  · exact (op_mulW.or op_repT).or op_rep
  · exact op_fdivD
  · exact op_modN
  · exact op_pow
  · exact op_oneShl
  · exact op_rep
  · exact op_cat
  · cases h
theorem bin_ok {K : PySem.W.Frag} {R Z : Hp} {v : Env'} {h : AH} {σ : L2.St} {H : Hp} {x y : V} {d e : D} {o : BO} {Qd : PQ} {Q : VK} (s : SR K CA R Z v h σ H) (rx : VR K CA Z x d) (ry : VR K CA Z y e) (w : binW o d e h Qd)
    (q : KQ K CA R Z v σ Qd Q) : rBin K o x y H Q := by
  have fin : ∀ {z : V} {f : D}, VR K CA Z z f → Qd f h → Q z H := fun r w => q Z h _ _ H (Ext.refl Z) s r w
  unfold binW at w
  split at w
  · cases rx; cases ry
    exact .inl (.inl ⟨_, _, rfl, rfl, fin (.int _) w⟩)
  · cases rx with
    | tup hx qx =>
      cases ry with
      | tup hy qy =>
        rename_i as bs ax xs ay ys
        obtain ⟨w3, w4⟩ := w
        refine .inl (.inr ⟨ax, ay, xs, ys, rfl, rfl, sqT_mono s.sub hx.sq, sqT_mono s.sub hy.sq, by rw [qx.len, qy.len]; exact w3, fun e => ?_, fun _ e => ?_, fun _ _ p hp => ?_⟩)
        · subst e; cases qx; exact fin (.tup hy qy) w4
        · subst e; cases qy; rw [List.append_nil] at w4; exact fin (.tup hx qx) w4
        · exact q _ h _ _ _ (ext_new (s.freeZ hp)) (s.with (ext_new (s.freeZ hp)) (s.toHR.fresh _ hp)) (.tup (.of upd_same) ((qx.append qy).mono (ext_new (s.freeZ hp)))) w4
  · cases rx with
    | lst hx qx =>
      cases ry with
      | lst hy qy =>
        rename_i as bs ax xs ay ys
        obtain ⟨w3, w4⟩ := w
        exact .inr (.inl ⟨ax, ay, xs, ys, rfl, rfl, s.sub _ _ hx, s.sub _ _ hy, by rw [qx.len, qy.len]; exact w3, fun p hp => q _ h _ _ _ (ext_new (s.freeZ hp)) (s.with (ext_new (s.freeZ hp)) (s.toHR.fresh _ hp)) (.lst upd_same ((qx.append qy).mono (ext_new (s.freeZ hp)))) w4⟩)
  · cases rx; cases ry
    obtain ⟨ds, es, ea, eb, w3, w4⟩ := w
    obtain ⟨xs, e1, r1, _⟩ := s.toHR.lst ea
    obtain ⟨ys, e2, r2, _⟩ := s.toHR.lst eb
    exact .inr (.inl ⟨_, _, xs, ys, rfl, rfl, e1, e2, by rw [r1.len, r2.len]; exact w3, fun p hp => q _ h _ _ _ (ext_new (s.freeZ hp)) (s.with (ext_new (s.freeZ hp)) (s.toHR.fresh _ hp)) (.lst upd_same ((r1.append r2).mono (ext_new (s.freeZ hp)))) w4⟩)
  · cases rx
    cases ry with
    | lst hy qy =>
      obtain ⟨ds, ea, w3, w4⟩ := w
      obtain ⟨xs, e1, r1, _⟩ := s.toHR.lst ea
      exact .inr (.inl ⟨_, _, xs, _, rfl, rfl, e1, s.sub _ _ hy, by rw [r1.len, qy.len]; exact w3, fun p hp => q _ h _ _ _ (ext_new (s.freeZ hp)) (s.with (ext_new (s.freeZ hp)) (s.toHR.fresh _ hp)) (.lst upd_same ((r1.append qy).mono (ext_new (s.freeZ hp)))) w4⟩)
  · cases ry
    cases rx with
    | lst hx qx =>
      obtain ⟨es, eb, w3, w4⟩ := w
      obtain ⟨ys, e2, r2, _⟩ := s.toHR.lst eb
      exact .inr (.inl ⟨_, _, _, ys, rfl, rfl, s.sub _ _ hx, e2, by rw [qx.len, r2.len]; exact w3, fun p hp => q _ h _ _ _ (ext_new (s.freeZ hp)) (s.with (ext_new (s.freeZ hp)) (s.toHR.fresh _ hp)) (.lst upd_same ((qx.append r2).mono (ext_new (s.freeZ hp)))) w4⟩)
  · cases rx; cases ry
    exact .inr (.inr ⟨_, _, rfl, rfl, w.1, fin (.str _) w.2⟩)
  · cases rx with
    | tup hx qx =>
      cases ry
      rename_i as k ax xs
      obtain ⟨⟨w1, w2, w3, w4⟩, w5⟩ := w
      have hl := qx.len
      exact .inl (.inr ⟨ax, k, xs, rfl, rfl, sqT_mono s.sub hx.sq, fun e => by subst e; cases qx; exact w1 rfl, w2, w3, by omega, fun p hp => q _ h _ _ _ (ext_new (s.freeZ hp)) (s.with (ext_new (s.freeZ hp)) (s.toHR.fresh _ hp)) (.tup (.of upd_same) ((VRs.rep k.toNat qx).mono (ext_new (s.freeZ hp)))) w5⟩)
  · cases rx with
    | lst hx qx =>
      cases ry
      rename_i as k ax xs
      obtain ⟨⟨w1, w2, w3⟩, w4⟩ := w
      exact .inr ⟨ax, k, xs, rfl, rfl, s.sub _ _ hx, w1, w2, by rw [qx.len]; exact w3, fun p hp => q _ h _ _ _ (ext_new (s.freeZ hp)) (s.with (ext_new (s.freeZ hp)) (s.toHR.fresh _ hp)) (.lst upd_same ((VRs.rep k.toNat qx).mono (ext_new (s.freeZ hp)))) w4⟩
  · cases rx; cases ry
    exact ⟨_, _, rfl, rfl, fin (.int _) w⟩
  · cases rx; cases ry
    exact .inl (.inl ⟨_, _, rfl, rfl, w.1, fin (.int _) w.2⟩)
  · cases rx; cases ry
    exact ⟨_, _, rfl, rfl, w.1, fin (.int _) w.2⟩
  · cases rx; cases ry
    exact ⟨_, _, rfl, rfl, w.1, fin (.int _) w.2⟩
  · cases rx; cases ry
    obtain ⟨⟨rfl, w1, w2⟩, w3⟩ := w
    exact ⟨_, rfl, by rw [Int.toNat_of_nonneg w1], by omega, fin (.int _) w3⟩
  · cases rx with
    | lst hx qx =>
      cases ry
      rename_i as k ax xs
      obtain ⟨⟨w1, w2, w3⟩, w4⟩ := w
      exact ⟨ax, k, xs, rfl, rfl, s.sub _ _ hx, w1, w2, by rw [qx.len]; exact w3, fun p hp => q Z _ _ _ _ (Ext.refl Z) (s.with (Ext.refl Z) (s.toHR.new (c := .lst (List.replicate k.toNat as).flatten) hp (VRs.rep k.toNat qx))) (.ref p) (w4 p (s.toHR.free hp))⟩
  · cases rx; cases ry
    exact ⟨_, _, rfl, rfl, w.1, fin (.int _) w.2⟩
  · cases rx with
    | lst hx qx =>
      cases ry with
      | lst hy qy =>
        rename_i as bs ax xs ay ys
        obtain ⟨w3, w4⟩ := w
        exact ⟨ax, ay, xs, ys, rfl, rfl, s.sub _ _ hx, s.sub _ _ hy, by rw [qx.len, qy.len]; exact w3, fun p hp => q Z _ _ _ _ (Ext.refl Z) (s.with (Ext.refl Z) (s.toHR.new (c := .lst (as ++ bs)) hp (qx.append qy))) (.ref p) (w4 p (s.toHR.free hp))⟩
  · exact w.elim
theorem snd_bin {o : BO} {p : Operator} {pos : Pos} (hp : boM o p = true) (ha : PE X x (rdE X.K CA W F a)) (hb : PE X y (rdE X.K CA W F b)) : PE X (.BinOp x p y pos) (rdE X.K CA W F (.bin o a b)) :=
  PE_weak (pe_op (op_bin hp) ha hb) fun σ H Q ⟨R, Z, v, h, Xd, Qd, s, w, q, kx⟩ => two s w kx fun Z' h' x y d e H' ex s' rx ry q' => bin_ok s' rx ry q' (q.mono ex)
theorem snd_neg {pos : Pos} (ha : PE X x (rdE X.K CA W F a)) : PE X (.UnaryOp .USub x pos) (rdE X.K CA W F (.neg a)) :=
  PE_weak (pe_un un_neg ha) fun σ H Q ⟨R, Z, v, h, Xd, Qd, s, w, q, kx⟩ => ⟨R, Z, v, h, Xd, _, s, w, fun Z1 h1 x d H1 e1 s1 r1 q1 => by
    cases r1 <;> first
      | exact ⟨_, rfl, q _ _ _ _ _ e1 s1 (.int _) q1⟩
      | exact (show False from q1).elim, kx⟩
theorem bl_of {K : PySem.W.Frag} {Z : Hp} {x : V} {d : D} {P : Bool → Prop} (r : VR K CA Z x d) (h : blW d P) : ∃ c, x = .bl c ∧ d = .bl c ∧ P c := by
  cases r <;> first
    | exact ⟨_, rfl, rfl, h⟩
    | exact (show False from h).elim
theorem snd_not {pos : Pos} (ha : PE X x (rdE X.K CA W F a)) (ht : PT X x (tB (rdE X.K CA W F a))) : PE X (.UnaryOp .Not x pos) (rdE X.K CA W F (.not a)) ∧ PT X (.UnaryOp .Not x pos) (tB (rdE X.K CA W F (.not a))) := by
  refine ⟨PE_weak (pe_not ha) fun σ H Q ⟨R, Z, v, h, Xd, Qd, s, w, q, kx⟩ => ⟨R, Z, v, h, Xd, _, s, w, fun Z1 h1 x d H1 e1 s1 r1 q1 => ?_, kx⟩,
    PT_weak (pt_not ht) fun σ H Q ⟨R, Z, v, h, Xd, Qd, s, w, q, kx⟩ => ⟨R, Z, v, h, Xd, _, s, w, fun Z1 h1 x d H1 e1 s1 r1 q1 => ?_, kx⟩⟩
  · obtain ⟨c, rfl, rfl, q2⟩ := bl_of r1 q1
    exact ⟨c, rfl, q _ _ _ _ _ e1 s1 (.bl _) q2⟩
  · obtain ⟨c, rfl, rfl, q2⟩ := bl_of r1 q1
    obtain ⟨c', e', q3⟩ := q _ _ _ _ _ e1 s1 (.bl _) q2
    cases e'
    exact ⟨c, rfl, q3⟩
theorem seq_of {K : PySem.W.Frag} {R Z : Hp} {h : AH} {H : Hp} {x : V} {d : D} {P : List D → Prop} (s : HR K CA R Z h H) (r : VR K CA Z x d) (w : seqW d h P) : ∃ p xs ds, x = .ref p ∧ (SqL K H p xs ∨ SqT K H p xs) ∧ VRs K CA Z xs ds ∧ P ds := by
  cases r with
  | tup a r => exact ⟨_, _, _, rfl, .inr (sqT_mono s.sub a.sq), r, w⟩
  | lst a r => exact ⟨_, _, _, rfl, .inl ((.of (s.sub _ _ a))), r, w⟩
  | scr a r => exact ⟨_, _, _, rfl, .inl (sqL_mono s.sub a), r, w⟩
  | ref a =>
    obtain ⟨ds, e, q⟩ := (show ∃ ds, h a = some (.lst ds) ∧ P ds from w)
    obtain ⟨xs, e1, r1, _⟩ := s.lst e
    exact ⟨_, xs, ds, rfl, .inl (.of e1), r1, q⟩
  | _ => exact (show False from w).elim
theorem scV_of {K : PySem.W.Frag} {Z : Hp} {x v : V} {d : D} (r : VR K CA Z x d) (h : scV d = some v) : x = v ∧ flatV v = true := by
  cases r <;> first
    | (cases h; exact ⟨rfl, rfl⟩)
    | cases h
theorem scVs_of {K : PySem.W.Frag} {Z : Hp} : ∀ {xs vs : List V} {ds : List D}, VRs K CA Z xs ds → scVs ds = some vs → xs = vs ∧ vs.all flatV = true
  | _, _, _, .nil, h => by cases h; exact ⟨rfl, rfl⟩
  | _, _, d :: ds, .cons a r, h => by
    unfold scVs at h
    cases h1 : scV d with
    | none => rw [h1] at h; cases h
    | some v =>
      cases h2 : scVs ds with
      | none => rw [h1, h2] at h; cases h
      | some vs =>
        rw [h1, h2] at h
        cases h
        obtain ⟨e1, f1⟩ := scV_of a h1
        obtain ⟨e2, f2⟩ := scVs_of r h2
        subst e1 e2
        exact ⟨rfl, by rw [List.all_cons, f1, f2]; rfl⟩
theorem in_ok {K : PySem.W.Frag} {R Z : Hp} {h : AH} {H : Hp} {x y : V} {d e : D} {P : Bool → Prop} (s : HR K CA R Z h H) (rx : VR K CA Z x d) (ry : VR K CA Z y e) (w : inW d e h P) :
    ∃ p xs, y = .ref p ∧ (SqL K H p xs ∨ SqT K H p xs) ∧ flatV x = true ∧ xs.all flatV = true ∧ P (inV x xs) := by
  obtain ⟨p, xs, ds, rfl, hs, r, v, vs, e1, e2, q⟩ := seq_of s ry w
  obtain ⟨f1, f2⟩ := scV_of rx e1
  obtain ⟨f3, f4⟩ := scVs_of r e2
  subst f1 f3
  exact ⟨p, _, rfl, hs, f2, f4, q⟩
mutual
theorem Dp_of {K : PySem.W.Frag} {R Z : Hp} {h : AH} {H : Hp} (s : HR K CA R Z h H) : ∀ {d : D} {x : V}, flat d = true → VR K CA Z x d → Dp K H x (py d)
  | .non, _, _, .non => .non
  | .bl b, _, _, .bl _ => .bl b
  | .int i, _, _, .int _ => .int i
  | .str z, _, _, .str _ => .str z
  | .tup ds, _, f, .tup a r => .tup (sqT_mono s.sub a.sq) (Dps_of s f r)
  | .lst ds, _, f, .lst a r => .lst (.of (s.sub _ _ a)) (Dps_of s f r)
theorem Dps_of {K : PySem.W.Frag} {R Z : Hp} {h : AH} {H : Hp} (s : HR K CA R Z h H) : ∀ {ds : List D} {xs : List V}, flats ds = true → VRs K CA Z xs ds → DpAll K H xs (pys ds)
  | [], _, _, .nil => .nil
  | d :: ds, _, f, .cons a r => by
    have f' : (flat d && flats ds) = true := f
    obtain ⟨f1, f2⟩ := Bool.and_eq_true_iff.mp f'
    exact .cons (Dp_of s f1 a) (Dps_of s f2 r)
end
mutual
theorem Dp_rz {K : PySem.W.Frag} {R Z : Hp} {h : AH} {H : Hp} (s : HR K CA R Z h H) : ∀ {d d' : D} {x : V}, Rz h d d' → VR K CA Z x d → Dp K H x (py d')
  | _, _, _, .id f, r => Dp_of s f r
  | _, _, _, .ref e q, r => by
    cases r
    obtain ⟨xs, e1, r1, _⟩ := s.lst e
    exact .lst (.of e1) (Dps_rz s q r1)
  | _, _, _, .tup q, .tup a r => .tup (sqT_mono s.sub a.sq) (Dps_rz s q r)
  | _, _, _, .lst q, .lst a r => .lst (.of (s.sub _ _ a)) (Dps_rz s q r)
theorem Dps_rz {K : PySem.W.Frag} {R Z : Hp} {h : AH} {H : Hp} (s : HR K CA R Z h H) : ∀ {ds es : List D} {xs : List V}, Rzs h ds es → VRs K CA Z xs ds → DpAll K H xs (pys es)
  | _, _, _, .nil, .nil => .nil
  | _, _, _, .cons a q, .cons r t => .cons (Dp_rz s a r) (Dps_rz s q t)
end
def rInT (K : PySem.W.Frag) : R2 := fun x y H Q => ∃ d ds, Dp K H x d ∧ Dp K H y (.tuple ds) ∧ SeqAt.shaped d = true ∧ SeqAt.shaped (.list ds) = true ∧ Q (.bl (ds.any fun z => PyData.eqv z d)) H
def rNotInT (K : PySem.W.Frag) : R2 := fun x y H Q => ∃ d ds, Dp K H x d ∧ Dp K H y (.tuple ds) ∧ SeqAt.shaped d = true ∧ SeqAt.shaped (.list ds) = true ∧ Q (.bl (!ds.any fun z => PyData.eqv z d)) H
theorem op_inT {X : Cx} (hu : X.A.units + 65 < cLine) : OpR X (compareOp .In) (rInT X.K) := by
  intro pins s σ H x y v u Q I rx ry h
  obtain ⟨d, ds, hd, he, sd, se, q⟩ := h
  obtain ⟨as, r1⟩ := Dp.reads I d x v hd rx
  obtain ⟨bs, r2⟩ := Dp.reads I (.tuple ds) y u he ry
  exact SeqAt.in_tuple_reads r2 r1 (SeqAt.canLay_of_shaped se) (SeqAt.canLay_of_shaped sd) (room_in_shaped sd hu) ⟨.bl _, H, I, rfl, q⟩
theorem op_notInT {X : Cx} (hu : X.A.units + 65 < cLine) : OpR X (compareOp .NotIn) (rNotInT X.K) := by
  intro pins s σ H x y v u Q I rx ry h
  obtain ⟨d, ds, hd, he, sd, se, q⟩ := h
  obtain ⟨as, r1⟩ := Dp.reads I d x v hd rx
  obtain ⟨bs, r2⟩ := Dp.reads I (.tuple ds) y u he ry
  exact SeqAt.notIn_tuple_reads r2 r1 (SeqAt.canLay_of_shaped se) (SeqAt.canLay_of_shaped sd) (room_in_shaped sd hu) ⟨.bl _, H, I, rfl, q⟩
def rCmp (K : PySem.W.Frag) : CO → R2
  | .lt => rI0 fun i j => .bl (decide (i < j))
  | .le => rI0 fun i j => .bl (decide (i ≤ j))
  | .gt => rI0 fun i j => .bl (decide (j < i))
  | .ge => rI0 fun i j => .bl (decide (j ≤ i))
  | .eq => fun x y H Q => rEq x y H Q ∨ rEqD K x y H Q
  | .ne => fun x y H Q => rNe x y H Q ∨ rNeD K x y H Q
  | .is => fun x y H Q => (y = .non ∧ Q (.bl (decide (x = .non))) H) ∨ ∃ a b, x = .bl a ∧ y = .bl b ∧ Q (.bl (decide (a = b))) H
  | .isnot => fun x y H Q => (y = .non ∧ Q (.bl (!decide (x = .non))) H) ∨ ∃ a b, x = .bl a ∧ y = .bl b ∧ Q (.bl (!decide (a = b))) H
  | .isin => rIn K false
  | .notin => rIn K true
  | .isinD => fun x y H Q => rInD K x y H Q ∨ rInT K x y H Q
  | .notinD => fun x y H Q => rNotInD K x y H Q ∨ rNotInT K x y H Q
theorem op_cmp {o : CO} {p : CmpOp} (hr : Room k X.A) (h : coM o p = true) : OpR X (compareOp p) (rCmp X.K o) := by
  unfold coM at h
  split at h
  · exact op_lt
  · exact op_le
  · exact op_gt
  · exact op_ge
  · exact op_eq.or (op_eqD hr.units)
  · exact op_ne.or (op_neD hr.units)
  · exact op_isN.or op_is_bl
  · exact op_notN.or op_isnot_bl
  · exact op_in_seq
  · exact op_notIn_seq
  · exact (op_inD (by have := hr.un; omega)).or (op_inT (by have := hr.un; omega))
  · exact (op_notInD (by have := hr.un; omega)).or (op_notInT (by have := hr.un; omega))
  · cases h
theorem eq_ok {K : PySem.W.Frag} {R Z : Hp} {h : AH} {H : Hp} {x y : V} {d e : D} {P : Bool → Prop} (s : HR K CA R Z h H) (rx : VR K CA Z x d) (ry : VR K CA Z y e) (w : eqW d e h P) :
    (∃ i j : Int, x = .int i ∧ y = .int j ∧ P (decide (i = j))) ∨ ∃ d' e', Dp K H x d' ∧ Dp K H y e' ∧ SeqAt.shaped d' = true ∧ SeqAt.shaped e' = true ∧ P (PyData.eqv d' e') := by
  unfold eqW at w
  split at w
  · cases rx; cases ry
    exact .inl ⟨_, _, rfl, rfl, w⟩
  · obtain ⟨d', e', z1, z2, h1, h2, q⟩ := w
    exact .inr ⟨_, _, Dp_rz s z1 rx, Dp_rz s z2 ry, (Bool.and_eq_true_iff.mp h1).2, (Bool.and_eq_true_iff.mp h2).2, q⟩
theorem isNon_of {K : PySem.W.Frag} {Z : Hp} {x : V} {d : D} (r : VR K CA Z x d) : decide (x = .non) = isNon d := by
  cases r <;> simp [isNon]
theorem ii_of {K : PySem.W.Frag} {Z : Hp} {x y : V} {d e : D} {P : Int → Int → Prop} (rx : VR K CA Z x d) (ry : VR K CA Z y e) (w : ii d e P) : ∃ i j, x = .int i ∧ y = .int j ∧ P i j := by
  unfold ii at w
  split at w
  · cases rx; cases ry
    exact ⟨_, _, rfl, rfl, w⟩
  · exact w.elim
theorem cmp_ok {K : PySem.W.Frag} {R Z : Hp} {h : AH} {H : Hp} {x y : V} {d e : D} {o : CO} {P : Bool → Prop} {Q : VK} (s : HR K CA R Z h H) (rx : VR K CA Z x d) (ry : VR K CA Z y e) (w : cmpW o d e h P) (q : ∀ c, P c → Q (.bl c) H) : rCmp K o x y H Q := by
  cases o with
  | lt | le | gt | ge =>
    obtain ⟨i, j, rfl, rfl, w⟩ := ii_of rx ry w
    exact ⟨_, _, rfl, rfl, q _ w⟩
  | eq =>
    rcases eq_ok s rx ry w with ⟨i, j, rfl, rfl, z⟩ | ⟨d', e', h1, h2, h3, h4, z⟩
    · exact .inl ⟨rfl, by rw [dec_int, Bool.beq_eq_decide_eq]; exact q _ z⟩
    · exact .inr ⟨d', e', h1, h2, h3, h4, q _ z⟩
  | ne =>
    rcases eq_ok (P := fun b => P (!b)) s rx ry w with ⟨i, j, rfl, rfl, z⟩ | ⟨d', e', h1, h2, h3, h4, z⟩
    · exact .inl ⟨rfl, by rw [dec_int, Bool.beq_eq_decide_eq]; exact q _ z⟩
    · exact .inr ⟨d', e', h1, h2, h3, h4, q _ z⟩
  | is =>
    unfold cmpW at w
    cases ry with
    | non => exact .inl ⟨rfl, by rw [isNon_of rx]; exact q _ w⟩
    | bl b =>
      cases rx with
      | bl a => exact .inr ⟨a, b, rfl, rfl, q _ w⟩
      | _ => exact (show False from w).elim
    | _ => exact (show False from w).elim
  | isnot =>
    unfold cmpW at w
    cases ry with
    | non => exact .inl ⟨rfl, by rw [isNon_of rx]; exact q _ w⟩
    | bl b =>
      cases rx with
      | bl a => exact .inr ⟨a, b, rfl, rfl, q _ w⟩
      | _ => exact (show False from w).elim
    | _ => exact (show False from w).elim
  | isin =>
    obtain ⟨p, xs, e, hs, f1, f2, z⟩ := in_ok s rx ry w
    exact ⟨p, xs, e, hs, f1, f2, by rw [if_neg Bool.false_ne_true]; exact q _ z⟩
  | notin =>
    obtain ⟨p, xs, e, hs, f1, f2, z⟩ := in_ok (P := fun b => P (!b)) s rx ry w
    exact ⟨p, xs, e, hs, f1, f2, by rw [if_pos rfl]; exact q _ z⟩
  | isinD =>
    obtain ⟨x', ys, z1, z2, h1, h2, z⟩ := w
    cases e with
    | tup ds => exact .inr ⟨py x', pys ys, Dp_rz s z1 rx, Dp_rz s (d' := .tup ys) z2 ry, (Bool.and_eq_true_iff.mp h1).2, (Bool.and_eq_true_iff.mp h2).2, by rw [pys_map, List.any_map]; exact q _ z⟩
    | _ => exact .inl ⟨py x', pys ys, Dp_rz s z1 rx, Dp_rz s (d' := .lst ys) z2 ry, (Bool.and_eq_true_iff.mp h1).2, (Bool.and_eq_true_iff.mp h2).2, by rw [pys_map, List.any_map]; exact q _ z⟩
  | notinD =>
    obtain ⟨x', ys, z1, z2, h1, h2, z⟩ := w
    cases e with
    | tup ds => exact .inr ⟨py x', pys ys, Dp_rz s z1 rx, Dp_rz s (d' := .tup ys) z2 ry, (Bool.and_eq_true_iff.mp h1).2, (Bool.and_eq_true_iff.mp h2).2, by rw [pys_map, List.any_map]; exact q _ z⟩
    | _ => exact .inl ⟨py x', pys ys, Dp_rz s z1 rx, Dp_rz s (d' := .lst ys) z2 ry, (Bool.and_eq_true_iff.mp h1).2, (Bool.and_eq_true_iff.mp h2).2, by rw [pys_map, List.any_map]; exact q _ z⟩
theorem noMarks {y : Expr} (h : noSet y = true) {p : CmpOp} : behindInMarks p y = false := by
  cases y <;> first
    | rfl
    | cases h
mutual
theorem mE_noSet {G : Gbl} {N : List Str} : ∀ {e : E} {fs : FnS} {sc : Scope} {x : Expr}, mE G N e fs sc x = true → noSet x = true ∧ noStar x = true ∧ noSlice x = true
  | .frz a, fs, sc, x, h => mE_noSet (e := a) (show mE G N a fs sc x = true from h)
  | .dop o a k z, fs, sc, x, h => by
    cases x <;> first
      | exact ⟨rfl, rfl, rfl⟩
      | (cases o <;> simp [mE] at h)
  | .die, fs, sc, x, h => by
    have h : (noSet x && (noStar x && (noSlice x && (noCall0 x && noComp x)))) = true := h
    simp only [Bool.and_eq_true] at h
    exact ⟨h.1, h.2.1, h.2.2.1⟩
  | .var _, _, _, x, h | .int _, _, _, x, h | .bl _, _, _, x, h | .non, _, _, x, h | .str _, _, _, x, h | .cst _ _, _, _, x, h | .bin _ _ _, _, _, x, h | .neg _, _, _, x, h | .not _, _, _, x, h | .cmp _ _ _, _, _, x, h
  | .cmp2 _ _ _ _ _, _, _, x, h | .and _, _, _, x, h | .or _, _, _, x, h | .ife _ _ _, _, _, x, h | .tup _, _, _, x, h | .lst _ _, _, _, x, h | .ix _ _, _, _, x, h | .sl _ _ _ _ _, _, _, x, h | .call _ _, _, _, x, h
  | .blt _ _, _, _, x, h | .isi _ _, _, _, x, h | .meth _ _ _, _, _, x, h | .comp _ _ _ _ _ _ _, _, _, x, h | .nil, _, _, x, h | .cons _ _, _, _, x, h | .omit, _, _, x, h | .dict0, _, _, x, h | .meth0 _ _, _, _, x, h | .rev _ _, _, _, x, h | .rng _ _ _ _, _, _, x, h | .fld _ _, _, _, x, h | .lam _ _, none, _, x, h => by
    cases x <;> first
      | exact ⟨rfl, rfl, rfl⟩
      | (simp [mE] at h)
  | .lam _ _, some _, _, x, h => by
    have h : false = true := h
    cases h
end
theorem lastM {p q : CmpOp} {y z : Expr} (h : noSet z = true) : lastMarks [p, q] [y, z] = false := noMarks (p := q) h
theorem snd_cmp {o : CO} {p : CmpOp} {pos : Pos} (hr : Room k X.A) (hp : coM o p = true) (hy : noSet y = true) (ha : PE X x (rdE X.K CA W F a)) (hb : PE X y (rdE X.K CA W F b)) :
    PE X (.Compare x [p] [y] pos) (rdE X.K CA W F (.cmp o a b)) ∧ PT X (.Compare x [p] [y] pos) (tB (rdE X.K CA W F (.cmp o a b))) := by
  have key : ∀ σ H Q, rdE X.K CA W F (.cmp o a b) σ H Q → tOp (rCmp X.K o) (rdE X.K CA W F a) (rdE X.K CA W F b) σ H Q := fun σ H Q ⟨R, Z, v, h, Xd, Qd, s, w, q, kx⟩ =>
    two s w kx fun Z' h' x y d e H' ex s' rx ry q' => cmp_ok s'.toHR rx ry q' fun c z => q _ _ _ _ _ ex s' (.bl c) z
  exact ⟨PE_weak (pe_cmpR (op_cmp hr hp) ha hb (noMarks hy)) key, PT_weak (pt_cmpR (op_cmp hr hp) ha hb (noMarks hy)) fun σ H Q h => key σ H _ h⟩
theorem snd_cmp2 {o o' : CO} {p p' : CmpOp} {c : E} {z : Expr} {pos : Pos} (hr : Room k X.A) (hp : coM o p = true) (hp' : coM o' p' = true) (hz : noSet z = true) (ha : PE X x (rdE X.K CA W F a)) (hb : PE X y (rdE X.K CA W F b)) (hc : PE X z (rdE X.K CA W F c)) :
    PE X (.Compare x [p, p'] [y, z] pos) (rdE X.K CA W F (.cmp2 o o' a b c)) ∧ PT X (.Compare x [p, p'] [y, z] pos) (tB (rdE X.K CA W F (.cmp2 o o' a b c))) := by
  have key : ∀ σ H Q, rdE X.K CA W F (.cmp2 o o' a b c) σ H Q → tChain (rCmp X.K o) (rCmp X.K o') (rdE X.K CA W F a) (rdE X.K CA W F b) (rdE X.K CA W F c) σ H Q := fun σ H Q ⟨R, Z, v, h, Xd, Qd, s, w, q, kx⟩ =>
    two s w kx fun Z' h' x y d e H' ex s' rx ry q' => cmp_ok s'.toHR rx ry q' fun t ⟨q1, q2⟩ => by
      cases t with
      | false => exact ⟨false, rfl, by rw [if_neg Bool.false_ne_true]; exact q _ _ _ _ _ ex s' (.bl _) (q2 rfl)⟩
      | true =>
        refine ⟨true, rfl, ?_⟩
        rw [if_pos rfl]
        exact ⟨R, Z', v, h', Xd, _, s', q1 rfl, fun Z2 h2 z f H2 e2 s2 r2 q3 => cmp_ok s2.toHR (ry.mono e2) r2 q3 fun c z => q _ _ _ _ _ (ex.trans e2) s2 (.bl c) z, kx.mono ex⟩
  exact ⟨PE_weak (pe_chain (op_cmp hr hp) (op_cmp hr hp') ha hb hc (lastM hz)) key, PT_weak (pt_chain (op_cmp hr hp) (op_cmp hr hp') ha hb hc (lastM hz)) fun σ H Q h => key σ H _ h⟩
theorem starE {x : Expr} {xs : List Expr} {env : Env} (h : noStar x = true) : starEach (x :: xs) env = (false, eval x env) :: starEach xs env := by
  cases x <;> first
    | rfl
    | cases h
theorem snd_nil : SndLX F CA X W .nil [] :=
  ⟨PA_weak pa_nil fun σ H Q ⟨R, Z, v, h, Xd, Qd, s, w, q, kx⟩ => q _ _ _ _ _ (Ext.refl Z) s .nil w, (fun x e => nomatch e), fun _ e => absurd rfl e, fun _ e => absurd rfl e, fun _ e => absurd rfl e, fun _ e => absurd rfl e⟩
theorem snd_cons {xs : List Expr} (hx : noStar x = true) (ha : PE X x (rdE X.K CA W F a)) (ht : PT X x (tB (rdE X.K CA W F a))) (hb : SndLX F CA X W b xs) (hm : xs = [] → b = .nil) (hm2 : b = .nil → xs = []) : SndLX F CA X W (.cons a b) (x :: xs) := by
  refine ⟨PA_weak (pa_cons ha hb.pa (starE hx)) fun σ H Q ⟨R, Z, v, h, Xd, Qd, s, w, q, kx⟩ => ?_, fun y e => ?_, fun pos _ => ?_, fun pos _ => ?_, fun pos _ => ?_, fun pos _ => ?_⟩
  · exact ⟨R, Z, v, h, Xd, _, s, w, fun Z1 h1 x d H1 e1 s1 r1 q1 => ⟨R, Z1, v, h1, Xd, _, s1, q1, fun Z2 h2 ys ds H2 e2 s2 r2 q2 => q _ _ _ _ _ (e1.trans e2) s2 (.cons (r1.mono e2) r2) q2, kx.mono e1⟩, kx⟩
  · obtain ⟨rfl, rfl⟩ := List.cons.inj e
    obtain rfl := hm rfl
    exact PE_weak ha fun σ H Q ⟨R, Z, v, h, Xd, Qd, s, w, q, kx⟩ => ⟨R, Z, v, h, Xd, _, s, w, fun Z1 h1 x d H1 e1 s1 r1 q1 => by
      obtain ⟨y, e, z⟩ := q _ _ _ _ _ e1 s1 (.cons r1 .nil) q1
      cases e
      exact z, kx⟩
  · cases xs with
    | nil =>
      obtain rfl := hm rfl
      exact PE_weak (pe_one ha) fun σ H Q ⟨R, Z, v, h, Xd, Qd, s, w, q, kx⟩ => ⟨R, Z, v, h, Xd, _, s, w, fun Z1 h1 x d H1 e1 s1 r1 q1 => by
        obtain ⟨c, rfl, rfl, q2⟩ := bl_of r1 q1
        exact q _ _ _ _ _ e1 s1 (.bl _) q2, kx⟩
    | cons y ys =>
      refine PE_weak (pe_and ha (hb.aE pos (fun e => nomatch e))) fun σ H Q ⟨R, Z, v, h, Xd, Qd, s, w, q, kx⟩ => ⟨R, Z, v, h, Xd, fun d h => blW d fun c => (c = true → wpA F b v h Xd Qd) ∧ (c = false → Qd (.bl false) h), s, ?_, fun Z1 h1 x d H1 e1 s1 r1 q1 => ?_, kx⟩
      · cases b with
        | nil => exact absurd (hm2 rfl) (fun e => nomatch e)
        | _ => exact w
      · obtain ⟨c, rfl, rfl, q2, q3⟩ := bl_of r1 q1
        refine ⟨c, rfl, ?_⟩
        cases c with
        | true => rw [if_pos rfl]; exact ⟨R, Z1, v, h1, Xd, Qd, s1, q2 rfl, q.mono e1, kx.mono e1⟩
        | false => rw [if_neg Bool.false_ne_true]; exact q _ _ _ _ _ e1 s1 (.bl _) (q3 rfl)
  · cases xs with
    | nil =>
      obtain rfl := hm rfl
      exact PW_weak (pw_and1 ht) fun σ H Q ⟨R, Z, v, h, Xd, Qd, s, w, q, kx⟩ => ⟨R, Z, v, h, Xd, _, s, w, fun Z1 h1 x d H1 e1 s1 r1 q1 => by
        obtain ⟨c, rfl, rfl, q2⟩ := bl_of r1 q1
        exact q _ _ _ _ _ e1 s1 (.bl _) q2, kx⟩
    | cons y ys =>
      refine PW_weak (pw_and ht (hb.aT pos (fun e => nomatch e))) fun σ H Q ⟨R, Z, v, h, Xd, Qd, s, w, q, kx⟩ => ⟨R, Z, v, h, Xd, fun d h => blW d fun c => (c = true → wpA F b v h Xd Qd) ∧ (c = false → Qd (.bl false) h), s, ?_, fun Z1 h1 x d H1 e1 s1 r1 q1 => ?_, kx⟩
      · cases b with
        | nil => exact absurd (hm2 rfl) (fun e => nomatch e)
        | _ => exact w
      · obtain ⟨c, rfl, rfl, q2, q3⟩ := bl_of r1 q1
        refine ⟨c, rfl, ?_⟩
        cases c with
        | true => rw [if_pos rfl]; exact ⟨R, Z1, v, h1, Xd, Qd, s1, q2 rfl, q.mono e1, kx.mono e1⟩
        | false =>
          rw [if_neg Bool.false_ne_true]
          obtain ⟨c, e, z⟩ := q _ _ _ _ _ e1 s1 (.bl _) (q3 rfl)
          cases e; exact z
  · cases xs with
    | nil =>
      obtain rfl := hm rfl
      exact PE_weak (pe_one ha) fun σ H Q ⟨R, Z, v, h, Xd, Qd, s, w, q, kx⟩ => ⟨R, Z, v, h, Xd, _, s, w, fun Z1 h1 x d H1 e1 s1 r1 q1 => by
        obtain ⟨c, rfl, rfl, q2⟩ := bl_of r1 q1
        exact q _ _ _ _ _ e1 s1 (.bl _) q2, kx⟩
    | cons y ys =>
      refine PE_weak (pe_or ha (hb.oE pos (fun e => nomatch e))) fun σ H Q ⟨R, Z, v, h, Xd, Qd, s, w, q, kx⟩ => ⟨R, Z, v, h, Xd, fun d h => blW d fun c => (c = true → Qd (.bl true) h) ∧ (c = false → wpB F b v h Xd Qd), s, ?_, fun Z1 h1 x d H1 e1 s1 r1 q1 => ?_, kx⟩
      · cases b with
        | nil => exact absurd (hm2 rfl) (fun e => nomatch e)
        | _ => exact w
      · obtain ⟨c, rfl, rfl, q2, q3⟩ := bl_of r1 q1
        refine ⟨c, rfl, ?_⟩
        cases c with
        | true => rw [if_pos rfl]; exact q _ _ _ _ _ e1 s1 (.bl _) (q2 rfl)
        | false => rw [if_neg Bool.false_ne_true]; exact ⟨R, Z1, v, h1, Xd, Qd, s1, q3 rfl, q.mono e1, kx.mono e1⟩
  · cases xs with
    | nil =>
      obtain rfl := hm rfl
      exact PW_weak (pw_or1 ht) fun σ H Q ⟨R, Z, v, h, Xd, Qd, s, w, q, kx⟩ => ⟨R, Z, v, h, Xd, _, s, w, fun Z1 h1 x d H1 e1 s1 r1 q1 => by
        obtain ⟨c, rfl, rfl, q2⟩ := bl_of r1 q1
        exact q _ _ _ _ _ e1 s1 (.bl _) q2, kx⟩
    | cons y ys =>
      refine PW_weak (pw_or ht (hb.oT pos (fun e => nomatch e))) fun σ H Q ⟨R, Z, v, h, Xd, Qd, s, w, q, kx⟩ => ⟨R, Z, v, h, Xd, fun d h => blW d fun c => (c = true → Qd (.bl true) h) ∧ (c = false → wpB F b v h Xd Qd), s, ?_, fun Z1 h1 x d H1 e1 s1 r1 q1 => ?_, kx⟩
      · cases b with
        | nil => exact absurd (hm2 rfl) (fun e => nomatch e)
        | _ => exact w
      · obtain ⟨c, rfl, rfl, q2, q3⟩ := bl_of r1 q1
        refine ⟨c, rfl, ?_⟩
        cases c with
        | true =>
          rw [if_pos rfl]
          obtain ⟨c, e, z⟩ := q _ _ _ _ _ e1 s1 (.bl _) (q2 rfl)
          cases e; exact z
        | false => rw [if_neg Bool.false_ne_true]; exact ⟨R, Z1, v, h1, Xd, Qd, s1, q3 rfl, q.mono e1, kx.mono e1⟩
end
end Ab
namespace Ab
open PySem PySem.Spec PyProof.Rows L2
section
variable {G : Gbl} {N : List Str} {F : FT} {k : Nat} {CA : CAT} {fs : FnS} {sc : Scope} {X : Cx} {W : WX} {a b : E} {x y : Expr}
theorem VR.lift {K : PySem.W.Frag} {Z : Hp} {x : V} {d : D} (r : VR K CA (fun _ => none) x d) : VR K CA Z x d := r.mono fun _ _ e => by cases e
theorem snd_var {i : Nat} {n : Str} {pos : Pos} (hN : X.N[i]? = some n) (hv : Vis X.env.scope n) (hd : okN n = true) : PE X (.Name n pos) (rdE X.K CA W F (.var i)) := by
  unfold okN at hd
  simp only [Bool.and_eq_true, Bool.not_eq_true'] at hd
  refine PE_weak (pe_var hN hv hd.1 hd.2) fun σ H Q ⟨R, Z, v, h, Xd, Qd, s, w, q, kx⟩ => ?_
  have w' : (match v[i]? with | some (some d) => Qd d h | _ => False) := w
  split at w'
  · rename_i d e
    obtain ⟨x, e1, r⟩ := s.env _ _ e
    exact ⟨x, e1, q _ _ _ _ _ (Ext.refl Z) s r w'⟩
  · exact w'.elim
theorem snd_cst {n : Str} {d : D} {pos : Pos} (g : GOk G F k CA X.prog X.w X.K X.mg X.base) (hg : glB X.env.scope n = true) (hl : G.csts.lookup n = some d) : PE X (.Name n pos) (rdE X.K CA W F (.cst n d)) := by
  obtain ⟨h1, h2, h3⟩ := glB_ok hg
  obtain ⟨u, v, m, r, vr⟩ := g.cst _ _ hl
  exact PE_weak (pe_glob h1 m r h2) fun σ H Q ⟨R, Z, v, h, Xd, Qd, s, w, q, kx⟩ => q _ _ _ _ _ (Ext.refl Z) s vr.lift w
theorem tC_ok {W : WX} {σ : L2.St} {H : Hp} {Q : VK} {K : PySem.W.Frag} {e : E} {x : V} {d : D} (h : rdE K CA W F e σ H Q) (r : ∀ Z, VR K CA Z x d) (he : ∀ v h Xd (Qd : PQ), wpE F e v h Xd Qd → Qd d h) : Q x H :=
  let ⟨R, Z, v, h, Xd, Qd, s, w, q, kx⟩ := h
  q _ _ _ _ _ (Ext.refl Z) s (r Z) (he _ _ _ _ w)
theorem snd_ife {t : E} {z : Expr} {pos : Pos} (ht : PT X z (tB (rdE X.K CA W F t))) (ha : PE X x (rdE X.K CA W F a)) (hb : PE X y (rdE X.K CA W F b)) : PE X (.IfExp z x y pos) (rdE X.K CA W F (.ife t a b)) :=
  PE_weak (pe_ifExp ht ha hb) fun σ H Q ⟨R, Z, v, h, Xd, Qd, s, w, q, kx⟩ => ⟨R, Z, v, h, Xd, _, s, w, fun Z1 h1 x d H1 e1 s1 r1 q1 => by
    obtain ⟨c, rfl, rfl, q2, q3⟩ := bl_of r1 q1
    refine ⟨c, rfl, ?_⟩
    cases c with
    | true => rw [if_pos rfl]; exact ⟨R, Z1, v, h1, Xd, Qd, s1, q2 rfl, q.mono e1, kx.mono e1⟩
    | false => rw [if_neg Bool.false_ne_true]; exact ⟨R, Z1, v, h1, Xd, Qd, s1, q3 rfl, q.mono e1, kx.mono e1⟩, kx⟩
theorem snd_ifeT {t : E} {z : Expr} {pos : Pos} (ht : PT X z (tB (rdE X.K CA W F t))) (ha : PT X x (tB (rdE X.K CA W F a))) (hb : PT X y (tB (rdE X.K CA W F b))) : PT X (.IfExp z x y pos) (tB (rdE X.K CA W F (.ife t a b))) := by
  refine ⟨fun pins s σ H Q I hw => ?_⟩
  obtain ⟨R, Z, v, h, Xd, Qd, sr, w, q, kx⟩ := hw
  show wpAny _ _ (do if ← isTrue z X.env (eval z X.env) then isTrue x X.env (eval x X.env) else isTrue y X.env (eval y X.env)) _ _ s
  refine wpAny_bind (thn (ht.run pins s σ H (fun c H1 => if c = true then tB (rdE X.K CA W F a) σ H1 Q else tB (rdE X.K CA W F b) σ H1 Q) I ⟨R, Z, v, h, Xd, _, sr, w, fun Z1 h1 x d H1 e1 s1 r1 q1 => ?_, kx⟩) fun c s1 ⟨H1, I1, q1⟩ => ?_)
  · obtain ⟨c, rfl, rfl, q2, q3⟩ := bl_of r1 q1
    refine ⟨c, rfl, ?_⟩
    cases c with
    | true => rw [if_pos rfl]; exact ⟨R, Z1, v, h1, Xd, Qd, s1, q2 rfl, q.mono e1, kx.mono e1⟩
    | false => rw [if_neg Bool.false_ne_true]; exact ⟨R, Z1, v, h1, Xd, Qd, s1, q3 rfl, q.mono e1, kx.mono e1⟩
  · cases c with
    | true => rw [if_pos rfl] at q1 ⊢; exact ha.run pins s1 σ H1 Q I1 q1
    | false => rw [if_neg Bool.false_ne_true] at q1 ⊢; exact hb.run pins s1 σ H1 Q I1 q1
theorem snd_tup {es : E} {xs : List Expr} {m : Nat} {pos : Pos} (h : PA X xs (rdL X.K CA W F es)) : PE X (.Tuple xs m pos) (rdE X.K CA W F (.tup es)) :=
  PE_weak (pe_tup h) fun σ H Q ⟨R, Z, v, h, Xd, Qd, s, w, q, kx⟩ => ⟨R, Z, v, h, Xd, _, s, w, fun Z1 h1 vs ds H1 e1 s1 r1 ⟨q1, q2⟩ =>
    ⟨by rw [r1.len]; exact q1, fun p hp => q _ _ _ _ _ (e1.trans (ext_new (s1.freeZ hp))) (s1.with (ext_new (s1.freeZ hp)) (s1.toHR.fresh _ hp)) (.tup (.of upd_same) (r1.mono (ext_new (s1.freeZ hp)))) q2⟩, kx⟩
theorem lnew_ok {K : PySem.W.Frag} {R Z : Hp} {v : Env'} {h : AH} {σ : L2.St} {H : Hp} {Qd : PQ} {Q : VK} {f : Bool} {xs : List V} {ds : List D} (s : SR K CA R Z v h σ H) (r : VRs K CA Z xs ds) (w : lnew f ds h Qd) (q : KQ K CA R Z v σ Qd Q) :
    xs.length ≤ sizeLine ∧ ∀ p, H p = none → Q (.ref p) (upd H p (.lst xs)) := by
  obtain ⟨w1, w2⟩ := w
  refine ⟨by rw [r.len]; exact w1, fun p hp => ?_⟩
  cases f with
  | true => exact q _ _ _ _ _ (ext_new (s.freeZ hp)) (s.with (ext_new (s.freeZ hp)) (s.toHR.fresh _ hp)) (.lst upd_same (r.mono (ext_new (s.freeZ hp)))) w2
  | false => exact q _ _ _ _ _ (Ext.refl Z) (s.with (Ext.refl Z) (s.toHR.new (c := .lst ds) hp r)) (.ref p) (w2 p (s.free hp))
theorem snd_lst {f : Bool} {es : E} {xs : List Expr} {pos : Pos} (h : PA X xs (rdL X.K CA W F es)) : PE X (.List xs pos) (rdE X.K CA W F (.lst f es)) :=
  PE_weak (pe_lst h) fun σ H Q ⟨R, Z, v, h, Xd, Qd, s, w, q, kx⟩ => ⟨R, Z, v, h, Xd, _, s, w, fun Z1 h1 vs ds H1 e1 s1 r1 q1 => lnew_ok s1 r1 q1 (q.mono e1), kx⟩
theorem atI_of {K : PySem.W.Frag} {Z : Hp} {xs : List V} {ds : List D} {i : Int} {d : D} (r : VRs K CA Z xs ds) (h : atI ds i = some d) : ∃ x, atI xs i = some x ∧ VR K CA Z x d := by
  unfold atI at h ⊢
  rw [r.len]
  cases e : ixN ds.length i with
  | none => rw [e] at h; cases h
  | some j =>
    rw [e] at h
    exact r.get (i := j) h
theorem plainIx {e : Expr} (h : noSlice e = true) : PlainIx e := fun o i => by
  cases e <;> first
    | rfl
    | cases h
theorem snd_ix {pos : Pos} (hy : noSlice y = true) (ha : PE X x (rdE X.K CA W F a)) (hb : PE X y (rdE X.K CA W F b)) : PE X (.Subscript x y pos) (rdE X.K CA W F (.ix a b)) :=
  PE_weak (pe_ix ix_seq ha hb (plainIx hy)) fun σ H Q ⟨R, Z, v, h, Xd, Qd, s, w, q, kx⟩ => two s w kx fun Z' h' x y d e H' ex s' rx ry q' => by
    cases ry with
    | int i =>
      obtain ⟨p, xs, ds, rfl, hs, r, f, e, q2⟩ := seq_of s'.toHR rx q'
      obtain ⟨z, e1, r1⟩ := atI_of r e
      rcases hs with hs | hs
      · exact .inl ⟨p, xs, i, z, rfl, rfl, hs, e1, q _ _ _ _ _ ex s' r1 q2⟩
      · exact .inr (.inl ⟨p, xs, i, z, rfl, rfl, hs, e1, q _ _ _ _ _ ex s' r1 q2⟩)
    | _ => exact (show False from q').elim
def rSl (K : PySem.W.Frag) : V → Option Int → Option Int → Hp → VK → Prop := fun x lo hi H Q => rSlA K x lo hi H Q ∨ rSlL K x lo hi H Q
theorem VRs.cut {K : PySem.W.Frag} {Z : Hp} {xs : List V} {ds : List D} (r : VRs K CA Z xs ds) (lo hi : Option Int) : VRs K CA Z (cutV xs lo hi) (cutD ds lo hi) := by
  unfold cutV cutD
  rw [r.len]
  exact (r.drop _).take _
theorem sl_ok {K : PySem.W.Frag} {R Z : Hp} {v : Env'} {h : AH} {σ : L2.St} {H : Hp} {Qd : PQ} {Q : VK} {f : Bool} {x : V} {d : D} {lo hi : Option Int} (s : SR K CA R Z v h σ H) (r : VR K CA Z x d) (w : slW f x' lo hi h Qd) (hx : x' = d) (q : KQ K CA R Z v σ Qd Q) : rSl K x lo hi H Q := by
  subst hx
  cases r with
  | @tup a' xs ds a r =>
    refine .inl ⟨_, _, rfl, sqT_mono s.sub a.sq, fun ⟨e1, e2⟩ => ?_, fun _ p hp => ?_⟩
    · have e : cutD ds lo hi = ds := by
        unfold cutD
        rw [← r.len, e1, e2, List.drop_zero, Nat.sub_zero, r.len]
        exact List.take_length
      have w' : Qd (.tup (cutD ds lo hi)) h := w
      rw [e] at w'
      exact q _ _ _ _ _ (Ext.refl Z) s (.tup a r) w'
    · exact q _ h _ _ _ (ext_new (s.freeZ hp)) (s.with (ext_new (s.freeZ hp)) (s.toHR.fresh _ hp)) (.tup (.of upd_same) ((r.cut lo hi).mono (ext_new (s.freeZ hp)))) w
  | lst a r => exact .inr ⟨_, _, rfl, (.of (s.sub _ _ a)), (lnew_ok s (r.cut lo hi) w q).2⟩
  | ref a =>
    obtain ⟨ds, e, w⟩ := (show ∃ ds, h a = some (.lst ds) ∧ lnew f (cutD ds lo hi) h Qd from w)
    obtain ⟨xs, e1, r1, _⟩ := s.lst e
    exact .inr ⟨_, _, rfl, .of e1, (lnew_ok s (r1.cut lo hi) w q).2⟩
  | _ => exact (show False from w).elim
theorem int_of {K : PySem.W.Frag} {Z : Hp} {x : V} {d : D} {P : Int → Prop} (r : VR K CA Z x d) (w : intI d P) : ∃ i, x = .int i ∧ d = .int i ∧ P i := by
  cases r <;> first
    | exact ⟨_, rfl, rfl, w⟩
    | exact (show False from w).elim
theorem snd_slL {f : Bool} {lo hi : E} {l : Expr} {p2 pos : Pos} (ha : PE X x (rdE X.K CA W F a)) (hl : PE X l (rdE X.K CA W F lo)) : PE X (.Subscript x (.Slice (some l) none none p2) pos) (rdE X.K CA W F (.sl f .lo a lo hi)) :=
  PE_weak (pe_slice (sl_tupA.or sl_list) ha (po_some hl) po_none) fun σ H Q ⟨R, Z, v, h, Xd, Qd, s, w, q, kx⟩ => two s w kx fun Z' h' x y d e H' ex s' rx ry q' => by
    obtain ⟨i, rfl, rfl, q2⟩ := int_of ry q'
    exact ⟨i, rfl, sl_ok s' rx q2 rfl (q.mono ex)⟩
theorem snd_slH {f : Bool} {lo hi : E} {u : Expr} {p2 pos : Pos} (ha : PE X x (rdE X.K CA W F a)) (hu : PE X u (rdE X.K CA W F hi)) : PE X (.Subscript x (.Slice none (some u) none p2) pos) (rdE X.K CA W F (.sl f .hi a lo hi)) :=
  PE_weak (pe_slice (sl_tupA.or sl_list) ha po_none (po_some hu)) fun σ H Q ⟨R, Z, v, h, Xd, Qd, s, w, q, kx⟩ => two s w kx fun Z' h' x y d e H' ex s' rx ry q' => by
    obtain ⟨i, rfl, rfl, q2⟩ := int_of ry q'
    exact ⟨i, rfl, sl_ok s' rx q2 rfl (q.mono ex)⟩
theorem snd_slB {f : Bool} {lo hi : E} {l u : Expr} {p2 pos : Pos} (ha : PE X x (rdE X.K CA W F a)) (hl : PE X l (rdE X.K CA W F lo)) (hu : PE X u (rdE X.K CA W F hi)) : PE X (.Subscript x (.Slice (some l) (some u) none p2) pos) (rdE X.K CA W F (.sl f .both a lo hi)) :=
  PE_weak (pe_slice (sl_tupA.or sl_list) ha (po_some hl) (po_some hu)) fun σ H Q ⟨R, Z, v, h, Xd, Qd, s, w, q, kx⟩ =>
    ⟨R, Z, v, h, Xd, _, s, w, fun Z1 h1 x d H1 e1 s1 r1 q1 => ⟨R, Z1, v, h1, Xd, _, s1, q1, fun Z2 h2 y e H2 e2 s2 r2 q2 => by
      obtain ⟨i, rfl, rfl, q3⟩ := int_of r2 q2
      refine ⟨i, rfl, R, Z2, v, h2, Xd, _, s2, q3, fun Z3 h3 z f H3 e3 s3 r3 q4 => ?_, (kx.mono e1).mono e2⟩
      obtain ⟨j, rfl, rfl, q5⟩ := int_of r3 q4
      exact ⟨j, rfl, sl_ok s3 ((r1.mono e2).mono e3) q5 rfl (q.mono ((e1.trans e2).trans e3))⟩, kx.mono e1⟩, kx⟩
theorem pl_ok {pos : Pos} : ∀ ys : List Expr, (∀ y ∈ ys, noStar y = true) → (backTo pos (starEach ys X.env)).any (·.1) = false
  | [], _ => rfl
  | y :: ys, h => by
    rw [starE (h y List.mem_cons_self)]
    have := pl_ok (pos := pos) ys fun z hz => h z (List.mem_cons_of_mem _ hz)
    unfold backTo at this ⊢
    rw [List.map_cons, List.any_cons, this]
    rfl
theorem snd_call {i : Nat} {n : Str} {es : E} {e : Expr} {xs : List Expr} {p pos : Pos} {fn : Fn} (g : GOk G F k CA X.prog X.w X.K X.mg X.base) (hr : Room (5 * k) X.A) (tk : Takes X W) (hi : G.fns i = some fn) (hn : fn.name = n) (hg : glB X.env.scope n = true)
    (hs : noStar e = true) (hss : ∀ y ∈ xs, noStar y = true) (ha : PA X (e :: xs) (rdL X.K CA W F es)) : PE X (.Call (.Name n p) (e :: xs) [] pos) (rdE X.K CA W F (.call i es)) := by
  subst hn
  obtain ⟨f, fd, m, kp, b, ok⟩ := g.fns _ _ hi
  obtain ⟨h1, h2, h3⟩ := glB_ok hg
  have pl : ∀ ys : List Expr, (∀ y ∈ ys, noStar y = true) → (backTo pos (starEach ys X.env)).any (·.1) = false := by
    intro ys
    induction ys with
    | nil => intro _; rfl
    | cons y ys ih =>
      intro h
      rw [starE (h y List.mem_cons_self)]
      have := ih fun z hz => h z (List.mem_cons_of_mem _ hz)
      unfold backTo at this ⊢
      rw [List.map_cons, List.any_cons, this]
      rfl
  refine PE_weak (pe_callS ok hr h1 m kp b (fun σ => passAt tk σ) ha h2 (starE hs) (pl xs hss)) fun σ H Q ⟨R, Z, v, h, Xd, Qd, s, w, q, kx⟩ => ?_
  refine ⟨R, Z, v, h, Xd, fun ds h => F i ds h Xd Qd, s, w, fun Z1 h1 vs ds H1 e1 s1 r1 q1 => ?_, kx⟩
  refine ⟨?_, R, Z1, h1, ds, Xd, Qd, s1.toHR, r1, q1, fun Z' h' x d H' e2 s2 r2 q2 => q _ _ _ _ _ (e1.trans e2) (s1.with e2 s2) r2 q2, fun Z' h' x cls dd H' e2 s2 r2 q2 => kx _ _ _ _ _ _ (e1.trans e2) s2 r2 q2⟩
  rw [r1.len]
  exact g.fl _ _ hi _ _ _ _ q1
def rSum2 (K : PySem.W.Frag) : List V → Hp → VK → Prop := fun vs H Q => ∃ (a : Addr) (ns : List Int), vs = [V.ref a] ∧ (SqL K H a (ns.map V.int) ∨ SqT K H a (ns.map V.int)) ∧ Q (.int ns.sum) H
theorem sum_rawT {prog : Program} {w : World} {A : Around} {E : Value → Shared → Prop} {s : Shared} {l : Addr} {its : List Value} {ns : List Int} {Q : Value → Shared → Prop} (hh : A.handled = none) (hl : s.heap.IsTuple l its.toArray) (hi : IntsAre its ns)
    (h : ∀ h' tk t', (∀ b o, s.heap.get? b = some o → h'.get? b = some o) → Q (.int ns.sum t') { s with heap := h', toks := tk }) : wpAny (model prog w) A (call (.builtin "sum") [.ref l]) Q E s := by
  obtain ⟨xs, e⟩ := hi.allInts.items
  have hn : numsOf (intItems xs).toList = ns := by rw [← e]; exact hi.numsOf
  rw [nums_intItems] at hn
  rw [e] at hl
  refine PySem.W.ktm_sumG hh hl fun h' tk t' hk => ?_
  have := h h' tk t' hk
  rw [preSum_eq, List.take_of_length_le (by simp), hn]; exact this
theorem cr_sum2 {X : Cx} (hc : X.calm = true) : CallR X (.builtin "sum") (rSum2 X.K) := by
  intro pins s σ H vs us Q I r h
  obtain ⟨a, ns, rfl, hs, q⟩ := h
  rcases hs with hs | hs
  · exact cr_sum hc pins s σ H _ us Q I r ⟨a, ns, rfl, hs, q⟩
  · obtain ⟨its, rv, ht, _⟩ := I.tuple hs
    rw [Vals.ref1 r]
    exact sum_rawT (I.ok.hd hc) (show s.heap.IsTuple a its.toArray from ht) rv.ints fun h' tk t' hk => ⟨.int _, H, I.kept hk, ⟨_, rfl⟩, q⟩
def rBlt (K : PySem.W.Frag) : BI → List V → Hp → VK → Prop
  | .len => fun xs H Q => ∃ x n, xs = [x] ∧ LenV K x H n ∧ Q (.int n) H
  | .abs => fun xs H Q => ∃ i, xs = [.int i] ∧ Q (.int (if i < 0 then -i else i)) H
  | .int => fun xs H Q => (∃ i, xs = [.int i] ∧ Q (.int i) H) ∨ ∃ k, xs = [.bl k] ∧ Q (.int (if k then 1 else 0)) H
  | .sum => rSum2 K
  | .min1 => rMin K
  | .min2 => fun xs H Q => ∃ i j, xs = [.int i, .int j] ∧ Q (.int (if j < i then j else i)) H
  | .min3 => rNuC3 nuMin3
  | .max2 => fun xs H Q => ∃ i j, xs = [.int i, .int j] ∧ Q (.int (if j > i then j else i)) H
  | .tuple => fun xs H Q => ∃ p ys, xs = [.ref p] ∧ ((SqL K H p ys ∧ ∀ l, H l = none → Q (.ref l) (upd H l (.tup ys))) ∨ (SqT K H p ys ∧ Q (.ref p) H))
  | .all => rAll K
  | .any => rAny K
  | .sorted | .sortedF => rSorted K
  | .list | .listF => fun xs H Q => ∃ p ys, xs = [.ref p] ∧ (SqL K H p ys ∨ SqT K H p ys) ∧ ∀ l, H l = none → Q (.ref l) (upd H l (.lst ys))
theorem lst_of {K : PySem.W.Frag} {R Z : Hp} {h : AH} {H : Hp} {x : V} {d : D} {P : List D → Prop} (s : HR K CA R Z h H) (r : VR K CA Z x d) (w : lstW d h P) : ∃ p xs ds, x = .ref p ∧ SqL K H p xs ∧ VRs K CA Z xs ds ∧ P ds := by
  cases r with
  | lst a r => exact ⟨_, _, _, rfl, .of (s.sub _ _ a), r, w⟩
  | scr a r => exact ⟨_, _, _, rfl, sqL_mono s.sub a, r, w⟩
  | ref a =>
    obtain ⟨ds, e, q⟩ := (show ∃ ds, h a = some (.lst ds) ∧ P ds from w)
    obtain ⟨xs, e1, r1, _⟩ := s.lst e
    exact ⟨_, xs, ds, rfl, .of e1, r1, q⟩
  | _ => exact (show False from w).elim
theorem one_of {K : PySem.W.Frag} {Z : Hp} {xs : List V} {d : D} (r : VRs K CA Z xs [d]) : ∃ x, xs = [x] ∧ VR K CA Z x d := by
  cases r with
  | cons a b => cases b; exact ⟨_, rfl, a⟩
theorem two_of {K : PySem.W.Frag} {Z : Hp} {xs : List V} {d e : D} (r : VRs K CA Z xs [d, e]) : ∃ x y, xs = [x, y] ∧ VR K CA Z x d ∧ VR K CA Z y e := by
  cases r with
  | cons a b =>
    obtain ⟨y, rfl, c⟩ := one_of b
    exact ⟨_, _, rfl, a, c⟩
theorem blt_ok {K : PySem.W.Frag} {R Z : Hp} {v : Env'} {h : AH} {σ : L2.St} {H : Hp} {Qd : PQ} {Q : VK} {b : BI} {xs : List V} {ds : List D} (s : SR K CA R Z v h σ H) (r : VRs K CA Z xs ds) (w : bltW b ds h Qd) (q : KQ K CA R Z v σ Qd Q) : rBlt K b xs H Q := by
  have fin : ∀ {z : V} {f : D}, VR K CA Z z f → Qd f h → Q z H := fun r w => q Z h _ _ H (Ext.refl Z) s r w
  unfold bltW at w
  split at w
  · obtain ⟨x, rfl, q1⟩ := one_of r
    split at w
    · cases q1
      exact ⟨.str _, _, rfl, ⟨w.1, rfl⟩, fin (.int _) w.2⟩
    · obtain ⟨p, ys, es, rfl, hs, r2, q2⟩ := seq_of s.toHR q1 w
      refine ⟨.ref p, es.length, rfl, ?_, fin (.int _) q2⟩
      rcases hs with hs | hs
      · exact .inl ⟨ys, hs, r2.len.symm⟩
      · exact .inr ⟨ys, hs, r2.len.symm⟩
  · obtain ⟨x, rfl, q1⟩ := one_of r
    cases q1
    exact ⟨_, rfl, fin (.int _) w⟩
  · obtain ⟨x, rfl, q1⟩ := one_of r
    cases q1
    exact .inl ⟨_, rfl, fin (.int _) w⟩
  · obtain ⟨x, rfl, q1⟩ := one_of r
    cases q1
    exact .inr ⟨_, rfl, fin (.int _) w⟩
  · obtain ⟨x, rfl, q1⟩ := one_of r
    obtain ⟨p, ys, es, rfl, hs, r2, ns, rfl, q2⟩ := seq_of s.toHR q1 w
    exact ⟨p, ns, rfl, by rw [← r2.ints]; exact hs, fin (.int _) q2⟩
  · obtain ⟨x, rfl, q1⟩ := one_of r
    obtain ⟨p, ys, es, rfl, hs, r2, ns, rfl, q2, q3⟩ := lst_of s.toHR q1 w
    exact ⟨p, ns, rfl, by rw [← r2.ints]; exact hs, q2, fun m h1 h2 => fin (.int _) (q3 m h1 h2)⟩
  · obtain ⟨x, y, rfl, q1, q2⟩ := two_of r
    cases q1; cases q2
    exact ⟨_, _, rfl, fin (.int _) w⟩
  · rename_i i j l
    cases r with
    | cons ra rr =>
      obtain ⟨y, z, rfl, rb, rc⟩ := two_of rr
      cases ra; cases rb; cases rc
      refine ⟨.int i, .int j, .int l, .int (if l < (if j < i then j else i) then l else (if j < i then j else i)), rfl, ?_, fin (.int _) w⟩
      have e1 : nuMin2 (.int i) (.int j) = some (.int (if j < i then j else i)) := by
        show some (if decide (j < i) = true then V.int j else V.int i) = _
        by_cases c : j < i <;> simp [c]
      unfold nuMin3
      rw [e1, Option.bind_some]
      generalize (if j < i then j else i) = m
      show some (if decide (l < m) = true then V.int l else V.int m) = _
      by_cases c : l < m <;> simp [c]
  · obtain ⟨x, y, rfl, q1, q2⟩ := two_of r
    cases q1; cases q2
    exact ⟨_, _, rfl, fin (.int _) w⟩
  · obtain ⟨x, rfl, q1⟩ := one_of r
    cases q1 with
    | lst a r2 => exact ⟨_, _, rfl, .inl ⟨.of (s.sub _ _ a), fun l hl => q _ h _ _ _ (ext_new (s.freeZ hl)) (s.with (ext_new (s.freeZ hl)) (s.toHR.fresh _ hl)) (.tup (.of upd_same) (r2.mono (ext_new (s.freeZ hl)))) w⟩⟩
    | scr a r2 => exact ⟨_, _, rfl, .inl ⟨sqL_mono s.sub a, fun l hl => q _ h _ _ _ (ext_new (s.freeZ hl)) (s.with (ext_new (s.freeZ hl)) (s.toHR.fresh _ hl)) (.tup (.of upd_same) (r2.mono (ext_new (s.freeZ hl)))) w⟩⟩
    | tup a r2 => exact ⟨_, _, rfl, .inr ⟨sqT_mono s.sub a.sq, fin (.tup a r2) w⟩⟩
    | ref a =>
      obtain ⟨es, e, q2⟩ := (show ∃ ds, h a = some (.lst ds) ∧ Qd (.tup ds) h from w)
      obtain ⟨ys, e1, r1, _⟩ := s.lst e
      exact ⟨_, ys, rfl, .inl ⟨.of e1, fun l hl => q _ h _ _ _ (ext_new (s.freeZ hl)) (s.with (ext_new (s.freeZ hl)) (s.toHR.fresh _ hl)) (.tup (.of upd_same) (r1.mono (ext_new (s.freeZ hl)))) q2⟩⟩
    | _ => exact (show False from w).elim
  · obtain ⟨x, rfl, q1⟩ := one_of r
    obtain ⟨p, ys, es, rfl, hs, r2, q2⟩ := seq_of s.toHR q1 w
    exact ⟨p, ys, rfl, hs, (lnew_ok s r2 q2 q).2⟩
  · obtain ⟨x, rfl, q1⟩ := one_of r
    obtain ⟨p, ys, es, rfl, hs, r2, q2⟩ := seq_of s.toHR q1 w
    exact ⟨p, ys, rfl, hs, (lnew_ok s r2 q2 q).2⟩
  · obtain ⟨x, rfl, q1⟩ := one_of r
    obtain ⟨p, ys, es, rfl, hs, r2, bs, rfl, q2⟩ := lst_of s.toHR q1 w
    exact ⟨p, bs, rfl, by rw [← r2.bools]; exact hs, fin (.bl _) q2⟩
  · obtain ⟨x, rfl, q1⟩ := one_of r
    obtain ⟨p, ys, es, rfl, hs, r2, bs, rfl, q2⟩ := lst_of s.toHR q1 w
    exact ⟨p, bs, rfl, by rw [← r2.bools]; exact hs, fin (.bl _) q2⟩
  · obtain ⟨x, rfl, q1⟩ := one_of r
    obtain ⟨p, ys, es, rfl, hs, r2, ns, rfl, hn, q2⟩ := lst_of s.toHR q1 w
    exact ⟨p, ns, rfl, by rw [← r2.ints]; exact hs, hn, fun ns' l p1 p2 hl => (lnew_ok s (VRs.of_ints ns') (q2 ns' p1 p2) q).2 l hl⟩
  · obtain ⟨x, rfl, q1⟩ := one_of r
    obtain ⟨p, ys, es, rfl, hs, r2, ns, rfl, hn, q2⟩ := lst_of s.toHR q1 w
    exact ⟨p, ns, rfl, by rw [← r2.ints]; exact hs, hn, fun ns' l p1 p2 hl => (lnew_ok s (VRs.of_ints ns') (q2 ns' p1 p2) q).2 l hl⟩
  · exact w.elim
theorem pe_blt {b : BI} {n : Str} {e : Expr} {xs : List Expr} {t : TA} {p pos : Pos} (g : GOk G F k CA X.prog X.w X.K X.mg X.base) (hc : X.calm = true) (hn : biN b = n) (hg : glB X.env.scope n = true) (hs : noStar e = true) (hpl : (backTo pos (starEach xs X.env)).any (·.1) = false) (ha : PA X (e :: xs) t) :
    PE X (.Call (.Name n p) (e :: xs) [] pos) (tCB (rBlt X.K b) t) := by
  subst hn
  obtain ⟨h1, h2, h3⟩ := glB_ok hg
  cases b with
  | len => exact pe_callB call_len h1 (g.blt _ (by decide +kernel)) (by decide +kernel) ha h3 h2 (starE hs) hpl
  | abs => exact pe_callB call_abs h1 (g.blt _ (by decide +kernel)) (by decide +kernel) ha h3 h2 (starE hs) hpl
  | int => exact pe_callTy call_int1 h1 (g.blt _ (by decide +kernel)) (by decide +kernel) ha h3 h2 (starE hs) hpl
  | sum => exact pe_callB (cr_sum2 hc) h1 (g.blt _ (by decide +kernel)) (by decide +kernel) ha h3 h2 (starE hs) hpl
  | min1 => exact pe_callB (cr_min hc) h1 (g.blt _ (by decide +kernel)) (by decide +kernel) ha h3 h2 (starE hs) hpl
  | min2 => exact pe_callB (call_min2 hc) h1 (g.blt _ (by decide +kernel)) (by decide +kernel) ha h3 h2 (starE hs) hpl
  | min3 => exact pe_callB (call_min3Nu hc) h1 (g.blt _ (by decide +kernel)) (by decide +kernel) ha h3 h2 (starE hs) hpl
  | max2 => exact pe_callB (call_max2 hc) h1 (g.blt _ (by decide +kernel)) (by decide +kernel) ha h3 h2 (starE hs) hpl
  | tuple => exact pe_callTy call_tuple_of h1 (g.blt _ (by decide +kernel)) (by decide +kernel) ha h3 h2 (starE hs) hpl
  | list => exact pe_callTy call_list_of h1 (g.blt _ (by decide +kernel)) (by decide +kernel) ha h3 h2 (starE hs) hpl
  | all => exact pe_callB (cr_all hc) h1 (g.blt _ (by decide +kernel)) (by decide +kernel) ha h3 h2 (starE hs) hpl
  | any => exact pe_callB (cr_any hc) h1 (g.blt _ (by decide +kernel)) (by decide +kernel) ha h3 h2 (starE hs) hpl
  | sorted => exact pe_callB cr_sorted h1 (g.blt _ (by decide +kernel)) (by decide +kernel) ha h3 h2 (starE hs) hpl
  | sortedF => exact pe_callB cr_sorted h1 (g.blt _ (by decide +kernel)) (by decide +kernel) ha h3 h2 (starE hs) hpl
  | listF => exact pe_callTy call_list_of h1 (g.blt _ (by decide +kernel)) (by decide +kernel) ha h3 h2 (starE hs) hpl
theorem any_plain {pos : Pos} {env : Env} : ∀ ys : List Expr, (∀ y ∈ ys, noStar y = true) → (backTo pos (starEach ys env)).any (·.1) = false := by
  intro ys
  induction ys with
  | nil => intro _; rfl
  | cons y ys ih =>
    intro h
    rw [starE (h y List.mem_cons_self)]
    have := ih fun z hz => h z (List.mem_cons_of_mem _ hz)
    unfold backTo at this ⊢
    rw [List.map_cons, List.any_cons, this]
    rfl
theorem snd_blt {b : BI} {n : Str} {es : E} {e : Expr} {xs : List Expr} {p pos : Pos} (g : GOk G F k CA X.prog X.w X.K X.mg X.base) (hc : X.calm = true) (hn : biN b = n) (hg : glB X.env.scope n = true) (hs : noStar e = true) (hss : ∀ y ∈ xs, noStar y = true)
    (ha : PA X (e :: xs) (rdL X.K CA W F es)) : PE X (.Call (.Name n p) (e :: xs) [] pos) (rdE X.K CA W F (.blt b es)) :=
  PE_weak (pe_blt g hc hn hg hs (any_plain xs hss) ha) fun σ H Q ⟨R, Z, v, h, Xd, Qd, s, w, q, kx⟩ => ⟨R, Z, v, h, Xd, fun ds h => bltW b ds h Qd, s, w, fun Z1 h1 vs ds H1 e1 s1 r1 q1 => blt_ok s1 r1 q1 (q.mono e1), kx⟩
theorem recv_of {K : PySem.W.Frag} {R Z : Hp} {h : AH} {H : Hp} {m : MI} {x : V} {d : D} {P : Prop} (s : HR K CA R Z h H) (r : VR K CA Z x d) (w : recvW m d h P) : (∃ a xs, x = .ref a ∧ SqL K H a xs) ∧ P := by
  cases r with
  | lst a r => exact ⟨⟨_, _, rfl, .of (s.sub _ _ a)⟩, w⟩
  | ref a =>
    obtain ⟨⟨ds, e⟩, q⟩ := (show (∃ ds, h a = some (.lst ds)) ∧ P from w)
    obtain ⟨ys, ey, _, _⟩ := s.lst e
    exact ⟨⟨a, ys, rfl, .of ey⟩, q⟩
  | _ => exact (show False from w).elim
theorem Dp_lst {K : PySem.W.Frag} {R Z : Hp} {h : AH} {H : Hp} {a : Addr} {xs : List V} {ds : List D} (s : HR K CA R Z h H) (hs : SqL K H a xs) (r : VRs K CA Z xs ds) (f : flats ds = true) : Dp K H (.ref a) (.list (pys ds)) := .lst hs (Dps_of s f r)
theorem pys_get : ∀ {ds : List D} {j : Nat}, (pys ds)[j]? = (ds[j]?).map py
  | [], _ => by simp [pys]
  | d :: ds, 0 => by simp [pys]
  | d :: ds, j + 1 => by
    have := pys_get (ds := ds) (j := j)
    simpa [pys] using this
theorem snd_meth {o es : E} {m : MI} {n : Str} {e : Expr} {p pos : Pos} (hu : X.A.units + 65 < cLine) (hn : n = miN m) (hm : miA m = 1) (hline : (p.endLine == pos.line) = true) (hb : attributeBase x n X.env (eval x X.env) = eval x X.env) (hs : noStar e = true) (ho : PE X x (rdE X.K CA W F o)) (ha : PA X [e] (rdL X.K CA W F es)) :
    PE X (.Call (.Attribute x n p) [e] [] pos) (rdE X.K CA W F (.meth m o es)) := by
  subst hn
  cases m with
  | insert => cases hm
  | append =>
    refine PE_weak (pe_bm PySem.F.plainAttrs_list PySem.F.slot_list_append PySem.F.type_list_append mt_append ho ha hb ?_ hline (starE hs) rfl) fun σ H Q ⟨R, Z, v, h, Xd, Qd, s, w, q, kx⟩ => ?_
    · rw [starE hs]; rfl
    · refine ⟨R, Z, v, h, Xd, _, s, w, fun Z1 h1 y d H1 e1 s1 r1 q1 => ?_, kx⟩
      obtain ⟨⟨a, ys, rfl, ey⟩, q1⟩ := recv_of s1.toHR r1 (show recvW .append d h1 _ from q1)
      refine ⟨.inl ⟨rfl, _, ey⟩, R, Z1, v, h1, Xd, _, s1, q1, fun Z2 h2 zs es H2 e2 s2 r2 q2 => ?_, kx.mono e1⟩
      have q2 : methW .append d es h2 Qd := q2
      match d, es, r1, r2, q2 with
      | .ref a, [d0], r1, r2, q2 =>
        cases r1
        obtain ⟨ds2, ed2, l2, q3⟩ := q2
        obtain ⟨z, rfl, r3⟩ := one_of r2
        obtain ⟨ys2, ey2, r4, _⟩ := s2.toHR.lst ed2
        exact ⟨_, ys2, z, rfl, rfl, ey2, by rw [r4.len]; exact l2, q _ _ _ _ _ (e1.trans e2) (s2.with (Ext.refl Z2) (s2.toHR.write (c' := .lst (ds2 ++ [d0])) ed2 (r4.append (.cons r3 .nil)))) .non q3⟩
  | extend =>
    refine PE_weak (pe_bm PySem.F.plainAttrs_list PySem.F.slot_list_extend PySem.F.type_list_extend mt_extend ho ha hb ?_ hline (starE hs) rfl) fun σ H Q ⟨R, Z, v, h, Xd, Qd, s, w, q, kx⟩ => ?_
    · rw [starE hs]; rfl
    · refine ⟨R, Z, v, h, Xd, _, s, w, fun Z1 h1 y d H1 e1 s1 r1 q1 => ?_, kx⟩
      obtain ⟨⟨a, ys, rfl, ey⟩, q1⟩ := recv_of s1.toHR r1 (show recvW .extend d h1 _ from q1)
      refine ⟨.inl ⟨rfl, _, ey⟩, R, Z1, v, h1, Xd, _, s1, q1, fun Z2 h2 zs es H2 e2 s2 r2 q2 => ?_, kx.mono e1⟩
      have q2 : methW .extend d es h2 Qd := q2
      match d, es, r1, r2, q2 with
      | .ref a, [.lst es], r1, r2, q2 =>
        cases r1
        obtain ⟨ds2, ed2, l2, q3⟩ := q2
        obtain ⟨z, rfl, r3⟩ := one_of r2
        cases r3 with
        | lst ha ra =>
          obtain ⟨ys2, ey2, r4, _⟩ := s2.toHR.lst ed2
          exact ⟨_, _, ys2, _, rfl, rfl, ey2, s2.sub _ _ ha, by rw [r4.len, ra.len]; exact l2, q _ _ _ _ _ (e1.trans e2) (s2.with (Ext.refl Z2) (s2.toHR.write (c' := .lst (ds2 ++ es)) ed2 (r4.append ra))) .non q3⟩
      | .ref a, [.ref b], r1, r2, q2 =>
        cases r1
        obtain ⟨ds2, es2, ed2, ed3, l2, q3⟩ := q2
        obtain ⟨z, rfl, r3⟩ := one_of r2
        cases r3
        obtain ⟨ys2, ey2, r4, _⟩ := s2.toHR.lst ed2
        obtain ⟨ys3, ey3, r5, _⟩ := s2.toHR.lst ed3
        exact ⟨_, _, ys2, _, rfl, rfl, ey2, ey3, by rw [r4.len, r5.len]; exact l2, q _ _ _ _ _ (e1.trans e2) (s2.with (Ext.refl Z2) (s2.toHR.write (c' := .lst (ds2 ++ es2)) ed2 (r4.append r5))) .non q3⟩
  | popAt =>
    refine PE_weak (pe_bm PySem.F.plainAttrs_list PySem.F.slot_list_pop PySem.F.type_list_pop mt_popAt ho ha hb ?_ hline (starE hs) rfl) fun σ H Q ⟨R, Z, v, h, Xd, Qd, s, w, q, kx⟩ => ?_
    · rw [starE hs]; rfl
    · refine ⟨R, Z, v, h, Xd, _, s, w, fun Z1 h1 y d H1 e1 s1 r1 q1 => ?_, kx⟩
      obtain ⟨⟨a, ys, rfl, ey⟩, q1⟩ := recv_of s1.toHR r1 (show recvW .popAt d h1 _ from q1)
      refine ⟨.inl ⟨rfl, _, ey⟩, R, Z1, v, h1, Xd, _, s1, q1, fun Z2 h2 zs es H2 e2 s2 r2 q2 => ?_, kx.mono e1⟩
      have q2 : methW .popAt d es h2 Qd := q2
      match d, es, r1, r2, q2 with
      | .ref a, [.int i], r1, r2, q2 =>
        cases r1
        obtain ⟨ds2, ed2, k2, d2, ⟨b1, b2⟩, ek, eg, q3⟩ := q2
        obtain ⟨z, rfl, r3⟩ := one_of r2
        cases r3
        obtain ⟨ys2, ey2, r4, _⟩ := s2.toHR.lst ed2
        obtain ⟨x2, ex2, rx2⟩ := r4.get eg
        exact ⟨_, ys2, i, k2, x2, rfl, rfl, ey2, b1, b2, by rw [r4.len]; exact ek, ex2, q _ _ _ _ _ (e1.trans e2) (s2.with (Ext.refl Z2) (s2.toHR.write (c' := .lst (ds2.eraseIdx k2)) ed2 (r4.erase k2))) rx2 q3⟩
  | index =>
    refine PE_weak (pe_bm PySem.F.plainAttrs_list PySem.F.slot_list_index PySem.F.type_list_index (mt_indexD hu) ho ha hb ?_ hline (starE hs) rfl) fun σ H Q ⟨R, Z, v, h, Xd, Qd, s, w, q, kx⟩ => ?_
    · rw [starE hs]; rfl
    · refine ⟨R, Z, v, h, Xd, _, s, w, fun Z1 h1 y d H1 e1 s1 r1 q1 => ?_, kx⟩
      obtain ⟨⟨a, ys, rfl, ey⟩, q1⟩ := recv_of s1.toHR r1 (show recvW .index d h1 _ from q1)
      refine ⟨.inl ⟨rfl, _, ey⟩, R, Z1, v, h1, Xd, _, s1, q1, fun Z2 h2 zs es H2 e2 s2 r2 q2 => ?_, kx.mono e1⟩
      have q2 : methW .index d es h2 Qd := q2
      match es, r2, q2 with
      | [d0], r2, q2 =>
        obtain ⟨z, rfl, r3⟩ := one_of r2
        obtain ⟨p2, xs2, ds2, ep, hs2, r4, x', d', j, z', rfl, rfl, f1, f2, g1, g2, g3, q3⟩ := lst_of s2.toHR (r1.mono e2) (show lstW d h2 _ from q2)
        cases ep
        obtain ⟨f3, f4⟩ := Bool.and_eq_true_iff.mp f1
        obtain ⟨f5, f6⟩ := Bool.and_eq_true_iff.mp f2
        refine ⟨_, z, _, _, j, _, rfl, rfl, Dp_lst s2.toHR hs2 r4 f3, Dp_of s2.toHR f5 r3, f4, f6, by rw [pys_get, g1]; rfl, g2, fun m z' hm hz => ?_, q _ _ _ _ _ (e1.trans e2) s2 (.int _) q3⟩
        rw [pys_get] at hz
        cases hd : ds2[m]? with
        | none => rw [hd] at hz; cases hz
        | some u => rw [hd] at hz; cases hz; exact g3 m u hm hd
  | count =>
    refine PE_weak (pe_bm PySem.F.plainAttrs_list PySem.F.slot_list_count PySem.F.type_list_count (mt_count2 hu) ho ha hb ?_ hline (starE hs) rfl) fun σ H Q ⟨R, Z, v, h, Xd, Qd, s, w, q, kx⟩ => ?_
    · rw [starE hs]; rfl
    · refine ⟨R, Z, v, h, Xd, _, s, w, fun Z1 h1 y d H1 e1 s1 r1 q1 => ?_, kx⟩
      obtain ⟨⟨a, ys, rfl, ey⟩, q1⟩ := recv_of s1.toHR r1 (show recvW .count d h1 _ from q1)
      refine ⟨.inl ⟨rfl, _, ey⟩, R, Z1, v, h1, Xd, _, s1, q1, fun Z2 h2 zs es H2 e2 s2 r2 q2 => ?_, kx.mono e1⟩
      have q2 : methW .count d es h2 Qd := q2
      match es, r2, q2 with
      | [.int k0], r2, q2 =>
        obtain ⟨z, rfl, r3⟩ := one_of r2
        obtain ⟨p2, xs2, ds2, ep, hs2, r4, f1, q3⟩ := lst_of s2.toHR (r1.mono e2) (show lstW d h2 _ from q2)
        cases ep
        obtain ⟨f3, f4⟩ := Bool.and_eq_true_iff.mp f1
        refine .inr ⟨_, z, _, _, rfl, rfl, Dp_lst s2.toHR hs2 r4 f3, Dp_of (d := .int k0) s2.toHR rfl r3, f4, rfl, ?_⟩
        rw [pys_map, List.countP_map]
        exact q _ _ _ _ _ (e1.trans e2) s2 (.int _) q3
      | [.bl b0], r2, q2 =>
        obtain ⟨z, rfl, r3⟩ := one_of r2
        obtain ⟨p2, xs2, ds2, ep, hs2, r4, f1, q3⟩ := lst_of s2.toHR (r1.mono e2) (show lstW d h2 _ from q2)
        cases ep
        obtain ⟨f3, f4⟩ := Bool.and_eq_true_iff.mp f1
        refine .inr ⟨_, z, _, _, rfl, rfl, Dp_lst s2.toHR hs2 r4 f3, Dp_of (d := .bl b0) s2.toHR rfl r3, f4, rfl, ?_⟩
        rw [pys_map, List.countP_map]
        exact q _ _ _ _ _ (e1.trans e2) s2 (.int _) q3
  | remove =>
    refine PE_weak (pe_bm PySem.F.plainAttrs_list PySem.F.slot_list_remove PySem.F.type_list_remove mt_remove ho ha hb ?_ hline (starE hs) rfl) fun σ H Q ⟨R, Z, v, h, Xd, Qd, s, w, q, kx⟩ => ?_
    · rw [starE hs]; rfl
    · refine ⟨R, Z, v, h, Xd, _, s, w, fun Z1 h1 y d H1 e1 s1 r1 q1 => ?_, kx⟩
      obtain ⟨⟨a, ys, rfl, ey⟩, q1⟩ := recv_of s1.toHR r1 (show recvW .remove d h1 _ from q1)
      refine ⟨.inl ⟨rfl, _, ey⟩, R, Z1, v, h1, Xd, _, s1, q1, fun Z2 h2 zs es H2 e2 s2 r2 q2 => ?_, kx.mono e1⟩
      have q2 : methW .remove d es h2 Qd := q2
      match d, es, r1, r2, q2 with
      | .ref a, [.int k0], r1, r2, q2 =>
        cases r1
        obtain ⟨ns, ed2, j, g1, g2, q3⟩ := q2
        obtain ⟨z, rfl, r3⟩ := one_of r2
        cases r3
        obtain ⟨ys2, ey2, r4, _⟩ := s2.toHR.lst ed2
        have ei := r4.ints
        subst ei
        refine ⟨_, ns, k0, j, rfl, rfl, ey2, g1, g2, q _ _ _ _ _ (e1.trans e2) (s2.with (Ext.refl Z2) (s2.toHR.write (c' := .lst ((ns.eraseIdx j).map D.int)) ed2 (VRs.of_ints _))) .non q3⟩
theorem snd_meth2 {o es : E} {m : MI} {n : Str} {e e' : Expr} {p pos : Pos} (hn : n = miN m) (hm : miA m = 2) (hline : (p.endLine == pos.line) = true) (hb : attributeBase x n X.env (eval x X.env) = eval x X.env) (hs : noStar e = true) (hs' : noStar e' = true) (ho : PE X x (rdE X.K CA W F o)) (ha : PA X [e, e'] (rdL X.K CA W F es)) :
    PE X (.Call (.Attribute x n p) [e, e'] [] pos) (rdE X.K CA W F (.meth m o es)) := by
  subst hn
  cases m with
  | insert =>
    refine PE_weak (pe_bm PySem.F.plainAttrs_list PySem.F.slot_list_insert PySem.F.type_list_insert mt_insert ho ha hb ?_ hline (starE hs) ?_) fun σ H Q ⟨R, Z, v, h, Xd, Qd, s, w, q, kx⟩ => ?_
    · rw [starE hs, starE hs']; rfl
    · rw [starE hs']; rfl
    · refine ⟨R, Z, v, h, Xd, _, s, w, fun Z1 h1 y d H1 e1 s1 r1 q1 => ?_, kx⟩
      obtain ⟨⟨a, ys, rfl, ey⟩, q1⟩ := recv_of s1.toHR r1 (show recvW .insert d h1 _ from q1)
      refine ⟨.inl ⟨rfl, _, ey⟩, R, Z1, v, h1, Xd, _, s1, q1, fun Z2 h2 zs es H2 e2 s2 r2 q2 => ?_, kx.mono e1⟩
      have q2 : methW .insert d es h2 Qd := q2
      match d, es, r1, r2, q2 with
      | .ref a, [.int i, d0], r1, r2, q2 =>
        cases r1
        obtain ⟨ds2, ed2, l2, ⟨b1, b2⟩, q3⟩ := q2
        obtain ⟨z, z2, rfl, r3, r5⟩ := two_of r2
        cases r3
        obtain ⟨ys2, ey2, r4, _⟩ := s2.toHR.lst ed2
        exact ⟨_, ys2, i, z2, rfl, rfl, ey2, by rw [r4.len]; exact l2, b1, b2, q _ _ _ _ _ (e1.trans e2) (s2.with (Ext.refl Z2) (s2.toHR.write (c' := .lst (ds2.take i.toNat ++ [d0] ++ ds2.drop i.toNat)) ed2 (((r4.take _).append (.cons r5 .nil)).append (r4.drop _)))) .non q3⟩
  | _ => cases hm
theorem snd_rev {f : Bool} {k : Nat} {p1 p2 p3 pos : Pos} (ha : PE X x (rdE X.K CA W F a)) : PE X (.Subscript x (.Slice none none (some (.UnaryOp .USub (.Constant (.int 1) k p1) p2)) p3) pos) (rdE X.K CA W F (.rev f a)) :=
  PE_weak (pe_revA ha) fun σ H Q ⟨R, Z, v, h, Xd, Qd, s, w, q, kx⟩ => ⟨R, Z, v, h, Xd, _, s, w, fun Z1 h1 y d H1 e1 s1 r1 q1 => by
    have q1 : revW f d h1 Qd := q1
    cases r1 with
    | tup a r => exact ⟨_, _, rfl, .inr ⟨sqT_mono s1.sub a.sq, fun p hp => q _ _ _ _ _ (e1.trans (ext_new (s1.freeZ hp))) (s1.with (ext_new (s1.freeZ hp)) (s1.toHR.fresh _ hp)) (.tup (.of upd_same) (r.reverse.mono (ext_new (s1.freeZ hp)))) q1⟩⟩
    | lst a r => exact ⟨_, _, rfl, .inl ⟨.of (s1.sub _ _ a), (lnew_ok s1 r.reverse q1 (q.mono e1)).2⟩⟩
    | ref a =>
      obtain ⟨ds, e, w⟩ := (show ∃ ds, h1 a = some (.lst ds) ∧ lnew f ds.reverse h1 Qd from q1)
      obtain ⟨xs, e2, r2, _⟩ := s1.lst e
      exact ⟨_, _, rfl, .inl ⟨.of e2, (lnew_ok s1 r2.reverse w (q.mono e1)).2⟩⟩
    | _ => exact (show False from q1).elim, kx⟩
theorem VRs.rgV {K : PySem.W.Frag} {Z : Hp} {i j : Int} : VRs K CA Z (L2.rgV i j) (rngL i (j - i).toNat) := by
  unfold L2.rgV rngL
  generalize (List.range (j - i).toNat) = l
  induction l with
  | nil => exact .nil
  | cons a l ih => exact .cons (.int _) ih
def rgP (t : Bool) (H : Hp) (Q : VK) (i j : Int) : Prop := match t with | true => ∀ q, H q = none → Q (.ref q) (upd H q (.tup (L2.rgV i j))) | false => ∀ q, H q = none → Q (.ref q) (upd H q (.lst (L2.rgV i j)))
theorem snd_rng {t f : Bool} {ik : IK} {es : E} {n : Str} {y : Expr} {ys : List Expr} {p pos : Pos} (g : GOk G F k CA X.prog X.w X.K X.mg X.base) (hc : X.calm = true) (hn : (if t then ("tuple" : Str) else "list") = n) (hg : glB X.env.scope n = true) (hs : noStar y = true) (ha : itA X.env.scope ik y y = some ys) (hss : ∀ y ∈ ys, noStar y = true) (hk : rngK ik = true)
    (hL : PA X ys (rdL X.K CA W F es)) (hE : ∀ a, ys = [a] → PE X a (rd1 F CA X.K W es)) (hE2 : ∀ a b, ys = [a, b] → ∃ ea eb, es = .cons ea (.cons eb .nil) ∧ PE X a (rdE X.K CA W F ea) ∧ PE X b (rdE X.K CA W F eb)) : PE X (.Call (.Name n p) [y] [] pos) (rdE X.K CA W F (.rng t f ik es)) := by
  obtain ⟨g1, g2, g3⟩ := glB_ok hg
  have key : ∀ {te : L2.St → Hp → (Int → Int → Hp → Prop) → Prop}, PRg X y te → (∀ σ H Q, rdE X.K CA W F (.rng t f ik es) σ H Q → te σ H fun i j H1 => RgOk i j ∧ rgP t H1 Q i j) →
      PE X (.Call (.Name n p) [y] [] pos) (rdE X.K CA W F (.rng t f ik es)) := fun {te} hr hw => by
    cases t with
    | true =>
      have e : n = "tuple" := by rw [← hn]; rfl
      subst e
      exact PE_weak (pe_tupRg hc g1 (g.blt _ (by decide +kernel)) hr (starE hs)) fun σ H Q h => hw σ H Q h
    | false =>
      have e : n = "list" := by rw [← hn]; rfl
      subst e
      exact PE_weak (pe_listRg hc g1 (g.blt _ (by decide +kernel)) hr (starE hs)) fun σ H Q h => hw σ H Q h
  have fin : ∀ {R Z : Hp} {v : Env'} {h : AH} {σ : L2.St} {H : Hp} {Qd : PQ} {Q : VK} {i j : Int}, SR X.K CA R Z v h σ H → KQ X.K CA R Z v σ Qd Q → rngT t f (rngL i (j - i).toNat) h Qd →
      rgP t H Q i j := fun {R Z v h σ H Qd Q i j} s q w => by
    cases t with
    | true => exact fun p hp => q _ _ _ _ _ (ext_new (s.freeZ hp)) (s.with (ext_new (s.freeZ hp)) (s.toHR.fresh _ hp)) (.tup (.of upd_same) (VRs.rgV.mono (ext_new (s.freeZ hp)))) w
    | false => exact (lnew_ok s VRs.rgV w q).2
  cases ik with
  | rng1 =>
    unfold itA at ha
    dsimp only at ha
    split at ha
    · rename_i n2 p2 a pos2
      split at ha
      · rename_i hcc
        cases ha
        obtain ⟨hn2, hg2⟩ := Bool.and_eq_true_iff.mp hcc
        obtain rfl := eq_of_beq hn2
        obtain ⟨k1, k2, k3⟩ := glB_ok hg2
        refine key (prg_1 k1 (g.blt _ (by decide +kernel)) (hE a rfl) (starE (hss _ List.mem_cons_self))) fun σ H Q ⟨R, Z, v, h, Xd, Qd, s, w, q, kx⟩ => ?_
        refine ⟨R, Z, v, h, Xd, _, s, w, fun Z1 h1 xs ds H1 e1 s1 r1 q1 => ?_, kx⟩
        match ds, r1, q1 with
        | [.int j], r1, q1 =>
          obtain ⟨x, rfl, r2⟩ := one_of r1
          cases r2
          obtain ⟨q2, q3⟩ := (show RgOk 0 j ∧ _ from q1)
          refine ⟨_, rfl, j, rfl, q2, fin s1 (q.mono e1) ?_⟩
          rw [Int.sub_zero]; exact q3
      · cases ha
    · cases ha
  | rng2 =>
    unfold itA at ha
    dsimp only at ha
    split at ha
    · rename_i n2 p2 a b pos2
      split at ha
      · rename_i hcc
        cases ha
        obtain ⟨hn2, hg2⟩ := Bool.and_eq_true_iff.mp hcc
        obtain rfl := eq_of_beq hn2
        obtain ⟨k1, k2, k3⟩ := glB_ok hg2
        obtain ⟨ea, eb, rfl, pa, pb⟩ := hE2 a b rfl
        have hb := starE (xs := []) (env := X.env) (hss b (by simp))
        refine key (prg_2 k1 (g.blt _ (by decide +kernel)) pa pb (starE (hss _ List.mem_cons_self)) hb (by rw [hb]; rfl)) fun σ H Q ⟨R, Z, v, h, Xd, Qd, s, w, q, kx⟩ => ?_
        refine two s w kx fun Z' h' x y d e H' ex s' rx ry q' => ?_
        match d, e, rx, ry, q' with
        | .int i, .int j, rx, ry, q' =>
          cases rx; cases ry
          obtain ⟨q2, q3⟩ := (show RgOk i j ∧ _ from q')
          exact ⟨i, j, rfl, rfl, q2, fin s' (q.mono ex) q3⟩
      · cases ha
    · cases ha
  | _ => cases hk
theorem snd_die {y : Expr} : PE X y (rdE X.K CA W F .die) ∧ PT X y (tB (rdE X.K CA W F .die)) :=
  ⟨⟨fun _ _ _ _ _ _ ⟨_, _, _, _, _, _, _, w, _⟩ => (show False from w).elim⟩, ⟨fun _ _ _ _ _ _ ⟨_, _, _, _, _, _, _, w, _⟩ => (show False from w).elim⟩⟩
theorem snd_meth0 {o : E} {m : M0} {n : Str} {p pos : Pos} (hn : n = m0N m) (hline : (p.endLine == pos.line) = true) (hb : attributeBase x n X.env (eval x X.env) = eval x X.env) (ho : PE X x (rdE X.K CA W F o)) :
    PE X (.Call (.Attribute x n p) [] [] pos) (rdE X.K CA W F (.meth0 m o)) := by
  subst hn
  have recv : ∀ {d : D} {h : AH} {Qd : PQ}, meth0W m d h Qd → ∃ a ds, d = .ref a ∧ h a = some (.lst ds) ∧ meth0W m (.ref a) h Qd := fun {d h P} w => by
    cases d with
    | ref a => obtain ⟨ds, e, q⟩ := id w; exact ⟨a, ds, rfl, e, w⟩
    | _ => exact (show False from w).elim
  cases m with
  | pop =>
    refine PE_weak (pe_bm0 PySem.F.plainAttrs_list PySem.F.slot_list_pop PySem.F.type_list_pop mt_pop ho hb hline) fun σ H Q ⟨R, Z, v, h, Xd, Qd, s, w, q, kx⟩ => ⟨R, Z, v, h, Xd, _, s, w, fun Z1 h1 y d H1 e1 s1 r1 q1 => ?_, kx⟩
    obtain ⟨a, ds, rfl, ed, q1⟩ := recv q1
    cases r1
    obtain ⟨ds2, ed2, d2, eg, q3⟩ := q1
    obtain ⟨ys, ey, r4, _⟩ := s1.toHR.lst ed2
    obtain ⟨x2, ex2, rx2⟩ := r4.get eg
    exact ⟨.inl ⟨rfl, _, .of ey⟩, _, ys, x2, rfl, rfl, ey, by rw [r4.len]; exact ex2, q _ _ _ _ _ e1 (s1.with (Ext.refl Z1) (s1.toHR.write (c' := .lst ds2.dropLast) ed2 r4.dropLast)) rx2 q3⟩
  | reverse =>
    refine PE_weak (pe_bm0 PySem.F.plainAttrs_list PySem.F.slot_list_reverse PySem.F.type_list_reverse mt_reverse ho hb hline) fun σ H Q ⟨R, Z, v, h, Xd, Qd, s, w, q, kx⟩ => ⟨R, Z, v, h, Xd, _, s, w, fun Z1 h1 y d H1 e1 s1 r1 q1 => ?_, kx⟩
    obtain ⟨a, ds, rfl, ed, q1⟩ := recv q1
    cases r1
    obtain ⟨ds2, ed2, q3⟩ := q1
    obtain ⟨ys, ey, r4, _⟩ := s1.toHR.lst ed2
    exact ⟨.inl ⟨rfl, _, .of ey⟩, _, ys, rfl, rfl, ey, q _ _ _ _ _ e1 (s1.with (Ext.refl Z1) (s1.toHR.write (c' := .lst ds2.reverse) ed2 r4.reverse)) .non q3⟩
  | clear =>
    refine PE_weak (pe_bm0 PySem.F.plainAttrs_list PySem.F.slot_list_clear PySem.F.type_list_clear mt_clear ho hb hline) fun σ H Q ⟨R, Z, v, h, Xd, Qd, s, w, q, kx⟩ => ⟨R, Z, v, h, Xd, _, s, w, fun Z1 h1 y d H1 e1 s1 r1 q1 => ?_, kx⟩
    obtain ⟨a, ds, rfl, ed, q1⟩ := recv q1
    cases r1
    obtain ⟨ds2, ed2, q3⟩ := q1
    obtain ⟨ys, ey, r4, _⟩ := s1.toHR.lst ed2
    exact ⟨.inl ⟨rfl, _, .of ey⟩, _, ys, rfl, rfl, ey, q _ _ _ _ _ e1 (s1.with (Ext.refl Z1) (s1.toHR.write (c' := .lst []) ed2 .nil)) .non q3⟩
theorem snd_frz (ha : PE X x (rdE X.K CA W F a)) : PE X x (rdE X.K CA W F (.frz a)) :=
  PE_weak ha fun σ H Q ⟨R, Z, v, h, Xd, Qd, s, w, q, kx⟩ => ⟨R, Z, v, h, Xd, _, s, w, fun Z1 h1 y d H1 e1 s1 r1 q1 => by
    cases r1 with
    | ref a =>
      obtain ⟨ds, ed, q2⟩ := (show ∃ ds, h1 a = some (.lst ds) ∧ Qd (.lst ds) (cut h1 a) from q1)
      obtain ⟨ys, ey, r2, z⟩ := s1.toHR.lst ed
      exact q _ _ _ _ _ (e1.trans (ext_new z)) (s1.with (ext_new z) (s1.toHR.frz ed ey)) (.lst upd_same (r2.mono (ext_new z))) q2
    | non => exact q _ _ _ _ _ e1 s1 .non q1
    | bl b => exact q _ _ _ _ _ e1 s1 (.bl b) q1
    | int i => exact q _ _ _ _ _ e1 s1 (.int i) q1
    | str z => exact q _ _ _ _ _ e1 s1 (.str z) q1
    | tup a r => exact q _ _ _ _ _ e1 s1 (.tup a r) q1
    | lst a r => exact q _ _ _ _ _ e1 s1 (.lst a r) q1
    | scr a r => exact q _ _ _ _ _ e1 s1 (.scr a r) q1
    | exc a r => exact q _ _ _ _ _ e1 s1 (.exc a r) q1
    | excF a r1 r2 r3 r4 => exact q _ _ _ _ _ e1 s1 (.excF a r1 r2 r3 r4) q1, kx⟩
end
end Ab
namespace Ab
open PySem PySem.Spec PyProof.Rows L2
def SrcAt (s : Src) (h : AH) : Prop := ∀ a ds, s = some (a, ds) → h a = some (.lst ds)
theorem still_of {s : Src} {h : AH} {P : Prop} (w : still s h P) : SrcAt s h ∧ P := by
  cases s with
  | none => exact ⟨fun _ _ e => (by cases e), w⟩
  | some x => exact ⟨fun a ds e => (by cases e; exact w.1), w.2⟩
def Wk (K : PySem.W.Frag) (CA : CAT) (J : It) (s : Src) (xs : List D) (Z0 : Hp) : Prop := ∀ R Z h H, Ext Z0 Z → HR K CA R Z h H → SrcAt s h → ∀ i : Nat,
  (∀ d, xs[i]? = some d → J.go i H ∧ ∀ x H', J.yld i H x H' → ∃ Z', Ext Z Z' ∧ HR K CA R Z' h H' ∧ VR K CA Z' x d) ∧ (xs.length ≤ i → J.stop i H)
def rdI (K : PySem.W.Frag) (CA : CAT) (W : WX) (F : FT) (k : IK) (it : E) : TI := fun σ H P => ∃ R Z v h Xd, ∃ Pd : Src → List D → AH → Prop, SR K CA R Z v h σ H ∧ wpL F it v h Xd (fun ds h => itW k ds h fun s xs => Pd s xs h) ∧ KX K CA R Z σ Xd W ∧
  ∀ Z' h' J s xs H', Ext Z Z' → SR K CA R Z' v h' σ H' → Wk K CA J s xs Z' → Pd s xs h' → P J H'
section
variable {G : Gbl} {N : List Str} {F : FT} {k : Nat} {CA : CAT} {fs : FnS} {sc : Scope} {X : Cx} {W : WX} {a b : E} {x y : Expr} {K : PySem.W.Frag} {Z : Hp}
theorem wk_list {a : Addr} {xs : List V} {ds : List D} (h : SqL K Z a xs) (r : VRs K CA Z xs ds) : Wk K CA (Itl K a) none ds Z := fun R Z1 h1 H e s _ i =>
  have h1 : SqL K H a xs := sqL_mono s.sub (sqL_mono e h)
  ⟨fun d hd => let ⟨x, e1, r1⟩ := r.get hd; ⟨⟨xs, x, h1, e1⟩, fun y H' ⟨eq, q⟩ => ⟨Z1, Ext.refl _, by rw [eq]; exact s, by
    have := q xs h1
    rw [e1] at this; cases this
    exact r1.mono e⟩⟩, fun hl => ⟨xs, h1, by rw [r.len]; exact hl⟩⟩
theorem wk_cell {a : Addr} {ds : List D} : Wk K CA (Itl K a) (some (a, ds)) ds Z := fun R Z1 h1 H e s st i => by
  obtain ⟨xs, e1, r, _⟩ := s.lst (st a ds rfl)
  have h1 : SqL K H a xs := .of e1
  exact ⟨fun d hd => let ⟨x, e1, r1⟩ := r.get hd; ⟨⟨xs, x, h1, e1⟩, fun y H' ⟨eq, q⟩ => ⟨Z1, Ext.refl _, by rw [eq]; exact s, by
    have := q xs h1
    rw [e1] at this; cases this
    exact r1⟩⟩, fun hl => ⟨xs, h1, by rw [r.len]; exact hl⟩⟩
theorem wk_tup {a : Addr} {xs : List V} {ds : List D} (h : SqT K Z a xs) (r : VRs K CA Z xs ds) : Wk K CA (Itt K a) none ds Z := fun R Z1 h1 H e s _ i =>
  have h1 : SqT K H a xs := sqT_mono s.sub (sqT_mono e h)
  ⟨fun d hd => let ⟨x, e1, r1⟩ := r.get hd; ⟨⟨xs, x, h1, e1⟩, fun y H' ⟨eq, q⟩ => ⟨Z1, Ext.refl _, by rw [eq]; exact s, by
    have := q xs h1
    rw [e1] at this; cases this
    exact r1.mono e⟩⟩, fun hl => ⟨xs, h1, by rw [r.len]; exact hl⟩⟩
theorem wk_str {z : Str} : Wk K CA (Its z) none (z.cps.toList.map fun c => .str ⟨#[c]⟩) Z := fun R Z1 h1 H e s _ i =>
  ⟨fun d hd => by
    rw [List.getElem?_map] at hd
    cases hc : z.cps.toList[i]? with
    | none => rw [hc] at hd; cases hd
    | some c =>
      rw [hc] at hd; cases hd
      have hc' : z.cps[i]? = some c := by simpa using hc
      have hi : i < z.cps.size := by
        obtain ⟨h1, _⟩ := Array.getElem?_eq_some_iff.mp hc'
        exact h1
      refine ⟨hi, fun y H' ⟨eq, c', e1, e2⟩ => ⟨Z1, Ext.refl _, by rw [eq]; exact s, ?_⟩⟩
      rw [hc'] at e1; cases e1
      rw [e2]; exact .str _, fun hl => by
    show z.cps.size ≤ i
    simpa using hl⟩
theorem rng_get {lo : Int} {n i : Nat} {d : D} (h : (rngL lo n)[i]? = some d) : i < n ∧ d = .int (lo + (i : Int)) := by
  unfold rngL at h
  rw [List.getElem?_map] at h
  by_cases q : i < n
  · rw [List.getElem?_range q] at h
    cases h
    exact ⟨q, rfl⟩
  · rw [List.getElem?_eq_none (by simpa using q)] at h
    cases h
theorem rng_len {lo : Int} {n : Nat} : (rngL lo n).length = n := by
  unfold rngL
  simp
theorem wk_rng {lo : Int} {n : Nat} : Wk K CA (Itr lo n) none (rngL lo n) Z := fun R Z1 h1 H e s _ i =>
  ⟨fun d hd => let ⟨h1, h2⟩ := rng_get hd; ⟨h1, fun y H' ⟨eq, q⟩ => ⟨Z1, Ext.refl _, by rw [eq]; exact s, by rw [q, h2]; exact .int _⟩⟩, fun hl => by rw [rng_len] at hl; exact hl⟩
theorem rngd_get {lo : Int} {n i : Nat} {d : D} (h : (rngD lo n)[i]? = some d) : i < n ∧ d = .int (lo + (i : Int) * (-1)) := by
  unfold rngD at h
  rw [List.getElem?_map] at h
  by_cases q : i < n
  · rw [List.getElem?_range q] at h
    cases h
    exact ⟨q, rfl⟩
  · rw [List.getElem?_eq_none (by simpa using q)] at h
    cases h
theorem rngd_len {lo : Int} {n : Nat} : (rngD lo n).length = n := by
  unfold rngD
  simp
theorem wk_rngd {lo : Int} {n : Nat} : Wk K CA (Itc lo (-1) n) none (rngD lo n) Z := fun R Z1 h1 H e s _ i =>
  ⟨fun d hd => let ⟨h1, h2⟩ := rngd_get hd; ⟨h1, fun y H' ⟨eq, q⟩ => ⟨Z1, Ext.refl _, by rw [eq]; exact s, by rw [q, h2]; exact .int _⟩⟩, fun hl => by rw [rngd_len] at hl; exact hl⟩
theorem enm_get : ∀ {ds : List D} {n i : Nat} {d : D}, (enm n ds)[i]? = some d → ∃ e, ds[i]? = some e ∧ d = .tup [.int ((n + i : Nat) : Int), e]
  | [], _, _, _, h => by simp [enm] at h
  | e :: ds, n, 0, d, h => by
    simp [enm] at h
    exact ⟨e, rfl, by rw [← h]; rfl⟩
  | e :: ds, n, i + 1, d, h => by
    have h' : (enm (n + 1) ds)[i]? = some d := by simpa [enm] using h
    obtain ⟨e', h1, h2⟩ := enm_get h'
    refine ⟨e', by simpa using h1, ?_⟩
    rw [h2, Nat.add_assoc, Nat.add_comm 1 i]
theorem enm_len : ∀ (ds : List D) (n : Nat), (enm n ds).length = ds.length
  | [], _ => rfl
  | _ :: ds, n => congrArg (· + 1) (enm_len ds (n + 1))
theorem wk_enm {a : Addr} {xs : List V} {ds : List D} (h : SqL K Z a xs) (r : VRs K CA Z xs ds) : Wk K CA (Ite K a) none (enm 0 ds) Z := fun R Z1 h1 H e s _ i =>
  have h1 : SqL K H a xs := sqL_mono s.sub (sqL_mono e h)
  ⟨fun d hd => by
    obtain ⟨f, hf, rfl⟩ := enm_get hd
    obtain ⟨x, e1, r1⟩ := r.get hf
    refine ⟨⟨xs, x, h1, e1⟩, fun y H' ⟨T, x', e2, hT, e3, q⟩ => ?_⟩
    have := q xs h1
    rw [e1] at this; cases this
    subst e2 e3
    have z : ((0 + i : Nat) : Int) = (i : Int) := by rw [Nat.zero_add]
    rw [z]
    exact ⟨upd Z1 T (.tup [.int (i : Nat), x]), ext_new (s.freeZ hT), s.fresh _ hT, .tup (.of upd_same) (.cons (.int _) (.cons ((r1.mono e).mono (ext_new (s.freeZ hT))) .nil))⟩, fun hl => ⟨xs, h1, by rw [enm_len] at hl; rw [r.len]; exact hl⟩⟩
theorem wk_enmC {a : Addr} {ds : List D} : Wk K CA (Ite K a) (some (a, ds)) (enm 0 ds) Z := fun R Z1 h1 H e s st i => by
  obtain ⟨xs, e1, r, _⟩ := s.lst (st a ds rfl)
  have h1 : SqL K H a xs := .of e1
  refine ⟨fun d hd => ?_, fun hl => ⟨xs, h1, by rw [enm_len] at hl; rw [r.len]; exact hl⟩⟩
  obtain ⟨f, hf, rfl⟩ := enm_get hd
  obtain ⟨x, e1, r1⟩ := r.get hf
  refine ⟨⟨xs, x, h1, e1⟩, fun y H' ⟨T, x', e2, hT, e3, q⟩ => ?_⟩
  have := q xs h1
  rw [e1] at this; cases this
  subst e2 e3
  have z : ((0 + i : Nat) : Int) = (i : Int) := by rw [Nat.zero_add]
  rw [z]
  exact ⟨upd Z1 T (.tup [.int (i : Nat), x]), ext_new (s.freeZ hT), s.fresh _ hT, .tup (.of upd_same) (.cons (.int _) (.cons (r1.mono (ext_new (s.freeZ hT))) .nil))⟩
theorem zip_get : ∀ {as bs : List D} {i : Nat} {d : D}, (zipD as bs)[i]? = some d → ∃ x y, as[i]? = some x ∧ bs[i]? = some y ∧ d = .tup [x, y]
  | [], _, _, _, h => by simp [zipD] at h
  | _ :: _, [], _, _, h => by simp [zipD] at h
  | a :: as, b :: bs, 0, d, h => by
    simp [zipD] at h
    exact ⟨a, b, rfl, rfl, h.symm⟩
  | a :: as, b :: bs, i + 1, d, h => by
    have h' : (zipD as bs)[i]? = some d := by simpa [zipD] using h
    obtain ⟨x, y, h1, h2, h3⟩ := zip_get h'
    exact ⟨x, y, by simpa using h1, by simpa using h2, h3⟩
theorem zip_len : ∀ (as bs : List D), (zipD as bs).length = min as.length bs.length
  | [], bs => by simp [zipD]
  | _ :: _, [] => by simp [zipD]
  | a :: as, b :: bs => by
    have := zip_len as bs
    simp [zipD, this]
theorem wk_zip {a b : Addr} {xs ys : List V} {ds es : List D} (h : SqL K Z a xs) (r : VRs K CA Z xs ds) (h' : SqL K Z b ys) (r' : VRs K CA Z ys es) : Wk K CA (Itz K a b) none (zipD ds es) Z := fun R Z1 h1 H e s _ i =>
  have h1 : SqL K H a xs := sqL_mono s.sub (sqL_mono e h)
  have h2 : SqL K H b ys := sqL_mono s.sub (sqL_mono e h')
  ⟨fun d hd => by
    obtain ⟨f, g, hf, hg, rfl⟩ := zip_get hd
    obtain ⟨x, e1, r1⟩ := r.get hf
    obtain ⟨y, e2, r2⟩ := r'.get hg
    refine ⟨⟨xs, ys, x, y, h1, h2, e1, e2⟩, fun z H' ⟨T, x', y', e3, hT, e4, q, q'⟩ => ?_⟩
    have := q xs h1
    rw [e1] at this; cases this
    have := q' ys h2
    rw [e2] at this; cases this
    subst e3 e4
    exact ⟨upd Z1 T (.tup [x, y]), ext_new (s.freeZ hT), s.fresh _ hT, .tup (.of upd_same) (.cons ((r1.mono e).mono (ext_new (s.freeZ hT))) (.cons ((r2.mono e).mono (ext_new (s.freeZ hT))) .nil))⟩,
    fun hl => ⟨xs, ys, h1, h2, by rw [zip_len] at hl; rw [r.len, r'.len]; omega⟩⟩
theorem wk_zipT {a b : Addr} {xs ys : List V} {ds es : List D} (h : SqT K Z a xs) (r : VRs K CA Z xs ds) (h' : SqT K Z b ys) (r' : VRs K CA Z ys es) : Wk K CA (RZ.ItzT K a b) none (zipD ds es) Z := fun R Z1 h1 H e s _ i =>
  have h1 : SqT K H a xs := sqT_mono s.sub (sqT_mono e h)
  have h2 : SqT K H b ys := sqT_mono s.sub (sqT_mono e h')
  ⟨fun d hd => by
    obtain ⟨f, g, hf, hg, rfl⟩ := zip_get hd
    obtain ⟨x, e1, r1⟩ := r.get hf
    obtain ⟨y, e2, r2⟩ := r'.get hg
    refine ⟨⟨xs, ys, x, y, h1, h2, e1, e2⟩, fun z H' ⟨T, x', y', e3, hT, e4, q, q'⟩ => ?_⟩
    have := q xs h1
    rw [e1] at this; cases this
    have := q' ys h2
    rw [e2] at this; cases this
    subst e3 e4
    exact ⟨upd Z1 T (.tup [x, y]), ext_new (s.freeZ hT), s.fresh _ hT, .tup (.of upd_same) (.cons ((r1.mono e).mono (ext_new (s.freeZ hT))) (.cons ((r2.mono e).mono (ext_new (s.freeZ hT))) .nil))⟩,
    fun hl => ⟨xs, ys, h1, h2, by rw [zip_len] at hl; rw [r.len, r'.len]; omega⟩⟩
theorem wk_zipM {a b : Addr} {xs ys : List V} {ds es : List D} (h : SqT K Z a xs) (r : VRs K CA Z xs ds) (h' : SqL K Z b ys) (r' : VRs K CA Z ys es) : Wk K CA (ItzM K a b (min xs.length ys.length)) none (zipD ds es) Z := fun R Z1 h1 H e s _ i =>
  have h1 : SqT K H a xs := sqT_mono s.sub (sqT_mono e h)
  have h2 : SqL K H b ys := sqL_mono s.sub (sqL_mono e h')
  ⟨fun d hd => by
    obtain ⟨f, g, hf, hg, rfl⟩ := zip_get hd
    obtain ⟨x, e1, r1⟩ := r.get hf
    obtain ⟨y, e2, r2⟩ := r'.get hg
    refine ⟨⟨xs, ys, x, y, h1, h2, rfl, e1, e2⟩, fun z H' ⟨T, x', y', e3, hT, e4, q, q'⟩ => ?_⟩
    have := q xs h1
    rw [e1] at this; cases this
    have := q' ys h2
    rw [e2] at this; cases this
    subst e3 e4
    exact ⟨upd Z1 T (.tup [x, y]), ext_new (s.freeZ hT), s.fresh _ hT, .tup (.of upd_same) (.cons ((r1.mono e).mono (ext_new (s.freeZ hT))) (.cons ((r2.mono e).mono (ext_new (s.freeZ hT))) .nil))⟩,
    fun hl => ⟨xs, ys, h1, h2, rfl, by rw [zip_len] at hl; rw [r.len, r'.len]; omega⟩⟩
theorem wk_zipC {a b : Addr} {xs : List V} {ds es : List D} (h : SqT K Z a xs) (r : VRs K CA Z xs ds) : Wk K CA (ItzM K a b (min xs.length es.length)) (some (b, es)) (zipD ds es) Z := fun R Z1 h1 H e s st i => by
  obtain ⟨ys, ey, r', _⟩ := s.lst (st b es rfl)
  have h1 : SqT K H a xs := sqT_mono s.sub (sqT_mono e h)
  have h2 : SqL K H b ys := .of ey
  refine ⟨fun d hd => ?_, fun hl => ⟨xs, ys, h1, h2, by rw [r'.len], by rw [zip_len] at hl; rw [r.len]; omega⟩⟩
  obtain ⟨f, g, hf, hg, rfl⟩ := zip_get hd
  obtain ⟨x, e1, r1⟩ := r.get hf
  obtain ⟨y, e2, r2⟩ := r'.get hg
  refine ⟨⟨xs, ys, x, y, h1, h2, by rw [r'.len], e1, e2⟩, fun z H' ⟨T, x', y', e3, hT, e4, q, q'⟩ => ?_⟩
  have := q xs h1
  rw [e1] at this; cases this
  have := q' ys h2
  rw [e2] at this; cases this
  subst e3 e4
  exact ⟨upd Z1 T (.tup [x, y]), ext_new (s.freeZ hT), s.fresh _ hT, .tup (.of upd_same) (.cons ((r1.mono e).mono (ext_new (s.freeZ hT))) (.cons (r2.mono (ext_new (s.freeZ hT))) .nil))⟩
theorem wk_enz {a b : Addr} {xs ys : List V} {ds es : List D} (h : SqL K Z a xs) (r : VRs K CA Z xs ds) (h' : SqL K Z b ys) (r' : VRs K CA Z ys es) : Wk K CA (Itez K a b) none (enm 0 (zipD ds es)) Z := fun R Z1 h1 H e s _ i =>
  have h1 : SqL K H a xs := sqL_mono s.sub (sqL_mono e h)
  have h2 : SqL K H b ys := sqL_mono s.sub (sqL_mono e h')
  ⟨fun d hd => by
    obtain ⟨q, hq, rfl⟩ := enm_get hd
    obtain ⟨f, g, hf, hg, rfl⟩ := zip_get hq
    obtain ⟨x, e1, r1⟩ := r.get hf
    obtain ⟨y, e2, r2⟩ := r'.get hg
    refine ⟨⟨xs, ys, x, y, h1, h2, e1, e2⟩, fun z H' ⟨T1, T2, x', y', e3, hT1, hT2, nT, e4, q, q'⟩ => ?_⟩
    have := q xs h1
    rw [e1] at this; cases this
    have := q' ys h2
    rw [e2] at this; cases this
    subst e3 e4
    have z : ((0 + i : Nat) : Int) = (i : Int) := by rw [Nat.zero_add]
    rw [z]
    have s1 := s.fresh (.tup [x, y]) hT1
    have f1 := ext_new (o := .tup [x, y]) (s.freeZ hT1)
    have hT2' : upd H T1 (.tup [x, y]) T2 = none := by rw [upd_ne (Ne.symm nT)]; exact hT2
    have s2 := s1.fresh (.tup [.int (i : Nat), .ref T1]) hT2'
    have f2 := ext_new (o := .tup [.int (i : Nat), .ref T1]) (s1.freeZ hT2')
    refine ⟨_, f1.trans f2, s2, .tup (.of upd_same) (.cons (.int _) (.cons ?_ .nil))⟩
    exact .tup (.of (f2 _ _ upd_same)) (.cons (((r1.mono e).mono f1).mono f2) (.cons (((r2.mono e).mono f1).mono f2) .nil)),
    fun hl => ⟨xs, ys, h1, h2, by rw [enm_len, zip_len] at hl; rw [r.len, r'.len]; omega⟩⟩
theorem zip3_get : ∀ {as bs cs : List D} {i : Nat} {d : D}, (zip3D as bs cs)[i]? = some d → ∃ x y z, as[i]? = some x ∧ bs[i]? = some y ∧ cs[i]? = some z ∧ d = .tup [x, y, z]
  | [], _, _, _, _, h => by simp [zip3D] at h
  | _ :: _, [], _, _, _, h => by simp [zip3D] at h
  | _ :: _, _ :: _, [], _, _, h => by simp [zip3D] at h
  | a :: as, b :: bs, c :: cs, 0, d, h => by
    simp [zip3D] at h
    exact ⟨a, b, c, rfl, rfl, rfl, h.symm⟩
  | a :: as, b :: bs, c :: cs, i + 1, d, h => by
    have h' : (zip3D as bs cs)[i]? = some d := by simpa [zip3D] using h
    obtain ⟨x, y, z, h1, h2, h3, h4⟩ := zip3_get h'
    exact ⟨x, y, z, by simpa using h1, by simpa using h2, by simpa using h3, h4⟩
theorem zip3_len : ∀ (as bs cs : List D), (zip3D as bs cs).length = min (min as.length bs.length) cs.length
  | [], bs, cs => by simp [zip3D]
  | _ :: _, [], cs => by simp [zip3D]
  | _ :: _, _ :: _, [] => by simp [zip3D]
  | a :: as, b :: bs, c :: cs => by
    have := zip3_len as bs cs
    simp [zip3D, this]
theorem wk_z3 {a b c : Addr} {xs ys zs : List V} {ds es fs : List D} (h : SqL K Z a xs) (r : VRs K CA Z xs ds) (h' : SqL K Z b ys) (r' : VRs K CA Z ys es) (h3 : SqL K Z c zs) (r3 : VRs K CA Z zs fs) : Wk K CA (Itz3 K a b c xs ys zs) none (zip3D ds es fs) Z := fun R Z1 h1 H e s _ i =>
  have q1 : SqL K H a xs := sqL_mono s.sub (sqL_mono e h)
  have q2 : SqL K H b ys := sqL_mono s.sub (sqL_mono e h')
  have q3 : SqL K H c zs := sqL_mono s.sub (sqL_mono e h3)
  ⟨fun d hd => by
    obtain ⟨f, g, u, hf, hg, hu, rfl⟩ := zip3_get hd
    obtain ⟨x, e1, r1⟩ := r.get hf
    obtain ⟨y, e2, r2⟩ := r'.get hg
    obtain ⟨w, e3, r3'⟩ := r3.get hu
    have l1 := (List.getElem?_eq_some_iff.mp e1).1
    have l2 := (List.getElem?_eq_some_iff.mp e2).1
    have l3 := (List.getElem?_eq_some_iff.mp e3).1
    refine ⟨⟨⟨q1, q2, q3⟩, by omega⟩, fun z H' ⟨T, x', y', w', e4, hT, e5, p1, p2, p3⟩ => ?_⟩
    rw [e1] at p1; cases p1
    rw [e2] at p2; cases p2
    rw [e3] at p3; cases p3
    subst e4 e5
    have f1 := ext_new (o := .tup [x, y, w]) (s.freeZ hT)
    exact ⟨_, f1, s.fresh _ hT, .tup (.of upd_same) (.cons ((r1.mono e).mono f1) (.cons ((r2.mono e).mono f1) (.cons ((r3'.mono e).mono f1) .nil)))⟩,
    fun hl => ⟨⟨q1, q2, q3⟩, by rw [zip3_len] at hl; rw [r.len, r'.len, r3.len]; omega⟩⟩
theorem wk_etu {a : Addr} {xs : List V} {ds : List D} (h : SqT K Z a xs) (r : VRs K CA Z xs ds) : Wk K CA (Ietu K a xs) none (enm 0 ds) Z := fun R Z1 h1 H e s _ i =>
  have q1 : SqT K H a xs := sqT_mono s.sub (sqT_mono e h)
  ⟨fun d hd => by
    obtain ⟨f, hf, rfl⟩ := enm_get hd
    obtain ⟨x, e1, r1⟩ := r.get hf
    have l1 := (List.getElem?_eq_some_iff.mp e1).1
    refine ⟨⟨q1, l1⟩, fun z H' ⟨T, x', e2, hT, e3, q⟩ => ?_⟩
    rw [e1] at q; cases q
    subst e2 e3
    have z : ((0 + i : Nat) : Int) = (i : Int) := by rw [Nat.zero_add]
    rw [z]
    have f1 := ext_new (o := .tup [.int (i : Nat), x]) (s.freeZ hT)
    exact ⟨_, f1, s.fresh _ hT, .tup (.of upd_same) (.cons (.int _) (.cons ((r1.mono e).mono f1) .nil))⟩,
    fun hl => ⟨q1, by rw [enm_len] at hl; rw [r.len]; exact hl⟩⟩
def iAny (K : PySem.W.Frag) (tl : TE) : TI := fun σ H P => tl σ H fun x H1 => (∃ a, x = .ref a ∧ (∃ xs, SqL K H1 a xs) ∧ P (Itl K a) H1) ∨ (∃ a, x = .ref a ∧ (∃ xs, SqT K H1 a xs) ∧ P (Itt K a) H1) ∨ ∃ z, x = .str z ∧ P (Its z) H1
theorem pi_any {tg l : Expr} {tl : TE} (hl : PE X l tl) : PI X tg l (iAny X.K tl) := by
  refine ⟨fun pins s σ H P I h => ?_⟩
  refine thn (hl.run pins s σ H _ I h) fun v s1 ⟨x, H1, I1, r1, q1⟩ => ?_
  rcases q1 with ⟨a, e, ⟨xs, hq⟩, q⟩ | ⟨a, e, ⟨xs, hq⟩, q⟩ | ⟨z, e, q⟩
  · subst e
    cases r1
    obtain ⟨its, rv, p, hz⟩ := I1.list hq
    refine wpAny_pyIter_list p.isList ?_
    refine ⟨s1.heap.objs.size, [s1.heap.objs.size], _, _, H1, rfl, I1.kept (t' := s1.toks) fun b o e => Heap.get?_push_of_some _ e, turn_list a _, ⟨_, Heap.get?_push_size _ rfl, rfl, rfl⟩, fun b hb => ?_, q⟩
    have e : b = s1.heap.objs.size := by simpa using hb
    subst e
    exact I1.fpOk (Nat.le_refl _) (I1.hok.fresh (Nat.le_refl _))
  · subst e
    cases r1
    obtain ⟨its, rv, p, hz⟩ := I1.tuple hq
    refine wpAny_pyIter_tuple (show s1.heap.IsTuple a its.toArray from p) ?_
    refine ⟨s1.heap.objs.size, [s1.heap.objs.size], _, _, H1, rfl, I1.kept (t' := s1.toks) fun b o e => Heap.get?_push_of_some _ e, turn_tuple a _, ⟨_, Heap.get?_push_size _ rfl, rfl, rfl⟩, fun b hb => ?_, q⟩
    have e : b = s1.heap.objs.size := by simpa using hb
    subst e
    exact I1.fpOk (Nat.le_refl _) (I1.hok.fresh (Nat.le_refl _))
  · subst e
    obtain ⟨t, rfl⟩ := r1
    cases ha : z.cps.all (· < 128)
    · exact wpAny_pyIter_wide ha (pi_one (tk := s1.toks) I1 _ (turn_str _ z t "str_iterator" (.inr rfl)) ⟨_, Heap.get?_push_size _ rfl, rfl, rfl⟩ q)
    · exact wpAny_pyIter_ascii ha (pi_one (tk := s1.toks) I1 _ (turn_str _ z t "str_ascii_iterator" (.inl rfl)) ⟨_, Heap.get?_push_size _ rfl, rfl, rfl⟩ q)
theorem PI_weak {tg e : Expr} {t t' : TI} (h : PI X tg e t) (w : ∀ σ H Q, t' σ H Q → t σ H Q) : PI X tg e t' := ⟨fun p s σ H Q I q => h.run p s σ H Q I (w σ H Q q)⟩
theorem it_seq {h : AH} {P : Src → List D → Prop} : ∀ {ds : List D}, itW .seq ds h P → ∃ d, ds = [d] ∧ ((∃ z, d = .str z ∧ P none (z.cps.toList.map fun c => .str ⟨#[c]⟩)) ∨ seqW d h fun ds => P (srcOf d ds) ds)
  | [], w => w.elim
  | _ :: _ :: _, w => w.elim
  | [.str z], w => ⟨_, rfl, .inl ⟨z, rfl, w⟩⟩
  | [.non], w => ⟨_, rfl, .inr w⟩
  | [.bl _], w => ⟨_, rfl, .inr w⟩
  | [.int _], w => ⟨_, rfl, .inr w⟩
  | [.tup _], w => ⟨_, rfl, .inr w⟩
  | [.lst _], w => ⟨_, rfl, .inr w⟩
  | [.scr _], w => ⟨_, rfl, .inr w⟩
  | [.ref _], w => ⟨_, rfl, .inr w⟩
  | [.exc _ _], w => ⟨_, rfl, .inr w⟩
theorem snd_it {ik : IK} {it : E} {tg e : Expr} {ys : List Expr} (g : GOk G F k CA X.prog X.w X.K X.mg X.base) (ha : itA X.env.scope ik tg e = some ys) (hs : ∀ y ∈ ys, noStar y = true) (hL : SndLX F CA X W it ys) : PI X tg e (rdI X.K CA W F ik it) := by
  cases ik with
  | seq =>
    cases (show some [e] = some ys from ha)
    refine PI_weak (pi_any (hL.one _ rfl)) fun σ H P ⟨R, Z, v, h, Xd, Pd, s, w, kx, q⟩ => ⟨R, Z, v, h, Xd, _, s, w, fun Z1 h1 xs ds H1 e1 s1 r1 q1 => ?_, kx⟩
    obtain ⟨d, rfl, q2⟩ := it_seq q1
    obtain ⟨x, rfl, r2⟩ := one_of r1
    refine ⟨x, rfl, ?_⟩
    rcases q2 with ⟨z, rfl, q2⟩ | q2
    · cases r2
      exact .inr (.inr ⟨_, rfl, q _ _ _ _ _ _ e1 s1 wk_str q2⟩)
    · cases r2 with
      | tup a r => exact .inr (.inl ⟨_, rfl, ⟨_, sqT_mono s1.sub a.sq⟩, q _ _ _ _ _ _ e1 s1 (wk_tup a.sq r) q2⟩)
      | lst a r => exact .inl ⟨_, rfl, ⟨_, (.of (s1.sub _ _ a))⟩, q _ _ _ _ _ _ e1 s1 (wk_list (.of a) r) q2⟩
      | scr a r => exact .inl ⟨_, rfl, ⟨_, sqL_mono s1.sub a⟩, q _ _ _ _ _ _ e1 s1 (wk_list a r) q2⟩
      | ref a =>
        obtain ⟨es, ee, q2⟩ := (show ∃ ds, h1 a = some (.lst ds) ∧ Pd (some (a, ds)) ds h1 from q2)
        obtain ⟨zs, ez, _, _⟩ := s1.toHR.lst ee
        exact .inl ⟨_, rfl, ⟨zs, .of ez⟩, q _ _ _ _ _ _ e1 s1 wk_cell q2⟩
      | _ => exact (show False from q2).elim
  | rng1 =>
    unfold itA at ha
    dsimp only at ha
    split at ha
    · rename_i n p a pos
      split at ha
      · rename_i hc
        cases ha
        obtain ⟨hn, hg⟩ := Bool.and_eq_true_iff.mp hc
        obtain rfl := eq_of_beq hn
        obtain ⟨g1, g2, g3⟩ := glB_ok hg
        refine PI_weak (pi_range1 g1 (g.blt _ (by decide +kernel)) hL.pa (starE (hs _ List.mem_cons_self))) fun σ H P ⟨R, Z, v, h, Xd, Pd, s, w, kx, q⟩ => ⟨R, Z, v, h, Xd, _, s, w, fun Z1 h1 xs ds H1 e1 s1 r1 q1 => ?_, kx⟩
        match ds, r1, q1 with
        | [.int j], r1, q1 =>
          obtain ⟨x, rfl, r2⟩ := one_of r1
          cases r2
          exact ⟨j, rfl, q1.1.1, q1.1.2, q _ _ _ _ _ _ e1 s1 wk_rng q1.2⟩
      · cases ha
    · cases ha
  | rng2 =>
    unfold itA at ha
    dsimp only at ha
    split at ha
    · rename_i n p a b pos
      split at ha
      · rename_i hc
        cases ha
        obtain ⟨hn, hg⟩ := Bool.and_eq_true_iff.mp hc
        obtain rfl := eq_of_beq hn
        obtain ⟨g1, g2, g3⟩ := glB_ok hg
        have hb := starE (xs := []) (env := X.env) (hs b (by simp))
        refine PI_weak (pi_range2 g1 (g.blt _ (by decide +kernel)) hL.pa (by rw [starE (hs _ List.mem_cons_self), hb]; rfl) hb) fun σ H P ⟨R, Z, v, h, Xd, Pd, s, w, kx, q⟩ => ⟨R, Z, v, h, Xd, _, s, w, fun Z1 h1 xs ds H1 e1 s1 r1 q1 => ?_, kx⟩
        match ds, r1, q1 with
        | [.int i, .int j], r1, q1 =>
          obtain ⟨x, y, rfl, r2, r3⟩ := two_of r1
          cases r2; cases r3
          exact ⟨i, j, rfl, q1.1, q _ _ _ _ _ _ e1 s1 wk_rng q1.2⟩
      · cases ha
    · cases ha
  | rng3 =>
    unfold itA at ha
    dsimp only at ha
    split at ha
    · rename_i n p a b c pos
      split at ha
      · rename_i hc
        cases ha
        obtain ⟨hn, hg⟩ := Bool.and_eq_true_iff.mp hc
        obtain rfl := eq_of_beq hn
        obtain ⟨g1, g2, g3⟩ := glB_ok hg
        refine PI_weak (pi_range3 g1 (g.blt _ (by decide +kernel)) hL.pa (starE (hs _ List.mem_cons_self)) (any_plain _ fun y hy => hs y (List.mem_cons_of_mem _ hy))) fun σ H P ⟨R, Z, v, h, Xd, Pd, s, w, kx, q⟩ => ⟨R, Z, v, h, Xd, _, s, w, fun Z1 h1 xs ds H1 e1 s1 r1 q1 => ?_, kx⟩
        match ds, r1, q1 with
        | [.int i, .int j, .int c], r1, q1 =>
          cases r1 with
          | cons ra rr =>
            obtain ⟨y, z, rfl, rb, rc⟩ := two_of rr
            cases ra; cases rb; cases rc
            obtain ⟨⟨rfl, b1, b2, b3, b4⟩, q1⟩ := q1
            exact ⟨i, j, -1, _, rfl, RgC.neg b1 b2 b3 b4, q _ _ _ _ _ _ e1 s1 wk_rngd q1⟩
      · cases ha
    · cases ha
  | zip =>
    unfold itA at ha
    dsimp only at ha
    split at ha
    · rename_i n p a b pos _ _ _
      split at ha
      · rename_i hc
        cases ha
        obtain ⟨hn, hg⟩ := Bool.and_eq_true_iff.mp hc
        obtain rfl := eq_of_beq hn
        obtain ⟨g1, g2, g3⟩ := glB_ok hg
        refine PI_weak (pi_zipM g1 (g.blt _ (by decide +kernel)) hL.pa (starE (hs _ List.mem_cons_self)) (any_plain _ fun y hy => hs y (List.mem_cons_of_mem _ hy))) fun σ H P ⟨R, Z, v, h, Xd, Pd, s, w, kx, q⟩ => ⟨R, Z, v, h, Xd, _, s, w, fun Z1 h1 xs ds H1 e1 s1 r1 q1 => ?_, kx⟩
        match ds, r1, q1 with
        | [.lst ds, .lst es], r1, q1 =>
          obtain ⟨x, y, rfl, r2, r3⟩ := two_of r1
          cases r2 with
          | lst a r => cases r3 with
            | lst a' r' => exact ⟨_, _, _, _, rfl, .inl ⟨(.of (s1.sub _ _ a)), (.of (s1.sub _ _ a')), q _ _ _ _ _ _ e1 s1 (wk_zip (.of a) r (.of a') r') q1⟩⟩
        | [.tup ds, .tup es], r1, q1 =>
          obtain ⟨x, y, rfl, r2, r3⟩ := two_of r1
          cases r2 with
          | tup a r => cases r3 with
            | tup a' r' => exact ⟨_, _, _, _, rfl, .inr (.inl ⟨sqT_mono s1.sub a.sq, sqT_mono s1.sub a'.sq, q _ _ _ _ _ _ e1 s1 (wk_zipT a.sq r a'.sq r') q1⟩)⟩
        | [.tup ds, .lst es], r1, q1 =>
          obtain ⟨x, y, rfl, r2, r3⟩ := two_of r1
          cases r2 with
          | tup a r => cases r3 with
            | lst a' r' => exact ⟨_, _, _, _, rfl, .inr (.inr ⟨sqT_mono s1.sub a.sq, (.of (s1.sub _ _ a')), q _ _ _ _ _ _ e1 s1 (wk_zipM a.sq r (.of a') r') q1⟩)⟩
        | [.tup ds, .ref b0], r1, q1 =>
          obtain ⟨x, y, rfl, r2, r3⟩ := two_of r1
          obtain ⟨es, ee, q2⟩ := (show ∃ es, h1 b0 = some (.lst es) ∧ Pd (some (b0, es)) (zipD ds es) h1 from q1)
          obtain ⟨zs, ez, r4, _⟩ := s1.toHR.lst ee
          cases r2 with
          | tup a r =>
            cases r3
            exact ⟨_, _, _, _, rfl, .inr (.inr ⟨sqT_mono s1.sub a.sq, (.of ez), by rw [r4.len]; exact q _ _ _ _ _ _ e1 s1 (wk_zipC a.sq r) q2⟩)⟩
      · cases ha
    · cases ha
  | enm =>
    unfold itA at ha
    dsimp only at ha
    split at ha
    · rename_i n p a pos _ _ _
      split at ha
      · rename_i hc
        cases ha
        obtain ⟨hn, hg⟩ := Bool.and_eq_true_iff.mp hc
        obtain rfl := eq_of_beq hn
        obtain ⟨g1, g2, g3⟩ := glB_ok hg
        refine PI_weak (pi_enumA g1 (g.blt _ (by decide +kernel)) hL.pa (starE (hs _ List.mem_cons_self))) fun σ H P ⟨R, Z, v, h, Xd, Pd, s, w, kx, q⟩ => ⟨R, Z, v, h, Xd, _, s, w, fun Z1 h1 xs ds H1 e1 s1 r1 q1 => ?_, kx⟩
        match ds, r1, q1 with
        | [d], r1, q1 =>
          obtain ⟨x, rfl, r2⟩ := one_of r1
          have q1 : enmW d h1 (fun s xs => Pd s xs h1) := q1
          cases r2 with
          | lst a r => exact ⟨_, rfl, .inl ⟨_, (.of (s1.sub _ _ a)), q _ _ _ _ _ _ e1 s1 (wk_enm (.of a) r) q1⟩⟩
          | tup a r => exact ⟨_, rfl, .inr ⟨_, sqT_mono s1.sub a.sq, q _ _ _ _ _ _ e1 s1 (wk_etu a.sq r) q1⟩⟩
          | ref a =>
            obtain ⟨es, ee, q2⟩ := (show ∃ ds, h1 a = some (.lst ds) ∧ Pd (some (a, ds)) (enm 0 ds) h1 from q1)
            obtain ⟨zs, ez, _, _⟩ := s1.toHR.lst ee
            exact ⟨_, rfl, .inl ⟨_, (.of ez), q _ _ _ _ _ _ e1 s1 wk_enmC q2⟩⟩
          | _ => exact (show False from q1).elim
      · cases ha
    · cases ha
  | enz =>
    unfold itA at ha
    dsimp only at ha
    split at ha
    · rename_i n p m p2 a b pos pos2 _ _ _
      split at ha
      · rename_i hc
        cases ha
        obtain ⟨hc1, hc2⟩ := Bool.and_eq_true_iff.mp hc
        obtain ⟨hn, hg⟩ := Bool.and_eq_true_iff.mp hc1
        obtain ⟨hn', hg'⟩ := Bool.and_eq_true_iff.mp hc2
        obtain rfl := eq_of_beq hn
        obtain rfl := eq_of_beq hn'
        obtain ⟨g1, g2, g3⟩ := glB_ok hg
        obtain ⟨g4, g5, g6⟩ := glB_ok hg'
        refine PI_weak (pi_enz g1 (g.blt _ (by decide +kernel)) g4 (g.blt _ (by decide +kernel)) hL.pa (starE (hs _ List.mem_cons_self)) (any_plain _ fun y hy => hs y (List.mem_cons_of_mem _ hy))) fun σ H P ⟨R, Z, v, h, Xd, Pd, s, w, kx, q⟩ => ⟨R, Z, v, h, Xd, _, s, w, fun Z1 h1 xs ds H1 e1 s1 r1 q1 => ?_, kx⟩
        match ds, r1, q1 with
        | [.lst ds, .lst es], r1, q1 =>
          obtain ⟨x, y, rfl, r2, r3⟩ := two_of r1
          cases r2 with
          | lst a r => cases r3 with
            | lst a' r' => exact ⟨_, _, _, _, rfl, (.of (s1.sub _ _ a)), (.of (s1.sub _ _ a')), q _ _ _ _ _ _ e1 s1 (wk_enz (.of a) r (.of a') r') q1⟩
      · cases ha
    · cases ha
  | zip3 =>
    unfold itA at ha
    dsimp only at ha
    split at ha
    · rename_i n p a b c pos _ _ _
      split at ha
      · rename_i hc
        cases ha
        obtain ⟨hn, hg⟩ := Bool.and_eq_true_iff.mp hc
        obtain rfl := eq_of_beq hn
        obtain ⟨g1, g2, g3⟩ := glB_ok hg
        refine PI_weak (pi_z3 g1 (g.blt _ (by decide +kernel)) hL.pa (starE (hs _ List.mem_cons_self)) (any_plain _ fun y hy => hs y (List.mem_cons_of_mem _ hy))) fun σ H P ⟨R, Z, v, h, Xd, Pd, s, w, kx, q⟩ => ⟨R, Z, v, h, Xd, _, s, w, fun Z1 h1 xs ds H1 e1 s1 r1 q1 => ?_, kx⟩
        match ds, r1, q1 with
        | [.lst ds, .lst es, .lst fs], r1, q1 =>
          cases r1 with
          | cons ra rr =>
            obtain ⟨y, z, rfl, rb, rc⟩ := two_of rr
            cases ra with
            | lst a r => cases rb with
              | lst a' r' => cases rc with
                | lst a2 r2 => exact ⟨_, _, _, _, _, _, rfl, (.of (s1.sub _ _ a)), (.of (s1.sub _ _ a')), (.of (s1.sub _ _ a2)), q _ _ _ _ _ _ e1 s1 (wk_z3 (.of a) r (.of a') r' (.of a2) r2) q1⟩
      · cases ha
    · cases ha
theorem wipe_get (σ : L2.St) : ∀ (vs : List Nat) (j : Nat), (wipe σ vs)[j]? = if j ∈ vs ∧ j < σ.length then some none else σ[j]?
  | [], j => by simp [wipe]
  | v :: vs, j => by
    unfold wipe
    by_cases e : v = j
    · subst e
      by_cases l : v < σ.length
      · rw [List.getElem?_set_self (by rw [wipe_length]; exact l), if_pos ⟨List.mem_cons_self, l⟩]
      · rw [if_neg (fun q => l q.2), List.getElem?_eq_none (by rw [List.length_set, wipe_length]; omega), List.getElem?_eq_none (by omega)]
    · rw [List.getElem?_set_ne e, wipe_get σ vs j]
      have : (j ∈ v :: vs ∧ j < σ.length) ↔ (j ∈ vs ∧ j < σ.length) := by
        simp only [List.mem_cons]
        exact ⟨fun ⟨a, b⟩ => ⟨a.resolve_left (fun q => e q.symm), b⟩, fun ⟨a, b⟩ => ⟨.inr a, b⟩⟩
      by_cases q : j ∈ vs ∧ j < σ.length
      · rw [if_pos q, if_pos (this.mpr q)]
      · rw [if_neg q, if_neg (fun z => q (this.mp z))]
theorem wipe_idem (σ : L2.St) (vs : List Nat) : wipe (wipe σ vs) vs = wipe σ vs := by
  apply List.ext_getElem?
  intro j
  rw [wipe_get, wipe_length, wipe_get]
  split <;> rfl
theorem wipe_set {σ : L2.St} {vs : List Nat} {i : Nat} {x : Option V} (h : i ∈ vs) : wipe (σ.set i x) vs = wipe σ vs := by
  apply List.ext_getElem?
  intro j
  rw [wipe_get, wipe_get, List.length_set]
  by_cases e : i = j
  · subst e
    by_cases l : i < σ.length
    · rw [if_pos ⟨h, l⟩, if_pos ⟨h, l⟩]
    · rw [if_neg (fun q => l q.2), if_neg (fun q => l q.2), List.getElem?_eq_none (by rw [List.length_set]; omega), List.getElem?_eq_none (by omega)]
  · rw [List.getElem?_set_ne e]
def SetOn (vs : List Nat) (σ σ' : L2.St) : Prop := ∀ is : List Nat, (∀ i ∈ vs, i ∈ is) → wipe σ' is = wipe σ is
def rdG (K : PySem.W.Frag) (CA : CAT) (t : Tg) : TG := fun x σ H Q => ∃ R Z v h d, ∃ Kd : Env' → Prop, SR K CA R Z v h σ H ∧ VR K CA Z x d ∧ tgW t d v h Kd ∧ ∀ v' σ', SR K CA R Z v' h σ' H → SetOn (tgV t) σ σ' → Kd v' → Q σ' H
def rdGs (K : PySem.W.Frag) (CA : CAT) (ts : List Tg) : TGs := fun xs σ H Q => ∃ R Z v h ds, ∃ Kd : Env' → Prop, SR K CA R Z v h σ H ∧ VRs K CA Z xs ds ∧ tgsW ts ds v h Kd ∧ ∀ v' σ', SR K CA R Z v' h σ' H → SetOn (tgVs ts) σ σ' → Kd v' → Q σ' H
theorem PG_weak {X : Cx} {e : Expr} {t t' : TG} (h : PG X e t) (w : ∀ x σ H Q, t' x σ H Q → t x σ H Q) : PG X e t' := ⟨fun p s σ H v u Q I r q => h.run p s σ H v u Q I r (w v σ H Q q)⟩
theorem PGs_weak {X : Cx} {e : List Expr} {t t' : TGs} (h : PGs X e t) (w : ∀ x σ H Q, t' x σ H Q → t x σ H Q) : PGs X e t' := ⟨fun p s σ H v u Q I r q => h.run p s σ H v u Q I r (w v σ H Q q)⟩
theorem loc_ok {X : Cx} {n : Str} (hsc : X.env.scope = sc) (hfn : ∀ x, fnB fs x = true → X.fn x = true) (h : locB fs sc n = true) : Loc X.env.scope n ∧ (X.fn n = true ∨ X.env.scope.names.lookup n = some .local) := by
  subst hsc
  unfold locB at h
  simp only [Bool.or_eq_true, beq_iff_eq, Bool.and_eq_true] at h
  rcases h with h | ⟨h, q⟩
  · exact ⟨.inl h, .inr h⟩
  · exact ⟨.inr h, .inl (hfn _ q)⟩
theorem mT_star {N : List Str} {fs : FnS} {sc : Scope} {t : Tg} {e : Expr} (h : mT N fs sc t e = true) : noStar e = true := by
  cases t <;> cases e <;> first
    | rfl
    | (simp [mT] at h)
theorem asgE {e : Expr} {es : List Expr} {env : Env} (h : noStar e = true) : assignEach (e :: es) env = (false, assign e env) :: assignEach es env := by
  cases e <;> first
    | rfl
    | cases h
theorem mTs_each {N : List Str} {fs : FnS} {sc : Scope} {env : Env} : ∀ {ts : List Tg} {es : List Expr}, mTs N fs sc ts es = true → (assignEach es env).length = ts.length ∧ (assignEach es env).findIdx? (·.1) = none
  | [], [], _ => ⟨rfl, rfl⟩
  | t :: ts, e :: es, h => by
    have h' : (mT N fs sc t e && mTs N fs sc ts es) = true := h
    obtain ⟨h1, h2⟩ := Bool.and_eq_true_iff.mp h'
    obtain ⟨i1, i2⟩ := mTs_each (env := env) h2
    rw [asgE (mT_star h1)]
    refine ⟨by rw [List.length_cons, List.length_cons, i1], ?_⟩
    rw [List.findIdx?_cons, i2]
    rfl
  | [], _ :: _, h => by cases h
  | _ :: _, [], h => by cases h
theorem tgs_len {h : AH} {Kd : Env' → Prop} : ∀ {ts : List Tg} {ds : List D} {v : Env'} {Kd : Env' → Prop}, (∀ t d v Kd, tgW t d v h Kd → ∃ v', Kd v') → tgsW ts ds v h Kd → ts.length = ds.length
  | [], [], _, _, _, _ => rfl
  | t :: ts, d :: ds, v, Kd, ih, w => by
    obtain ⟨v', w'⟩ := ih t d v _ w
    exact congrArg (· + 1) (tgs_len (Kd := Kd) ih w')
  | [], _ :: _, _, _, _, w => (show False from w).elim
  | _ :: _, [], _, _, _, w => (show False from w).elim
mutual
theorem tg_ex {h : AH} : ∀ (t : Tg) (d : D) (v : Env') (Kd : Env' → Prop), tgW t d v h Kd → ∃ v', Kd v'
  | .var i, d, v, Kd, w => ⟨_, w⟩
  | .tup ts, d, v, Kd, w => by
    have w : seqW d h fun ds => tgsW ts ds v h Kd := w
    unfold seqW at w
    split at w
    · exact tgs_ex ts _ v Kd w
    · exact tgs_ex ts _ v Kd w
    · obtain ⟨ds, _, w⟩ := w
      exact tgs_ex ts _ v Kd w
    · exact tgs_ex ts _ v Kd w
    · exact w.elim
theorem tgs_ex {h : AH} : ∀ (ts : List Tg) (ds : List D) (v : Env') (Kd : Env' → Prop), tgsW ts ds v h Kd → ∃ v', Kd v'
  | [], [], v, Kd, w => ⟨_, w⟩
  | t :: ts, d :: ds, v, Kd, w => by
    obtain ⟨v', w'⟩ := tg_ex t d v _ w
    exact tgs_ex ts ds v' Kd w'
  | [], _ :: _, _, _, w => (show False from w).elim
  | _ :: _, [], _, _, w => (show False from w).elim
end
mutual
theorem snd_tg {X : Cx} (hN : X.N = N) (nd : X.N.Nodup) (hsc : X.env.scope = sc) (hfn : ∀ x, fnB fs x = true → X.fn x = true) (hc : X.calm = true) : ∀ (t : Tg) (e : Expr), mT N fs sc t e = true → PG X e (rdG X.K CA t)
  | .var i, e, h => by
    cases e with
    | Name x pos =>
      have h' : ((N[i]? == some x) && locB fs sc x) = true := h
      obtain ⟨h1, h2⟩ := Bool.and_eq_true_iff.mp h'
      obtain ⟨l1, l2⟩ := loc_ok hsc hfn h2
      refine PG_weak (pg_name nd (by rw [hN]; exact eq_of_beq h1) l1 l2) fun y σ H Q ⟨R, Z, v, h, d, Kd, s, r, w, q⟩ => q _ _ (s.set i r) (fun is hi => wipe_set (hi i (by simp [tgV]))) w
    | _ => simp [mT] at h
  | .tup ts, e, h => by
    cases e with
    | Tuple es m pos =>
      have h' : mTs N fs sc ts es = true := h
      obtain ⟨h1, h2⟩ := mTs_each (env := X.env) h'
      have gs := snd_tgs hN nd hsc hfn hc ts es h'
      have pt : PG X (.Tuple es m pos) (gTup X.K ts.length (rdGs X.K CA ts)) := pg_tup hc gs h1 h2
      have pl : PG X (.Tuple es m pos) (gLst X.K ts.length (rdGs X.K CA ts)) := pg_lst hc gs h1 h2
      refine ⟨fun pins s' σ H x u Q I rx ⟨R, Z, v, h, d, Kd, s, r, w, q⟩ => ?_⟩
      obtain ⟨p, xs, ds, rfl, hs, r2, w2⟩ := seq_of s.toHR r w
      have hl : xs.length = ts.length := by rw [r2.len]; exact (tgs_len (Kd := Kd) tg_ex w2).symm
      have body : rdGs X.K CA ts xs σ H Q := ⟨R, Z, v, h, ds, Kd, s, r2, w2, q⟩
      rcases hs with hs | hs
      · exact pl.run pins s' σ H _ u Q I rx ⟨p, xs, rfl, hs, hl, body⟩
      · exact pt.run pins s' σ H _ u Q I rx ⟨p, xs, rfl, hs, hl, body⟩
    | _ => simp [mT] at h
theorem snd_tgs {X : Cx} (hN : X.N = N) (nd : X.N.Nodup) (hsc : X.env.scope = sc) (hfn : ∀ x, fnB fs x = true → X.fn x = true) (hc : X.calm = true) : ∀ (ts : List Tg) (es : List Expr), mTs N fs sc ts es = true → PGs X es (rdGs X.K CA ts)
  | [], [], _ => PGs_weak pgs_nil fun xs σ H Q ⟨R, Z, v, h, ds, Kd, s, r, w, q⟩ => by
    cases r with
    | nil => exact ⟨rfl, q _ _ s (fun _ _ => rfl) w⟩
    | cons _ _ => exact (show False from w).elim
  | t :: ts, e :: es, h => by
    have h' : (mT N fs sc t e && mTs N fs sc ts es) = true := h
    obtain ⟨h1, h2⟩ := Bool.and_eq_true_iff.mp h'
    refine PGs_weak (pgs_cons (snd_tg hN nd hsc hfn hc t e h1) (snd_tgs hN nd hsc hfn hc ts es h2) (by rw [asgE (mT_star h1)]; rfl)) fun xs σ H Q ⟨R, Z, v, h, ds, Kd, s, r, w, q⟩ => ?_
    cases r with
    | nil => exact (show False from w).elim
    | cons r rs =>
      refine ⟨_, _, rfl, R, Z, v, h, _, _, s, r, w, fun v' σ' s' on w' => ⟨R, Z, v', h, _, Kd, s', rs, w', fun v2 σ2 s2 on2 k2 => q _ _ s2 (fun is hi => ?_) k2⟩⟩
      rw [on2 is fun i hm => hi i (by simp [tgVs, hm]), on is fun i hm => hi i (by simp [tgVs, hm])]
  | [], _ :: _, h => by cases h
  | _ :: _, [], h => by cases h
end
end
end Ab
namespace Ab
open PySem PySem.Spec PyProof.Rows L2
abbrev W0 : WX := fun _ _ _ _ => False
section
variable {G : Gbl} {N : List Str} {F : FT} {k : Nat} {CA : CAT} {fs : FnS} {sc : Scope} {X : Cx} {W : WX} {a b : E} {x y : Expr} {K : PySem.W.Frag} {Z : Hp}
theorem frame_new {R Z : Hp} {h : AH} {H : Hp} {D : Addr} {xs : List V} (s : HR K CA R Z h H) (hD : H D = none) : HR K CA (upd R D (.lst xs)) Z h (upd H D (.lst xs)) where
  rl := fun a ys => by
    by_cases q : a = D
    · subst q; rw [upd_same]; exact fun z => by cases z
    · rw [upd_ne q]; exact s.rl _ _
  tab := tabs_new s.tab hD
  nt := fun a o e => by
    rcases e with e | e
    · exact s.nt _ _ (.inl e)
    · by_cases q : a = D
      · subst q; rw [upd_same] at e; cases e; rfl
      · rw [upd_ne q] at e; exact s.nt _ _ (.inr e)
  sub := fun a o e => by rw [upd_ne (ne_of_none e (s.freeZ hD))]; exact s.sub _ _ e
  fr := fun a o e => by
    by_cases q : a = D
    · subst q; rw [upd_same] at e ⊢; exact ⟨e, s.freeZ hD, s.free hD⟩
    · rw [upd_ne q] at e ⊢; exact s.fr _ _ e
  cell := fun a c e => by
    obtain ⟨u, x⟩ := s.there e
    have n : a ≠ D := ne_of_none x hD
    rw [upd_ne n]; exact s.cell _ _ e
theorem frame_set {R Z : Hp} {h : AH} {H : Hp} {D : Addr} {xs ys : List V} (s : HR K CA (upd R D (.lst xs)) Z h H) : HR K CA (upd R D (.lst ys)) Z h (upd H D (.lst ys)) where
  rl := fun a zs => by
    by_cases q : a = D
    · subst q; rw [upd_same]; exact fun z => by cases z
    · rw [upd_ne q]; exact fun z => s.rl a zs (by rw [upd_ne q]; exact z)
  tab := tabs_write s.tab (s.fr _ _ upd_same).1 rfl
  nt := fun a o e => by
    rcases e with e | e
    · exact s.nt _ _ (.inl e)
    · by_cases q : a = D
      · subst q; rw [upd_same] at e; cases e; rfl
      · rw [upd_ne q] at e; exact s.nt a o (.inr (by rw [upd_ne q]; exact e))
  sub := fun a o e => by
    have n : a ≠ D := fun q => by subst q; rw [(s.fr _ _ upd_same).2.1] at e; cases e
    rw [upd_ne n]; exact s.sub _ _ e
  fr := fun a o e => by
    by_cases q : a = D
    · subst q; rw [upd_same] at e ⊢; exact ⟨e, (s.fr _ _ upd_same).2⟩
    · rw [upd_ne q] at e ⊢; exact s.fr _ _ (by rw [upd_ne q]; exact e)
  cell := fun a c e => by
    have n : a ≠ D := fun q => by subst q; rw [(s.fr _ _ upd_same).2.2] at e; cases e
    rw [upd_ne n]; exact s.cell _ _ e
theorem frame_frz {R Z : Hp} {h : AH} {H : Hp} {D : Addr} {xs : List V} (s : HR K CA (upd R D (.lst xs)) Z h H) (hR : R D = none) : HR K CA R (upd Z D (.lst xs)) h H where
  rl := fun a zs z => s.rl a zs (by rw [upd_ne (ne_of_none z hR)]; exact z)
  tab := s.tab
  nt := fun a o e => by
    rcases e with e | e
    · by_cases q : a = D
      · subst q; rw [upd_same] at e; cases e; rfl
      · rw [upd_ne q] at e; exact s.nt a o (.inl e)
    · exact s.nt a o (.inr (by rw [upd_ne (ne_of_none e hR)]; exact e))
  sub := fun a o e => by
    by_cases q : a = D
    · subst q; rw [upd_same] at e; cases e; exact (s.fr _ _ upd_same).1
    · rw [upd_ne q] at e; exact s.sub _ _ e
  fr := fun a o e => by
    have n : a ≠ D := ne_of_none e hR
    obtain ⟨x, y, z⟩ := s.fr a o (by rw [upd_ne n]; exact e)
    rw [upd_ne n]; exact ⟨x, y, z⟩
  cell := fun a c e => by
    have n : a ≠ D := fun q => by subst q; rw [(s.fr _ _ upd_same).2.2] at e; cases e
    obtain ⟨z, w⟩ := s.cell _ _ e
    rw [upd_ne n]; exact ⟨z, w.mono (ext_new (s.fr _ _ upd_same).2.1)⟩
theorem frame_cell {R Z : Hp} {h : AH} {H : Hp} {D : Addr} {xs : List V} {ds : List Ab.D} (s : HR K CA (upd R D (.lst xs)) Z h H) (hR : R D = none) (r : VRs K CA Z xs ds) : HR K CA R Z (put h D (.lst ds)) H where
  rl := fun a zs z => s.rl a zs (by rw [upd_ne (ne_of_none z hR)]; exact z)
  tab := s.tab
  nt := fun a o e => s.nt a o (e.imp id fun e => by rw [upd_ne (ne_of_none e hR)]; exact e)
  sub := s.sub
  fr := fun a o e => by
    have n : a ≠ D := ne_of_none e hR
    obtain ⟨x, y, z⟩ := s.fr a o (by rw [upd_ne n]; exact e)
    refine ⟨x, y, ?_⟩
    unfold put; rw [if_neg n]; exact z
  cell := fun a c e => by
    unfold put at e
    by_cases q : a = D
    · subst q
      rw [if_pos rfl] at e; cases e
      rw [(s.fr _ _ upd_same).1]
      exact ⟨(s.fr _ _ upd_same).2.1, r⟩
    · rw [if_neg q] at e; exact s.cell _ _ e
theorem drop_cases {α : Type} (xs : List α) (i : Nat) : (xs.drop i = [] ∧ xs.length ≤ i) ∨ ∃ d, xs[i]? = some d ∧ xs.drop i = d :: xs.drop (i + 1) := by
  by_cases h : i < xs.length
  · exact .inr ⟨xs[i], List.getElem?_eq_getElem h, List.drop_eq_getElem_cons h⟩
  · exact .inl ⟨List.drop_eq_nil_of_le (by omega), by omega⟩
theorem blkB_ok {scope : Scope} {own : List Nat} (h : blkB N sc scope own = true) : BlkOk N sc scope (ownP N own) ∧ (ownP N own).map (·.2) = own := by
  unfold blkB at h
  simp only [Bool.and_eq_true, List.all_eq_true] at h
  obtain ⟨⟨⟨⟨h1, h2⟩, h3⟩, h4⟩, h5⟩ := h
  refine ⟨⟨eq_of_beq h1, fun y hy => eq_of_beq (h2 y hy), fun p hp => ?_, fun y hy e => ?_, fun y hy e => ?_⟩, eq_of_beq h3⟩
  · unfold ownP at hp
    obtain ⟨i, _, e⟩ := List.mem_filterMap.mp hp
    cases q : N[i]? with
    | none => rw [q] at e; cases e
    | some z => rw [q] at e; cases e; exact q
  · have := h4 y hy
    rw [e] at this
    simp only [beq_self_eq_true, Bool.not_true, Bool.false_or, Bool.or_eq_true, beq_iff_eq] at this
    exact this
  · have := h5 y hy
    have z : (y.2 == NameKind.local || y.2 == NameKind.cell) = true := by
      rcases e with e | e <;> rw [e] <;> rfl
    rw [z] at this
    simp only [Bool.not_true, Bool.false_or, Bool.or_eq_true, List.any_eq_true, Bool.not_eq_true', beq_iff_eq] at this
    rcases this with ⟨p, hp, q⟩ | q
    · exact .inl (List.mem_map.mpr ⟨p, hp, q⟩)
    · exact .inr fun hm => by
        have := List.contains_iff_mem.mpr hm
        rw [q] at this; cases this
def CondOk (K : PySem.W.Frag) (F : FT) (CA : CAT) (c : E) (tt : TT) : Prop := ∀ R Z v h σ H (Kd : Bool → AH → Prop) (Q : Bool → Hp → Prop), SR K CA R Z v h σ H → wpE F c v h NX (fun d h => blW d fun b => Kd b h) →
  (∀ Z' h' b H', Ext Z Z' → SR K CA R Z' v h' σ H' → Kd b h' → Q b H') → tt σ H Q
theorem kx0 {R Z : Hp} {σ : L2.St} : KX K CA R Z σ NX W0 := fun _ _ _ _ _ _ _ _ _ h => h
theorem snd_comp {f : Bool} {own : List Nat} {t : Tg} {ik : IK} {it c el : E} {scope : Scope} (hN : X.N = N) (hsc : X.env.scope = sc) (hb : blkB N sc scope own = true)
    (ht : ∀ i ∈ tgV t, i ∈ own)
    {tt : TT} (cond : CondOk X.K F CA c tt) :
    BlkOk X.N X.env.scope scope (ownP N own) ∧ (∀ σ H Q, rdE X.K CA W F (.comp f own t ik it c el) σ H Q → tLc (rdI X.K CA W F ik it) (rdG X.K CA t) tt (rdE X.K CA W0 F el) ((ownP N own).map (·.2)) σ H Q) := by
  obtain ⟨b1, b2⟩ := blkB_ok hb
  refine ⟨by rw [hN, hsc]; exact b1, fun σ H Q ⟨R, Z, v, h, Xd, Qd, s, w, q, kx⟩ => ?_⟩
  rw [b2]
  refine ⟨R, Z, v, h, Xd, fun sr xs h => compW sr (fun d h K => tgW t d (wipeE v own) h fun v => K v h) (fun v h K => wpE F c v h NX fun d h => blW d fun b => K b h) (fun v h K => wpE F el v h NX K) xs [] h fun rs h => cpW f rs h Qd, s, ?_, kx, ?_⟩
  · exact w
  · intro Z1 h1 J sr xs H1 e1 s1 wk w1 D hD
    have hRD : R D = none := by
      cases z : R D with
      | none => rfl
      | some o => rw [(s1.fr _ _ z).1] at hD; cases hD
    refine ⟨fun i m H => m = xs.length - i ∧ i ≤ xs.length ∧ ∃ Z2 h2 vs acc, Ext Z1 Z2 ∧ VRs X.K CA Z2 vs acc ∧ HR X.K CA (upd R D (.lst vs)) Z2 h2 H ∧ compW sr (fun d h K => tgW t d (wipeE v own) h fun v => K v h) (fun v h K => wpE F c v h NX fun d h => blW d fun b => K b h) (fun v h K => wpE F el v h NX K) (xs.drop i) acc h2 (fun rs h => cpW f rs h Qd),
      ⟨xs.length, by simp, Nat.zero_le _, Z1, h1, [], [], Ext.refl _, .nil, frame_new s1.toHR hD, w1⟩, ?_⟩
    rintro i m H2 ⟨rfl, hi2, Z2, h2, vs, acc, e2, rv, s2, w2⟩
    rcases drop_cases xs i with ⟨d0, hl⟩ | ⟨d, hd, d0⟩
    · rw [d0] at w2
      obtain ⟨st, w2⟩ := still_of w2
      refine .inl ⟨(wk _ Z2 h2 H2 e2 s2 st i).2 hl, ?_⟩
      cases f with
      | true =>
        have hz := frame_frz s2 hRD
        exact q _ _ _ _ _ ((e1.trans e2).trans (ext_new (s2.fr _ _ upd_same).2.1)) (s.with ((e1.trans e2).trans (ext_new (s2.fr _ _ upd_same).2.1)) hz) (.lst upd_same (rv.mono (ext_new (s2.fr _ _ upd_same).2.1))) w2
      | false => exact q _ _ _ _ _ (e1.trans e2) (s.with (e1.trans e2) (frame_cell s2 hRD rv)) (.ref D) (w2 D (s2.fr _ _ upd_same).2.2)
    · rw [d0] at w2
      obtain ⟨st, w2⟩ := still_of w2
      have hlt : i < xs.length := (List.getElem?_eq_some_iff.mp hd).1
      obtain ⟨go, yl⟩ := (wk _ Z2 h2 H2 e2 s2 st i).1 d hd
      refine .inr ⟨go, fun H' => ∃ Z3 h3 vs acc, Ext Z1 Z3 ∧ VRs X.K CA Z3 vs acc ∧ HR X.K CA (upd R D (.lst vs)) Z3 h3 H' ∧ compW sr (fun d h K => tgW t d (wipeE v own) h fun v => K v h) (fun v h K => wpE F c v h NX fun d h => blW d fun b => K b h) (fun v h K => wpE F el v h NX K) (xs.drop (i + 1)) acc h3 (fun rs h => cpW f rs h Qd), fun H' nx => ⟨xs.length - (i + 1), by omega, rfl, hlt, nx⟩, fun x H3 hy => ?_⟩
      obtain ⟨Z3, e3, s3, r3⟩ := yl x H3 hy
      have sv : SR X.K CA (upd R D (.lst vs)) Z3 (wipeE v own) h2 (wipe σ own) H3 := by
        have z := s1.wipe own
        exact ⟨s3, fun j d0 e => let ⟨x, a, b⟩ := z.env j d0 e; ⟨x, a, b.mono (e2.trans e3)⟩, z.len⟩
      refine ⟨_, Z3, _, h2, d, _, sv, r3, w2, fun v' σ' s' on w3 => ⟨?_, ?_⟩⟩
      · rw [on own ht, wipe_idem]
      · refine cond _ Z3 v' h2 σ' H3 _ _ s' w3 fun Z4 h4 b H4 e4 s4 ⟨k1, k2⟩ => ?_
        cases b with
        | true =>
          rw [if_pos rfl]
          refine ⟨_, Z4, v', h4, NX, _, s4, k1 rfl, fun Z5 h5 y d5 H5 e5 s5 r5 ⟨l5, w5⟩ => ?_, kx0⟩
          refine ⟨vs, (s5.fr _ _ upd_same).1, by rw [rv.len]; exact l5, Z5, h5, vs ++ [y], acc ++ [d5], (((e2.trans e3).trans e4).trans e5), (rv.mono ((e3.trans e4).trans e5)).append (.cons r5 .nil), frame_set s5.toHR, w5⟩
        | false =>
          rw [if_neg Bool.false_ne_true]
          exact ⟨Z4, h4, vs, acc, ((e2.trans e3).trans e4), rv.mono (e3.trans e4), s4.toHR, k2 rfl⟩
def ciV (CA : CAT) : CI → Option (V × Value)
  | .int => some (.ty "int", .type "int")
  | .bool => some (.ty "bool", .type "bool")
  | .str => some (.ty "str", .type "str")
  | .list => some (.ty "list", .type "list")
  | .tuple => some (.ty "tuple", .type "tuple")
  | .dict => some (.ty "dict", .type "dict")
  | .verr => some (.ty "ValueError", .type "ValueError")
  | .own c => (CA c).map fun C => (.ref C, .ref C)
theorem snd_ci {c : CI} {n : Str} {pos : Pos} (g : GOk G F k CA X.prog X.w X.K X.mg X.base) (hn : ciN G c = some n) (hg : glB X.env.scope n = true) : ∃ v u, ciV CA c = some (v, u) ∧ ClsV v u ∧ PE X (.Name n pos) (tC v) := by
  obtain ⟨h1, h2, h3⟩ := glB_ok hg
  cases c with
  | own c =>
    obtain ⟨C, e, m⟩ := g.cls c n hn
    exact ⟨.ref C, .ref C, by show (CA c).map _ = _; rw [e]; rfl, .own C, pe_glob h1 m rfl h2⟩
  | int => cases (show some _ = some n from hn); exact ⟨_, _, rfl, .ty _, pe_bltn h1 (g.blt _ (by decide +kernel)) (by decide +kernel) rfl h3 h2⟩
  | bool => cases (show some _ = some n from hn); exact ⟨_, _, rfl, .ty _, pe_bltn h1 (g.blt _ (by decide +kernel)) (by decide +kernel) rfl h3 h2⟩
  | str => cases (show some _ = some n from hn); exact ⟨_, _, rfl, .ty _, pe_bltn h1 (g.blt _ (by decide +kernel)) (by decide +kernel) rfl h3 h2⟩
  | list => cases (show some _ = some n from hn); exact ⟨_, _, rfl, .ty _, pe_bltn h1 (g.blt _ (by decide +kernel)) (by decide +kernel) rfl h3 h2⟩
  | tuple => cases (show some _ = some n from hn); exact ⟨_, _, rfl, .ty _, pe_bltn h1 (g.blt _ (by decide +kernel)) (by decide +kernel) rfl h3 h2⟩
  | dict => cases (show some _ = some n from hn); exact ⟨_, _, rfl, .ty _, pe_bltn h1 (g.blt _ (by decide +kernel)) (by decide +kernel) rfl h3 h2⟩
  | verr => cases (show some _ = some n from hn); exact ⟨_, _, rfl, .ty _, pe_bltn h1 (g.blt _ (by decide +kernel)) (by decide +kernel) rfl h3 h2⟩
inductive CisV (CA : CAT) : List CI → List V → List Value → Prop
  | nil : CisV CA [] [] []
  | cons {c : CI} {v : V} {u : Value} {cs : List CI} {vs : List V} {us : List Value} : ciV CA c = some (v, u) → ClsV v u → CisV CA cs vs us → CisV CA (c :: cs) (v :: vs) (u :: us)
theorem CisV.paired : ∀ {cs : List CI} {vs : List V} {us : List Value}, CisV CA cs vs us → Paired ClsV vs us
  | _, _, _, .nil => .nil
  | _, _, _, .cons _ a r => .cons a r.paired
theorem CisV.len : ∀ {cs : List CI} {vs : List V} {us : List Value}, CisV CA cs vs us → vs.length = cs.length
  | _, _, _, .nil => rfl
  | _, _, _, .cons _ a r => congrArg (· + 1) r.len
theorem snd_cis (g : GOk G F k CA X.prog X.w X.K X.mg X.base) : ∀ {cs : List CI} {es : List Expr}, mCs G X.env.scope cs es = true → ∃ vs us, CisV CA cs vs us ∧ PA X es (fun _ H Q => Q vs H)
  | [], [], _ => ⟨[], [], .nil, PA_weak pa_nil fun _ _ _ h => h⟩
  | c :: cs, .Name n pos :: es, h => by
    have h' : (ciN G c == some n && glB X.env.scope n && mCs G X.env.scope cs es) = true := h
    simp only [Bool.and_eq_true] at h'
    obtain ⟨⟨h1, h2⟩, h3⟩ := h'
    obtain ⟨v, u, e, cv, p⟩ := snd_ci (pos := pos) g (eq_of_beq h1) h2
    obtain ⟨vs, us, r, q⟩ := snd_cis g h3
    exact ⟨v :: vs, u :: us, .cons e cv r, PA_weak (pa_cons p q (starE rfl)) fun _ _ _ h => h⟩
  | [], _ :: _, h => by cases h
  | _ :: _, [], h => by cases h
  | _ :: _, .BoolOp _ _ _ :: _, h | _ :: _, .NamedExpr _ _ _ :: _, h | _ :: _, .BinOp _ _ _ _ :: _, h | _ :: _, .UnaryOp _ _ _ :: _, h | _ :: _, .Lambda _ _ _ _ :: _, h | _ :: _, .IfExp _ _ _ _ :: _, h | _ :: _, .Dict _ _ _ :: _, h
  | _ :: _, .Set _ _ _ :: _, h | _ :: _, .ListComp _ _ _ _ :: _, h | _ :: _, .SetComp _ _ _ _ :: _, h | _ :: _, .DictComp _ _ _ _ _ :: _, h | _ :: _, .GeneratorExp _ _ _ _ :: _, h | _ :: _, .Await _ _ :: _, h | _ :: _, .Yield _ _ :: _, h
  | _ :: _, .YieldFrom _ _ :: _, h | _ :: _, .Compare _ _ _ _ :: _, h | _ :: _, .Call _ _ _ _ :: _, h | _ :: _, .FormattedValue _ _ _ _ :: _, h | _ :: _, .JoinedStr _ _ :: _, h | _ :: _, .Constant _ _ _ :: _, h | _ :: _, .Attribute _ _ _ :: _, h
  | _ :: _, .Subscript _ _ _ :: _, h | _ :: _, .Starred _ _ :: _, h | _ :: _, .List _ _ :: _, h | _ :: _, .Tuple _ _ _ :: _, h | _ :: _, .Slice _ _ _ _ :: _, h => by cases h
def TyV (K : PySem.W.Frag) (H : Hp) (x : V) (t : Value) : Prop := TyX K H x t ∨ ∃ a C d, x = .ref a ∧ t = .ref C ∧ H a = some (exT a C d) ∧ (∀ dd, d = some dd → ∃ gs, H dd = some (.xd gs)) ∧ ExcC K C
theorem ty_of {R Z : Hp} {h : AH} {H : Hp} {x : V} {d : D} (cf : ClsFacts CA K) (s : HR K CA R Z h H) (r : VR K CA Z x d) (c0 : CI) (b0 : Bool) (w0 : isiOne d h c0 = some b0) :
    (∃ t, TyV K H x t ∧ ∀ c v u b, isiOne d h c = some b → ciV CA c = some (v, u) → PySem.W.kitOne K t u = some b) := by
  have own : ∀ {t : String} {c : CI} {v : V} {u : Value} {b : Bool} {c0 : Nat}, ciV CA c = some (v, u) → c = .own c0 → scL.contains t = true → some false = some b → PySem.W.kitOne K (.type t) u = some b := fun {t c v u b c0} hc e ht eb => by
    subst e
    cases q : CA c0 with
    | none => rw [show ciV CA (.own c0) = (CA c0).map fun C => (V.ref C, Value.ref C) from rfl, q] at hc; cases hc
    | some C =>
      rw [show ciV CA (.own c0) = (CA c0).map fun C => (V.ref C, Value.ref C) from rfl, q] at hc; cases hc
      rw [← eb]
      exact cf.sc _ _ _ q ht
  have exc_ : ∀ {c0 : Nat} {fs : List (Str × D)} {C : Addr}, CA c0 = some C → ∀ c v u b, isiOne (.exc c0 fs) h c = some b → ciV CA c = some (v, u) → PySem.W.kitOne K (.ref C) u = some b := fun {c0 fs C} a c v u b w hc => by
    cases c with
    | own c1 =>
      cases q : CA c1 with
      | none => rw [show ciV CA (.own c1) = (CA c1).map fun C => (V.ref C, Value.ref C) from rfl, q] at hc; cases hc
      | some C' =>
        rw [show ciV CA (.own c1) = (CA c1).map fun C => (V.ref C, Value.ref C) from rfl, q] at hc; cases hc
        cases w
        exact cf.own _ _ _ _ a q
    | verr => cases hc; cases w; exact cf.ve _ _ a
    | int => cases hc; cases w; exact cf.ty _ _ _ a (by decide)
    | bool => cases hc; cases w; exact cf.ty _ _ _ a (by decide)
    | str => cases hc; cases w; exact cf.ty _ _ _ a (by decide)
    | list => cases hc; cases w; exact cf.ty _ _ _ a (by decide)
    | tuple => cases hc; cases w; exact cf.ty _ _ _ a (by decide)
    | dict => cases hc; cases w; exact cf.ty _ _ _ a (by decide)
  cases r with
  | non => refine ⟨_, .inl (.base .non), fun c v u b w hc => ?_⟩; cases c <;> first | exact own hc rfl (by decide) w | (cases hc; cases w; exact kit_ty (by decide +kernel))
  | bl z => refine ⟨_, .inl (.base (.bl z)), fun c v u b w hc => ?_⟩; cases c <;> first | exact own hc rfl (by decide) w | (cases hc; cases w; exact kit_ty (by decide +kernel))
  | int z => refine ⟨_, .inl (.base (.int z)), fun c v u b w hc => ?_⟩; cases c <;> first | exact own hc rfl (by decide) w | (cases hc; cases w; exact kit_ty (by decide +kernel))
  | str z => refine ⟨_, .inl (.base (.str z)), fun c v u b w hc => ?_⟩; cases c <;> first | exact own hc rfl (by decide) w | (cases hc; cases w; exact kit_ty (by decide +kernel))
  | @tup a0 xs ds a r =>
    have t : TyX K H (.ref a0) (.type "tuple") := by
      rcases a with (a | ⟨o, a⟩) | ⟨o, its, n, a, e, _⟩
      · exact .base (.tup (s.sub _ _ a))
      · exact .fTuple (s.sub _ _ a)
      · exact .kTuple a e
    refine ⟨_, .inl t, fun c v u b w hc => ?_⟩; cases c <;> first | exact own hc rfl (by decide) w | (cases hc; cases w; exact kit_ty (by decide +kernel))
  | @lst a0 xs ds a r =>
    refine ⟨_, .inl (.base (.lst (s.sub _ _ a))), fun c v u b w hc => ?_⟩; cases c <;> first | exact own hc rfl (by decide) w | (cases hc; cases w; exact kit_ty (by decide +kernel))
  | @scr a0 xs ds a r =>
    have t : TyX K H (.ref a0) (.type "list") := by
      rcases a with (a | ⟨o, a⟩) | ⟨o, its, n, a, e, _⟩
      · exact .base (.lst (s.sub _ _ a))
      · exact .base (.frz (s.sub _ _ a))
      · exact .kList a e
    refine ⟨_, .inl t, fun c v u b w hc => ?_⟩; cases c <;> first | exact own hc rfl (by decide) w | (cases hc; cases w; exact kit_ty (by decide +kernel))
  | ref a =>
    cases e : h a with
    | none => simp only [isiOne, e] at w0; cases w0
    | some o =>
      cases o with
      | lst ds =>
        obtain ⟨xs, e1, _, _⟩ := s.lst e
        refine ⟨_, .inl (.base (.lst e1)), fun c v u b w hc => ?_⟩; simp only [isiOne, e] at w; cases c <;> first | exact own hc rfl (by decide) w | (cases hc; cases w; exact kit_ty (by decide +kernel))
      | dct kvs =>
        have z := (s.cell _ _ e).2
        cases q : H a with
        | none => rw [q] at z; exact z.elim
        | some o =>
          rw [q] at z
          cases o with
          | dT k2 =>
            refine ⟨_, .inl (.base (.dT q)), fun c v u b w hc => ?_⟩; simp only [isiOne, e] at w; cases c <;> first | exact own hc rfl (by decide) w | (cases hc; cases w; exact kit_ty (by decide +kernel))
          | _ => exact z.elim
      | ins c fs => have z := (s.cell _ _ e).2; cases q : H a with | none => rw [q] at z; exact z.elim | some o => rw [q] at z; cases o <;> exact z.elim
  | exc a r =>
    rename_i a0 C c0
    exact ⟨.ref C, .inr ⟨_, C, none, rfl, rfl, s.sub _ _ r, fun dd e => (nomatch e), cf.ex _ _ a⟩, exc_ a⟩
  | excF a r1 r2 r3 r4 =>
    rename_i a0 C dd c0 gs fs
    exact ⟨.ref C, .inr ⟨_, C, some dd, rfl, rfl, s.sub _ _ r1, fun d2 e => by cases e; exact ⟨_, s.sub _ _ r2⟩, cf.ex _ _ a⟩, exc_ a⟩
theorem kit_ofV {pins : List (Addr × Obj)} {σ : L2.St} {H : Hp} {s : Shared} {x : V} {u t : Value} (I : Inv X pins σ H s) (rx : RelV x u) (ty : TyV X.K H x t) : ∃ P : Heap → Prop, PySem.W.KitX X.K u t P ∧ P s.heap ∧ u ≠ .builtin "__main__.__loader__#opaque" := by
  rcases ty with ty | ⟨a, C, d, rfl, rfl, e, ed, c⟩
  · exact kit_of I rx ty
  · cases (show u = Value.ref a from rx)
    obtain ⟨⟨oe, vs, hget, hz, hv⟩, _⟩ := (show ObjOk X.prog X.w H s.heap a (exT a C d) from I.hok a _ e)
    cases d with
    | none =>
      refine ⟨_, kitx_flds (ody := none) (oy := oe) c, ?_, fun z => nomatch z⟩
      obtain ⟨oc, od, oda, osl⟩ := oe
      obtain ⟨h1, h2⟩ := hz
      dsimp only at h1 h2 hv
      subst h1 h2 hv
      exact ⟨hget, rfl, rfl, trivial⟩
    | some dd =>
      obtain ⟨gs, eg⟩ := ed dd rfl
      obtain ⟨mA, ⟨o2, es, ep, ho, _⟩, _⟩ := (show ObjOk X.prog X.w H s.heap dd (.xd gs) from I.hok dd _ eg)
      refine ⟨_, kitx_flds (ody := some o2) (oy := oe) c, ?_, fun z => nomatch z⟩
      obtain ⟨oc, od, oda, osl⟩ := oe
      obtain ⟨h1, h2⟩ := hz
      dsimp only at h1 h2 hv
      subst h1 h2 hv
      exact ⟨hget, rfl, rfl, ho⟩
def rIsV (K : PySem.W.Frag) : List V → Hp → VK → Prop := fun xs H Q => ∃ (x c : V) (t : Value) (b : Bool), xs = [x, c] ∧ TyV K H x t ∧ Q (.bl b) H ∧
  ((∃ u, ClsV c u ∧ PySem.W.kitOne K t u = some b) ∨ ∃ tp cs us, c = .ref tp ∧ H tp = some (.tup cs) ∧ Paired ClsV cs us ∧ PySem.W.kitAny K t us = some b)
theorem call_isV : CallR X (.builtin "isinstance") (rIsV X.K) := by
  intro pins s σ H xs us Q I r h
  obtain ⟨x, c, t, b, rfl, ty, q, w⟩ := h
  obtain ⟨u1, u2, rfl, r1, r2⟩ := vals2 r
  obtain ⟨P, Z, p, hx⟩ := kit_ofV I r1 ty
  rcases w with ⟨u, k, e⟩ | ⟨tp, cs, ws, rfl, hT, k, e⟩
  · have e2 := k.eq r2
    subst e2
    exact PySem.W.kia_one Z I.kIn p e hx fun tk => ⟨.bl b, H, I.tok tk, rfl, q⟩
  · cases (show u2 = Value.ref tp from r2)
    obtain ⟨_, its, rv, o, h1, h2, n, h3⟩ := (show ObjOk X.prog X.w H s.heap tp (.tup cs) from I.hok tp _ hT)
    have e3 := ClsV.all k rv
    subst e3
    obtain ⟨oc, od, dt, sl⟩ := o
    simp only at h2 h3
    subst h2 h3
    exact PySem.W.kia_tup Z I.kIn p h1 e hx fun tk => ⟨.bl b, H, I.tok tk, rfl, q⟩
theorem kit_any {K : PySem.W.Frag} {h : AH} {d : D} {t : Value} (f : ∀ c v u b, isiOne d h c = some b → ciV CA c = some (v, u) → PySem.W.kitOne K t u = some b) :
    ∀ {cs : List CI} {vs : List V} {us : List Value} {b : Bool}, CisV CA cs vs us → isiAny d h cs = some b → PySem.W.kitAny K t us = some b
  | _, _, _, _, .nil, e => by cases e; exact kitAny_nil
  | _, _, _, b, .cons (c := c) (cs := cs) e k r, w => by
    cases q : isiOne d h c with
    | none => rw [isiAny, q] at w; cases w
    | some z =>
      rw [isiAny, q] at w
      refine kitAny_cons (f _ _ _ _ q e) (fun ez => ?_) (fun ez => ?_)
      · subst ez; exact kit_any f r w
      · subst ez; cases w; rfl
theorem isi_run {K : PySem.W.Frag} {R Z : Hp} {h : AH} {H : Hp} {x : V} {d : D} (cf : ClsFacts CA K) (s : HR K CA R Z h H) (r : VR K CA Z x d) {c : CI} {cs : List CI} {b : Bool} (w : isiAny d h (c :: cs) = some b) :
    ∃ t, TyV K H x t ∧ ∀ c v u b, isiOne d h c = some b → ciV CA c = some (v, u) → PySem.W.kitOne K t u = some b := by
  cases q : isiOne d h c with
  | none => rw [isiAny, q] at w; cases w
  | some z => exact ty_of cf s r c z q
theorem TyV.new {K : PySem.W.Frag} {H : Hp} {x : V} {t : Value} {p : Addr} {o : HO} (hp : H p = none) (w : TyV K H x t) : TyV K (upd H p o) x t := by
  have k : ∀ {a : Addr} {u : HO}, H a = some u → upd H p o a = some u := fun {a u} e => by rw [upd_ne (ne_of_none e hp)]; exact e
  rcases w with w | ⟨a, C, d, e1, e2, e3, e4, c⟩
  · refine .inl ?_
    cases w with
    | base w =>
      refine .base ?_
      cases w with
      | non => exact .non
      | bl y => exact .bl y
      | int y => exact .int y
      | str y => exact .str y
      | flt y => exact .flt y
      | lst e => exact .lst (k e)
      | frz e => exact .frz (k e)
      | tup e => exact .tup (k e)
      | dK e => exact .dK (k e)
      | dT e => exact .dT (k e)
      | ins e c1 c2 c3 c4 c5 => exact .ins (k e) c1 c2 c3 c4 c5
    | byt y => exact .byt y
    | set e => exact .set (k e)
    | kList e c => exact .kList e c
    | kTuple e c => exact .kTuple e c
    | kDict e c => exact .kDict e c
    | fTuple e => exact .fTuple (k e)
    | fDict e => exact .fDict (k e)
  · exact .inr ⟨a, C, d, e1, e2, k e3, fun dd z => let ⟨gs, q⟩ := e4 dd z; ⟨gs, k q⟩, c⟩
theorem snd_isi {cs : List CI} {p pos : Pos} {z : Expr} (g : GOk G F k CA X.prog X.w X.K X.mg X.base) (hg : glB X.env.scope "isinstance" = true) (hy : noStar y = true) (ha : PE X y (rdE X.K CA W F a)) (hz : mCl G X.env.scope cs z = true) :
    PE X (.Call (.Name "isinstance" p) [y, z] [] pos) (rdE X.K CA W F (.isi a cs)) := by
  obtain ⟨h1, h2, h3⟩ := glB_ok hg
  unfold mCl at hz
  split at hz
  · rename_i c n q
    have hz' : (ciN G c == some n && glB X.env.scope n && mCs G X.env.scope [] []) = true := hz
    simp only [Bool.and_eq_true] at hz'
    obtain ⟨⟨z1, z2⟩, _⟩ := hz'
    obtain ⟨v, u, e, cv, pz⟩ := snd_ci (pos := q) g (eq_of_beq z1) z2
    refine PE_weak (pe_callB call_isV h1 (g.blt _ (by decide +kernel)) (by decide +kernel) (pa_cons ha (pa_cons pz pa_nil (starE rfl)) (starE hy)) h3 h2 (starE hy) rfl) fun σ H Q ⟨R, Z, v0, h, Xd, Qd, s, w, q0, kx⟩ => ?_
    refine ⟨R, Z, v0, h, Xd, _, s, w, fun Z1 h1 x1 d H1 e1 s1 r1 ⟨b, w1, w2⟩ => ?_, kx⟩
    obtain ⟨t, ty, f⟩ := isi_run g.cf s1.toHR r1 w1
    refine ⟨x1, v, t, b, rfl, ty, q0 _ _ _ _ _ e1 s1 (.bl b) w2, .inl ⟨u, cv, ?_⟩⟩
    have := kit_any f (CisV.cons e cv .nil) w1
    unfold PySem.W.kitAny at this
    cases o : isiOne d h1 c with
    | none => rw [isiAny, o] at w1; cases w1
    | some b' =>
      rw [isiAny, o] at w1
      rw [f _ _ _ _ o e]
      cases b' with
      | true => exact w1
      | false => exact w1
  · rename_i es n q _
    simp only [Bool.and_eq_true] at hz
    obtain ⟨hz1, hz2, hz⟩ := hz
    obtain ⟨vs, us, r, pz⟩ := snd_cis g hz
    cases cs with
    | nil => cases hz1
    | cons c cs =>
      refine PE_weak (pe_callB call_isV h1 (g.blt _ (by decide +kernel)) (by decide +kernel) (pa_cons ha (pa_cons (pe_tup pz) pa_nil (starE rfl)) (starE hy)) h3 h2 (starE hy) rfl) fun σ H Q ⟨R, Z, v0, h, Xd, Qd, s, w, q0, kx⟩ => ?_
      refine ⟨R, Z, v0, h, Xd, _, s, w, fun Z1 h1 x1 d H1 e1 s1 r1 ⟨b, w1, w2⟩ => ?_, kx⟩
      obtain ⟨t, ty, f⟩ := isi_run g.cf s1.toHR r1 w1
      refine ⟨?_, fun p hp => ?_⟩
      · rw [r.len]; exact Nat.le_trans (of_decide_eq_true hz2) (by decide +kernel)
      · exact ⟨x1, .ref p, t, b, rfl, ty.new hp, q0 _ _ _ _ _ (e1.trans (ext_new (s1.freeZ hp))) (s1.with (ext_new (s1.freeZ hp)) (s1.toHR.fresh _ hp)) (.bl b) w2, .inr ⟨p, _, us, rfl, upd_same, r.paired, kit_any f r w1⟩⟩
  · cases hz
end
end Ab
namespace Ab
open PySem PySem.Spec PyProof.Rows L2
section
variable {G : Gbl} {N : List Str} {F : FT} {k : Nat} {CA : CAT} {fs : FnS} {sc : Scope} {X : Cx} {W : WX} {a b c : E} {x y z : Expr}
theorem key_of {K : PySem.W.Frag} {R Z : Hp} {h : AH} {H : Hp} {y : V} {ns : List Int} (s : HR K CA R Z h H) (hk : CA.kt = false) (r : VR K CA Z y (.tup (ns.map D.int))) : ∃ b, y = .ref b ∧ H b = some (.tup ((ns.map (Sum.inl : Int → L2.Key)).map kV)) := by
  cases r with
  | tup a r =>
    obtain rfl := VRs.ints r
    exact ⟨_, rfl, by rw [keys_int]; exact s.sub _ _ (a.nk hk)⟩
theorem dget_ok {K : PySem.W.Frag} {R Z : Hp} {h : AH} {H : Hp} {x y : V} {d e : D} {P : Option D → Prop} (s : HR K CA R Z h H) (hk : CA.kt = false) (rx : VR K CA Z x d) (ry : VR K CA Z y e) (w : dgetW d e h P) :
    ∃ a o o', x = .ref a ∧ DGet H a y o ∧ OR K CA Z o o' ∧ P o' := by
  unfold dgetW at w
  split at w
  · obtain ⟨ks, ns, e1, rfl, q⟩ := w
    cases rx
    obtain ⟨vs, e2, r2, _⟩ := s.dct e1
    obtain ⟨b, rfl, e3⟩ := key_of s hk ry
    exact ⟨_, _, _, rfl, .t e2 e3, r2.val ns, q⟩
  · exact w.elim
theorem OR.isSome {K : PySem.W.Frag} {Z : Hp} {o : Option V} {o' : Option D} (r : OR K CA Z o o') : o.isSome = o'.isSome := by
  cases o <;> cases o' <;> first | rfl | exact r.elim
theorem snd_dget {pos : Pos} (hu : X.A.units + 1 < cLine) (hk : CA.kt = false) (hy : noSlice y = true) (ha : PE X x (rdE X.K CA W F a)) (hb : PE X y (rdE X.K CA W F b)) : PE X (.Subscript x y pos) (rdE X.K CA W F (.dop .get a b c)) :=
  PE_weak (pe_dget hu ha hb (plainIx hy)) fun σ H Q ⟨R, Z, v, h, Xd, Qd, s, w, q, kx⟩ => two (Qd := fun d e h => dgetW d e h fun o => ∃ d, o = some d ∧ Qd d h) s w kx fun Z' h' x y d e H' ex s' rx ry q' => by
    obtain ⟨a, o, o', e1, g, r, d', rfl, q2⟩ := dget_ok s'.toHR hk rx ry q'
    cases o with
    | none => exact r.elim
    | some v' => exact ⟨a, v', e1, g, q _ _ _ _ _ ex s' r q2⟩
theorem snd_din {pos : Pos} (hu : X.A.units + 1 < cLine) (hk : CA.kt = false) (hx : noSet x = true) (ha : PE X x (rdE X.K CA W F a)) (hb : PE X y (rdE X.K CA W F b)) :
    PE X (.Compare y [.In] [x] pos) (rdE X.K CA W F (.dop .isin a b c)) ∧ PT X (.Compare y [.In] [x] pos) (tB (rdE X.K CA W F (.dop .isin a b c))) := by
  have key : ∀ σ H Q, rdE X.K CA W F (.dop .isin a b c) σ H Q → tDIn (rdE X.K CA W F b) (rdE X.K CA W F a) σ H Q := fun σ H Q ⟨R, Z, v, h, Xd, Qd, s, w, q, kx⟩ => two (Qd := fun e d h => dgetW d e h fun o => Qd (.bl o.isSome) h) s w kx fun Z' h' y x e d H' ex s' ry rx q' => by
    obtain ⟨a, o, o', e1, g, r, q2⟩ := dget_ok s'.toHR hk rx ry q'
    exact ⟨a, o, e1, g, q _ _ _ _ _ ex s' (by rw [r.isSome]; exact .bl _) q2⟩
  exact ⟨PE_weak (pe_cmp (pc_din hu hb ha) (noMarks hx)) key, PT_weak (pt_cmp (pc_din hu hb ha) (noMarks hx)) fun σ H Q h => key σ H _ h⟩
theorem snd_dnotin {pos : Pos} (hu : X.A.units + 1 < cLine) (hk : CA.kt = false) (hx : noSet x = true) (ha : PE X x (rdE X.K CA W F a)) (hb : PE X y (rdE X.K CA W F b)) :
    PE X (.Compare y [.NotIn] [x] pos) (rdE X.K CA W F (.dop .notin a b c)) ∧ PT X (.Compare y [.NotIn] [x] pos) (tB (rdE X.K CA W F (.dop .notin a b c))) := by
  have key : ∀ σ H Q, rdE X.K CA W F (.dop .notin a b c) σ H Q → tDNotIn (rdE X.K CA W F b) (rdE X.K CA W F a) σ H Q := fun σ H Q ⟨R, Z, v, h, Xd, Qd, s, w, q, kx⟩ => two (Qd := fun e d h => dgetW d e h fun o => Qd (.bl (!o.isSome)) h) s w kx fun Z' h' y x e d H' ex s' ry rx q' => by
    obtain ⟨a, o, o', e1, g, r, q2⟩ := dget_ok s'.toHR hk rx ry q'
    exact ⟨a, o, e1, g, q _ _ _ _ _ ex s' (by rw [r.isSome]; exact .bl _) q2⟩
  exact ⟨PE_weak (pe_cmp (pc_dnotin hu hb ha) (noMarks hx)) key, PT_weak (pt_cmp (pc_dnotin hu hb ha) (noMarks hx)) fun σ H Q h => key σ H _ h⟩
theorem snd_dgetD {apos pos : Pos} (hu : X.A.units + 1 < cLine) (hk : CA.kt = false) (hline : (apos.endLine == pos.line) = true) (hb : attributeBase x "get" X.env (eval x X.env) = eval x X.env) (hs : noStar y = true) (hs' : noStar z = true)
    (ha : PE X x (rdE X.K CA W F a)) (hy : PE X y (rdE X.K CA W F b)) (hz : PE X z (rdE X.K CA W F c)) : PE X (.Call (.Attribute x "get" apos) [y, z] [] pos) (rdE X.K CA W F (.dop .getD a b c)) := by
  refine PE_weak (pe_dget2 hu ha hy hz ⟨hb, ?_, hline, ?_⟩) fun σ H Q ⟨R, Z, v, h, Xd, Qd, s, w, q, kx⟩ => ?_
  · rw [starE hs, starE hs']; rfl
  · rw [starE hs, starE hs']; rfl
  · refine ⟨R, Z, v, h, Xd, _, s, w, fun Z1 h1 x d H1 e1 s1 r1 q1 => ?_, kx⟩
    obtain ⟨q0, q1⟩ := (show isDW d h1 ∧ _ from q1)
    cases r1 with
    | ref a0 =>
      obtain ⟨ks, ek⟩ := q0
      obtain ⟨vs, e2, _, _⟩ := s1.toHR.dct ek
      refine ⟨a0, rfl, .inr ⟨vs, .of e2⟩, R, Z1, v, h1, Xd, _, s1, q1, fun Z2 h2 y e H2 e2 s2 r2 q2 => ⟨R, Z2, v, h2, Xd, _, s2, q2, fun Z3 h3 z f H3 e3 s3 r3 q3 => ?_, kx.mono (e1.trans e2)⟩, kx.mono e1⟩
      obtain ⟨a, o, o', e4, g, r, q4⟩ := dget_ok s3.toHR hk (.ref a0) (r2.mono e3) q3
      cases e4
      refine ⟨o, g, q _ _ _ _ _ ((e1.trans e2).trans e3) s3 ?_ q4⟩
      cases o with
      | none => cases o' with
        | none => exact r3
        | some _ => exact r.elim
      | some _ => cases o' with
        | none => exact r.elim
        | some _ => exact r
    | _ => exact q0.elim
theorem dput_ok {K : PySem.W.Frag} {R Z : Hp} {h : AH} {H : Hp} {x y v : V} {d e u : D} {P : AH → Prop} (s : HR K CA R Z h H) (hk : CA.kt = false) (rx : VR K CA Z x d) (ry : VR K CA Z y e) (rv : VR K CA Z v u) (w : dputW d e u h P) :
    ∃ a H', x = .ref a ∧ DPut H a y v H' ∧ ∃ h', HR K CA R Z h' H' ∧ P h' := by
  unfold dputW at w
  split at w
  · obtain ⟨ks, ns, e1, rfl, l, q⟩ := w
    cases rx
    obtain ⟨vs, e2, r2, _⟩ := s.dct e1
    obtain ⟨b, rfl, e3⟩ := key_of s hk ry
    exact ⟨_, _, rfl, .t e2 e3 (by rw [r2.len]; exact l), _, s.write (c' := .dct (putD ks ns u)) e1 (show DRs K CA Z _ _ from r2.put ns rv), q⟩
  · exact w.elim
theorem adopt_keys {K : PySem.W.Frag} {R : Hp} {h : AH} {H : Hp} : ∀ (ys : List (Addr × List Int)) {Z : Hp}, HR K CA R Z h H → (∀ q ∈ ys, H q.1 = some (.tup (q.2.map V.int))) → ∃ Z', Ext Z Z' ∧ HR K CA R Z' h H ∧ VRs K CA Z' (ys.map fun q => V.ref q.1) (ys.map fun q => D.tup (q.2.map D.int))
  | [], Z, s, _ => ⟨Z, Ext.refl Z, s, .nil⟩
  | q :: ys, Z, s, e => by
    obtain ⟨Z1, e1, z1, s1⟩ := s.adopt (e q List.mem_cons_self)
    obtain ⟨Z2, e2, s2, r2⟩ := adopt_keys ys s1 fun q hq => e q (List.mem_cons_of_mem _ hq)
    exact ⟨Z2, e1.trans e2, s2, .cons (.tup (.of (e2 _ _ z1)) (VRs.of_ints _)) r2⟩
theorem dsrt_ok {K : PySem.W.Frag} {R Z : Hp} {v : Env'} {h : AH} {σ : L2.St} {H : Hp} {x : V} {d : D} {f : Bool} {Qd : PQ} {Q : VK} (s : SR K CA R Z v h σ H) (rx : VR K CA Z x d) (w : dsrtW f d h Qd) (q : KQ K CA R Z v σ Qd Q) : rSortedDT K [x] H Q := by
  unfold dsrtW at w
  split at w
  · obtain ⟨ks, n, B, e1, h64, hn, hB, q1⟩ := w
    cases rx
    obtain ⟨vs, e2, r2, _⟩ := s.toHR.dct e1
    refine ⟨_, vs, ks.map (·.1), n, B, rfl, .of e2, r2.keys, by rw [List.length_map]; exact h64, by rw [List.length_map]; exact hn, fun k hk => ?_, fun ys p pm so hm hp => ?_⟩
    · obtain ⟨kv, m, rfl⟩ := List.mem_map.mp hk
      exact hB kv m
    · have w2 := q1 (ys.map Prod.snd) pm (by rw [List.pairwise_map]; exact so)
      rw [List.map_map] at w2
      have w2 : lnew f (ys.map fun q => D.tup (q.2.map D.int)) h Qd := w2
      obtain ⟨Z1, f1, s1, r1⟩ := adopt_keys ys s.toHR hm
      have s1 : SR K CA R Z1 v h σ H := s.with f1 s1
      obtain ⟨l, w3⟩ := w2
      cases f with
      | true => exact q _ h _ _ _ (f1.trans (ext_new (s1.freeZ hp))) (s1.with (ext_new (s1.freeZ hp)) (s1.toHR.fresh _ hp)) (.lst upd_same (r1.mono (ext_new (s1.freeZ hp)))) w3
      | false => exact q _ _ _ _ _ f1 (s1.with (Ext.refl Z1) (s1.toHR.new (c := .lst _) hp r1)) (.ref p) (w3 p (s1.toHR.free hp))
  · exact w.elim
theorem snd_dsrt {n : Str} {f : Bool} {p pos : Pos} (g : GOk G F k CA X.prog X.w X.K X.mg X.base) (hc : X.calm = true) (hg : glB X.env.scope "sorted" = true) (hs : noStar x = true) (ha : PE X x (rdE X.K CA W F a)) :
    PE X (.Call (.Name "sorted" p) [x] [] pos) (rdE X.K CA W F (.dop (.srt f) a b c)) := by
  obtain ⟨h1, h2, h3⟩ := glB_ok hg
  refine PE_weak (pe_callB (call_sortedDT hc) h1 (g.blt _ (by decide +kernel)) (by decide +kernel) (pa_cons ha pa_nil (starE hs)) h3 h2 (starE hs) rfl) fun σ H Q ⟨R, Z, v, h, Xd, Qd, s, w, q, kx⟩ => ?_
  exact ⟨R, Z, v, h, Xd, _, s, w, fun Z1 h1 x d H1 e1 s1 r1 q1 => dsrt_ok s1 r1 (show dsrtW f d h1 Qd from q1) (q.mono e1), kx⟩
end
end Ab
namespace Ab
open PySem PySem.Spec PyProof.Rows L2
section
variable {X : Cx} {pins : List (Addr × Obj)} {σ : L2.St} {H : Hp} {s : Shared} {a : Addr}
theorem inv_track {o : HO} (I : Inv X pins σ H s) (na : H a = none) (n0 : X.s_0.heap.get? a = none) (nL : a ≠ X.env.locals) (nC : ∀ x c, X.env.cells.lookup x = some c → c ≠ a) (np : ∀ p ∈ X.pn ++ pins, p.1 ≠ a)
    (new : ObjOk X.prog X.w (upd H a o) s.heap a o) : Inv X pins σ (upd H a o) s where
  ok := I.ok
  os := I.os
  bare := I.bare
  base := ⟨I.base.keep, I.base.slot, fun b ob e n hx => by rw [upd_ne (fun z => by subst z; rw [n0] at e; cases e)]; exact I.base.free b ob e n hx, I.base.there, fun b xs e => by rw [upd_ne (ne_of_none (I.base.tups b xs e) na)]; exact I.base.tups b xs e,
    fun b ob u e => by rw [upd_ne (ne_of_none (I.base.frzs b ob u e) na)]; exact I.base.frzs b ob u e, fun b ps e => let ⟨m, q⟩ := I.base.tbls b ps e; ⟨m, by rw [upd_ne (ne_of_none q na)]; exact q⟩⟩
  loc := I.loc
  cell := I.cell
  free := by rw [upd_ne (Ne.symm nL)]; exact I.free
  freeC := fun x c e => by rw [upd_ne (nC x c e)]; exact I.freeC x c e
  pin := fun p hp => let ⟨q1, q2, q3⟩ := I.pin p hp; ⟨q1, by rw [upd_ne (np p hp)]; exact q2, q3⟩
  hok := fun b u e => by
    by_cases z : b = a
    · subst z; rw [upd_same] at e; cases e; exact new
    · rw [upd_ne z] at e
      exact (I.hok b u e).stay (fun c v _ q => q) (fun c q => by rw [upd_ne (ne_of_none q na)]; exact q) fun c xs q => by rw [upd_ne (ne_of_none q na)]; exact q
  len := I.len
theorem inv_suite (I : Inv X pins σ H s) (a : Addr) : Inv (X.suite a (X.pn ++ pins)) [] σ H s :=
  ⟨I.ok.suite _ _, I.os, I.bare, I.base, I.loc, I.cell, I.free, I.freeC, fun p hp => I.pin p (by rw [List.append_nil] at hp; exact hp), I.hok, I.len⟩
theorem inv_unsuite {pn' : List (Addr × Obj)} (I : Inv (X.suite a (X.pn ++ pins)) pn' σ H s) (ok : X.Ok) : Inv X pins σ H s :=
  ⟨ok, I.os, I.bare, I.base, I.loc, I.cell, I.free, I.freeC, fun p hp => I.pin p (List.mem_append_left _ hp), I.hok, I.len⟩
theorem exT_ok {P : Program} {w : World} {h : Heap} {H : Hp} {C : Addr} {d : Option Addr} {oe : Obj} {vs : Array Value} (e : h.get? a = some oe) (z : Zc (.ref C) d oe) (hd : oe.data = .fields vs) : ObjOk P w H h a (exT a C d) :=
  ⟨⟨oe, vs, e, z, hd⟩, ⟨oe, e⟩, fun _ _ ⟨o, v, q, r⟩ k => ⟨o, v, k o q, r⟩⟩
end
def setI (i : Option Nat) (σ : L2.St) (x : V) : L2.St := match i with | some i => σ.set i (some x) | none => σ
def unI (i : Option Nat) (σ : L2.St) : L2.St := match i with | some i => σ.set i none | none => σ
def endI (i : Option Nat) (D : Ends) : Ends := { nx := fun σ H => D.nx (unI i σ) H, rt := D.rt, bk := fun σ H => D.bk (unI i σ) H, ct := fun σ H => D.ct (unI i σ) H }
def wCt (K : PySem.W.Frag) (c : Value) (i : Option Nat) (n : Nat) (ts : TS) (Wout : WX) (D : Ends) : WX := fun cls d σ H =>
  ∃ b, PySem.W.exmOne K cls c = some b ∧ (b = true → ∃ C, cls = .ref C ∧ ∀ a, H a = none → σ.length = n → ts (endI i D) (setI i σ (.ref a)) (upd H a (exT a C d))) ∧ (b = false → Wout cls d σ H)
def NmOk (X : Cx) : Option Str → Option Nat → Prop
  | none, none => True
  | some n, some i => X.N[i]? = some n ∧ X.env.kindOf n = some .local
  | _, _ => False
section
variable {X : Cx} {x : Str} {nm : Option Str} {c : Value} {i : Option Nat} {body suite : List Stmt} {b₀ : Stmt} {np pos pos' : Pos} {tb : WX → TS} {ts : TS} {Wout : WX}
theorem ps_tryT (hs : X.stack = X.env :: X.outer) (hf : X.env.frame = some X.env.locals) (hex : X.ex = []) (hN : X.N.Nodup) (hnm : NmOk X nm i) (hc : Names X x c) (tk : Takes X Wout)
    (hb : ∀ (W : WX) (pn : List (Addr × Obj)) (xe : Value → Shared → Prop), Takes (X.tr pn xe) W → PassesOwn (model X.prog X.w) X.A X.env xe → PSs (X.tr pn xe) body (tb W))
    (hsu : ∀ (a : Addr) (pn : List (Addr × Obj)), PSs (X.suite a pn) (b₀ :: suite) ts) :
    PS X (.Try body [.ExceptHandler (some (.Name x np)) nm (b₀ :: suite) pos'] [] [] pos) (fun D σ H => tb (wCt X.K c i X.N.length ts Wout D) D σ H) := by
  refine ⟨fun pins s σ H D I h => ?_⟩
  have ok := I.ok
  have hfr : X.A.frames = some (X.env :: X.outer) := by rw [ok.frames, hs]
  refine wpAny_Try_except ?_
  refine wpAny_mono ((hb (wCt X.K c i X.N.length ts Wout D) (X.pn ++ pins) (fun e s₁ => wpAny (model X.prog X.w) X.A (noteFrame e X.env) (fun _ s₂ => wpAny (model X.prog X.w) X.A (setFlight e none) (fun _ s₃ =>
    wpAny (model X.prog X.w) X.A (handleBy e X.env [.ExceptHandler (some (.Name x np)) nm (b₀ :: suite) pos']) (SP X pins D) X.xe s₃) X.xe s₂) X.xe s₁) (fun u s' xx => ?_) PassesOwn.looking).run [] s σ H D (I.toTry _) h) (fun f s1 hsp => ?_) (fun e s1 he => he)
  · obtain ⟨a, B, sI, pins', σ', H', cls, d, rfl, J', nb, up, sky, na, os, ag, b, hb1, hyes, hno⟩ := xx
    have J : Inv X pins σ' H' sI := J'.ofTry ok
    have sky' : Sky B (X.env :: X.outer) a (Zc cls d) X.env.locals s'.heap := by rw [← hs]; exact sky
    show wpAny (model X.prog X.w) X.A (noteFrame (.ref a) X.env) _ _ _
    refine Sky.land Zc.steady hfr hf sky' fun h3 fl3 up3 => ?_
    have J3 : Inv X pins σ' H' { s' with heap := h3 } := J.landed nb fl3.1 (up.trans up3) os ag
    obtain ⟨oe3, vs3, he3, hz3, hd3⟩ := fl3.there
    have nfr : a ∉ frs (X.env :: X.outer) := fun hm => by
      obtain ⟨_, o', e', hnf⟩ := fl3.2.2.1.mem hm
      rw [he3] at e'; cases e'
      exact hnf _ hd3
    have nI : sI.heap.get? a = none := by
      cases q : sI.heap.get? a with
      | none => rfl
      | some o =>
        have z := nb a o q (by rw [hs]; exact nfr)
        rw [fl3.2.1] at z; cases z
    have n0 : X.s_0.heap.get? a = none := by
      cases q : X.s_0.heap.get? a with
      | none => rfl
      | some o =>
        obtain ⟨o', z⟩ := J.base.there a o q (by rw [hex]; exact fun z => nomatch z)
        rw [nI] at z; cases z
    have nL : a ≠ X.env.locals := fun z => nfr (List.mem_filterMap.mpr ⟨X.env, List.mem_cons_self, by rw [hf, z]⟩)
    have nC : ∀ x c, X.env.cells.lookup x = some c → c ≠ a := fun x c e z => by
      obtain ⟨v, o, q, _⟩ := J.cell x c e
      rw [z, nI] at q; cases q
    have nP : ∀ p ∈ X.pn ++ pins, p.1 ≠ a := fun p hp z => by
      have q := (J.pin p hp).1
      rw [z, nI] at q; cases q
    have S3 := inv_suite J3 a
    refine wpAny_handleBy_cons (codeAny_handlers_test ?_) (by intro q; cases q)
    have LT : PySem.W.Looks (model X.prog X.w) h3 (typeOf (.ref a)) cls := fun A Q E s k q => wpAny_typeOf_ref (k _ _ he3) (by rw [hz3.1]; exact q)
    have LM := PySem.W.exm_one (M := model X.prog X.w) (J3.kIn) LT hb1
    have test : ∀ {Q : Value → Shared → Prop} {E : Value → Shared → Prop}, Q c { s' with heap := h3 } → wpAny (model X.prog X.w) (X.A.mark (some (.ref a))) (eval (.Name x np) X.env) Q E { s' with heap := h3 } := fun {Q E} q => by
      obtain ⟨hg, hdbg, hm | ⟨hm, hv, hnn⟩⟩ := hc
      · exact ld_glob (X := X.suite a (X.pn ++ pins)) S3 hg hm q hdbg
      · exact ld_blt (X := X.suite a (X.pn ++ pins)) S3 hg hm hv q hnn hdbg
    refine test (LM.here ?_)
    cases b with
    | true =>
      obtain ⟨C, rfl, hy2⟩ := hyes rfl
      have go : ∀ h4, HandSPX.FlyingZ B (X.env :: X.outer) a (Zc (.ref C) d) h4 → h3.UpToSlots h4 → Inv (X.suite a (X.pn ++ pins)) [] σ' (upd H' a (exT a C d)) { s' with heap := h4 } := fun h4 fl4 up4 => by
        obtain ⟨oe4, vs4, he4, hz4, hd4⟩ := fl4.there
        have J4 : Inv X pins σ' H' { s' with heap := h4 } := J.landed nb fl4.1 ((up.trans up3).trans up4) os ag
        exact inv_suite (inv_track J4 na n0 nL nC nP (exT_ok he4 hz4 hd4)) a
      cases nm with
      | some n =>
        cases i with
        | none => exact hnm.elim
        | some i =>
          refine codeAny_handlers_suite_as ?_
          refine HandSPX.lands_againZ fl3 fun h4 fl4 up4 => ?_
          refine store_ok (X := X.suite a (X.pn ++ pins)) (v := .ref a) (go h4 fl4 up4) hN hnm.1 (.inl hnm.2) rfl (fun s5 S5 => ?_) (.inr hnm.2)
          refine wpAny_mono ((hsu a (X.pn ++ pins)).run [] s5 _ _ _ S5 (hy2 a na J.len)) (fun f s6 hsp => ?_) (fun _ _ z => False.elim z)
          have end_ : ∀ {σ6 : L2.St} {H6 : Hp} {Q : Shared → Prop}, Inv (X.suite a (X.pn ++ pins)) [] σ6 H6 s6 → (∀ s7, Inv X pins (σ6.set i none) H6 s7 → Q s7) →
              wpAny (model X.prog X.w) X.A (do bindName X.env n .none; unbindBehindTheSuite X.env n pos') (fun _ s7 => Q s7) X.xe s6 := fun {σ6 H6 Q} S6 hq => gone_ok (inv_unsuite S6 ok) hN hnm.1 hnm.2 hq
          cases f with
          | next =>
            obtain ⟨σ6, H6, S6, q6⟩ := hsp
            exact end_ S6 fun s7 J7 => ⟨_, _, J7, q6⟩
          | brk =>
            obtain ⟨σ6, H6, S6, q6⟩ := hsp
            exact end_ S6 fun s7 J7 => ⟨_, _, J7, q6⟩
          | cont =>
            obtain ⟨σ6, H6, S6, q6⟩ := hsp
            exact end_ S6 fun s7 J7 => ⟨_, _, J7, q6⟩
          | ret u =>
            obtain ⟨v6, σ6, H6, S6, r6, q6⟩ := hsp
            exact end_ S6 fun s7 J7 => ⟨_, _, _, J7, r6, q6⟩
      | none =>
        cases i with
        | some _ => exact hnm.elim
        | none =>
          refine codeAny_handlers_suite ?_
          refine HandSPX.lands_againZ fl3 fun h4 fl4 up4 => ?_
          refine wpAny_mono ((hsu a (X.pn ++ pins)).run [] _ _ _ _ (go h4 fl4 up4) (hy2 a na J.len)) (fun f s6 hsp => ?_) (fun _ _ z => False.elim z)
          cases f with
          | next =>
            obtain ⟨σ6, H6, S6, q6⟩ := hsp
            exact ⟨_, _, inv_unsuite S6 ok, q6⟩
          | brk =>
            obtain ⟨σ6, H6, S6, q6⟩ := hsp
            exact ⟨_, _, inv_unsuite S6 ok, q6⟩
          | cont =>
            obtain ⟨σ6, H6, S6, q6⟩ := hsp
            exact ⟨_, _, inv_unsuite S6 ok, q6⟩
          | ret u =>
            obtain ⟨v6, σ6, H6, S6, r6, q6⟩ := hsp
            exact ⟨_, _, _, inv_unsuite S6 ok, r6, q6⟩
    | false =>
      show wpAny _ X.A (handleBy (.ref a) X.env []) _ _ _
      refine wpAny_handleBy_nil ?_
      obtain ⟨k1, k2, k3, oe, vs, T, oT, ts', he, hz, hd, h1, hr⟩ := id fl3
      unfold PySem.passOn
      refine wpAny_bind (wpAny_field he hd h1 ?_)
      rw [if_neg (show ¬ ((Value.ref T == Value.none) = true) from by simp)]
      have fin : wpAny (model X.prog X.w) X.A (setFlight (.ref a) X.env.frame) (fun _ s4 => wpAny (model X.prog X.w) X.A (throw (.ref a) : Sem Flow) (SP X pins D) X.xe s4) X.xe { s' with heap := h3 } := by
        rw [hf]
        refine HandSPX.setFlight_upZ fl3 fun h4 hh4 up4 => wpAny_throw (tk _ _ ?_)
        exact ⟨a, B, sI, pins, σ', H', cls, d, rfl, J, nb, (up.trans up3).trans up4, .inr (.inr (by rw [hs]; exact hh4)), na, os, ag, hno rfl⟩
      first
        | exact wpAny_bind (wpAny_pure (wpAny_bind fin))
        | exact wpAny_bind fin
  · cases f with
    | next =>
      obtain ⟨σ', H', J', q⟩ := hsp
      exact wpAny_execs_nil ⟨σ', H', J'.ofTry ok, q⟩
    | brk =>
      obtain ⟨σ', H', J', q⟩ := hsp
      exact ⟨σ', H', J'.ofTry ok, q⟩
    | cont =>
      obtain ⟨σ', H', J', q⟩ := hsp
      exact ⟨σ', H', J'.ofTry ok, q⟩
    | ret u =>
      obtain ⟨v, σ', H', J', r, q⟩ := hsp
      exact ⟨v, σ', H', J'.ofTry ok, r, q⟩
end
end Ab
namespace Ab
open PySem PySem.Spec PyProof.Rows L2
section
variable {G : Gbl} {N : List Str} {F : FT} {k : Nat} {CA : CAT} {fs : FnS} {sc : Scope} {X : Cx} {W : WX} {a : E} {x : Expr}
theorem lookup_fst {f : Str} {d : D} : ∀ {l : List (Str × D)}, l.lookup f = some d → f ∈ l.map (·.1)
  | [], h => by cases h
  | (g, d') :: l, h => by
    rw [List.lookup_cons] at h
    split at h
    · rename_i q
      rw [eq_of_beq q]
      exact List.mem_cons_self
    · exact List.mem_cons_of_mem _ (lookup_fst h)
theorem snd_fld {n : Str} {pos : Pos} (cf : ClsFacts CA X.K) (hb : attributeBase x n X.env (eval x X.env) = eval x X.env) (ha : PE X x (rdE X.K CA W F a)) : PE X (.Attribute x n pos) (rdE X.K CA W F (.fld a n)) := by
  refine ⟨fun pins s σ H Q I ⟨R, Z, v, h, Xd, Qd, sr, w, q, kx⟩ => ?_⟩
  refine attr_of hb (thn (ha.run pins s σ H (fun x1 H1 => ∃ Z1 h1 d, Ext Z Z1 ∧ SR X.K CA R Z1 v h1 σ H1 ∧ VR X.K CA Z1 x1 d ∧ (match d with | .exc _ fs => ∃ d, fs.lookup n = some d ∧ Qd d h1 | _ => False)) I ⟨R, Z, v, h, Xd, _, sr, w, fun Z1 h1 x d H1 e1 s1 r1 q1 => ⟨Z1, h1, d, e1, s1, r1, q1⟩, kx⟩) fun u s1 hh => ?_)
  obtain ⟨x1, H1, I1, rx, Z1, h1, d, e1, sr1, r1, q1⟩ := hh
  cases r1 with
  | exc a r =>
    obtain ⟨d', e, _⟩ := q1
    cases e
  | @excF a C dd c gs fs c1 r1 r2 r3 r4 =>
    obtain ⟨d', e, q2⟩ := q1
    obtain ⟨v', ev, rv⟩ := r3.get e
    cases (show u = Value.ref a from rx)
    obtain ⟨⟨oe, vs, hget, hz, hv⟩, _⟩ := (show ObjOk X.prog X.w H1 s1.heap a (exT a C (some dd)) from I1.hok a _ (sr1.sub _ _ r1))
    have hxd : ObjOk X.prog X.w H1 s1.heap dd (.xd gs) := I1.hok dd _ (sr1.sub _ _ r2)
    obtain ⟨mA, hns, hr⟩ := hxd
    obtain ⟨od, ho, hl⟩ := lookIn_ns hns
    obtain ⟨u', hu, ru⟩ := RelO.some_of (v := v') (o := mA n) (by rw [← ev]; exact hr n)
    have J : PySem.W.InstAt s1.heap a oe C (some od) := ⟨hget, hz.1, by unfold PySem.W.notCls; rw [hv] <;> rfl, by rw [hz.2]; exact ho⟩
    have T := cf.ex _ _ c1
    exact HandSPX.exc_get I1.kIn J T.hg T.hk T.hs (PySem.W.findObj_own T.hd (r4 n (lookup_fst e)) rfl (by rw [hl, hu])) (handed_of ru) ⟨v', H1, I1.tok _, ru, q _ _ _ _ _ e1 sr1 rv q2⟩
  | _ => exact (show False from q1).elim
def TTask (K : PySem.W.Frag) (CS : Addr) : (XK → Hp → VK → Prop) → Hp → VK → Prop := fun tl H Q =>
  tl (fun cls d H' => ∃ C, cls = .ref C ∧ PySem.W.exmOne K cls (.ref CS) = some true ∧ ∀ a, H' a = none → Q (.ref a) (upd H' a (exT a C d))) H (fun _ H' => Q .non H')
theorem ask_gives {a c er e q x : Str} {sg : Scope} {g CS : Addr} {cdg : Value} {k : Nat} {p1 p2 p3 p4 p5 p6 p7 p8 p9 p10 p11 p12 p13 p14 : Pos} (Sg : FnScope [a, c, er] [a] sg) (ha : sg.names.lookup a = some .local) (hc : sg.names.lookup c = some .local) (her : sg.names.lookup er = some .local)
    (hge : sg.names.lookup e = some .globalImplicit) (hme : X.mg e = some (.ref CS)) (hde : (e == ("__debug__" : Str)) = false) (ka : okN a = true) (kc : okN c = true) (ke : okN er = true) :
    LamX.GivesTo X [a, c, er] x sg g cdg [.Assign [.Name c p1] (.Constant .none k p2) p3, .Try [.Expr (.Call (.Name a p4) [] [] p5) p6] [.ExceptHandler (some (.Name e p7)) (some er) [.Assign [.Name c p8] (.Name er p9) p10] p11] [] [] p12, .Return (some (.Name c p13)) p14] a q (TTask X.K CS) := by
  intro f c' s H Q tl act hco h
  have no : ∀ {n : Str}, okN n = true → (n == ("__debug__" : Str)) = false ∧ (n == ("__classdict__" : Str)) = false := fun {n} z => by
    unfold okN at z
    simp only [Bool.and_eq_true, Bool.not_eq_true'] at z
    exact z
  generalize hX : (cxOf C8.CX0 X.prog X.w X.K X.mg X.base [a, c, er] x sg g cdg X.A X.stack s H C8.E0).nox = Y at *
  have hN : Y.N = [a, c, er] := by rw [← hX]; rfl
  have hnd : Y.N.Nodup := by rw [hN]; exact Sg.nd
  have hsc : Y.env.scope = sg := by rw [← hX]; rfl
  have hK : Y.K = X.K := by rw [← hX]; rfl
  have hgl : Gl Y e := by show Y.env.scope.names.lookup e = _; rw [hsc]; exact hge
  have hmg : Y.mg e = some (.ref CS) := by rw [← hX]; exact hme
  have loc : ∀ {n : Str}, sg.names.lookup n = some .local → Y.env.scope.names.lookup n = some .local := fun z => by rw [hsc]; exact z
  have P1 : PS Y (.Assign [.Name c p1] (.Constant .none k p2) p3) _ := ps_set (i := 1) hnd (by rw [hN]; rfl) (.inl (loc hc)) pe_non rfl (.inr (loc hc))
  have P3 : PS Y (.Return (some (.Name c p13)) p14) _ := ps_ret (pe_var (i := 1) (by rw [hN]; rfl) (.inl (loc hc)) (no kc).1 (no kc).2)
  have P2 := ps_tryT (X := Y) (x := e) (nm := some er) (c := .ref CS) (i := some 2) (body := [.Expr (.Call (.Name a p4) [] [] p5) p6]) (b₀ := .Assign [.Name c p8] (.Name er p9) p10) (suite := []) (np := p7) (pos := p12) (pos' := p11) (Wout := fun _ _ _ _ => False)
    (tb := fun W D σ H => ∃ Ech : XK, (∀ cls d σ' H', Ech cls d H' → W cls d σ' H') ∧ σ[0]? = some (some (.ref f)) ∧ H c' = some (LamX.CodeO c' q) ∧ tl Ech H fun _ H' => D.nx σ H')
    (ts := tAsg (tVar 2) (gName 1))
    (by rw [← hX]; rfl) (by rw [← hX]; rfl) (by rw [← hX]; rfl) hnd ⟨by rw [hN]; rfl, loc her⟩ ⟨hgl, hde, .inl hmg⟩ LamX.takes0
    (fun W pn xe tk _ => ⟨fun pins s' σ H' D I ⟨Ech, hW, h1, h2, h3⟩ => by
      have hp := act W pn xe Ech p4 p5 (by rw [← hX] at tk; exact tk) hW
      have hq := pss_one (ps_expr (pos := p6) hp)
      rw [← hX] at I ⊢
      exact hq.run pins s' σ H' D I ⟨h1, h2, h3⟩⟩)
    (fun a pn => pss_one (ps_set (X := Y.suite a pn) (i := 1) hnd (by show Y.N[1]? = _; rw [hN]; rfl) (.inl (loc hc)) (pe_var (X := Y.suite a pn) (i := 2) (by show Y.N[2]? = _; rw [hN]; rfl) (.inl (loc her)) (no ke).1 (no ke).2) rfl (.inr (loc hc))))
  refine ⟨_, pss_cons P1 (pss_cons P2 (pss_one P3)), ?_⟩
  have h' : tl (fun cls d H' => ∃ C, cls = .ref C ∧ PySem.W.exmOne X.K cls (.ref CS) = some true ∧ ∀ a, H' a = none → Q (.ref a) (upd H' a (exT a C d))) H (fun _ H' => Q .non H') := h
  apply Exists.intro (fun cls d H' => ∃ C, cls = .ref C ∧ PySem.W.exmOne X.K cls (.ref CS) = some true ∧ ∀ a, H' a = none → Q (.ref a) (upd H' a (exT a C d)))
  refine ⟨fun cls d σ' H' ⟨C, e1, e2, e3⟩ => ⟨true, by rw [hK]; exact e2, fun _ => ⟨C, e1, fun a na hl => ?_⟩, fun z => nomatch z⟩, rfl, hco, ?_⟩
  · have hl : σ'.length = 3 := by rw [hl, hN]; rfl
    match σ', hl with
    | [x0, x1, x2], _ => exact ⟨.ref a, rfl, .ref a, rfl, e3 a na⟩
  · have e : (fun (_ : V) H' => Q .non H') = fun (_ : V) H' => ∃ v, (List.set (L2.start [a, c, er] [V.ref f]) 1 (some V.non))[1]? = some (some v) ∧ Q v H' := by
      funext x H'
      exact propext ⟨fun q => ⟨.non, rfl, q⟩, fun ⟨v, e, q⟩ => by cases e; exact q⟩
    rw [e] at h'
    exact h'
theorem snd_lam {g : Nat} {n : Str} {params : Arguments} {body : Expr} {scope : Scope} {lpos p pos : Pos} (o : CxOk G N F k CA none sc X W) (hask : AskOk X.K CA X.mg n) (hg : glB X.env.scope n = true) (htb : TabOk CA k X) (hpar : noPar params = true) (L : LamX.LamS X.env.scope scope)
    (hbody : ∀ (A : Around) (outer : List Env) (s : Shared) (H : Hp) (E : XK) (f c' : Addr), Room (5 * k + 2) (A.deeper (LamX.lamEnv X scope s.heap.objs.size f c')) → PE (LamX.lamCx X A outer s H E scope f c') body (rdE X.K CA (fun cls d _ H => E cls d H) F a)) :
    PE X (.Call (.Name n p) [.Lambda params body scope lpos] [] pos) (rdE X.K CA W F (.lam g a)) := by
  obtain ⟨ga, pg, sg, dV, kV, doc, pm, cdv, ct, oc, an, od, osl, Ng, aa, cc, ee, er, CS, bg, m1, m2, m3, m4, m5, m6, rfl, n1, n2, n3, n4, n5, n6, k1, k2, k3, k4, p1, p2, p3, p4, p5, p6, p7, p8, p9, p10, p11, p12, p13, p14, kk, rfl⟩ := hask.ex
  obtain ⟨h1, h2, h3⟩ := glB_ok hg
  obtain ⟨t0, c, Pt, t1, t2, t3, t4⟩ := htb
  obtain rfl := noPar_eq hpar
  have no : ∀ {n : Str}, okN n = true → (n == ("__debug__" : Str)) = false ∧ (n == ("__classdict__" : Str)) = false := fun {n} z => by
    unfold okN at z
    simp only [Bool.and_eq_true, Bool.not_eq_true'] at z
    exact z
  refine PE_weak (LamX.pe_lamcall (T := CA.tabs) (TT := TTask X.K CS) (t := fun E => rdE X.K CA (fun cls d _ H => E cls d H) F a) (k := 5 * k + 2) h1 m1 m2 m3 m4 m5 m6 rfl (.inl n1) (ask_gives m6 n1 n2 n3 n4 n5 k4 k1 k2 k3) t4 t1 t2 t3 t0 L rfl (fun _ _ _ _ _ => rfl) hbody h2 (no k1).1 (no k1).2) fun σ H Q ⟨R, Z, v, h, Xd, Qd, s, w, q, kx⟩ => ?_
  refine ⟨s.tab, fun H1 eN T1 => ?_⟩
  have s1 : SR X.K CA R Z v h σ H1 := ⟨s.toHR.extN eN T1, s.env, s.len⟩
  have w : wpE F a v h (fun x h => Qd (.exc x.c x.fs) h) fun _ h => Qd .non h := w
  refine ⟨R, Z, v, h, _, _, s1, w, fun Z' h' x d H' e2 s2 r2 q2 => q _ _ _ _ _ e2 s2 .non q2, fun Z' h' x cls dd H' e2 s2 xr q2 => ?_⟩
  obtain ⟨C, rfl, c1⟩ := xr.cls
  have ex := o.g.cf.exm _ _ _ _ c1 n6
  refine ⟨C, rfl, ex, fun b nb => ?_⟩
  have ez := ext_new (o := exT b C dd) (s2.freeZ nb)
  exact q _ _ _ _ _ (e2.trans ez) (s1.with (e2.trans ez) (s2.fresh (exT b C dd) nb)) (xr.val (s2.freeZ nb)) q2
theorem CxOk.lam (o : CxOk G N F k CA none sc X W) {scope : Scope} (L : LamX.LamS X.env.scope scope) {A : Around} {outer : List Env} {s : Shared} {H : Hp} {E : XK} {f c' : Addr} (hr : Room (5 * k + 2) (A.deeper (LamX.lamEnv X scope s.heap.objs.size f c'))) :
    CxOk G N F k CA (some scope) scope (LamX.lamCx X A outer s H E scope f c') (fun cls d _ H => E cls d H) :=
  ⟨o.g, o.hN, o.nd, rfl, fun x h => by
    have h : (scope.names.lookup x == some .cell) = true := h
    exact absurd rfl (L.own _ (PySem.mem_of_lookup (eq_of_beq h))).2, hr, rfl, takes_of rfl rfl rfl rfl, fun e => nomatch e⟩
end
end Ab
namespace Ab
open PySem PySem.Spec PyProof.Rows L2
section
variable {G : Gbl} {N : List Str} {F : FT} {k : Nat} {CA : CAT}
theorem CxOk.blk {fs : FnS} {sc : Scope} {X : Cx} {W : WX} (o : CxOk G N F k CA fs sc X W) (s : Shared) (H : Hp) (scope : Scope) (C : Addr) (cl : List (Str × Addr)) (fp : List Addr) :
    CxOk G N F k CA (some scope) (relS scope sc) (X.blk s H scope (compEnvC scope cl C X.env) fp) W0 :=
  ⟨o.g, o.hN, o.nd, by rw [← o.hsc]; rfl, fun x h => h, o.room, o.calm, takes0, fun e => nomatch e⟩
theorem noFold {e : Expr} {env : Env} {v : Value} (h : noSet e = true) : foldedSetIterable e env v = pure v := by
  cases e <;> first
    | rfl
    | cases h
theorem itA_noSet {ik : IK} {tg e : Expr} {ys : List Expr} {sc : Scope} (h : itA sc ik tg e = some ys) (hy : ∀ y ∈ ys, noSet y = true) : noSet e = true := by
  unfold itA at h
  cases ik with
  | seq => cases h; exact hy _ List.mem_cons_self
  | _ =>
    dsimp only at h
    split at h <;> first
      | rfl
      | cases h
theorem mL_mem : ∀ {es : E} {fs : FnS} {sc : Scope} {xs : List Expr}, mL G N es fs sc xs = true → ∀ y ∈ xs, noSet y = true ∧ noStar y = true
  | .nil, fs, sc, xs, h => by
    cases xs with
    | nil => intro y hy; cases hy
    | cons _ _ => cases h
  | .cons a b, fs, sc, xs, h => by
    cases xs with
    | nil => cases h
    | cons x xs =>
      have h' : (mE G N a fs sc x && mL G N b fs sc xs) = true := h
      obtain ⟨h1, h2⟩ := Bool.and_eq_true_iff.mp h'
      intro y hy
      rcases List.mem_cons.mp hy with rfl | hy
      · exact ⟨(mE_noSet h1).1, (mE_noSet h1).2.1⟩
      · exact mL_mem h2 y hy
  | .omit, _, _, _, h | .var _, _, _, _, h | .int _, _, _, _, h | .bl _, _, _, _, h | .non, _, _, _, h | .str _, _, _, _, h | .cst _ _, _, _, _, h | .bin _ _ _, _, _, _, h | .neg _, _, _, _, h | .not _, _, _, _, h | .cmp _ _ _, _, _, _, h
  | .cmp2 _ _ _ _ _, _, _, _, h | .and _, _, _, _, h | .or _, _, _, _, h | .ife _ _ _, _, _, _, h | .tup _, _, _, _, h | .lst _ _, _, _, _, h | .ix _ _, _, _, _, h | .sl _ _ _ _ _, _, _, _, h | .call _ _, _, _, _, h
  | .blt _ _, _, _, _, h | .isi _ _, _, _, _, h | .meth _ _ _, _, _, _, h | .comp _ _ _ _ _ _ _, _, _, _, h | .frz _, _, _, _, h | .dict0, _, _, _, h | .dop _ _ _ _, _, _, _, h | .meth0 _ _, _, _, _, h | .rev _ _, _, _, _, h | .rng _ _ _ _, _, _, _, h | .fld _ _, _, _, _, h | .lam _ _, _, _, _, h | .die, _, _, _, h => by simp [mL] at h
theorem mL_nil {b : E} {fs : FnS} {sc : Scope} {xs : List Expr} (h : mL G N b fs sc xs = true) : (xs = [] → b = .nil) ∧ (b = .nil → xs = []) := by
  cases b with
  | nil =>
    cases xs with
    | nil => exact ⟨fun _ => rfl, fun _ => rfl⟩
    | cons _ _ => cases h
  | cons a b =>
    cases xs with
    | nil => cases h
    | cons _ _ => exact ⟨(fun e => nomatch e), (fun e => nomatch e)⟩
  | _ => simp [mL] at h
theorem glB_at {sc : Scope} {X : Cx} {n : Str} (hsc : X.env.scope = sc) (h : glB sc n = true) : glB X.env.scope n = true := by rw [hsc]; exact h
theorem attr_noSuper {e : Expr} {n : Str} {env : Env} {x : Expr} {G : Gbl} {N : List Str} {a : E} {fs : FnS} {sc : Scope} (h : mE G N a fs sc x = true) : attributeBase x n env (eval x env) = eval x env := by
  unfold attributeBase
  split
  · -- a call without arguments is none of the forms
    rename_i id p pos
    exfalso
    revert h
    have key : ∀ (a : E), mE G N a fs sc (.Call (.Name id p) [] [] pos) ≠ true := by
      intro a
      induction a with
      | frz a ih => exact ih
      | call f es ih => simp [mE]
      | blt b es ih =>
        simp only [mE, ne_eq, Bool.and_eq_true, not_and]
        intro _ _ h
        cases b <;> simp [biA] at h
      | die => simp [mE, noSet, noStar, noSlice, noCall0, noComp]
      | lam g a ih => cases fs <;> simp [mE]
      | dop d a k z => cases d <;> simp [mE]
      | _ => simp [mE]
    exact key a
  · rfl
mutual
theorem sndE : ∀ (e : E), SndE G N F k CA e
  | .var i, fs, sc, X, W, x, o, h => by
    cases x with
    | Name n pos =>
      have h' : ((N[i]? == some n) && (visB sc n && okN n)) = true := h
      simp only [Bool.and_eq_true] at h'
      have p := snd_var (W := W) (F := F) (CA := CA) (pos := pos) (by rw [o.hN]; exact eq_of_beq h'.1) (by rw [o.hsc]; exact visB_ok h'.2.1) h'.2.2
      exact ⟨p, pt_val p⟩
    | _ => simp [mE] at h
  | .int n, fs, sc, X, W, x, o, h => by
    unfold mE at h
    split at h
    · rename_i m j pos
      obtain rfl := eq_of_beq h
      have p : PE X (.Constant (.int n) j pos) (rdE X.K CA W F (.int n)) := PE_weak pe_int fun σ H Q w => tC_ok w (fun _ => .int n) fun _ _ _ _ w => w
      exact ⟨p, pt_val p⟩
    · cases h
  | .bl n, fs, sc, X, W, x, o, h => by
    unfold mE at h
    split at h
    · rename_i m j pos
      obtain rfl := eq_of_beq h
      have p : PE X (.Constant (.bool n) j pos) (rdE X.K CA W F (.bl n)) := PE_weak pe_bl fun σ H Q w => tC_ok w (fun _ => .bl n) fun _ _ _ _ w => w
      exact ⟨p, pt_val p⟩
    · cases h
  | .non, fs, sc, X, W, x, o, h => by
    unfold mE at h
    split at h
    · rename_i j pos
      have p : PE X (.Constant .none j pos) (rdE X.K CA W F .non) := PE_weak pe_non fun σ H Q w => tC_ok w (fun _ => .non) fun _ _ _ _ w => w
      exact ⟨p, pt_val p⟩
    · cases h
  | .str n, fs, sc, X, W, x, o, h => by
    unfold mE at h
    split at h
    · rename_i m j pos
      obtain rfl := eq_of_beq h
      have p : PE X (.Constant (.str n) j pos) (rdE X.K CA W F (.str n)) := PE_weak pe_str fun σ H Q w => tC_ok w (fun _ => .str n) fun _ _ _ _ w => w
      exact ⟨p, pt_val p⟩
    · cases h
  | .cst y d, fs, sc, X, W, x, o, h => by
    unfold mE at h
    split at h
    · rename_i n pos
      simp only [Bool.and_eq_true] at h
      obtain ⟨⟨h1, h2⟩, h3⟩ := h
      obtain rfl := eq_of_beq h1
      split at h3
      · rename_i d' e
        obtain rfl := deq_eq h3
        have p : PE X (.Name n pos) (rdE X.K CA W F (.cst n d)) := snd_cst o.g (glB_at o.hsc h2) e
        exact ⟨p, pt_val p⟩
      · cases h3
    · cases h
  | .bin op a b, fs, sc, X, W, x, o, h => by
    unfold mE at h
    split at h
    · simp only [Bool.and_eq_true] at h
      obtain ⟨h1, h2, h3⟩ := h
      have p := snd_bin (pos := by assumption) h1 (sndE a _ _ _ _ _ o h2).1 (sndE b _ _ _ _ _ o h3).1
      exact ⟨p, pt_val p⟩
    · cases h
  | .neg a, fs, sc, X, W, x, o, h => by
    unfold mE at h
    split at h
    · have p := snd_neg (pos := by assumption) (sndE a _ _ _ _ _ o h).1
      exact ⟨p, pt_val p⟩
    · cases h
  | .not a, fs, sc, X, W, x, o, h => by
    unfold mE at h
    split at h
    · exact snd_not (sndE a _ _ _ _ _ o h).1 (sndE a _ _ _ _ _ o h).2
    · cases h
  | .cmp op a b, fs, sc, X, W, x, o, h => by
    unfold mE at h
    split at h
    · simp only [Bool.and_eq_true] at h
      obtain ⟨h1, h2, h3⟩ := h
      exact snd_cmp o.room h1 (mE_noSet h3).1 (sndE a _ _ _ _ _ o h2).1 (sndE b _ _ _ _ _ o h3).1
    · cases h
  | .cmp2 op op' a b c, fs, sc, X, W, x, o, h => by
    unfold mE at h
    split at h
    · simp only [Bool.and_eq_true] at h
      obtain ⟨⟨h1, h2⟩, h3, h4, h5⟩ := h
      exact snd_cmp2 o.room h1 h2 (mE_noSet h5).1 (sndE a _ _ _ _ _ o h3).1 (sndE b _ _ _ _ _ o h4).1 (sndE c _ _ _ _ _ o h5).1
    · cases h
  | .and es, fs, sc, X, W, x, o, h => by
    unfold mE at h
    split at h
    · rename_i xs pos
      have L := sndL es _ _ _ _ _ o h
      cases xs with
      | nil =>
        obtain rfl := (mL_nil h).1 rfl
        exact ⟨⟨fun _ _ _ _ _ _ ⟨_, _, _, _, _, _, _, w, _⟩ => (show False from w).elim⟩, ⟨fun _ _ _ _ _ _ ⟨_, _, _, _, _, _, _, w, _⟩ => (show False from w).elim⟩⟩
      | cons y ys => exact ⟨L.aE pos (fun e => nomatch e), (L.aT pos (fun e => nomatch e)).pt⟩
    · cases h
  | .or es, fs, sc, X, W, x, o, h => by
    unfold mE at h
    split at h
    · rename_i xs pos
      have L := sndL es _ _ _ _ _ o h
      cases xs with
      | nil =>
        obtain rfl := (mL_nil h).1 rfl
        exact ⟨⟨fun _ _ _ _ _ _ ⟨_, _, _, _, _, _, _, w, _⟩ => (show False from w).elim⟩, ⟨fun _ _ _ _ _ _ ⟨_, _, _, _, _, _, _, w, _⟩ => (show False from w).elim⟩⟩
      | cons y ys => exact ⟨L.oE pos (fun e => nomatch e), (L.oT pos (fun e => nomatch e)).pt⟩
    · cases h
  | .ife t a b, fs, sc, X, W, x, o, h => by
    unfold mE at h
    split at h
    · simp only [Bool.and_eq_true] at h
      obtain ⟨h1, h2, h3⟩ := h
      exact ⟨snd_ife (sndE t _ _ _ _ _ o h1).2 (sndE a _ _ _ _ _ o h2).1 (sndE b _ _ _ _ _ o h3).1, snd_ifeT (sndE t _ _ _ _ _ o h1).2 (sndE a _ _ _ _ _ o h2).2 (sndE b _ _ _ _ _ o h3).2⟩
    · cases h
  | .tup es, fs, sc, X, W, x, o, h => by
    unfold mE at h
    split at h
    · rename_i xs m pos
      have p := snd_tup (m := m) (pos := pos) (sndL es _ _ _ _ _ o h).pa
      exact ⟨p, pt_val p⟩
    · cases h
  | .lst f es, fs, sc, X, W, x, o, h => by
    unfold mE at h
    split at h
    · rename_i xs pos
      have p := snd_lst (f := f) (pos := pos) (sndL es _ _ _ _ _ o h).pa
      exact ⟨p, pt_val p⟩
    · cases h
  | .ix a b, fs, sc, X, W, x, o, h => by
    unfold mE at h
    split at h
    · simp only [Bool.and_eq_true] at h
      have p := snd_ix (pos := by assumption) (mE_noSet h.2).2.2 (sndE a _ _ _ _ _ o h.1).1 (sndE b _ _ _ _ _ o h.2).1
      exact ⟨p, pt_val p⟩
    · cases h
  | .sl f m a lo hi, fs, sc, X, W, x, o, h => by
    unfold mE at h
    split at h
    · simp only [Bool.and_eq_true] at h
      obtain ⟨h1, h2⟩ := h
      split at h2
      · exact ⟨snd_slL (sndE a _ _ _ _ _ o h1).1 (sndE lo _ _ _ _ _ o h2).1, pt_val (snd_slL (hi := hi) (f := f) (sndE a _ _ _ _ _ o h1).1 (sndE lo _ _ _ _ _ o h2).1)⟩
      · exact ⟨snd_slH (sndE a _ _ _ _ _ o h1).1 (sndE hi _ _ _ _ _ o h2).1, pt_val (snd_slH (lo := lo) (f := f) (sndE a _ _ _ _ _ o h1).1 (sndE hi _ _ _ _ _ o h2).1)⟩
      · simp only [Bool.and_eq_true] at h2
        exact ⟨snd_slB (sndE a _ _ _ _ _ o h1).1 (sndE lo _ _ _ _ _ o h2.1).1 (sndE hi _ _ _ _ _ o h2.2).1, pt_val (snd_slB (f := f) (sndE a _ _ _ _ _ o h1).1 (sndE lo _ _ _ _ _ o h2.1).1 (sndE hi _ _ _ _ _ o h2.2).1)⟩
      · cases h2
    · cases h
  | .call f es, fs, sc, X, W, x, o, h => by
    unfold mE at h
    split at h
    · rename_i n p xs pos
      simp only [Bool.and_eq_true] at h
      obtain ⟨h1, h2, h3, h4⟩ := h
      cases xs with
      | nil => cases h3
      | cons y ys =>
        have hm := mL_mem h4
        have h1 := eq_of_beq h1
        cases hf : G.fns f with
        | none => rw [hf] at h1; cases h1
        | some fn =>
          rw [hf] at h1
          have p := snd_call (p := p) (pos := pos) o.g (o.room.mono (by omega)) o.tk hf (Option.some.inj h1) (glB_at o.hsc h2) (hm _ List.mem_cons_self).2 (fun z hz => (hm z (List.mem_cons_of_mem _ hz)).2) (sndL es _ _ _ _ _ o h4).pa
          exact ⟨p, pt_val p⟩
    · cases h
  | .blt b es, fs, sc, X, W, x, o, h => by
    unfold mE at h
    split at h
    · rename_i n p xs pos
      simp only [Bool.and_eq_true] at h
      obtain ⟨h1, h2, h3, h4⟩ := h
      cases xs with
      | nil => cases b <;> simp [biA] at h3
      | cons y ys =>
        have hm := mL_mem h4
        have p := snd_blt (p := p) (pos := pos) o.g o.calm (eq_of_beq h1) (glB_at o.hsc h2) (hm _ List.mem_cons_self).2 (fun z hz => (hm z (List.mem_cons_of_mem _ hz)).2) (sndL es _ _ _ _ _ o h4).pa
        exact ⟨p, pt_val p⟩
    · cases h
  | .isi a cs, fs, sc, X, W, x, o, h => by
    unfold mE at h
    split at h
    · rename_i n p y z pos
      simp only [Bool.and_eq_true] at h
      obtain ⟨h1, h2, h3, h4⟩ := h
      obtain rfl := eq_of_beq h1
      have p := snd_isi (p := p) (pos := pos) o.g (glB_at o.hsc h2) (mE_noSet h3).2.1 (sndE a _ _ _ _ _ o h3).1 (by rw [o.hsc]; exact h4)
      exact ⟨p, pt_val p⟩
    · cases h
  | .meth m a es, fs, sc, X, W, x, o, h => by
    unfold mE at h
    split at h
    · rename_i x n p ys pos
      simp only [Bool.and_eq_true] at h
      obtain ⟨h1, h2, h3, h5, h4⟩ := h
      have h5 := eq_of_beq h5
      have hm := mL_mem h4
      have L := (sndL es _ _ _ _ _ o h4).pa
      have ho := (sndE a _ _ _ _ _ o h3).1
      match ys, h5, hm, L with
      | [y], h5, hm, L =>
        have p := snd_meth (by have := o.room.un; omega) (eq_of_beq h1) h5.symm h2 (attr_noSuper (e := x) h3) (hm _ List.mem_cons_self).2 ho L
        exact ⟨p, pt_val p⟩
      | [y, z], h5, hm, L =>
        have p := snd_meth2 (eq_of_beq h1) h5.symm h2 (attr_noSuper (e := x) h3) (hm _ List.mem_cons_self).2 (hm z (by simp)).2 ho L
        exact ⟨p, pt_val p⟩
      | [], h5, _, _ => cases m <;> cases h5
      | _ :: _ :: _ :: _, h5, _, _ => cases m <;> (simp [miA] at h5)
    · cases h
  | .meth0 m a, fs, sc, X, W, x, o, h => by
    unfold mE at h
    split at h
    · rename_i x n p pos
      simp only [Bool.and_eq_true] at h
      obtain ⟨h1, h2, h3⟩ := h
      have p := snd_meth0 (eq_of_beq h1) h2 (attr_noSuper (e := x) h3) (sndE a _ _ _ _ _ o h3).1
      exact ⟨p, pt_val p⟩
    · cases h
  | .comp f own t ik it c el, fs, sc, X, W, x, o, h => by
    unfold mE at h
    split at h
    · rename_i elt gs scope pos
      split at h
      · rename_i tg iter ifs wz
        simp only [Bool.and_eq_true] at h
        obtain ⟨h0, h1, h2, h3, h4, h5, h6⟩ := h
        obtain rfl := eq_of_beq h0
        have ht : ∀ i ∈ tgV t, i ∈ own := fun i hi => List.contains_iff_mem.mp ((List.all_eq_true.mp h2) i hi)
        cases hys : itA sc ik tg iter with
        | none => rw [hys] at h4; cases h4
        | some ys =>
          rw [hys] at h4
          have hm := mL_mem h4
          have hi : PI X tg iter (rdI X.K CA W F ik it) := snd_it o.g (by rw [o.hsc]; exact hys) (fun y hy => (hm y hy).2) (sndL it _ _ _ _ _ o h4)
          have hs : ∀ v, foldedSetIterable iter X.env v = pure v := fun v => noFold (itA_noSet hys fun y hy => (hm y hy).1)
          have hg : ∀ (s : Shared) (H : Hp) (C : Addr) (cl : List (Str × Addr)) (fp : List Addr), PG (X.blk s H scope (compEnvC scope cl C X.env) fp) tg (rdG X.K CA t) := fun s H C cl fp =>
            let b := o.blk s H scope C cl fp
            snd_tg (X := X.blk s H scope (compEnvC scope cl C X.env) fp) b.hN b.nd b.hsc b.hfn b.calm t tg h3
          have he : ∀ (s : Shared) (H : Hp) (C : Addr) (cl : List (Str × Addr)) (fp : List Addr), PE (X.blk s H scope (compEnvC scope cl C X.env) fp) elt (rdE X.K CA W0 F el) := fun s H C cl fp =>
            (sndE el _ _ _ _ _ (o.blk s H scope C cl fp) h6).1
          have fin : ∀ tt, (∀ (s : Shared) (H : Hp) (C : Addr) (cl : List (Str × Addr)) (fp : List Addr), PTs (X.blk s H scope (compEnvC scope cl C X.env) fp) ifs tt) → CondOk X.K F CA c tt → PE X (.ListComp elt [⟨tg, iter, ifs, 0⟩] scope pos) (rdE X.K CA W F (.comp f own t ik it c el)) := fun tt hpt hcd => by
            obtain ⟨q1, q2⟩ := snd_comp (f := f) (W := W) (ik := ik) (it := it) (el := el) o.hN o.hsc h1 ht hcd
            exact PE_weak (pe_lc o.calm o.nd hi q1 hg hpt he hs) q2
          have p : PE X (.ListComp elt [⟨tg, iter, ifs, 0⟩] scope pos) (rdE X.K CA W F (.comp f own t ik it c el)) := by
            split at h5
            · have hc : c = .omit := by
                cases c <;> first
                  | rfl
                  | cases h5
              subst hc
              exact fin tYes (fun _ _ _ _ _ => pts_nil) fun R Z v h σ H Kd Q s w q => q _ _ true _ (Ext.refl Z) s w
            · rename_i y
              exact fin (tB (rdE X.K CA W0 F c)) (fun s H C cl fp => pts_one (sndE c _ _ _ _ _ (o.blk s H scope C cl fp) h5).2) fun R Z v h σ H Kd Q s w q => ⟨R, Z, v, h, NX, _, s, w, fun Z1 h1 x d H1 e1 s1 r1 q1 => by
                obtain ⟨b, rfl, rfl, q2⟩ := bl_of r1 q1
                exact ⟨b, rfl, q _ _ _ _ e1 s1 q2⟩, kx0⟩
            · cases h5
          exact ⟨p, pt_val p⟩
      · cases h
    · cases h
  | .frz a, fs, sc, X, W, x, o, h => by
    have h' : mE G N a fs sc x = true := h
    obtain ⟨p1, p2⟩ := sndE a _ _ _ _ _ o h'
    refine ⟨snd_frz p1, PT_weak p2 fun σ H Q ⟨R, Z, v, h, Xd, Qd, s, w, q, kx⟩ => ⟨R, Z, v, h, Xd, _, s, w, fun Z1 h1 y d H1 e1 s1 r1 q1 => ?_, kx⟩⟩
    cases r1 with
    | ref a =>
      obtain ⟨ds, ed, q2⟩ := (show ∃ ds, h1 a = some (.lst ds) ∧ Qd (.lst ds) (cut h1 a) from q1)
      obtain ⟨ys, ey, r2, z⟩ := s1.toHR.lst ed
      exact q _ _ _ _ _ (e1.trans (ext_new z)) (s1.with (ext_new z) (s1.toHR.frz ed ey)) (.lst upd_same (r2.mono (ext_new z))) q2
    | non => exact q _ _ _ _ _ e1 s1 .non q1
    | bl b => exact q _ _ _ _ _ e1 s1 (.bl b) q1
    | int i => exact q _ _ _ _ _ e1 s1 (.int i) q1
    | str z => exact q _ _ _ _ _ e1 s1 (.str z) q1
    | tup a r => exact q _ _ _ _ _ e1 s1 (.tup a r) q1
    | lst a r => exact q _ _ _ _ _ e1 s1 (.lst a r) q1
    | scr a r => exact q _ _ _ _ _ e1 s1 (.scr a r) q1
    | exc a r => exact q _ _ _ _ _ e1 s1 (.exc a r) q1
    | excF a r1 r2 r3 r4 => exact q _ _ _ _ _ e1 s1 (.excF a r1 r2 r3 r4) q1
  | .dop d a b c, fs, sc, X, W, x, o, h => by
    have h : (!G.kt && _) = true := h
    obtain ⟨h0, h⟩ := Bool.and_eq_true_iff.mp h
    have hk : CA.kt = false := o.g.kt (by simpa using h0)
    have hu : X.A.units + 1 < cLine := by have := o.room.un; omega
    cases d with
    | get =>
      dsimp only at h
      split at h
      · simp only [Bool.and_eq_true] at h
        have p := snd_dget (c := c) (pos := by assumption) hu hk (mE_noSet h.2).2.2 (sndE a _ _ _ _ _ o h.1).1 (sndE b _ _ _ _ _ o h.2).1
        exact ⟨p, pt_val p⟩
      · cases h
    | getD =>
      dsimp only at h
      split at h
      · simp only [Bool.and_eq_true] at h
        obtain ⟨h1, h2, h3, h4, h5⟩ := h
        obtain rfl := eq_of_beq h1
        have p := snd_dgetD hu hk h2 (attr_noSuper (e := by assumption) h3) (mE_noSet h4).2.1 (mE_noSet h5).2.1 (sndE a _ _ _ _ _ o h3).1 (sndE b _ _ _ _ _ o h4).1 (sndE c _ _ _ _ _ o h5).1
        exact ⟨p, pt_val p⟩
      · cases h
    | isin =>
      dsimp only at h
      split at h
      · simp only [Bool.and_eq_true] at h
        exact snd_din (c := c) (pos := by assumption) hu hk (mE_noSet h.2).1 (sndE a _ _ _ _ _ o h.2).1 (sndE b _ _ _ _ _ o h.1).1
      · cases h
    | notin =>
      dsimp only at h
      split at h
      · simp only [Bool.and_eq_true] at h
        exact snd_dnotin (c := c) (pos := by assumption) hu hk (mE_noSet h.2).1 (sndE a _ _ _ _ _ o h.2).1 (sndE b _ _ _ _ _ o h.1).1
      · cases h
    | srt f =>
      dsimp only at h
      split at h
      · simp only [Bool.and_eq_true] at h
        obtain ⟨h1, h2, h3⟩ := h
        obtain rfl := eq_of_beq h1
        exact ⟨snd_dsrt (f := f) (b := b) (c := c) (n := "sorted") o.g o.calm (glB_at o.hsc h2) (mE_noSet h3).2.1 (sndE a _ _ _ _ _ o h3).1, pt_val (snd_dsrt (f := f) (b := b) (c := c) (n := "sorted") o.g o.calm (glB_at o.hsc h2) (mE_noSet h3).2.1 (sndE a _ _ _ _ _ o h3).1)⟩
      · cases h
  | .dict0, fs, sc, X, W, x, o, h => by
    unfold mE at h
    split at h
    · rename_i ks vs pos
      obtain ⟨h1, h2⟩ := Bool.and_eq_true_iff.mp h
      obtain rfl := List.isEmpty_iff.mp h1
      obtain rfl := List.isEmpty_iff.mp h2
      have p : PE X (.Dict [] [] pos) (rdE X.K CA W F .dict0) := PE_weak pe_dnewT fun σ H Q ⟨R, Z, v, h, Xd, Qd, s, w, q, kx⟩ p hp =>
        q _ _ _ _ _ (Ext.refl Z) (s.with (Ext.refl Z) (s.toHR.new (c := .dct []) hp (show DRs X.K CA Z [] [] from .nil))) (.ref p) (w p (s.toHR.free hp))
      exact ⟨p, pt_val p⟩
    · cases h
  | .rev f a, fs, sc, X, W, x, o, h => by
    unfold mE at h
    split at h
    · rename_i y n kk p1 p2 p3 pos
      simp only [Bool.and_eq_true] at h
      obtain ⟨h1, h2⟩ := h
      obtain rfl := eq_of_beq h1
      have p := snd_rev (f := f) (k := kk) (pos := pos) (p3 := p3) (p2 := p2) (p1 := p1) (sndE a _ _ _ _ _ o h2).1
      exact ⟨p, pt_val p⟩
    · cases h
  | .rng t f ik es, fs, sc, X, W, x, o, h => by
    unfold mE at h
    split at h
    · rename_i n p y pos
      simp only [Bool.and_eq_true] at h
      obtain ⟨h1, h2, h3⟩ := h
      cases hys : itA sc ik y y with
      | none => rw [hys] at h3; cases h3
      | some ys =>
        rw [hys] at h3
        simp only [Bool.and_eq_true] at h3
        obtain ⟨h4, h5⟩ := h3
        have hm := mL_mem h5
        have L := sndL es _ _ _ _ _ o h5
        have hy : noStar y = true := by
          unfold itA at hys
          cases ik with
          | rng1 =>
            dsimp only at hys
            split at hys
            · rfl
            · cases hys
          | rng2 =>
            dsimp only at hys
            split at hys
            · rfl
            · cases hys
          | _ => cases h4
        have p := snd_rng (f := f) (p := p) (pos := pos) o.g o.calm (eq_of_beq h1) (glB_at o.hsc h2) hy (by rw [o.hsc]; exact hys) (fun z hz => (hm z hz).2) h4 L.pa L.one (fun a b e => by
          subst e
          clear L
          cases es with
          | cons ea r0 =>
            cases r0 with
            | cons eb r =>
              have h5 : (mE G N ea fs sc a && (mE G N eb fs sc b && mL G N r fs sc [])) = true := h5
              simp only [Bool.and_eq_true] at h5
              obtain ⟨k1, k2, k3⟩ := h5
              obtain rfl := (mL_nil k3).1 rfl
              exact ⟨ea, eb, rfl, (sndE ea _ _ _ _ _ o k1).1, (sndE eb _ _ _ _ _ o k2).1⟩
            | _ => simp [mL] at h5
          | _ => simp [mL] at h5)
        exact ⟨p, pt_val p⟩
    · cases h
  | .fld a f, fs, sc, X, W, x, o, h => by
    unfold mE at h
    split at h
    · rename_i x n pos
      simp only [Bool.and_eq_true] at h
      obtain ⟨h1, h2, h3⟩ := h
      obtain rfl := eq_of_beq h1
      have p := snd_fld (n := n) (pos := pos) (W := W) (F := F) (a := a) o.g.cf (attr_noSuper (e := x) h3) (sndE a _ _ _ _ _ o h3).1
      exact ⟨p, pt_val p⟩
    · cases h
  | .lam g a, fs, sc, X, W, x, o, h => by
    cases fs with
    | some _ => exact nomatch (show false = true from h)
    | none =>
      unfold mE at h
      dsimp only at h
      split at h
      · rename_i n p params body scope lpos pos
        simp only [Bool.and_eq_true] at h
        obtain ⟨h1, h2, h3, h4, h5, h6, h7⟩ := h
        have h1 := eq_of_beq h1
        cases hf : G.fns g with
        | none => rw [hf] at h1; cases h1
        | some fn =>
          rw [hf] at h1
          obtain rfl := Option.some.inj h1
          have L : LamX.LamS X.env.scope scope := LamX.lamS_by (by rw [o.hsc]; exact h6)
          have p := snd_lam (g := g) (p := p) (pos := pos) (lpos := lpos) (W := W) o (o.g.ask g fn h3 hf) (glB_at o.hsc h2) (o.tb rfl h4) h5 L fun A outer s H E f c' hr => (sndE a _ _ _ _ _ (o.lam L hr) h7).1
          exact ⟨p, pt_val p⟩
      · cases h
  | .die, fs, sc, X, W, x, o, h => snd_die
  | .nil, fs, sc, X, W, x, o, h => by cases x <;> cases h
  | .cons _ _, fs, sc, X, W, x, o, h => by cases x <;> cases h
  | .omit, fs, sc, X, W, x, o, h => by cases x <;> cases h
theorem sndL : ∀ (es : E), SndL G N F k CA es
  | .nil, fs, sc, X, W, xs, o, h => by
    cases xs with
    | nil => exact snd_nil
    | cons _ _ => cases h
  | .cons a b, fs, sc, X, W, xs, o, h => by
    cases xs with
    | nil => cases h
    | cons x xs =>
      have h' : (mE G N a fs sc x && mL G N b fs sc xs) = true := h
      obtain ⟨h1, h2⟩ := Bool.and_eq_true_iff.mp h'
      have p := sndE a _ _ _ _ _ o h1
      exact snd_cons (mE_noSet h1).2.1 p.1 p.2 (sndL b _ _ _ _ _ o h2) (mL_nil h2).1 (mL_nil h2).2
  | .omit, _, _, _, _, _, _, h | .var _, _, _, _, _, _, _, h | .int _, _, _, _, _, _, _, h | .bl _, _, _, _, _, _, _, h | .non, _, _, _, _, _, _, h | .str _, _, _, _, _, _, _, h | .cst _ _, _, _, _, _, _, _, h | .bin _ _ _, _, _, _, _, _, _, h
  | .neg _, _, _, _, _, _, _, h | .not _, _, _, _, _, _, _, h | .cmp _ _ _, _, _, _, _, _, _, h | .cmp2 _ _ _ _ _, _, _, _, _, _, _, h | .and _, _, _, _, _, _, _, h | .or _, _, _, _, _, _, _, h | .ife _ _ _, _, _, _, _, _, _, h
  | .tup _, _, _, _, _, _, _, h | .lst _ _, _, _, _, _, _, _, h | .ix _ _, _, _, _, _, _, _, h | .sl _ _ _ _ _, _, _, _, _, _, _, h | .call _ _, _, _, _, _, _, _, h
  | .blt _ _, _, _, _, _, _, _, h | .isi _ _, _, _, _, _, _, _, h | .meth _ _ _, _, _, _, _, _, _, h | .comp _ _ _ _ _ _ _, _, _, _, _, _, _, h | .meth0 _ _, _, _, _, _, _, _, h | .rev _ _, _, _, _, _, _, _, h | .fld _ _, _, _, _, _, _, _, h | .lam _ _, _, _, _, _, _, _, h | .rng _ _ _ _, _, _, _, _, _, _, h | .die, _, _, _, _, _, _, h | .dict0, _, _, _, _, _, _, h | .dop _ _ _ _, _, _, _, _, _, _, h | .frz _, _, _, _, _, _, _, h => by cases h
end
end
end Ab
namespace Ab
open PySem PySem.Spec PyProof.Rows L2
def isFrz : E → Bool
  | .frz _ => true
  | _ => false
def noTup : Expr → Bool
  | .Tuple _ _ _ => false
  | _ => true
def qE : E → Bool
  | .var _ | .int _ | .bl _ | .non | .str _ => true
  | _ => false
section
variable (G : Gbl) (N : List Str) (sc : Scope)
def mQ1 : S → Stmt → Bool
  | .asg t e, s => match s with | .Assign [.Name x p] y _ => mT N none sc t (.Name x p) && (qE e && mE G N e none sc y) | _ => false
  | .ret e, s => match s with | .Return (some y) _ => qE e && mE G N e none sc y | _ => false
  | .pass, s => match s with | .Pass _ => true | _ => false
  | _, _ => false
def mQ : S → List Stmt → Bool
  | .nil, ss => match ss with | [] => true | _ => false
  | .cons a r, ss => match ss with | s :: ss => mQ1 G N sc a s && mQ r ss | [] => false
  | _, _ => false
def asgB (tg y : Expr) : Bool :=
  match tg, y with
  | .Name n p, .ListComp _ _ scope pos => !(sc.names.lookup n == some .local) || (sc.kind == .function && (sc.names.lookup n == some .local && ((p.line == pos.line) && !(scope.names.any fun (m, k) => m == n && (k == .local || k == .cell)))))
  | .Name _ _, y => noComp y
  | .Tuple _ _ _, y => noComp y && noTup y
  | _, _ => false
def parB (x y : Str) (px py : Pos) (u v : Expr) : Bool :=
  sc.kind == .function && (sc.names.lookup x == some .local && (sc.names.lookup y == some .local && ((px.line == py.line) && (!(x == y) && (noStar u && (noStar v && (!([u, v].all (foldedForSure 8)) && !([u, v].all (constantsAlone 8)))))))))
def nmB (nm : Option Str) (o : Option Nat) : Bool := match nm, o with | none, none => true | some n, some i => N[i]? == some n && sc.names.lookup n == some .local | _, _ => false
def isNil : S → Bool
  | .hnil => true
  | _ => false
mutual
def mS : S → Stmt → Bool
  | .expr e, s => match s with | .Expr y _ => noComp y && mE G N e none sc y | _ => false
  | .asg t e, s => match s with | .Assign [tg] y _ => mT N none sc t tg && (mE G N e none sc y && (asgB sc tg y && (noComp y || !isFrz e))) | _ => false
  | .sub o i e, s => match s with | .Assign [.Subscript x y _] z _ => noComp z && (noSlice y && (mE G N o none sc x && (mE G N i none sc y && mE G N e none sc z))) | _ => false
  | .dput o i e, s => match s with | .Assign [.Subscript x y _] z _ => !G.kt && (noComp z && (noSlice y && (mE G N o none sc x && (mE G N i none sc y && mE G N e none sc z)))) | _ => false
  | .par i j a b, s => match s with | .Assign [.Tuple [.Name x px, .Name y py] _ _] (.Tuple [u, v] _ _) _ => N[i]? == some x && (N[j]? == some y && (!(i == j) && (parB sc x y px py u v && (mE G N a none sc u && mE G N b none sc v)))) | _ => false
  | .ife t a b, s => match s with | .If c p q _ => mE G N t none sc c && (mSs a p && mSs b q) | _ => false
  | .whl t b, s => match s with | .While c p [] _ => mE G N t none sc c && mSs b p | _ => false
  | .for t k it b, s => match s with | .For tg iter p [] _ => mT N none sc t tg && ((match itA sc k tg iter with | some ys => mL G N it none sc ys | none => false) && mSs b p) | _ => false
  | .ret e, s => match s with | .Return (some y) _ => mE G N e none sc y | _ => false
  | .pass, s => match s with | .Pass _ => true | _ => false
  | .brk, s => match s with | .Break _ => true | _ => false
  | .cnt, s => match s with | .Continue _ => true | _ => false
  | .die, _ => true
  | .rse c (f :: fs) es, s => match s with | .Raise (some (.Call (.Name x _) (y :: ys) [] _)) none _ => G.fl.lookup c == some (f :: fs) && (G.cls c == some x && (glB sc x && mL G N es none sc (y :: ys))) | _ => false
  | .sub2 o i p j e, s => match s with | .Assign [.Tuple [.Subscript x y _, .Subscript x' y' _] _ _] z _ => noComp z && ((noSlice y && noSlice y') && (mE G N o none sc x && (mE G N i none sc y && (mE G N p none sc x' && (mE G N j none sc y' && mE G N e none sc z))))) | _ => false
  | .rse c fs es, s => match s with | .Raise (some (.Call (.Name x _) [.Constant (.str _) _ _] [] _)) none _ => fs.isEmpty && (G.cls c == some x && (glB sc x && G.pl.contains c)) | _ => false
  | .try_ b hs, s => match s with | .Try p [.ExceptHandler (some (.Name x _)) nm (q :: qs) _] [] [] _ => mSs b p && (match hs with | .hnd c o b' r => isNil r && (G.cls c == some x && (glB sc x && (nmB N sc nm o && mQ G N sc b' (q :: qs)))) | _ => false) | _ => false
  | _, _ => false
def mSs : S → List Stmt → Bool
  | .nil, ss => match ss with | [] => true | _ => false
  | .cons a r, ss => match ss with | s :: ss => mS a s && mSs r ss | [] => false
  | .cut a, ss => mSs a ss
  | .frzb _ a, ss => mSs a ss
  | _, _ => false
end
end
structure CxS (G : Gbl) (N : List Str) (F : FT) (k : Nat) (CA : CAT) (sc : Scope) (X : Cx) (W : WX) : Prop extends CxOk G N F k CA none sc X W where
  stk : X.stack = X.env :: X.outer
  frm : X.env.frame = some X.env.locals
  ex : X.ex = []
  pas : PassesOwn (model X.prog X.w) X.A X.env X.xe
section
variable {G : Gbl} {N : List Str} {F : FT} {k : Nat} {CA : CAT} {fs : FnS} {sc : Scope} {X : Cx} {W : WX}
theorem CxS.tr (o : CxS G N F k CA sc X W) {W' : WX} {pn : List (Addr × Obj)} {xe : Value → Shared → Prop} (tk : Takes (X.tr pn xe) W') (pa : PassesOwn (model X.prog X.w) X.A X.env xe) : CxS G N F k CA sc (X.tr pn xe) W' :=
  ⟨⟨o.g, o.hN, o.nd, o.hsc, o.hfn, o.room, o.calm, tk, o.tb⟩, o.stk, o.frm, o.ex, pa⟩
theorem kx_of {R Z : Hp} {v : Env'} {h : AH} {σ : L2.St} {H : Hp} {Dd : Ends'} {D : Ends} {K : PySem.W.Frag} (s : SR K CA R Z v h σ H) (kd : KD K CA R Z Dd D W) : KX K CA R Z σ (fun x h => Dd.xx x v h) W :=
  fun _ _ _ _ _ _ e hr xr q => kd.xx _ _ _ _ _ _ _ _ e (s.with e hr) xr q
theorem snd_qe {a : Addr} {pn : List (Addr × Obj)} (o : CxOk G N F k CA none sc X W) : ∀ {e : E} {y : Expr}, qE e = true → mE G N e none sc y = true → PE (X.suite a pn) y (rdE X.K CA W0 F e) := by
  intro e y hq h
  cases e with
  | var i =>
    cases y with
    | Name n pos =>
      have h' : ((N[i]? == some n) && (visB sc n && okN n)) = true := h
      simp only [Bool.and_eq_true] at h'
      exact snd_var (X := X.suite a pn) (W := W0) (F := F) (CA := CA) (pos := pos) (by rw [show (X.suite a pn).N = X.N from rfl, o.hN]; exact eq_of_beq h'.1) (by rw [show (X.suite a pn).env = X.env from rfl, o.hsc]; exact visB_ok h'.2.1) h'.2.2
    | _ => simp [mE] at h
  | int n =>
    unfold mE at h
    split at h
    · obtain rfl := eq_of_beq h
      exact PE_weak pe_int fun σ H Q w => tC_ok w (fun _ => .int n) fun _ _ _ _ w => w
    · cases h
  | bl n =>
    unfold mE at h
    split at h
    · obtain rfl := eq_of_beq h
      exact PE_weak pe_bl fun σ H Q w => tC_ok w (fun _ => .bl n) fun _ _ _ _ w => w
    · cases h
  | non =>
    unfold mE at h
    split at h
    · exact PE_weak pe_non fun σ H Q w => tC_ok w (fun _ => .non) fun _ _ _ _ w => w
    · cases h
  | str n =>
    unfold mE at h
    split at h
    · obtain rfl := eq_of_beq h
      exact PE_weak pe_str fun σ H Q w => tC_ok w (fun _ => .str n) fun _ _ _ _ w => w
    · cases h
  | _ => cases hq
theorem qE_noComp {e : E} {y : Expr} (hq : qE e = true) (h : mE G N e fs sc y = true) : noComp y = true := by
  cases e with
  | var _ | int _ | bl _ | non | str _ =>
    cases y <;> first
      | rfl
      | (simp [mE] at h)
  | _ => cases hq
theorem no_swap {y : Expr} {t : Option Expr} {l : Nat} {env : Env} (h : noComp y = true) : swapsWith y t l env = pure false := by
  cases y <;> first
    | rfl
    | cases h
theorem no_swapC {elt : Expr} {gs : List Comprehension} {scope : Scope} {pos py : Pos} {y : Str} {l : Nat} {env : Env} (hy : (env.scope.names.lookup y == some .local) = false) : swapsWith (.ListComp elt gs scope pos) (some (.Name y py)) l env = pure false := by
  have ky : (env.kindOf y == some .local) = false := hy
  unfold swapsWith
  simp only [ky, Bool.and_false, Bool.false_and]
theorem no_stores {n : Str} {p : Pos} {y : Expr} {env : Env} : swappedStores [.Name n p] y env = pure none := by cases y <;> rfl
theorem no_stores_sub {a b : Expr} {p : Pos} {y : Expr} {env : Env} : swappedStores [.Subscript a b p] y env = pure none := by cases y <;> rfl
theorem no_stores_tup {es : List Expr} {m : Nat} {p : Pos} {y : Expr} {env : Env} (h : noTup y = true) : swappedStores [.Tuple es m p] y env = pure none := by
  cases y <;> first
    | rfl
    | cases h
theorem no_stores_sub2 {x y x' y' : Expr} {q q' p : Pos} {m : Nat} {z : Expr} {env : Env} : swappedStores [.Tuple [.Subscript x y q, .Subscript x' y' q'] m p] z env = pure none := by
  cases z <;> first
    | rfl
    | (unfold swappedStores
       dsimp only
       split
       · rfl
       · split
         · rfl
         · rfl)
theorem snd_q1 {a : Addr} {pn : List (Addr × Obj)} (o : CxOk G N F k CA none sc X W) : ∀ {q : S} {st : Stmt}, mQ1 G N sc q st = true → PS (X.suite a pn) st (rdS X.K CA W0 F q) := by
  intro q st h
  unfold mQ1 at h
  split at h
  · rename_i t e
    split at h
    · rename_i n p y pos
      simp only [Bool.and_eq_true] at h
      obtain ⟨h1, h2, h3⟩ := h
      cases t with
      | tup ts => cases h1
      | var i =>
        have h1' : ((N[i]? == some n) && locB none sc n) = true := h1
        obtain ⟨g1, g2⟩ := Bool.and_eq_true_iff.mp h1'
        obtain ⟨l1, l2⟩ := loc_ok o.hsc o.hfn g2
        refine PS_weak (ps_set (X := X.suite a pn) (i := i) o.nd (by rw [show (X.suite a pn).N = X.N from rfl, o.hN]; exact eq_of_beq g1) l1 (snd_qe o h2 h3) (no_swap (qE_noComp h2 h3)) l2) fun D σ H ⟨R, Z, v, h, Dd, s, w, kd⟩ => ?_
        exact ⟨R, Z, v, h, _, _, s, w, fun Z1 h1 x d H1 e1 s1 r1 q1 => kd.nx _ _ _ _ _ e1 (s1.set i r1) q1, kx_of s kd⟩
    · cases h
  · rename_i e
    split at h
    · simp only [Bool.and_eq_true] at h
      refine PS_weak (ps_ret (snd_qe o h.1 h.2)) fun D σ H ⟨R, Z, v, h, Dd, s, w, kd⟩ => ⟨R, Z, v, h, _, _, s, w, fun Z1 h1 x d H1 e1 s1 r1 q1 => kd.rt _ _ _ _ _ e1 s1.toHR r1 q1, kx_of s kd⟩
    · cases h
  · split at h
    · exact PS_weak ps_pass fun D σ H ⟨R, Z, v, h, Dd, s, w, kd⟩ => kd.nx _ _ _ _ _ (Ext.refl Z) s w
    · cases h
  · cases h
theorem snd_q {a : Addr} {pn : List (Addr × Obj)} (o : CxOk G N F k CA none sc X W) : ∀ {q : S} {sts : List Stmt}, mQ G N sc q sts = true → PSs (X.suite a pn) sts (rdS X.K CA W0 F q)
  | .nil, [], _ => PSs_weak pss_nil fun D σ H ⟨R, Z, v, h, Dd, s, w, kd⟩ => kd.nx _ _ _ _ _ (Ext.refl Z) s w
  | .nil, _ :: _, h => by cases h
  | .cons q r, [], h => by cases h
  | .cons q r, st :: sts, h => by
    have h' : (mQ1 G N sc q st && mQ G N sc r sts) = true := h
    obtain ⟨h1, h2⟩ := Bool.and_eq_true_iff.mp h'
    exact PSs_weak (pss_cons (snd_q1 o h1) (snd_q o h2)) fun D σ H ⟨R, Z, v, h, Dd, s, w, kd⟩ => ⟨R, Z, v, h, _, s, w, ⟨fun Z1 v1 h1 σ1 H1 e1 s1 q1 => ⟨R, Z1, v1, h1, Dd, s1, q1, kd.mono e1⟩, kd.bk, kd.ct, kd.rt, kd.xx⟩⟩
  | .expr _, _, h | .asg _ _, _, h | .sub _ _ _, _, h | .par _ _ _ _, _, h | .ife _ _ _, _, h | .whl _ _, _, h | .for _ _ _ _, _, h | .ret _, _, h | .pass, _, h | .brk, _, h | .cnt, _, h | .rse _ _ _, _, h | .try_ _ _, _, h | .hnd _ _ _ _, _, h | .hnil, _, h | .cut _, _, h | .sub2 _ _ _ _ _, _, h | .dput _ _ _, _, h | .die, _, h | .frzb _ _, _, h => by simp [mQ] at h
end
end Ab
namespace Ab
open PySem PySem.Spec PyProof.Rows L2
section
variable {G : Gbl} {N : List Str} {F : FT} {k : Nat} {CA : CAT} {fs : FnS} {sc : Scope} {X : Cx} {W : WX}
theorem comp_parts {f : Bool} {own : List Nat} {t : Tg} {ik : IK} {it c el : E} {elt tg iter : Expr} {ifs : List Expr} {wz : Int} {scope : Scope} {pos : Pos} (o : CxOk G N F k CA fs sc X W) (h : mE G N (.comp f own t ik it c el) fs sc (.ListComp elt [⟨tg, iter, ifs, wz⟩] scope pos) = true) :
    wz = 0 ∧ ∃ tt, PI X tg iter (rdI X.K CA W F ik it) ∧ BlkOk X.N X.env.scope scope (ownP N own) ∧
      (∀ (s : Shared) (H : Hp) (C : Addr) (cl : List (Str × Addr)) (fp : List Addr), PG (X.blk s H scope (compEnvC scope cl C X.env) fp) tg (rdG X.K CA t)) ∧
      (∀ (s : Shared) (H : Hp) (C : Addr) (cl : List (Str × Addr)) (fp : List Addr), PTs (X.blk s H scope (compEnvC scope cl C X.env) fp) ifs tt) ∧
      (∀ (s : Shared) (H : Hp) (C : Addr) (cl : List (Str × Addr)) (fp : List Addr), PE (X.blk s H scope (compEnvC scope cl C X.env) fp) elt (rdE X.K CA W0 F el)) ∧ (∀ v, foldedSetIterable iter X.env v = pure v) ∧
      ∀ σ H Q, rdE X.K CA W F (.comp f own t ik it c el) σ H Q → tLc (rdI X.K CA W F ik it) (rdG X.K CA t) tt (rdE X.K CA W0 F el) ((ownP N own).map (·.2)) σ H Q := by
  unfold mE at h
  simp only [Bool.and_eq_true] at h
  obtain ⟨h0, h1, h2, h3, h4, h5, h6⟩ := h
  refine ⟨eq_of_beq h0, ?_⟩
  have ht : ∀ i ∈ tgV t, i ∈ own := fun i hi => List.contains_iff_mem.mp ((List.all_eq_true.mp h2) i hi)
  cases hys : itA sc ik tg iter with
  | none => rw [hys] at h4; cases h4
  | some ys =>
    rw [hys] at h4
    have hm := mL_mem h4
    have hi : PI X tg iter (rdI X.K CA W F ik it) := snd_it o.g (by rw [o.hsc]; exact hys) (fun y hy => (hm y hy).2) (sndL it _ _ _ _ _ o h4)
    have hs : ∀ v, foldedSetIterable iter X.env v = pure v := fun v => noFold (itA_noSet hys fun y hy => (hm y hy).1)
    have hg : ∀ (s : Shared) (H : Hp) (C : Addr) (cl : List (Str × Addr)) (fp : List Addr), PG (X.blk s H scope (compEnvC scope cl C X.env) fp) tg (rdG X.K CA t) := fun s H C cl fp =>
      let b := o.blk s H scope C cl fp
      snd_tg (X := X.blk s H scope (compEnvC scope cl C X.env) fp) b.hN b.nd b.hsc b.hfn b.calm t tg h3
    have he : ∀ (s : Shared) (H : Hp) (C : Addr) (cl : List (Str × Addr)) (fp : List Addr), PE (X.blk s H scope (compEnvC scope cl C X.env) fp) elt (rdE X.K CA W0 F el) := fun s H C cl fp =>
      (sndE el _ _ _ _ _ (o.blk s H scope C cl fp) h6).1
    split at h5
    · have hc : c = .omit := by
        cases c <;> first
          | rfl
          | cases h5
      subst hc
      obtain ⟨q1, q2⟩ := snd_comp (f := f) (W := W) (ik := ik) (it := it) (el := el) (tt := tYes) (c := .omit) o.hN o.hsc h1 ht fun R Z v h σ H Kd Q s w q => q _ _ true _ (Ext.refl Z) s w
      exact ⟨_, hi, q1, hg, fun _ _ _ _ _ => pts_nil, he, hs, q2⟩
    · rename_i y
      obtain ⟨q1, q2⟩ := snd_comp (f := f) (W := W) (ik := ik) (it := it) (el := el) (c := c) (tt := tB (rdE X.K CA W0 F c)) o.hN o.hsc h1 ht fun R Z v h σ H Kd Q s w q => ⟨R, Z, v, h, NX, _, s, w, fun Z1 h1 x d H1 e1 s1 r1 q1 => by
        obtain ⟨b, rfl, rfl, q2⟩ := bl_of r1 q1
        exact ⟨b, rfl, q _ _ _ _ e1 s1 q2⟩, kx0⟩
      exact ⟨_, hi, q1, hg, fun s H C cl fp => pts_one (sndE c _ _ _ _ _ (o.blk s H scope C cl fp) h5).2, he, hs, q2⟩
    · cases h5
theorem comp_inv {e : E} {elt : Expr} {gs : List Comprehension} {scope : Scope} {pos : Pos} (h : mE G N e fs sc (.ListComp elt gs scope pos) = true) :
    (∃ f own t ik it c el tg iter ifs wz, e = .comp f own t ik it c el ∧ gs = [⟨tg, iter, ifs, wz⟩]) ∨ ∃ a, e = .frz a := by
  cases e with
  | comp f own t ik it c el =>
    unfold mE at h
    dsimp only at h
    split at h
    · exact .inl ⟨_, _, _, _, _, _, _, _, _, _, _, rfl, rfl⟩
    · cases h
  | frz a => exact .inr ⟨a, rfl⟩
  | die => simp [mE, noComp] at h
  | lam g a => cases fs <;> simp [mE] at h
  | dop d a k z => cases d <;> simp [mE] at h
  | _ => simp [mE] at h
theorem asg_ok {t : Tg} {e : E} {D : Ends} {σ : L2.St} {H : Hp} (h : rdS X.K CA W F (.asg t e) D σ H) : tAsg (rdE X.K CA W F e) (rdG X.K CA t) D σ H := by
  obtain ⟨R, Z, v, h, Dd, s, w, kd⟩ := h
  exact ⟨R, Z, v, h, _, _, s, w, fun Z1 h1 x d H1 e1 s1 r1 q1 => ⟨R, Z1, v, h1, d, _, s1, r1, q1, fun v' σ' s' _ k => kd.nx _ _ _ _ _ e1 s' k⟩, kx_of s kd⟩
theorem snd_asg {t : Tg} {e : E} {tg y : Expr} {pos : Pos} (o : CxS G N F k CA sc X W) (h1 : mT N none sc t tg = true) (h2 : mE G N e none sc y = true) (h3 : asgB sc tg y = true) (h4 : (noComp y || !isFrz e) = true) : PS X (.Assign [tg] y pos) (rdS X.K CA W F (.asg t e)) := by
  have hg := snd_tg (X := X) (CA := CA) o.hN o.nd o.hsc o.hfn o.calm t tg h1
  have he := (sndE e _ _ _ _ _ o.toCxOk h2).1
  unfold asgB at h3
  split at h3
  · rename_i n p elt gs scope cpos
    rcases Bool.or_eq_true_iff.mp h3 with h3 | h3
    · exact PS_weak (ps_asg he hg (by unfold swapsWithSole; exact no_swapC (by rw [o.hsc]; simpa using h3)) no_stores) fun D σ H h => asg_ok h
    simp only [Bool.and_eq_true, Bool.not_eq_true'] at h3
    obtain ⟨k1, k2, k3, k4⟩ := h3
    rcases comp_inv h2 with ⟨f, own, t', ik, it, c, el, tg', iter, ifs, wz, rfl, rfl⟩ | ⟨a, rfl⟩
    · obtain ⟨rfl, tt, p1, p2, p3, p4, p5, p6, p7⟩ := comp_parts o.toCxOk h2
      cases t with
      | tup ts => cases h1
      | var i =>
        have h1' : ((N[i]? == some n) && locB none sc n) = true := h1
        obtain ⟨g1, g2⟩ := Bool.and_eq_true_iff.mp h1'
        have hloc : X.env.scope.names.lookup n = some .local := by rw [o.hsc]; exact eq_of_beq k2
        refine PS_weak (ps_setLc (i := i) o.calm o.nd (by rw [o.hN]; exact eq_of_beq g1) hloc (sw_true (by rw [o.hsc]; exact eq_of_beq k1) hloc k3 k4) p1 p2 p3 p4 p5 p6) fun D σ H ⟨R, Z, v, h, Dd, s, w, kd⟩ => ?_
        exact p7 _ _ _ ⟨R, Z, v, h, _, _, s, w, fun Z1 h1 x d H1 e1 s1 r1 q1 => kd.nx _ _ _ _ _ e1 (s1.set i r1) q1, kx_of s kd⟩
    · cases h4
  · rename_i n p y hn
    exact PS_weak (ps_asg he hg (by unfold swapsWithSole; exact no_swap h3) no_stores) fun D σ H h => asg_ok h
  · rename_i es m p y
    simp only [Bool.and_eq_true] at h3
    exact PS_weak (ps_asg he hg (by unfold swapsWithSole; exact no_swap h3.1) (no_stores_tup h3.2)) fun D σ H h => asg_ok h
  · cases h3
theorem par_stores {x y : Str} {px py pt pt2 : Pos} {kt k2 : Nat} {u v : Expr} {env : Env} (h : parB env.scope x y px py u v = true) : swappedStores [.Tuple [.Name x px, .Name y py] kt pt] (.Tuple [u, v] k2 pt2) env = pure (some [x, y]) ∧ env.scope.names.lookup x = some .local ∧ env.scope.names.lookup y = some .local := by
  unfold parB at h
  simp only [Bool.and_eq_true, Bool.not_eq_true'] at h
  obtain ⟨h1, h2, h3, h4, h5, h6, h7, h8, h9⟩ := h
  have e1 := eq_of_beq h1
  have e2 := eq_of_beq h2
  have e3 := eq_of_beq h3
  refine ⟨?_, e2, e3⟩
  have hb : env.blockKind = .function := by unfold Env.blockKind; rw [e1]; rfl
  have k1 : env.kindOf x = some .local := e2
  have k2 : env.kindOf y = some .local := e3
  have ns : ∀ {z : Expr}, noStar z = true → (match z with | .Starred _ _ => true | _ => false) = false := fun {z} hz => by
    cases z <;> first
      | rfl
      | cases hz
  unfold swappedStores
  have q1 : (px.line == px.line) = true := beq_self_eq_true _
  have q2 : (py.line == px.line) = true := by rw [beq_iff_eq] at h4 ⊢; exact h4.symm
  have q3 : (y == x) = false := by
    rw [beq_eq_false_iff_ne] at h5 ⊢; exact fun e => h5 e.symm
  simp only [hb, k1, k2, List.filterMap_cons, List.filterMap_nil, List.head?_cons, Option.map_some, Option.getD_some, Expr.pos, q1, q2, beq_self_eq_true, Bool.true_and, if_true, List.any_cons, List.any_nil, h8, h9]
  have ed : [x, y].eraseDups = [x, y] := by simp [List.eraseDups_cons, q3, h5]
  rw [ed]
  refine (if_neg (by simp)).trans ?_
  refine (if_neg fun hh => ?_).trans ?_
  · rcases Bool.or_eq_true_iff.mp hh with z | z
    · exact Bool.noConfusion ((ns h6).symm.trans z)
    · rcases Bool.or_eq_true_iff.mp z with z | z
      · exact Bool.noConfusion ((ns h7).symm.trans z)
      · cases z
  · exact (if_neg (by simp)).trans rfl
theorem set_ok {K : PySem.W.Frag} {R Z : Hp} {h : AH} {H : Hp} {x y z : V} {o i d : D} {P : AH → Prop} (s : HR K CA R Z h H) (rx : VR K CA Z x o) (ry : VR K CA Z y i) (rz : VR K CA Z z d) (w : setW o i d h P) {Q : Hp → Prop} (q : ∀ h' H', HR K CA R Z h' H' → P h' → Q H') : rSetL x y z H Q := by
  unfold setW at w
  split at w
  · rename_i a k
    cases rx; cases ry
    obtain ⟨ds, e, j, ej, w⟩ := w
    obtain ⟨xs, e2, r, _⟩ := s.lst e
    exact ⟨a, xs, k, j, rfl, rfl, e2, by rw [r.len]; exact ej, q _ _ (s.write (c' := .lst (ds.set j d)) e (r.set rz j)) w⟩
  · exact w.elim
theorem assign_sub {a i : Expr} {p : Pos} {env : Env} (h : noSlice i = true) (v : Value) : assign (.Subscript a i p) env v = (do
      let ov ← holding [v] (eval a env)
      let iv ← holding [v, ov] (eval i env)
      standAt p
      holding [v, ov, iv] (setItem ov iv v)
      release [v, ov, iv] []) := by
  cases i <;> first
    | rfl
    | cases h
mutual
theorem sndS : ∀ (q : S) (X : Cx) (W : WX) (st : Stmt), CxS G N F k CA sc X W → mS G N sc q st = true → PS X st (rdS X.K CA W F q)
  | .expr e, X, W, st, o, h => by
    unfold mS at h
    split at h
    · simp only [Bool.and_eq_true] at h
      exact PS_weak (ps_expr (sndE e _ _ _ _ _ o.toCxOk h.2).1 (no_swap h.1)) fun D σ H ⟨R, Z, v, h, Dd, s, w, kd⟩ => ⟨R, Z, v, h, _, _, s, w, fun Z1 h1 x d H1 e1 s1 r1 q1 => kd.nx _ _ _ _ _ e1 s1 q1, kx_of s kd⟩
    · cases h
  | .asg t e, X, W, st, o, h => by
    unfold mS at h
    split at h
    · simp only [Bool.and_eq_true] at h
      exact snd_asg o h.1 h.2.1 h.2.2.1 h.2.2.2
    · cases h
  | .sub a i e, X, W, st, o, h => by
    unfold mS at h
    split at h
    · simp only [Bool.and_eq_true] at h
      obtain ⟨h1, h2, h3, h4, h5⟩ := h
      refine PS_weak (ps_asg (sndE e _ _ _ _ _ o.toCxOk h5).1 (pg_sub (sndE a _ _ _ _ _ o.toCxOk h3).1 (sndE i _ _ _ _ _ o.toCxOk h4).1 set_list (assign_sub h2)) (by unfold swapsWithSole; exact no_swap h1) no_stores_sub) fun D σ H ⟨R, Z, v, h, Dd, s, w, kd⟩ => ?_
      refine ⟨R, Z, v, h, _, _, s, w, fun Z1 h1 x d H1 e1 s1 r1 q1 => ⟨R, Z1, v, h1, _, _, s1, q1, fun Z2 h2 y d2 H2 e2 s2 r2 q2 => ⟨R, Z2, v, h2, _, _, s2, q2, fun Z3 h3 z d3 H3 e3 s3 r3 q3 => ?_, kx_of s2 (kd.mono (e1.trans e2))⟩, kx_of s1 (kd.mono e1)⟩, kx_of s kd⟩
      exact set_ok s3.toHR (r2.mono e3) r3 (r1.mono (e2.trans e3)) q3 fun h' H' s' q' => kd.nx _ _ _ _ _ ((e1.trans e2).trans e3) (s3.with (Ext.refl _) s') q'
    · cases h
  | .dput a i e, X, W, st, o, h => by
    unfold mS at h
    split at h
    · simp only [Bool.and_eq_true] at h
      obtain ⟨h0, h1, h2, h3, h4, h5⟩ := h
      have hk : CA.kt = false := o.toCxOk.g.kt (by simpa using h0)
      refine PS_weak (ps_dput (by have := o.toCxOk.room.un; omega) (sndE a _ _ _ _ _ o.toCxOk h3).1 (sndE i _ _ _ _ _ o.toCxOk h4).1 (sndE e _ _ _ _ _ o.toCxOk h5).1 (no_swap h1)) fun D σ H ⟨R, Z, v, h, Dd, s, w, kd⟩ => ?_
      refine ⟨R, Z, v, h, _, _, s, w, fun Z1 h1 x d H1 e1 s1 r1 q1 => ⟨R, Z1, v, h1, _, _, s1, q1, fun Z2 h2 y d2 H2 e2 s2 r2 q2 => ⟨R, Z2, v, h2, _, _, s2, q2, fun Z3 h3 z d3 H3 e3 s3 r3 q3 => ?_, kx_of s2 (kd.mono (e1.trans e2))⟩, kx_of s1 (kd.mono e1)⟩, kx_of s kd⟩
      obtain ⟨a0, H4, e4, g4, h4', s4, q4⟩ := dput_ok s3.toHR hk (r2.mono e3) r3 (r1.mono (e2.trans e3)) (show dputW _ _ _ _ _ from q3)
      exact ⟨a0, H4, e4, g4, kd.nx _ _ _ _ _ ((e1.trans e2).trans e3) (s3.with (Ext.refl _) s4) q4⟩
    · cases h
  | .par i j a b, X, W, st, o, h => by
    unfold mS at h
    split at h
    · rename_i x px y py kt pt u v k2 pt2 pos
      simp only [Bool.and_eq_true, Bool.not_eq_true'] at h
      obtain ⟨h1, h2, h3, h4, h5, h6⟩ := h
      have hL : mL G N (.cons a (.cons b .nil)) none sc [u, v] = true := by
        show (mE G N a none sc u && (mE G N b none sc v && true)) = true
        rw [h5, h6]; rfl
      have hp := par_stores (x := x) (y := y) (px := px) (py := py) (pt := pt) (pt2 := pt2) (kt := kt) (k2 := k2) (u := u) (v := v) (env := X.env) (by rw [o.hsc]; exact h4)
      refine PS_weak (ps_par (i := i) (j := j) o.calm o.nd (by rw [o.hN]; exact eq_of_beq h1) (by rw [o.hN]; exact eq_of_beq h2) (by simpa using h3) hp.2.1 hp.2.2 (sndL (.cons a (.cons b .nil)) _ _ _ _ _ o.toCxOk hL).pa hp.1 (by unfold swapsWithSole; exact no_swap rfl)) fun D σ H ⟨R, Z, v, h, Dd, s, w, kd⟩ => ?_
      refine ⟨R, Z, v, h, fun x h => Dd.xx x v h, fun ds h => match ds with | [x, y] => Dd.nx ((v.set i (some x)).set j (some y)) h | _ => False, s, w, fun Z1 h1 xs ds H1 e1 s1 r1 q1 => ?_, kx_of s kd⟩
      match ds, r1, q1 with
      | [x, y], r1, q1 =>
        obtain ⟨x', y', rfl, r2, r3⟩ := two_of r1
        exact ⟨x', y', rfl, kd.nx _ _ _ _ _ e1 ((s1.set i r2).set j r3) q1⟩
    · cases h
  | .ife t a b, X, W, st, o, h => by
    unfold mS at h
    split at h
    · simp only [Bool.and_eq_true] at h
      obtain ⟨h1, h2, h3⟩ := h
      refine PS_weak (ps_if (sndE t _ _ _ _ _ o.toCxOk h1).2 (sndSs a _ _ _ o h2) (sndSs b _ _ _ o h3)) fun D σ H ⟨R, Z, v, h, Dd, s, w, kd⟩ => ?_
      refine ⟨R, Z, v, h, _, _, s, w, fun Z1 h1 x d H1 e1 s1 r1 q1 => ?_, kx_of s kd⟩
      obtain ⟨c, rfl, rfl, q2, q3⟩ := bl_of r1 q1
      refine ⟨c, rfl, ?_⟩
      cases c with
      | true => rw [if_pos rfl]; exact ⟨R, Z1, v, h1, Dd, s1, q2 rfl, kd.mono e1⟩
      | false => rw [if_neg Bool.false_ne_true]; exact ⟨R, Z1, v, h1, Dd, s1, q3 rfl, kd.mono e1⟩
    · cases h
  | .whl t b, X, W, st, o, h => by
    unfold mS at h
    split at h
    · simp only [Bool.and_eq_true] at h
      obtain ⟨h1, h2⟩ := h
      refine PS_weak (ps_while o.pas (sndE t _ _ _ _ _ o.toCxOk h1).2 (sndSs b _ _ _ o h2)) fun D σ H ⟨R, Z, v, h, Dd, s, w, kd⟩ => ?_
      obtain ⟨Wd, ⟨m0, w0⟩, turn⟩ := w
      refine ⟨fun m σ H => ∃ Z1 v h, Ext Z Z1 ∧ SR X.K CA R Z1 v h σ H ∧ Wd m v h, ⟨m0, Z, v, h, Ext.refl Z, s, w0⟩, ?_⟩
      rintro m σ1 H1 ⟨Z1, v1, h1, e1, s1, w1⟩
      refine ⟨R, Z1, v1, h1, _, _, s1, turn m v1 h1 w1, fun Z2 h2 x d H2 e2 s2 r2 q2 => ?_, kx_of s1 (kd.mono e1)⟩
      obtain ⟨c, rfl, rfl, q3, q4⟩ := bl_of r2 q2
      refine ⟨c, rfl, ?_⟩
      cases c with
      | true =>
        rw [if_pos rfl]
        refine ⟨fun σ' H' => ∃ m', m' < m ∧ ∃ Z1 v h, Ext Z Z1 ∧ SR X.K CA R Z1 v h σ' H' ∧ Wd m' v h, fun σ' H' n => n, R, Z2, v1, h2, _, s2, q3 rfl, ?_⟩
        exact ⟨fun Z3 v3 h3 σ3 H3 e3 s3 ⟨m', l, w'⟩ => ⟨m', l, Z3, v3, h3, (e1.trans e2).trans e3, s3, w'⟩, (kd.mono (e1.trans e2)).nx, fun Z3 v3 h3 σ3 H3 e3 s3 ⟨m', l, w'⟩ => ⟨m', l, Z3, v3, h3, (e1.trans e2).trans e3, s3, w'⟩, (kd.mono (e1.trans e2)).rt, (kd.mono (e1.trans e2)).xx⟩
      | false => rw [if_neg Bool.false_ne_true]; exact kd.nx _ _ _ _ _ (e1.trans e2) s2 (q4 rfl)
    · cases h
  | .for t ik it b, X, W, st, o, h => by
    unfold mS at h
    split at h
    · rename_i tg iter p pos
      simp only [Bool.and_eq_true] at h
      obtain ⟨h1, h2, h3⟩ := h
      cases hys : itA sc ik tg iter with
      | none => rw [hys] at h2; cases h2
      | some ys =>
        rw [hys] at h2
        have hm := mL_mem h2
        have hi : PI X tg iter (rdI X.K CA W F ik it) := snd_it o.g (by rw [o.hsc]; exact hys) (fun y hy => (hm y hy).2) (sndL it _ _ _ _ _ o.toCxOk h2)
        have hs : ∀ v, foldedSetIterable iter X.env v = pure v := fun v => noFold (itA_noSet hys fun y hy => (hm y hy).1)
        refine PS_weak (ps_for o.pas o.calm hi (snd_tg (X := X) (CA := CA) o.hN o.nd o.hsc o.hfn o.calm t tg h1) (sndSs b _ _ _ o h3) hs) fun D σ H ⟨R, Z, v, h, Dd, s, w, kd⟩ => ?_
        refine ⟨R, Z, v, h, _, fun sr xs h => forW sr (fun d v h K => tgW t d v h fun v => K v h) (fun nx v h => wpS F b { Dd with nx := nx, ct := nx, bk := Dd.nx } v h) Dd.nx xs v h, s, w, kx_of s kd, fun Z1 h1 J sr xs H1 e1 s1 wk w1 => ?_⟩
        refine ⟨fun i m σ H => m = xs.length - i ∧ i ≤ xs.length ∧ ∃ Z2 v2 h2, Ext Z1 Z2 ∧ SR X.K CA R Z2 v2 h2 σ H ∧ forW sr (fun d v h K => tgW t d v h fun v => K v h) (fun nx v h => wpS F b { Dd with nx := nx, ct := nx, bk := Dd.nx } v h) Dd.nx (xs.drop i) v2 h2,
          ⟨xs.length, by simp, Nat.zero_le _, Z1, v, h1, Ext.refl _, s1, w1⟩, ?_⟩
        rintro i m σ2 H2 ⟨rfl, hi2, Z2, v2, h2, e2, s2, w2⟩
        rcases drop_cases xs i with ⟨d0, hl⟩ | ⟨d, hd, d0⟩
        · rw [d0] at w2
          obtain ⟨st, w2⟩ := still_of w2
          exact .inl ⟨(wk _ Z2 h2 H2 e2 s2.toHR st i).2 hl, kd.nx _ _ _ _ _ (e1.trans e2) s2 w2⟩
        · rw [d0] at w2
          obtain ⟨st, w2⟩ := still_of w2
          have hlt : i < xs.length := (List.getElem?_eq_some_iff.mp hd).1
          obtain ⟨go, yl⟩ := (wk _ Z2 h2 H2 e2 s2.toHR st i).1 d hd
          refine .inr ⟨go, fun σ' H' => ∃ Z3 v3 h3, Ext Z1 Z3 ∧ SR X.K CA R Z3 v3 h3 σ' H' ∧ forW sr (fun d v h K => tgW t d v h fun v => K v h) (fun nx v h => wpS F b { Dd with nx := nx, ct := nx, bk := Dd.nx } v h) Dd.nx (xs.drop (i + 1)) v3 h3,
            fun σ' H' nx => ⟨xs.length - (i + 1), by omega, rfl, hlt, nx⟩, fun x H3 hy => ?_⟩
          obtain ⟨Z3, e3, s3, r3⟩ := yl x H3 hy
          refine ⟨R, Z3, v2, h2, d, _, s2.with e3 s3, r3, w2, fun v' σ' s' _ w3 => ⟨R, Z3, v', h2, _, s', w3, ?_⟩⟩
          exact ⟨fun Z4 v4 h4 σ4 H4 e4 s4 w' => ⟨Z4, v4, h4, (e2.trans e3).trans e4, s4, w'⟩, (kd.mono ((e1.trans e2).trans e3)).nx, fun Z4 v4 h4 σ4 H4 e4 s4 w' => ⟨Z4, v4, h4, (e2.trans e3).trans e4, s4, w'⟩, (kd.mono ((e1.trans e2).trans e3)).rt, (kd.mono ((e1.trans e2).trans e3)).xx⟩
    · cases h
  | .ret e, X, W, st, o, h => by
    unfold mS at h
    split at h
    · exact PS_weak (ps_ret (sndE e _ _ _ _ _ o.toCxOk h).1) fun D σ H ⟨R, Z, v, h, Dd, s, w, kd⟩ => ⟨R, Z, v, h, _, _, s, w, fun Z1 h1 x d H1 e1 s1 r1 q1 => kd.rt _ _ _ _ _ e1 s1.toHR r1 q1, kx_of s kd⟩
    · cases h
  | .pass, X, W, st, o, h => by
    unfold mS at h
    split at h
    · exact PS_weak ps_pass fun D σ H ⟨R, Z, v, h, Dd, s, w, kd⟩ => kd.nx _ _ _ _ _ (Ext.refl Z) s w
    · cases h
  | .brk, X, W, st, o, h => by
    unfold mS at h
    split at h
    · exact PS_weak ps_break fun D σ H ⟨R, Z, v, h, Dd, s, w, kd⟩ => kd.bk _ _ _ _ _ (Ext.refl Z) s w
    · cases h
  | .cnt, X, W, st, o, h => by
    unfold mS at h
    split at h
    · exact PS_weak ps_continue fun D σ H ⟨R, Z, v, h, Dd, s, w, kd⟩ => kd.ct _ _ _ _ _ (Ext.refl Z) s w
    · cases h
  | .die, X, W, st, o, h => ⟨fun _ _ _ _ _ _ ⟨_, _, _, _, _, _, w, _⟩ => (show False from w).elim⟩
  | .rse c (f :: fs) es, X, W, st, o, h => by
    unfold mS at h
    split at h
    · rename_i x p1 y ys pc pos
      simp only [Bool.and_eq_true] at h
      obtain ⟨h1, h2, h3, h4⟩ := h
      obtain ⟨g1, g2, g3⟩ := glB_ok (glB_at o.hsc h3)
      obtain ⟨C, c1, c2⟩ := o.g.cls c _ (eq_of_beq h2)
      obtain ⟨⟨fI, fd, ps, T, iC, tI, bi, F1⟩, out, few⟩ := o.g.flo c _ C (eq_of_beq h1) c1
      have hm := mL_mem h4
      refine PS_weak (ps_raise o.calm o.tk (pmk_oex T iC tI F1 (o.room.mono (by omega)) bi (dvs := []) .nil (passes_call (E := fun _ _ _ => False) (W := fun _ _ _ _ => False) LamX.takes0 fun _ _ _ _ z => z) g1 c2 (sndL es _ _ _ _ _ o.toCxOk h4).pa g2 (starE (hm _ List.mem_cons_self).2) (pl_ok ys fun z hz => (hm z (List.mem_cons_of_mem _ hz)).2))) fun D σ H ⟨R, Z, v, h, Dd, s, w, kd⟩ => ?_
      refine ⟨R, Z, v, h, _, _, s, w, fun Z1 h1 vs ds H1 e1 s1 r1 ⟨hl, q1⟩ => ?_, kx_of s kd⟩
      have hlen : vs.length = fs.length + 1 := by rw [r1.len]; exact hl
      have few : fs.length + 1 ≤ 900 := few
      refine ⟨by omega, fun a na => ?_⟩
      rw [List.append_nil]
      refine ⟨by rw [List.length_cons, hlen]; rfl, a, vs, rfl, T, out, upd_same, fun dx nd ne => ⟨rfl, dx, _, upd_same, by rw [upd_ne ne, upd_same], by rwa [upd_ne ne] at nd, ?_⟩⟩
      have nd1 : H1 dx = none := by rwa [upd_ne ne] at nd
      have eH : upd (del (upd (upd (upd H1 a (exo a C none)) dx (exd dx ((f :: fs).zip vs).reverse)) a (exo a C (some dx))) a) dx (.xd ((f :: fs).zip vs).reverse) = upd H1 dx (.xd ((f :: fs).zip vs).reverse) := by
        funext b
        by_cases hb : b = dx
        · rw [hb, upd_same, upd_same]
        · rw [upd_ne hb, upd_ne hb]
          by_cases hb2 : b = a
          · rw [hb2, del_same, na]
          · rw [del_ne hb2, upd_ne hb2, upd_ne hb, upd_ne hb2]
      rw [eH]
      have ez := ext_new (o := .xd ((f :: fs).zip vs).reverse) (s1.freeZ nd1)
      refine kd.xx _ _ _ _ _ _ _ _ (e1.trans ez) (s1.with ez (s1.toHR.fresh _ nd1)) (.flds c1 upd_same ((FRs.zip (f :: fs) r1).reverse.mono ez) fun n hn => out n ?_) q1
      rw [List.map_reverse, List.mem_reverse] at hn
      obtain ⟨⟨n1, d1⟩, hz, rfl⟩ := List.mem_map.mp hn
      exact (List.of_mem_zip hz).1
    · cases h
  | .sub2 a i p j e, X, W, st, o, h => by
    unfold mS at h
    split at h
    · simp only [Bool.and_eq_true] at h
      obtain ⟨h1, ⟨h3, h4⟩, h5, h6, h7, h8, h9⟩ := h
      refine PS_weak (ps_asg (sndE e _ _ _ _ _ o.toCxOk h9).1 (pg_tup (n := 2) o.calm (pgs_cons (pg_sub (sndE a _ _ _ _ _ o.toCxOk h5).1 (sndE i _ _ _ _ _ o.toCxOk h6).1 set_list (assign_sub h3)) (pgs_cons (pg_sub (sndE p _ _ _ _ _ o.toCxOk h7).1 (sndE j _ _ _ _ _ o.toCxOk h8).1 set_list (assign_sub h4)) pgs_nil rfl) rfl) rfl rfl) (by unfold swapsWithSole; exact no_swap h1) no_stores_sub2) fun D σ H ⟨R, Z, v, h, Dd, s, w, kd⟩ => ?_
      refine ⟨R, Z, v, h, _, _, s, w, fun Z1 h1 x d H1 e1 s1 r1 q1 => ?_, kx_of s kd⟩
      match d, r1, q1 with
      | .tup [d1, d2], r1, q1 =>
        cases r1 with
        | tup ha ra =>
          obtain ⟨x1, x2, rfl, ra1, ra2⟩ := two_of ra
          refine ⟨_, _, rfl, sqT_mono s1.sub ha.sq, rfl, x1, [x2], rfl, ?_⟩
          refine ⟨R, Z1, v, h1, _, _, s1, q1, fun Z2 h2 y d2 H2 e2 s2 r2 q2 => ⟨R, Z2, v, h2, _, _, s2, q2, fun Z3 h3 z d3 H3 e3 s3 r3 q3 => ?_, kx_of s2 (kd.mono (e1.trans e2))⟩, kx_of s1 (kd.mono e1)⟩
          refine set_ok s3.toHR (r2.mono e3) r3 (ra1.mono (e2.trans e3)) q3 fun h' H' s' q' => ?_
          have s4 := s3.with (Ext.refl _) s'
          have e4 := (e1.trans e2).trans e3
          refine ⟨x2, [], rfl, ?_⟩
          refine ⟨R, Z3, v, h', _, _, s4, q', fun Z5 h5 y5 d5 H5 e5 s5 r5 q5 => ⟨R, Z5, v, h5, _, _, s5, q5, fun Z6 h6 z6 d6 H6 e6 s6 r6 q6 => ?_, kx_of s5 (kd.mono (e4.trans e5))⟩, kx_of s4 (kd.mono e4)⟩
          refine set_ok s6.toHR (r5.mono e6) r6 (((ra2.mono (e2.trans e3)).mono e5).mono e6) q6 fun h' H' s' q' => ⟨rfl, ?_⟩
          exact kd.nx _ _ _ _ _ ((e4.trans e5).trans e6) (s6.with (Ext.refl _) s') q'
    · cases h
  | .rse c [] es, X, W, st, o, h => by
    unfold mS at h
    split at h
    · simp only [Bool.and_eq_true] at h
      obtain ⟨h1, h2, h3, h4⟩ := h
      · obtain ⟨g1, g2, g3⟩ := glB_ok (glB_at o.hsc h3)
        obtain ⟨C, c1, c2⟩ := o.g.cls c _ (eq_of_beq h2)
        refine PS_weak (ps_raise o.calm o.tk (pmk_own PySem.F.excBase_ValueError (o.g.exc c C h4 c1) c2 (o.g.cf.kp c C c1) (raises_own (o.g.cf.sub c C c1) (o.g.cf.tyc c C c1)) g1 g2)) fun D σ H ⟨R, Z, v, h, Dd, s, w, kd⟩ => ?_
        exact kd.xx _ _ _ _ _ _ _ _ (Ext.refl Z) s (.plain c1) w
    · cases h
  | .try_ b hs, X, W, st, o, h => by
    unfold mS at h
    split at h
    · rename_i p x np nm q qs pos' pos
      obtain ⟨h1, h2⟩ := Bool.and_eq_true_iff.mp h
      split at h2
      · rename_i c oi b' r
        simp only [Bool.and_eq_true] at h2
        obtain ⟨h3, h4, h5, h6, h7⟩ := h2
        obtain ⟨g1, g2, g3⟩ := glB_ok (glB_at o.hsc h5)
        obtain ⟨C, c1, c2⟩ := o.g.cls c _ (eq_of_beq h4)
        have hnm : NmOk X nm oi := by
          unfold nmB at h6
          split at h6
          · trivial
          · simp only [Bool.and_eq_true] at h6
            exact ⟨by rw [o.hN]; exact eq_of_beq h6.1, by show X.env.scope.names.lookup _ = _; rw [o.hsc]; exact eq_of_beq h6.2⟩
          · cases h6
        refine PS_weak (ps_tryT (tb := fun W => rdS X.K CA W F b) (ts := rdS X.K CA W0 F b') (Wout := W) (c := .ref C) (i := oi) o.stk o.frm o.ex o.nd hnm ⟨g1, g2, .inl c2⟩ o.tk (fun W' pn xe tk pa => sndSs b _ _ _ (o.tr tk pa) h1) (fun a pn => snd_q o.toCxOk h7)) fun D σ H ⟨R, Z, v, h, Dd, s, w, kd⟩ => ?_
        refine ⟨R, Z, v, h, _, s, w, ⟨kd.nx, kd.bk, kd.ct, kd.rt, ?_⟩⟩
        intro Z1 v1 h1 σ1 H1 x cls dd e1 s1 xr w1
        cases r with
        | hnil =>
          obtain ⟨C', rfl, hC'⟩ := xr.cls
          refine ⟨(c == 0 || c == x.c), o.g.cf.exm _ _ _ _ hC' c1, fun hb => ⟨C', rfl, fun a na _ => ?_⟩, fun hb => ?_⟩
          · have ex := ext_new (o := exT a C' dd) (s1.freeZ na)
            have s2 := s1.with ex (s1.toHR.fresh (exT a C' dd) na)
            cases oi with
            | none =>
              have w2 : (match takesC c x with | true => wpS F b' { Dd with xx := fun _ _ _ => False } v1 h1 | false => Dd.xx x v1 h1) := w1
              rw [show takesC c x = true from hb] at w2
              exact ⟨R, _, v1, h1, _, s2, w2, ⟨(kd.mono (e1.trans ex)).nx, (kd.mono (e1.trans ex)).bk, (kd.mono (e1.trans ex)).ct, (kd.mono (e1.trans ex)).rt, fun _ _ _ _ _ _ _ _ _ _ _ z => z.elim⟩⟩
            | some i =>
              have w2 : (match takesC c x with | true => wpS F b' { nx := fun v h => Dd.nx (v.set i none) h, rt := Dd.rt, bk := fun v h => Dd.bk (v.set i none) h, ct := fun v h => Dd.ct (v.set i none) h, xx := fun _ _ _ => False } (v1.set i (some (.exc x.c x.fs))) h1 | false => Dd.xx x v1 h1) := w1
              rw [show takesC c x = true from hb] at w2
              refine ⟨R, _, _, h1, _, s2.set i (xr.val (s1.freeZ na)), w2, ⟨fun Z3 v3 h3 σ3 H3 e3 s3 q => ?_, fun Z3 v3 h3 σ3 H3 e3 s3 q => ?_, fun Z3 v3 h3 σ3 H3 e3 s3 q => ?_, (kd.mono (e1.trans ex)).rt, fun _ _ _ _ _ _ _ _ _ _ _ z => z.elim⟩⟩
              · exact kd.nx _ _ _ _ _ ((e1.trans ex).trans e3) (s3.unset i) q
              · exact kd.bk _ _ _ _ _ ((e1.trans ex).trans e3) (s3.unset i) q
              · exact kd.ct _ _ _ _ _ ((e1.trans ex).trans e3) (s3.unset i) q
          · have w2 : Dd.xx x v1 h1 := by
              have w3 := w1
              cases oi with
              | none =>
                have w2 : (match takesC c x with | true => wpS F b' { Dd with xx := fun _ _ _ => False } v1 h1 | false => Dd.xx x v1 h1) := w1
                rw [show takesC c x = false from hb] at w2
                exact w2
              | some i =>
                have w2 : (match takesC c x with | true => wpS F b' { nx := fun v h => Dd.nx (v.set i none) h, rt := Dd.rt, bk := fun v h => Dd.bk (v.set i none) h, ct := fun v h => Dd.ct (v.set i none) h, xx := fun _ _ _ => False } (v1.set i (some (.exc x.c x.fs))) h1 | false => Dd.xx x v1 h1) := w1
                rw [show takesC c x = false from hb] at w2
                exact w2
            exact kd.xx _ _ _ _ _ _ _ _ e1 s1 xr w2
        | _ => cases h3
      · cases h2
    · cases h
  | .nil, _, _, _, _, h | .cons _ _, _, _, _, _, h | .hnd _ _ _ _, _, _, _, _, h | .hnil, _, _, _, _, h | .cut _, _, _, _, _, h | .frzb _ _, _, _, _, _, h => by simp [mS] at h
theorem sndSs : ∀ (q : S) (X : Cx) (W : WX) (sts : List Stmt), CxS G N F k CA sc X W → mSs G N sc q sts = true → PSs X sts (rdS X.K CA W F q)
  | .nil, X, W, sts, o, h => by
    cases sts with
    | nil => exact PSs_weak pss_nil fun D σ H ⟨R, Z, v, h, Dd, s, w, kd⟩ => kd.nx _ _ _ _ _ (Ext.refl Z) s w
    | cons _ _ => cases h
  | .cons q r, X, W, sts, o, h => by
    cases sts with
    | nil => cases h
    | cons st sts =>
      have h' : (mS G N sc q st && mSs G N sc r sts) = true := h
      obtain ⟨h1, h2⟩ := Bool.and_eq_true_iff.mp h'
      exact PSs_weak (pss_cons (sndS q _ _ _ o h1) (sndSs r _ _ _ o h2)) fun D σ H ⟨R, Z, v, h, Dd, s, w, kd⟩ => ⟨R, Z, v, h, _, s, w, ⟨fun Z1 v1 h1 σ1 H1 e1 s1 q1 => ⟨R, Z1, v1, h1, Dd, s1, q1, kd.mono e1⟩, kd.bk, kd.ct, kd.rt, kd.xx⟩⟩
  | .frzb i q, X, W, sts, o, h => PSs_weak (sndSs q _ _ _ o (show mSs G N sc q sts = true from h)) fun D σ H ⟨R, Z, v, h, Dd, s, w, kd⟩ => by
    have w : (match v[i]? with | some (some (.ref a)) => ∃ ds, h a = some (.lst ds) ∧ wpS F q Dd (v.set i (some (.lst ds))) (cut h a) | _ => wpS F q Dd v h) := w
    split at w
    · rename_i a ev
      obtain ⟨ds, ed, w⟩ := w
      obtain ⟨ys, ey, r2, z⟩ := s.toHR.lst ed
      obtain ⟨x, ex, rx⟩ := s.env _ _ ev
      cases rx
      have e := ext_new (o := .lst ys) z
      have s2 : SR X.K CA R (upd Z a (.lst ys)) v (cut h a) σ H := s.with e (s.toHR.frz ed ey)
      refine ⟨R, _, _, _, Dd, ?_, w, kd.mono e⟩
      have s3 := s2.set i (x := .ref a) (d := .lst ds) (.lst upd_same (r2.mono e))
      rwa [show σ.set i (some (V.ref a)) = σ from by
        apply List.ext_getElem?
        intro j
        by_cases hj : i = j
        · subst hj
          rw [List.getElem?_set_self (by exact (List.getElem?_eq_some_iff.mp ex).1), ex]
        · rw [List.getElem?_set_ne hj]] at s3
    · exact ⟨R, Z, v, h, Dd, s, w, kd⟩
  | .cut q, X, W, sts, o, h => PSs_weak (sndSs q _ _ _ o (show mSs G N sc q sts = true from h)) fun D σ H ⟨R, Z, v, h, Dd, s, w, kd⟩ => ⟨R, Z, v, h, Dd, s, cut_out w, kd⟩
  | .expr _, _, _, _, _, h | .asg _ _, _, _, _, _, h | .sub _ _ _, _, _, _, _, h | .par _ _ _ _, _, _, _, _, h | .ife _ _ _, _, _, _, _, h | .whl _ _, _, _, _, _, h | .for _ _ _ _, _, _, _, _, h | .ret _, _, _, _, _, h | .pass, _, _, _, _, h | .brk, _, _, _, _, h | .cnt, _, _, _, _, h
  | .rse _ _ _, _, _, _, _, h | .try_ _ _, _, _, _, _, h | .hnd _ _ _ _, _, _, _, _, h | .hnil, _, _, _, _, h | .sub2 _ _ _ _ _, _, _, _, _, h | .dput _ _ _, _, _, _, _, h | .die, _, _, _, _, h => by simp [mSs] at h
end
end
end Ab
namespace Ab
open PySem PySem.Spec PyProof.Rows L2
def excB (K : PySem.W.Frag) (D : Addr) : Bool :=
  (PySem.W.findIn K (.ref D) "__getattribute__" == some (some (.builtin "BaseException.__getattribute__"))) && ((PySem.W.findIn K (.ref D) "__getattr__" == some none) && ((PySem.W.subIn K (.ref D) (.type "BaseException") == some true) && (PySem.W.hasDictIn K D
    && ((PySem.W.findIn K (.ref D) "__class__" == some (some (.builtin "object.__class__"))) && ((PySem.W.specialIn K (.builtin "object.__class__") "__get__" == some (some (.builtin "getset_descriptor.__get__"))) && ((PySem.W.takesIn K (.builtin "object.__class__") == some true) && (PySem.W.mroIn K D (.type "object") == some true)))))))
theorem excB_ok {K : PySem.W.Frag} {D : Addr} (h : excB K D = true) : ExcC K D := by
  unfold excB at h
  simp only [Bool.and_eq_true] at h
  obtain ⟨h1, h2, h3, h4, h5, h6, h7, h8⟩ := h
  exact ⟨eq_of_beq h1, eq_of_beq h2, eq_of_beq h3, h4, eq_of_beq h5, eq_of_beq h6, eq_of_beq h7, eq_of_beq h8⟩
def cls1 (K : PySem.W.Frag) (C : Addr) : Bool :=
  excB K C && ((PySem.W.kitOne K (.ref C) (.type "ValueError") == some true) && (tyL.all (fun t => PySem.W.kitOne K (.ref C) (.type t) == some false) && (scL.all (fun t => PySem.W.kitOne K (.type t) (.ref C) == some false) && (PySem.W.keepIn K (.ref C)
    && ((PySem.W.subIn K (.ref C) (.type "BaseException") == some true) && (PySem.W.typeIn K (.ref C) == some (.type "type")))))))
def clsB (K : PySem.W.Frag) (as : List (Nat × Addr)) : Bool :=
  as.all (fun (_, C) => cls1 K C) && (as.all fun (i, C) => as.all fun (j, C') => (PySem.W.kitOne K (.ref C) (.ref C') == some (j == 0 || j == i)) && (PySem.W.exmOne K (.ref C) (.ref C') == some (j == 0 || j == i)))
theorem mem_look {β : Type} {as : List (Nat × β)} {i : Nat} {C : β} (h : as.lookup i = some C) : (i, C) ∈ as := by
  induction as with
  | nil => cases h
  | cons p r ih =>
    obtain ⟨k, c⟩ := p
    rw [List.lookup_cons] at h
    split at h
    · rename_i q
      cases h
      rw [eq_of_beq q]
      exact List.mem_cons_self
    · exact List.mem_cons_of_mem _ (ih h)
theorem cls_of {K : PySem.W.Frag} {as : List (Nat × Addr)} {T : List (Addr × Str)} {kt : Bool} (h : clsB K as = true) : ClsFacts ⟨fun i => as.lookup i, T, kt⟩ K := by
  unfold clsB at h
  obtain ⟨h1, h2⟩ := Bool.and_eq_true_iff.mp h
  have one : ∀ (i : Nat) C, as.lookup i = some C → cls1 K C = true := fun i C e => (List.all_eq_true.mp h1) (i, C) (mem_look e)
  have two : ∀ (i j : Nat) C C', as.lookup i = some C → as.lookup j = some C' → (PySem.W.kitOne K (.ref C) (.ref C') == some (j == 0 || j == i)) = true ∧ (PySem.W.exmOne K (.ref C) (.ref C') == some (j == 0 || j == i)) = true := fun i j C C' e e' => by
    have z := (List.all_eq_true.mp ((List.all_eq_true.mp h2) _ (mem_look e))) _ (mem_look e')
    exact Bool.and_eq_true_iff.mp z
  have parts : ∀ {C}, cls1 K C = true → excB K C = true ∧ PySem.W.kitOne K (.ref C) (.type "ValueError") = some true ∧ (∀ t ∈ tyL, PySem.W.kitOne K (.ref C) (.type t) = some false) ∧ (∀ t ∈ scL, PySem.W.kitOne K (.type t) (.ref C) = some false) ∧ PySem.W.keepIn K (.ref C) = true ∧
      PySem.W.subIn K (.ref C) (.type "BaseException") = some true ∧ PySem.W.typeIn K (.ref C) = some (.type "type") := fun {C} z => by
    unfold cls1 at z
    simp only [Bool.and_eq_true] at z
    obtain ⟨z1, z2, z3, z4, z5, z6, z7⟩ := z
    exact ⟨z1, eq_of_beq z2, fun t ht => eq_of_beq ((List.all_eq_true.mp z3) t ht), fun t ht => eq_of_beq ((List.all_eq_true.mp z4) t ht), z5, eq_of_beq z6, eq_of_beq z7⟩
  exact {
    ex := fun i C e => excB_ok (parts (one i C e)).1
    own := fun i j C C' e e' => eq_of_beq (two i j C C' e e').1
    ve := fun i C e => (parts (one i C e)).2.1
    ty := fun i C t e ht => (parts (one i C e)).2.2.1 t (List.contains_iff_mem.mp ht)
    sc := fun i C t e ht => (parts (one i C e)).2.2.2.1 t (List.contains_iff_mem.mp ht)
    exm := fun i j C C' e e' => eq_of_beq (two i j C C' e e').2
    kp := fun i C e => (parts (one i C e)).2.2.2.2.1
    sub := fun i C e => (parts (one i C e)).2.2.2.2.2.1
    tyc := fun i C e => (parts (one i C e)).2.2.2.2.2.2 }
def bltB (K : PySem.W.Frag) : Bool := bltL.all fun x => PySem.W.nsIn K mainGlobals x == some none
theorem blt_of {K : PySem.W.Frag} {h : Heap} {mg : Str → Option Value} (X : K.In h) (G : h.Ns mainGlobals mg) (b : bltB K = true) : ∀ x, bltL.contains x = true → mg x = none := fun x hx =>
  PySem.W.mg_none_of X G (eq_of_beq ((List.all_eq_true.mp b) x (List.contains_iff_mem.mp hx)))
def plB (K : PySem.W.Frag) (as : List (Nat × Addr)) (pl : List Nat) : Bool := pl.all fun i => match as.lookup i with
  | some C => PySem.W.excIn K C [.type "ValueError", .type "Exception", .type "BaseException", .type "object"] "ValueError.__new__"
  | none => true
theorem pl_of {K : PySem.W.Frag} {as : List (Nat × Addr)} {pl : List Nat} (h : plB K as pl = true) (i : Nat) (C : Addr) (hi : pl.contains i = true) (e : as.lookup i = some C) : PySem.W.excIn K C [.type "ValueError", .type "Exception", .type "BaseException", .type "object"] "ValueError.__new__" = true := by
  have z := (List.all_eq_true.mp h) i (List.contains_iff_mem.mp hi)
  rw [e] at z
  exact z
def nmsB (K : PySem.W.Frag) (xs : List (Nat × Str)) (as : List (Nat × Addr)) : Bool := xs.all fun (i, x) => match as.lookup i with | some a => PySem.W.nsIn K mainGlobals x == some (some (.ref a)) | none => false
theorem nms_of {K : PySem.W.Frag} {h : Heap} {mg : Str → Option Value} {xs : List (Nat × Str)} {as : List (Nat × Addr)} (X : K.In h) (G : h.Ns mainGlobals mg) (b : nmsB K xs as = true) (i : Nat) (x : Str) (e : xs.lookup i = some x) : ∃ C, as.lookup i = some C ∧ mg x = some (.ref C) := by
  have z := (List.all_eq_true.mp b) _ (mem_look e)
  dsimp only at z
  split at z
  · rename_i a q
    exact ⟨a, q, PySem.W.mg_of X G (eq_of_beq z)⟩
  · cases z
mutual
def cstV (K : PySem.W.Frag) : D → Value → Bool
  | .int i, u => match u with | .int j _ => i == j | _ => false
  | .str i, u => match u with | .str j _ => i == j | _ => false
  | .bl i, u => match u with | .bool j => i == j | _ => false
  | .non, u => match u with | .none => true | _ => false
  | .tup ds, u => match u with
    | .ref a => match K.lookup a with
      | some o => o.cls == .type "tuple" && match o.data with
        | .seq its _ => decide (its.size ≤ 1000) && cstVs K ds its.toList
        | _ => false
      | none => false
    | _ => false
  | _, _ => false
def cstVs (K : PySem.W.Frag) : List D → List Value → Bool
  | [], us => us.isEmpty
  | d :: ds, us => match us with | u :: us => cstV K d u && cstVs K ds us | [] => false
end
def isTup : D → Bool
  | .tup _ => true
  | _ => false
mutual
theorem cstV_ok {K : PySem.W.Frag} {CA : CAT} : ∀ {d : D} {u : Value}, (isTup d = true → CA.kt = true) → cstV K d u = true → ∃ v, RelV v u ∧ VR K CA (fun _ => none) v d
  | .int i, u, _, h => by
    unfold cstV at h
    split at h
    · obtain rfl := eq_of_beq h
      exact ⟨.int _, ⟨_, rfl⟩, .int _⟩
    · cases h
  | .str i, u, _, h => by
    unfold cstV at h
    split at h
    · obtain rfl := eq_of_beq h
      exact ⟨.str _, ⟨_, rfl⟩, .str _⟩
    · cases h
  | .bl i, u, _, h => by
    unfold cstV at h
    split at h
    · obtain rfl := eq_of_beq h
      exact ⟨.bl _, rfl, .bl _⟩
    · cases h
  | .non, u, _, h => by
    unfold cstV at h
    split at h
    · exact ⟨.non, rfl, .non⟩
    · cases h
  | .tup ds, u, hk, h => by
    unfold cstV at h
    split at h
    · rename_i a
      split at h
      · rename_i o e
        obtain ⟨h1, h2⟩ := Bool.and_eq_true_iff.mp h
        split at h2
        · rename_i its n e2
          obtain ⟨h3, h4⟩ := Bool.and_eq_true_iff.mp h2
          obtain ⟨vs, r1, r2⟩ := cstVs_ok (hk rfl) h4
          exact ⟨.ref a, rfl, .tup ⟨.inr ⟨o, its, n, e, eq_of_beq h1, e2, Nat.le_trans (of_decide_eq_true h3) (by decide +kernel), r1⟩, fun z => by rw [hk rfl] at z; cases z⟩ r2⟩
        · cases h2
      · cases h
    · cases h
  | .lst _, _, _, h | .ref _, _, _, h | .scr _, _, _, h | .exc _ _, _, _, h => by simp [cstV] at h
theorem cstVs_ok {K : PySem.W.Frag} {CA : CAT} (hk : CA.kt = true) : ∀ {ds : List D} {us : List Value}, cstVs K ds us = true → ∃ vs, Vals vs us ∧ VRs K CA (fun _ => none) vs ds
  | [], us, h => by
    have : us = [] := List.isEmpty_iff.mp h
    subst this
    exact ⟨[], .nil, .nil⟩
  | d :: ds, us, h => by
    unfold cstVs at h
    split at h
    · obtain ⟨h1, h2⟩ := Bool.and_eq_true_iff.mp h
      obtain ⟨v, r1, r2⟩ := cstV_ok (fun _ => hk) h1
      obtain ⟨vs, r3, r4⟩ := cstVs_ok hk h2
      exact ⟨v :: vs, .cons r1 r3, .cons r2 r4⟩
    · cases h
end
def cstB (K : PySem.W.Frag) (cs : List (Str × D)) : Bool := cs.all fun (x, d) => match PySem.W.nsIn K mainGlobals x with | some (some u) => cstV K d u | _ => false
theorem look_mem {cs : List (Str × D)} {x : Str} {d : D} (h : cs.lookup x = some d) : (x, d) ∈ cs := by
  induction cs with
  | nil => cases h
  | cons p r ih =>
    obtain ⟨k, c⟩ := p
    rw [List.lookup_cons] at h
    split at h
    · rename_i q
      cases h
      rw [eq_of_beq q]
      exact List.mem_cons_self
    · exact List.mem_cons_of_mem _ (ih h)
theorem cst_of {K : PySem.W.Frag} {CA : CAT} {h : Heap} {mg : Str → Option Value} {cs : List (Str × D)} (hk : CA.kt = true ∨ (cs.all fun p => !isTup p.2) = true) (X : K.In h) (G : h.Ns mainGlobals mg) (b : cstB K cs = true) (x : Str) (d : D) (e : cs.lookup x = some d) : ∃ u v, mg x = some u ∧ RelV v u ∧ VR K CA (fun _ => none) v d := by
  have z := (List.all_eq_true.mp b) _ (look_mem e)
  dsimp only at z
  split at z
  · rename_i u q
    obtain ⟨v, r1, r2⟩ := cstV_ok (fun t => hk.elim id fun hk => by have := (List.all_eq_true.mp hk) _ (look_mem e); rw [t] at this; cases this) z
    exact ⟨u, v, PySem.W.mg_of X G q, r1, r2⟩
  · cases z
theorem look_nat {β : Type} {as : List (Nat × β)} {i : Nat} {C : β} (h : as.lookup i = some C) : (i, C) ∈ as := mem_look h
def oexB (K : PySem.W.Frag) (C : Addr) : Bool := (match K.lookup C with
  | some ⟨.type "type", _, .cls cd, sl⟩ => (match cd.mro, sl.toList with
    | .ref C' :: bm, [_, _, _, _, some (.builtin n), _] => C' == C && (n == "ValueError.__new__" && (!cd.hasDel && (cd.hasDict && PySem.HandSPX.refsVE bm)))
    | _, _ => false)
  | _ => false) && ((PySem.W.findIn K (.ref C) "__setattr__" == some (some (.builtin "object.__setattr__"))) && ((PySem.W.subIn K (.ref C) (.type "BaseException") == some true) && ((PySem.W.typeIn K (.ref C) == some (.type "type")) && PySem.W.keepIn K (.ref C))))
theorem oexB_ok {K : PySem.W.Frag} {C : Addr} (h : oexB K C = true) : OexC K C := by
  unfold oexB at h
  obtain ⟨h1, h⟩ := Bool.and_eq_true_iff.mp h
  obtain ⟨h2, h⟩ := Bool.and_eq_true_iff.mp h
  obtain ⟨h3, h⟩ := Bool.and_eq_true_iff.mp h
  obtain ⟨h4, h5⟩ := Bool.and_eq_true_iff.mp h
  refine ⟨?_, eq_of_beq h2, eq_of_beq h3, eq_of_beq h4, h5⟩
  split at h1
  · rename_i dd cd sl ho
    split at h1
    · rename_i C' bm k0 k1 k2 k3 n k5 em es
      simp only [Bool.and_eq_true, beq_iff_eq, Bool.not_eq_true'] at h1
      obtain ⟨e1, e2, e3, e4, e5⟩ := h1
      obtain ⟨nm, bs, mro, ns, qn, hd, sn, sub, ab, col, del⟩ := cd
      dsimp only at em e3 e4
      have sl6 : sl = #[k0, k1, k2, k3, some (.builtin n), k5] := by
        obtain ⟨l⟩ := sl
        simp only at es
        rw [es]
      rw [sl6, em, e1, e2, e3, e4] at ho
      exact ⟨nm, qn, ns, bs, bm, sn, sub, ab, col, dd, k0, k1, k2, k3, k5, ho, e5⟩
    · cases h1
  · cases h1
def initOf : Stmt → Stmt
  | .ClassDef _ _ _ (s :: _) _ _ _ _ _ _ _ => s
  | s => s
theorem pe_baseinit {X : Cx} {B : Str} {C0 : Addr} {e : Expr} {es : List Expr} {ta : TA} {p1 p2 pos : Pos} {pl : Sem Bool} (hg : Gl X B) (hm : X.mg B = some (.ref C0)) (rd : PySem.W.readsIn X.K C0 (.type "type") = true) (sp : PySem.W.specialIn X.K (.ref C0) "__getattribute__" = some (some (.builtin "type.__getattribute__")))
    (fv : PySem.W.findCls X.K (.ref C0) (.type "type") "__init__" = some (.val (.builtin "ValueError.__init__"))) (ha : PA X (e :: es) ta) (hdb : (B == ("__debug__" : Str)) = false := by decide)
    (hc : eval (.Call (.Attribute (.Name B p1) "__init__" p2) (e :: es) [] pos) X.env = (do
      let ov ← eval (.Name B p1) X.env
      standAt p2.atName
      let (f, first) ← holding [ov] (getMethod ov "__init__" pl)
      callWith pos f first (backTo pos (starEach (e :: es) X.env)) (backToKw pos (keywordEach [] X.env))) := by rfl)
    (he : starEach (e :: es) X.env = (false, eval e X.env) :: starEach es X.env := by rfl) (hpl : (backTo pos (starEach es X.env)).any (·.1) = false := by rfl) :
    PE X (.Call (.Attribute (.Name B p1) "__init__" p2) (e :: es) [] pos) (tVeI X.K ta) := by
  refine ⟨fun pins s σ H Q I h => ?_⟩
  refine PySem.W.methodCall_KW (ld_glob I hg hm ?_ hdb) hc
  refine PySem.W.method_cls I.kIn sp (PySem.W.cls_value I.kIn rd fv (by decide +kernel) ?_)
  refine PyProof.Rows.callWith_method1 (thn (ha.run pos pins _ σ H _ (I.tok _) h) fun us s1 ⟨vs, H1, I1, r1, a, C, ws, ev, hl, T, ea, q⟩ => ?_) he hpl
  subst ev
  cases r1 with
  | @cons _ u0 _ ur ra rr =>
    obtain rfl : u0 = Value.ref a := ra
    refine oinit_ok T I1 ea ?_ fun s' J => ⟨.non, H1, J, rfl, q⟩
    have := Paired.length rr
    rw [sizeLine_eq]
    omega
theorem upd_swap {H : Hp} {a dx : Addr} {e1 e2 o : HO} (n : dx ≠ a) : upd (upd (upd H dx e1) a o) dx e2 = upd (upd H dx e2) a o := by
  funext b
  by_cases h : b = dx
  · rw [h, upd_same, upd_ne n, upd_same]
  · rw [upd_ne h]
    by_cases h2 : b = a
    · rw [h2, upd_same, upd_same]
    · rw [upd_ne h2, upd_ne h2, upd_ne h, upd_ne h]
def lamQ (x : Str) : Str := (envOfC x (default : Scope) 0 0 .none).qual ++ "<lambda>"
def TabAt (CA : CAT) (base : Heap) (mg : Str → Option Value) (x : Str) (fd : FuncData) : Prop := ∃ c Pt, fd.code = .ref c ∧ (Pt, lamQ x) ∈ CA.tabs ∧ (∀ p ∈ CA.tabs, p.1 = Pt → p.2 = lamQ x) ∧ LamX.TabB base mg c Pt
structure FnSt (K : PySem.W.Frag) (CA : CAT) (mg : Str → Option Value) (base : Heap) (G : Gbl) (fn : Fn) : Prop where
  ex : ∃ f fd st, mg fn.name = some (.ref f) ∧ PySem.W.keepIn K (.ref f) = true ∧ Binds K fd fn.ps [] ∧ Fun K fn.name fn.name st f fd ∧ FnScope fn.N fn.ps (defScope st) ∧ mSs G fn.N (defScope st) fn.body (defBody st) = true ∧ (G.lmN.contains fn.N = true → TabAt CA base mg fn.name fd)
section
variable {G : Gbl} {CA : CAT} {P : Program} {w : World} {K : PySem.W.Frag} {mg : Str → Option Value} {base : Heap}
theorem call_len {Fs : Nat → Option Fn} : ∀ (k i : Nat) (fn : Fn), Fs i = some fn → ∀ ds h Xd Qd, wpCall Fs k i ds h Xd Qd → ds.length = fn.ps.length
  | 0, _, _, _, _, _, _, _, w => (wpCall_zero w).elim
  | k + 1, i, fn, e, ds, h, Xd, Qd, w => by
    exact ((wpCall_succ e).mp w).1
theorem body_ok {k : Nat} {f : Addr} {fd : FuncData} {i : Nat} {fn : Fn} {st : Stmt} (e : G.fns i = some fn) (g : GOk G (wpCall G.fns k) k CA P w K mg base) (Fu : Fun K fn.name fn.name st f fd) (S : FnScope fn.N fn.ps (defScope st)) (hb : mSs G fn.N (defScope st) fn.body (defBody st) = true)
    (ht : G.lmN.contains fn.N = true → TabAt CA base mg fn.name fd) : FnOk P w K mg base (L2.CX P w) (5 * (k + 1)) f fd fn.ps (spF K CA (wpCall G.fns (k + 1)) i fn.ps.length) := by
  obtain ⟨oc, od, kV, doc, pm, an, cdv, ct, osl, efd, lk, hcd⟩ := Fu.ex
  subst efd
  show FnOk P w K mg base (L2.CX P w) ((5 * k + 4) + 1) f _ fn.ps (spF K CA (wpCall G.fns (k + 1)) i fn.ps.length)
  refine fn_of lk hcd S (fun vs H Q E h => h.1) fun A outer s H vs Q E hr h => ?_
  obtain ⟨hl, R, Z, h0, ds, Xd, Qd, s0, r0, w0, hQ, hE⟩ := h
  have w1 : ds.length = fn.ps.length ∧ wpS (wpCall G.fns k) fn.body { nx := fun _ h' => ∃ h'', Sub h'' h' ∧ Qd .non h'', rt := fun d h' => ∃ h'', Sub h'' h' ∧ Qd d h'', xx := fun x _ h' => ∃ h'', Sub h'' h' ∧ Xd x h'' } (ds.map some ++ List.replicate (fn.N.length - ds.length) none) h0 := by
    exact (wpCall_succ e).mp w0
  have o : CxS G fn.N (wpCall G.fns k) k CA (defScope st) (cxOf (L2.CX P w) P w K mg base fn.N fn.name (defScope st) f cdv A outer s H E) (fun cls d _ H => E cls d H) :=
    ⟨⟨g, rfl, S.nd, rfl, fun _ _ => rfl, hr.mono (by omega), rfl, takes_of rfl rfl rfl rfl, fun _ hc => let ⟨c, Pt, q1, q2, q3, q4⟩ := ht hc; ⟨hr, c, Pt, q1, q2, q3, q4⟩⟩, rfl, rfl, rfl, passes_of (K := fun e s'' => L2.CX P w outer H s E e s'') (E₁ := fun e' s'' => L2.CX P w outer H s E e' s'') rfl⟩
  refine ⟨_, sndSs fn.body _ _ _ o hb, R, Z, _, h0, _, ?_, w1.2, ?_⟩
  · have z := SR.of s0 r0 (fn.N.length - ds.length)
    unfold L2.start
    rw [r0.len]
    exact z
  · exact ⟨fun Z' v' h' σ' H' ex s' ⟨h'', sb, q⟩ => hQ _ _ _ _ _ ex (s'.toHR.less sb) .non q, fun _ _ _ _ _ _ _ z => z.elim, fun _ _ _ _ _ _ _ z => z.elim, fun Z' h' x d H' ex s' r ⟨h'', sb, q⟩ => hQ _ _ _ _ _ ex (s'.less sb) r q,
      fun Z' v' h' σ' H' x cls dd ex s' xr ⟨h'', sb, q⟩ => hE _ _ _ _ _ _ ex (s'.toHR.less sb) xr q⟩
theorem gok (hfn : ∀ (i : Nat) fn, G.fns i = some fn → FnSt K CA mg base G fn) (blt : ∀ x, bltL.contains x = true → mg x = none) (cls : ∀ (i : Nat) x, G.cls i = some x → ∃ C, CA i = some C ∧ mg x = some (.ref C)) (cf : ClsFacts CA K)
    (exc : ∀ (i : Nat) C, G.pl.contains i = true → CA i = some C → PySem.W.excIn K C [.type "ValueError", .type "Exception", .type "BaseException", .type "object"] "ValueError.__new__" = true)
    (cst : ∀ x d, G.csts.lookup x = some d → ∃ u v, mg x = some u ∧ RelV v u ∧ VR K CA (fun _ => none) v d)
    (flo : ∀ (i : Nat) fs C, G.fl.lookup i = some fs → CA i = some C → FldOk K P w mg base C fs) (ask : ∀ (i : Nat) fn, G.lams.contains i = true → G.fns i = some fn → AskOk K CA mg fn.name) (kt : G.kt = false → CA.kt = false) : ∀ k, GOk G (wpCall G.fns k) k CA P w K mg base
  | 0 => ⟨kt, fun i fn e => by
      obtain ⟨f, fd, st, h1, h2, h3, _⟩ := (hfn i fn e).ex
      exact ⟨f, fd, h1, h2, h3, ⟨fun vs H Q E h => h.1, fun A outer s H args us vs Q E _ _ _ _ h => by
        obtain ⟨_, R, Z, h0, ds, Xd, Qd, _, _, w0, _⟩ := h
        exact (wpCall_zero w0).elim⟩⟩, fun i fn e => call_len 0 i fn e, blt, cls, cf, exc, cst, flo, ask⟩
  | k + 1 => ⟨kt, fun i fn e => by
      obtain ⟨f, fd, st, h1, h2, h3, h4, h5, h6, h7⟩ := (hfn i fn e).ex
      exact ⟨f, fd, h1, h2, h3, body_ok e (gok hfn blt cls cf exc cst flo ask kt k) h4 h5 h6 h7⟩, fun i fn e => call_len (k + 1) i fn e, blt, cls, cf, exc, cst, flo, ask⟩
end
def tabsOf (K : PySem.W.Frag) (xs : List Str) : List (Addr × Addr) := xs.filterMap (PySem.W.tabIn K)
def tabNs (K : PySem.W.Frag) (xs : List Str) : List (Addr × Str) := xs.filterMap fun x => (PySem.W.tabIn K x).map fun p => (p.2, lamQ x)
def tabB (K : PySem.W.Frag) (xs : List Str) : Bool := (xs.all fun x => match PySem.W.tabIn K x with | some p => (K.lookup p.2).isNone | none => false) && ((tabNs K xs).all fun p => (tabNs K xs).all fun q => !(p.1 == q.1) || p.2 == q.2)
def spLaw (Fs : Nat → Option Fn) (k i : Nat) (K : PySem.W.Frag) (T : List (Addr × Str)) : Sp := fun vs H Q E => ∀ CA : CAT, CA.tabs = T → spF K CA (wpCall Fs k) i 1 vs H Q E
theorem law_sp {Fs : Nat → Option Fn} {k i : Nat} {K : PySem.W.Frag} {T : List (Addr × Str)} {H : Hp} {a : Addr} {ns : List Int} (hT : ∀ p ∈ T, H p.1 = some (.tbl #[])) (hS : SqL K H a (ns.map V.int)) (w : wpCall Fs k i [.scr (ns.map D.int)] (fun _ => none) (fun _ _ => False) (fun d _ => d = .bl true)) :
    spLaw Fs k i K T [.ref a] H (fun v _ => v = .bl true) (fun _ _ _ => False) := fun CA eT => by
  have sq : ∃ Z : Hp, (∀ b o, Z b = some o → H b = some o) ∧ (∀ b o, Z b = some o → isTbl o = false) ∧ SqL K Z a (ns.map V.int) := by
    refine ⟨fun b => match H b with | some o => (if isTbl o then none else some o) | none => none, fun b o e => ?_, fun b o e => ?_, ?_⟩
    · dsimp only at e
      split at e
      · rename_i u hu
        split at e
        · cases e
        · cases e; exact hu
      · cases e
    · dsimp only at e
      split at e
      · rename_i u hu
        split at e
        · cases e
        · rename_i z
          cases e
          exact Bool.eq_false_iff.mpr z
      · cases e
    · refine hS.imp (fun r => ?_) id
      rcases r with r | ⟨o, r⟩
      · exact .inl (by dsimp only; rw [r]; rfl)
      · exact .inr ⟨o, by dsimp only; rw [r]; rfl⟩
  obtain ⟨Z, z1, z2, z3⟩ := sq
  refine ⟨rfl, fun _ => none, Z, fun _ => none, _, _, _, ⟨z1, (fun _ _ e => by cases e), (fun _ _ e => by cases e), ?_, ?_, fun _ _ z => by cases z⟩, .cons (.scr z3 (VRs.of_ints ns)) .nil, w, fun Z' h' x d H' _ _ r e => ?_, fun _ _ _ _ _ _ _ _ _ z => z.elim⟩
  · rw [eT]
    exact fun p hp => LamX.TabS.nil (hT p hp)
  · intro b o e
    rcases e with e | e
    · exact z2 b o e
    · cases e
  · subst e
    cases r
    rfl
theorem cx_no {P : Program} {w : World} {H : Hp} {s s' : Shared} {e : Value} (h : L2.CX P w [] H s (fun _ _ _ => False) e s') : False := by
  obtain ⟨_, _, _, _, _, _, _, _, _, _, _, _, z⟩ := h
  exact z
theorem walk_tab {l : PySem.W.OpenLaw} {n k : Nat} {q : Program} {loose : List Str} {XP : (Str → Option Value) → Heap → Prop} {YP : World → Heap → Prop} {d : DefRec} {K : Params → PySem.W.Frag} {x : Str} {Fs : Nat → Option Fn} {i : Nat} (xs : List Str)
    (hn : l.most = some n) (hn2 : n ≤ sizeLine) (hdf : d.params.defaults = []) (hr : Room k callerA) (hY : ∀ (w : World) (h : Heap), YP w h → (K w.params).In h) (hrec : (xs.all fun y => ((PyProof.Rows.recsOf q).find? fun e => e.name == y).isSome) = true)
    (F : ∀ (w : World) (mg : Str → Option Value) (fa : Addr) (h : Heap), (K w.params).In h → h.Ns mainGlobals mg → mg d.name = some (.ref fa) →
      tabB (K w.params) xs = true ∧ ∃ fd : FuncData, (∀ (s : Shared) (u : Value), BindsTo s fd ⟨[u], []⟩ [(x, u)]) ∧ ∀ base : Heap, (K w.params).In base → base.Ns mainGlobals mg → (∀ p ∈ tabsOf (K w.params) xs, LamX.TabB base mg p.1 p.2) →
        FnOk l.prog w (K w.params) mg base (L2.CX l.prog w) k fa fd [x] (spLaw Fs i 999 (K w.params) (tabNs (K w.params) xs)))
    (T : ∀ ns : List Int, ns.length ≤ n → wpCall Fs i 999 [.scr (ns.map D.int)] (fun _ => none) (fun _ _ => False) (fun d _ => d = .bl true)) :
    PySem.W.WalkO q loose XP YP l.row.toRowW d [] (fun f vs => PySem.call f vs) := by
  refine Att.attach_callB hn hdf fun w s₀ s₁ mg mb fa o pm cd doc a vs ns G Y ho hd hcd hmg hobj hints hlen hbits hg => ?_
  have KX := hY w _ Y
  obtain ⟨hB, fd, hb, hF⟩ := F w mg fa _ KX G.T.g hmg
  have each : ∀ y ∈ xs, ∃ p, PySem.W.tabIn (K w.params) y = some p ∧ (K w.params).lookup p.2 = none ∧ PySem.W.CodeHd s₁.heap p.1 p.2 ∧ s₁.heap.get? p.2 = some { cls := .none, data := .fields #[] } := fun y hy => by
    have h3 := (List.all_eq_true.mp (Bool.and_eq_true_iff.mp hB).1) y hy
    obtain ⟨r, er⟩ := Option.isSome_iff_exists.mp ((List.all_eq_true.mp hrec) y hy)
    cases e : PySem.W.tabIn (K w.params) y with
    | none => rw [e] at h3; cases h3
    | some p =>
      rw [e] at h3
      obtain ⟨c, Pt⟩ := p
      obtain ⟨q1, q2⟩ := PySem.W.tab_of G.T KX er e
      exact ⟨_, rfl, Option.isNone_iff_eq_none.mp h3, q1, q2⟩
  have one : ∀ p ∈ tabsOf (K w.params) xs, (K w.params).lookup p.2 = none ∧ PySem.W.CodeHd s₁.heap p.1 p.2 ∧ s₁.heap.get? p.2 = some { cls := .none, data := .fields #[] } := fun p hp => by
    obtain ⟨y, hy, e⟩ := List.mem_filterMap.mp hp
    obtain ⟨p', e', q⟩ := each y hy
    rw [e] at e'
    cases e'
    exact q
  refine LamX.law_callTs (cs := tabsOf (K w.params) xs) KX G.T.g G.T.b G.T.builtins G.T.nolimit hg (fun p hp => (one p hp).2.2) (fun p hp => (one p hp).1) (fun p hp => (one p hp).2.1) G.T.bmain hobj hints (Nat.le_trans hlen hn2) hr hF hb (fun H hH hS => law_sp (fun p hp => ?_) hS (T ns hlen)) fun H e s' h => cx_no h
  obtain ⟨y, hy, e⟩ := List.mem_filterMap.mp hp
  obtain ⟨p', e', _⟩ := each y hy
  rw [e'] at e
  cases e
  exact hH _ (List.mem_filterMap.mpr ⟨y, hy, e'⟩)
end Ab
namespace Ab
open PySem PySem.Spec PyProof.Rows L2
def c_MOST_HOUSES : D := .int 6
def c_MOST_MARKS : D := .int 5
def c_MOST_KINDS : D := .int 6
def c_MOST_ROWS : D := .int 60
def c_MOST_TRIED : D := .int 1000000000000
def fn_is_whole : Fn := { name := "is_whole", ps := ["thing"], N := ["thing"], body :=
  (.cons (.ret (.and (.cons (.isi (.var 0) [.int]) (.cons (.not (.isi (.var 0) [.bool])) .nil))))
  .nil) }
def fn_is_count : Fn := { name := "is_count", ps := ["thing"], N := ["thing"], body :=
  (.cut (.cons (.ife (.or (.cons (.not (.isi (.var 0) [.tuple])) (.cons (.cmp .ne (.blt .len (.cons (.var 0) .nil)) (.int 2)) .nil))) (.cons (.ret (.bl false))
  .nil) .nil)
  (.cut (.cons (.ife (.or (.cons (.not (.call 7 (.cons (.ix (.var 0) (.int 0)) .nil))) (.cons (.not (.call 7 (.cons (.ix (.var 0) (.int 1)) .nil))) .nil))) (.cons (.ret (.bl false))
  .nil) .nil)
  (.cons (.ret (.cmp2 .le .le (.int 0) (.ix (.var 0) (.int 1)) (.ix (.var 0) (.int 0))))
  .nil))))) }
def fn_together : Fn := { name := "together", ps := ["counts"], N := ["counts", "count"], body :=
  (.cons (.ret (.tup (.cons (.blt .sum (.cons (.comp true [1] (.var 1) .seq (.cons (.var 0) .nil) .omit (.ix (.var 1) (.int 0))) .nil)) (.cons (.blt .sum (.cons (.comp true [1] (.var 1) .seq (.cons (.var 0) .nil) .omit (.ix (.var 1) (.int 1))) .nil)) .nil))))
  .nil) }
def fn_is_list : Fn := { name := "is_list", ps := ["thing", "most"], N := ["thing", "most"], body :=
  (.cons (.ret (.and (.cons (.isi (.var 0) [.list, .tuple]) (.cons (.cmp .le (.blt .len (.cons (.var 0) .nil)) (.var 1)) .nil))))
  .nil) }
def fn_is_below : Fn := { name := "is_below", ps := ["thing", "most"], N := ["thing", "most"], body :=
  (.cons (.ret (.and (.cons (.call 7 (.cons (.var 0) .nil)) (.cons (.cmp2 .le .lt (.int 0) (.var 0) (.var 1)) .nil))))
  .nil) }
def fn_are_marks : Fn := { name := "are_marks", ps := ["thing"], N := ["thing", "kinds"], body :=
  (.cons (.ife (.not (.call 12 (.cons (.var 0) (.cons (.cst "MOST_MARKS" c_MOST_MARKS) .nil)))) (.cons (.ret (.bl false))
  .nil) .nil)
  (.cons (.ret (.blt .all (.cons (.comp true [1] (.var 1) .seq (.cons (.var 0) .nil) .omit (.and (.cons (.call 7 (.cons (.var 1) .nil)) (.cons (.cmp2 .le .le (.int 1) (.var 1) (.cst "MOST_KINDS" c_MOST_KINDS)) .nil)))) .nil)))
  .nil)) }
def fn_are_kinds : Fn := { name := "are_kinds", ps := ["marks", "thing"], N := ["marks", "thing", "kind", "kinds"], body :=
  (.cut (.cons (.ife (.or (.cons (.not (.isi (.var 1) [.tuple])) (.cons (.cmp .ne (.blt .len (.cons (.var 1) .nil)) (.blt .len (.cons (.var 0) .nil))) .nil))) (.cons (.ret (.bl false))
  .nil) .nil)
  (.cons (.ret (.blt .all (.cons (.comp true [2, 3] (.tup [(.var 2), (.var 3)]) .zip (.cons (.var 1) (.cons (.var 0) .nil)) .omit (.call 13 (.cons (.var 2) (.cons (.var 3) .nil)))) .nil)))
  .nil))) }
def fn_is_row : Fn := { name := "is_row", ps := ["many", "marks", "thing"], N := ["many", "marks", "thing", "house", "kinds", "tried", "well"], body :=
  (.cut (.cons (.ife (.or (.cons (.not (.isi (.var 2) [.tuple])) (.cons (.cmp .ne (.blt .len (.cons (.var 2) .nil)) (.int 4)) .nil))) (.cons (.ret (.bl false))
  .nil) .nil)
  (.cons (.asg (.tup [(.var 3), (.var 4), (.var 5), (.var 6)]) (.var 2))
  (.cut (.cons (.ife (.or (.cons (.not (.call 13 (.cons (.var 3) (.cons (.var 0) .nil)))) (.cons (.not (.call 15 (.cons (.var 1) (.cons (.var 4) .nil)))) (.cons (.not (.call 8 (.cons (.tup (.cons (.var 5) (.cons (.var 6) .nil))) .nil))) .nil)))) (.cons (.ret (.bl false))
  .nil) .nil)
  (.cons (.ret (.cmp .le (.var 5) (.cst "MOST_TRIED" c_MOST_TRIED)))
  .nil)))))) }
def lf_rows_1025 : Fn := { name := "_law_rows", ps := ["_law_pen_here", "_law_many", "_law_marks"], N := ["_law_pen_here", "_law_many", "_law_marks", "_law_rows_here", "_law_k", "_law_kinds", "_law_tried"], body :=
  (.cons (.asg (.var 3) (.lst false .nil))
  (.cut (.cons (.for (.var 4) .rng1 (.cons (.call 900 (.cons (.var 0) (.cons (.int 10) .nil))) .nil) (.cons (.asg (.var 5) (.blt .tuple (.cons (.comp true [5] (.var 5) .seq (.cons (.var 2) .nil) .omit (.call 900 (.cons (.var 0) (.cons (.var 5) .nil)))) .nil)))
  (.cons (.asg (.var 6) (.call 900 (.cons (.var 0) (.cons (.int 9) .nil))))
  (.cons (.expr (.meth .append (.var 3) (.cons (.tup (.cons (.call 900 (.cons (.var 0) (.cons (.var 1) .nil))) (.cons (.var 5) (.cons (.var 6) (.cons (.call 900 (.cons (.var 0) (.cons (.bin .add (.var 6) (.int 1)) .nil))) .nil))))) .nil)))
  .nil))))
  (.cons (.ret (.frz (.var 3)))
  .nil)))) }
def fn_book_by_1428 : Fn := { name := "book_by", ps := ["many", "marks", "found"], N := ["many", "marks", "found", "cells", "kinds"], body :=
  (.cons (.asg (.var 3) (.lst false .nil))
  (.cut (.cons (.for (.var 4) .seq (.cons (.dop (.srt true) (.var 2) .omit .omit) .nil) (.cons (.ife (.cmp .gt (.ix (.call 9 (.cons (.dop .get (.var 2) (.var 4) .omit) .nil)) (.int 0)) (.int 0)) (.cons (.expr (.meth .append (.var 3) (.cons (.tup (.cons (.var 4) (.cons (.blt .tuple (.cons (.dop .get (.var 2) (.var 4) .omit) .nil)) .nil))) .nil)))
  .nil) .nil)
  .nil))
  (.cons (.ret (.tup (.cons (.var 0) (.cons (.blt .tuple (.cons (.var 1) .nil)) (.cons (.blt .tuple (.cons (.var 3) .nil)) .nil)))))
  .nil)))) }
def fn_put_to_1455 : Fn := { name := "put_to", ps := ["found", "many", "kinds", "house", "count"], N := ["found", "many", "kinds", "house", "count"], body :=
  (.cut (.cons (.ife (.dop .notin (.var 0) (.var 2) .omit) (.cons (.dput (.var 0) (.var 2) (.bin .mulN (.lst true (.cons (.tup (.cons (.int 0) (.cons (.int 0) .nil))) .nil)) (.var 1)))
  .nil) .nil)
  (.cons (.sub (.dop .get (.var 0) (.var 2) .omit) (.var 3) (.call 9 (.cons (.lst true (.cons (.ix (.dop .get (.var 0) (.var 2) .omit) (.var 3)) (.cons (.var 4) .nil))) .nil)))
  .nil))) }
def fn_book_of_1456 : Fn := { name := "book_of", ps := ["many", "marks", "rows"], N := ["many", "marks", "rows", "found", "row", "house", "kinds", "tried", "well"], body :=
  (.cut (.cons (.ife (.or (.cons (.not (.call 7 (.cons (.var 0) .nil))) (.cons (.not (.cmp2 .le .le (.int 2) (.var 0) (.cst "MOST_HOUSES" c_MOST_HOUSES))) (.cons (.not (.call 14 (.cons (.var 1) .nil))) (.cons (.not (.call 12 (.cons (.var 2) (.cons (.cst "MOST_ROWS" c_MOST_ROWS) .nil)))) .nil))))) (.cons (.rse 2 [] .nil)
  .nil) .nil)
  (.cons (.asg (.var 3) .dict0)
  (.cut (.cons (.for (.var 4) .seq (.cons (.var 2) .nil) (.cons (.ife (.not (.call 16 (.cons (.var 0) (.cons (.var 1) (.cons (.var 4) .nil))))) (.cons (.rse 2 [] .nil)
  .nil) .nil)
  (.cons (.asg (.tup [(.var 5), (.var 6), (.var 7), (.var 8)]) (.var 4))
  (.cons (.expr (.call 1455 (.cons (.var 3) (.cons (.var 0) (.cons (.var 6) (.cons (.var 5) (.cons (.tup (.cons (.var 7) (.cons (.var 8) .nil))) .nil)))))))
  .nil))))
  (.cons (.ret (.call 1428 (.cons (.var 0) (.cons (.var 1) (.cons (.var 3) .nil)))))
  .nil)))))) }
def lf_refused_1457 : Fn := { name := "_law_refused", ps := ["_law_parts"], N := ["_law_parts", "_law_caught", "error"], body :=
  (.cons (.asg (.var 1) .non)
  (.cut (.cons (.try_ (.cons (.expr (.call 1456 (.cons (.ix (.var 0) (.int 0)) (.cons (.ix (.var 0) (.int 1)) (.cons (.ix (.var 0) (.int 2)) .nil)))))
  .nil) (.hnd 0 (some 2) (.cons (.asg (.var 1) (.var 2))
  .nil) .hnil))
  (.cut (.cons (.ife (.or (.cons (.not (.isi (.var 1) [.own 2])) (.cons (.not (.isi (.var 1) [.verr])) .nil))) (.cons (.ret (.bl false))
  .nil) .nil)
  (.cons (.ife (.isi (.var 1) [.own 13, .own 4, .own 8, .own 3, .own 12, .own 1]) (.cons (.ret (.bl false))
  .nil) .nil)
  (.cons (.ret (.not (.isi (.var 1) [.own 11, .own 5, .own 6, .own 10, .own 7, .own 9])))
  .nil))))))) }
def lf_bad_row_1516 : Fn := { name := "_law_bad_row", ps := ["_law_pen_here", "_law_many", "_law_marks"], N := ["_law_pen_here", "_law_many", "_law_marks", "_law_good", "_law_some", "_law_at", "_law_odd", "_law_kinds"], body :=
  (.cons (.asg (.var 3) (.blt .tuple (.cons (.comp true [7] (.var 7) .seq (.cons (.var 2) .nil) .omit (.int 0)) .nil)))
  (.cons (.asg (.var 4) (.lst false (.cons (.tup (.cons (.var 1) (.cons (.var 3) (.cons (.int 1) (.cons (.int 1) .nil))))) (.cons (.tup (.cons (.neg (.int 1)) (.cons (.var 3) (.cons (.int 1) (.cons (.int 1) .nil))))) (.cons (.tup (.cons (.bl true) (.cons (.var 3) (.cons (.int 1) (.cons (.int 1) .nil))))) (.cons (.tup (.cons .non (.cons (.var 3) (.cons (.int 1) (.cons (.int 1) .nil))))) (.cons (.tup (.cons (.int 0) (.cons (.bin .add (.var 3) (.tup (.cons (.int 0) .nil))) (.cons (.int 1) (.cons (.int 1) .nil))))) .nil)))))))
  (.cons (.asg (.var 4) (.bin .add (.var 4) (.lst true (.cons (.tup (.cons (.int 0) (.cons (.blt .listF (.cons (.var 3) .nil)) (.cons (.int 1) (.cons (.int 1) .nil))))) (.cons (.tup (.cons (.int 0) (.cons .non (.cons (.int 1) (.cons (.int 1) .nil))))) (.cons (.tup (.cons (.int 0) (.cons (.var 3) (.cons (.bin .add (.bin .pow (.int 10) (.int 12)) (.int 1)) (.cons (.int 1) .nil))))) (.cons (.tup (.cons (.int 0) (.cons (.var 3) (.cons (.int 1) (.cons (.int 2) .nil))))) .nil)))))))
  (.cons (.asg (.var 4) (.bin .add (.var 4) (.lst true (.cons (.tup (.cons (.int 0) (.cons (.var 3) (.cons (.int 1) (.cons (.neg (.int 1)) .nil))))) (.cons (.tup (.cons (.int 0) (.cons (.var 3) (.cons (.bl true) (.cons (.int 0) .nil))))) (.cons (.tup (.cons (.int 0) (.cons (.var 3) (.cons (.int 1) (.cons (.bl true) .nil))))) (.cons (.tup (.cons (.int 0) (.cons (.var 3) (.cons .non (.cons (.int 0) .nil))))) (.cons (.tup (.cons (.int 0) (.cons (.var 3) (.cons (.str "1") (.cons (.int 0) .nil))))) .nil))))))))
  (.cons (.asg (.var 4) (.bin .add (.var 4) (.lst true (.cons (.lst true (.cons (.int 0) (.cons (.var 3) (.cons (.int 1) (.cons (.int 1) .nil))))) .nil))))
  (.cons (.asg (.var 4) (.bin .addN (.var 4) (.lst true (.cons (.tup (.cons (.int 0) (.cons (.var 3) (.cons (.int 1) .nil)))) (.cons (.tup (.cons (.int 0) (.cons (.var 3) (.cons (.int 1) (.cons (.int 1) (.cons (.int 1) .nil)))))) (.cons (.tup .nil) (.cons .non (.cons (.int 7) (.cons (.str "row") (.cons (.tup (.cons (.int 0) (.cons (.var 3) (.cons (.neg (.int 1)) (.cons (.neg (.int 1)) .nil))))) (.cons (.tup (.cons (.bin .pow (.int 10) (.int 29)) (.cons (.var 3) (.cons (.int 1) (.cons (.int 1) .nil))))) .nil)))))))))))
  (.cut (.cons (.ife (.cmp .gt (.blt .len (.cons (.var 2) .nil)) (.int 0)) (.cons (.asg (.var 5) (.call 900 (.cons (.var 0) (.cons (.blt .len (.cons (.var 2) .nil)) .nil))))
  (.cut (.cons (.for (.var 6) .seq (.cons (.lst true (.cons (.ix (.var 2) (.var 5)) (.cons (.neg (.int 1)) (.cons (.bl false) (.cons .non (.cons (.str "0") (.cons (.tup (.cons (.int 0) .nil)) (.cons (.bin .pow (.int 10) (.int 29)) .nil)))))))) .nil) (.cons (.expr (.meth .append (.var 4) (.cons (.tup (.cons (.int 0) (.cons (.bin .add (.bin .add (.sl true .hi (.var 3) .omit (.var 5)) (.tup (.cons (.var 6) .nil))) (.sl true .lo (.var 3) (.bin .add (.var 5) (.int 1)) .omit)) (.cons (.int 1) (.cons (.int 1) .nil))))) .nil)))
  .nil))
  (.cons (.expr (.meth .append (.var 4) (.cons (.tup (.cons (.int 0) (.cons (.sl true .hi (.var 3) .omit (.neg (.int 1))) (.cons (.int 1) (.cons (.int 1) .nil))))) .nil)))
  .nil)))) .nil)
  (.cons (.ret (.ix (.var 4) (.call 900 (.cons (.var 0) (.cons (.blt .len (.cons (.var 4) .nil)) .nil)))))
  .nil))))))))) }
def lf_spoilt_1517 : Fn := { name := "_law_spoilt", ps := ["_law_pen_here", "_law_parts"], N := ["_law_pen_here", "_law_parts", "_law_way", "_law_at", "_law_many", "_law_marks", "_law_rows_here", "_law_some", "_law_odd", "_law_good", "_law_k", "_law_kinds"], body :=
  (.cons (.asg (.tup [(.var 4), (.var 5), (.var 6)]) (.var 1))
  (.cons (.asg (.var 2) (.call 900 (.cons (.var 0) (.cons (.int 6) .nil))))
  (.cons (.ife (.cmp .eq (.var 2) (.int 0)) (.cons (.asg (.var 7) (.lst true (.cons (.int 1) (.cons (.int 7) (.cons (.int 0) (.cons (.neg (.int 3)) (.cons (.bin .pow (.int 10) (.int 29)) (.cons (.bl true) (.cons .non (.cons (.str "2") (.cons (.tup (.cons (.int 2) .nil)) .nil)))))))))))
  (.cons (.ret (.lst true (.cons (.ix (.var 7) (.call 900 (.cons (.var 0) (.cons (.int 9) .nil)))) (.cons (.var 5) (.cons (.var 6) .nil)))))
  .nil)) .nil)
  (.cons (.ife (.cmp .eq (.var 2) (.int 1)) (.cons (.asg (.var 8) (.ix (.lst true (.cons (.int 0) (.cons (.int 7) (.cons (.neg (.int 1)) (.cons (.bl true) (.cons .non (.cons (.lst true (.cons (.int 2) .nil)) (.cons (.str "2") (.cons (.bin .pow (.int 10) (.int 29)) .nil))))))))) (.call 900 (.cons (.var 0) (.cons (.int 8) .nil)))))
  (.cons (.asg (.var 3) (.call 900 (.cons (.var 0) (.cons (.bin .add (.blt .len (.cons (.var 5) .nil)) (.int 1)) .nil))))
  (.cons (.ret (.lst true (.cons (.var 4) (.cons (.bin .add (.bin .add (.sl true .hi (.var 5) .omit (.var 3)) (.lst true (.cons (.var 8) .nil))) (.sl true .lo (.var 5) (.bin .add (.var 3) (.int 1)) .omit)) (.cons (.var 6) .nil)))))
  .nil))) .nil)
  (.cons (.ife (.cmp .eq (.var 2) (.int 2)) (.cons (.asg (.var 7) (.lst true (.cons (.lst true (.cons (.int 1) (.cons (.int 1) (.cons (.int 1) (.cons (.int 1) (.cons (.int 1) (.cons (.int 1) .nil))))))) (.cons .non (.cons (.int 3) (.cons (.bl true) (.cons (.str "12") (.cons .dict0 .nil))))))))
  (.cons (.ret (.lst true (.cons (.var 4) (.cons (.ix (.var 7) (.call 900 (.cons (.var 0) (.cons (.int 6) .nil)))) (.cons (.var 6) .nil)))))
  .nil)) .nil)
  (.cons (.ife (.cmp .eq (.var 2) (.int 3)) (.cons (.asg (.var 9) (.tup (.cons (.int 0) (.cons (.blt .tuple (.cons (.comp true [11] (.var 11) .seq (.cons (.var 5) .nil) .omit (.int 0)) .nil)) (.cons (.int 1) (.cons (.int 1) .nil))))))
  (.cons (.asg (.var 7) (.lst true (.cons (.comp true [10] (.var 10) .rng1 (.cons (.int 61) .nil) .omit (.var 9)) (.cons .non (.cons (.int 5) (.cons (.bl false) (.cons (.str "rows") (.cons .dict0 .nil))))))))
  (.cons (.ret (.lst true (.cons (.var 4) (.cons (.var 5) (.cons (.ix (.var 7) (.call 900 (.cons (.var 0) (.cons (.int 6) .nil)))) .nil)))))
  .nil))) .nil)
  (.cons (.asg (.var 3) (.call 900 (.cons (.var 0) (.cons (.bin .add (.blt .len (.cons (.var 6) .nil)) (.int 1)) .nil))))
  (.cons (.ret (.lst true (.cons (.var 4) (.cons (.var 5) (.cons (.bin .add (.bin .add (.sl true .hi (.var 6) .omit (.var 3)) (.lst true (.cons (.call 1516 (.cons (.var 0) (.cons (.var 4) (.cons (.var 5) .nil)))) .nil))) (.sl true .lo (.var 6) (.bin .add (.var 3) (.call 900 (.cons (.var 0) (.cons (.int 2) .nil)))) .omit)) .nil)))))
  .nil)))))))) }
end Ab
namespace Ab
open PySem PySem.Spec PyProof.Rows L2
section
variable {h : AH} {Q Q' : PQ}
theorem seqW_m {d : D} {K K' : List D → Prop} (m : ∀ l, K l → K' l) (w : seqW d h K) : seqW d h K' := by
  cases d with
  | tup ds => exact m _ w
  | lst ds => exact m _ w
  | scr ds => exact m _ w
  | ref a =>
    obtain ⟨ds, e, w⟩ := (show ∃ ds, h a = some (.lst ds) ∧ K ds from w)
    exact ⟨ds, e, m _ w⟩
  | _ => exact (show False from w).elim
theorem lstW_m {d : D} {K K' : List D → Prop} (m : ∀ l, K l → K' l) (w : lstW d h K) : lstW d h K' := by
  cases d with
  | lst ds => exact m _ w
  | scr ds => exact m _ w
  | ref a =>
    obtain ⟨ds, e, w⟩ := (show ∃ ds, h a = some (.lst ds) ∧ K ds from w)
    exact ⟨ds, e, m _ w⟩
  | _ => exact (show False from w).elim
theorem lnew_m {f : Bool} {ds : List D} (m : ∀ d h, Q d h → Q' d h) (w : lnew f ds h Q) : lnew f ds h Q' := by
  obtain ⟨l, w⟩ := w
  refine ⟨l, ?_⟩
  cases f with
  | true => exact m _ _ w
  | false => exact fun p hp => m _ _ (w p hp)
theorem binW_m {o : BO} {x y : D} (m : ∀ d h, Q d h → Q' d h) (w : binW o x y h Q) : binW o x y h Q' := by
  unfold binW at w ⊢
  split at w
  · exact m _ _ w
  · exact ⟨w.1, m _ _ w.2⟩
  · exact ⟨w.1, m _ _ w.2⟩
  · obtain ⟨ds, es, a, b, c, q⟩ := w
    exact ⟨ds, es, a, b, c, m _ _ q⟩
  · obtain ⟨ds, a, c, q⟩ := w
    exact ⟨ds, a, c, m _ _ q⟩
  · obtain ⟨ds, a, c, q⟩ := w
    exact ⟨ds, a, c, m _ _ q⟩
  · exact ⟨w.1, m _ _ w.2⟩
  · exact ⟨w.1, m _ _ w.2⟩
  · exact ⟨w.1, m _ _ w.2⟩
  · exact m _ _ w
  · exact ⟨w.1, m _ _ w.2⟩
  · exact ⟨w.1, m _ _ w.2⟩
  · exact ⟨w.1, m _ _ w.2⟩
  · exact ⟨w.1, m _ _ w.2⟩
  · exact ⟨w.1, fun p hp => m _ _ (w.2 p hp)⟩
  · exact ⟨w.1, m _ _ w.2⟩
  · exact ⟨w.1, fun p hp => m _ _ (w.2 p hp)⟩
  · exact w
theorem dgetW_m {x y : D} {K K' : Option D → Prop} (m : ∀ o, K o → K' o) (w : dgetW x y h K) : dgetW x y h K' := by
  unfold dgetW at w ⊢
  split at w
  · obtain ⟨ks, ns, a, b, q⟩ := w; exact ⟨ks, ns, a, b, m _ q⟩
  · exact w
theorem dsrtW_m {f : Bool} {x : D} (m : ∀ d h, Q d h → Q' d h) (w : dsrtW f x h Q) : dsrtW f x h Q' := by
  unfold dsrtW at w ⊢
  split at w
  · obtain ⟨ks, n, B, a, b, c, d, q⟩ := w; exact ⟨ks, n, B, a, b, c, d, fun ys p s => lnew_m m (q ys p s)⟩
  · exact w
theorem dputW_m {x y d : D} {K K' : AH → Prop} (m : ∀ h, K h → K' h) (w : dputW x y d h K) : dputW x y d h K' := by
  unfold dputW at w ⊢
  split at w
  · obtain ⟨ks, ns, a, b, c, q⟩ := w; exact ⟨ks, ns, a, b, c, m _ q⟩
  · exact w
theorem eqW_m {x y : D} {K K' : Bool → Prop} (m : ∀ b, K b → K' b) (w : eqW x y h K) : eqW x y h K' := by
  unfold eqW at w ⊢
  split at w
  · exact m _ w
  · obtain ⟨x', y', a, b, c, d, w⟩ := w; exact ⟨x', y', a, b, c, d, m _ w⟩
theorem ii_m {x y : D} {K K' : Int → Int → Prop} (m : ∀ a b, K a b → K' a b) (w : ii x y K) : ii x y K' := by
  unfold ii at w ⊢
  split at w
  · exact m _ _ w
  · exact w
theorem cmpW_m {o : CO} {x y : D} {K K' : Bool → Prop} (m : ∀ b, K b → K' b) (w : cmpW o x y h K) : cmpW o x y h K' := by
  cases o with
  | lt | le | gt | ge => exact ii_m (fun a b => m _) w
  | eq => exact eqW_m m w
  | ne => exact eqW_m (fun b => m _) w
  | is =>
    unfold cmpW at w ⊢
    cases y with
    | non => exact m _ w
    | bl b => cases x with
      | bl a => exact m _ w
      | _ => exact w
    | _ => exact w
  | isnot =>
    unfold cmpW at w ⊢
    cases y with
    | non => exact m _ w
    | bl b => cases x with
      | bl a => exact m _ w
      | _ => exact w
    | _ => exact w
  | isin => exact seqW_m (fun l ⟨v, vs, a, b, q⟩ => ⟨v, vs, a, b, m _ q⟩) w
  | notin => exact seqW_m (fun l ⟨v, vs, a, b, q⟩ => ⟨v, vs, a, b, m _ q⟩) w
  | isinD => obtain ⟨x', ys, a, b, c, d, q⟩ := w; exact ⟨x', ys, a, b, c, d, m _ q⟩
  | notinD => obtain ⟨x', ys, a, b, c, d, q⟩ := w; exact ⟨x', ys, a, b, c, d, m _ q⟩
theorem ixW_m {x y : D} (m : ∀ d h, Q d h → Q' d h) (w : ixW x y h Q) : ixW x y h Q' := by
  unfold ixW at w ⊢
  split at w
  · exact seqW_m (fun l ⟨d, e, q⟩ => ⟨d, e, m _ _ q⟩) w
  · exact w
theorem slW_m {f : Bool} {x : D} {lo hi : Option Int} (m : ∀ d h, Q d h → Q' d h) (w : slW f x lo hi h Q) : slW f x lo hi h Q' := by
  unfold slW at w ⊢
  split at w
  · exact m _ _ w
  · exact lnew_m m w
  · obtain ⟨ds, e, w⟩ := w; exact ⟨ds, e, lnew_m m w⟩
  · exact w
theorem bltW_m {b : BI} {xs : List D} (m : ∀ d h, Q d h → Q' d h) (w : bltW b xs h Q) : bltW b xs h Q' := by
  unfold bltW at w ⊢
  split at w
  · split at w
    · exact ⟨w.1, m _ _ w.2⟩
    · exact seqW_m (fun _ => m _ _) w
  · exact m _ _ w
  · exact m _ _ w
  · exact m _ _ w
  · exact seqW_m (fun l ⟨ns, e, q⟩ => ⟨ns, e, m _ _ q⟩) w
  · exact lstW_m (fun l ⟨ns, e, z, q⟩ => ⟨ns, e, z, fun a b c => m _ _ (q a b c)⟩) w
  · exact m _ _ w
  · exact m _ _ w
  · exact m _ _ w
  · exact seqW_m (fun _ => m _ _) w
  · exact seqW_m (fun _ => lnew_m m) w
  · exact seqW_m (fun _ => lnew_m m) w
  · exact lstW_m (fun l ⟨ns, e, q⟩ => ⟨ns, e, m _ _ q⟩) w
  · exact lstW_m (fun l ⟨ns, e, q⟩ => ⟨ns, e, m _ _ q⟩) w
  · exact lstW_m (fun l ⟨ns, e, hn, q⟩ => ⟨ns, e, hn, fun ns' a b => lnew_m m (q ns' a b)⟩) w
  · exact lstW_m (fun l ⟨ns, e, hn, q⟩ => ⟨ns, e, hn, fun ns' a b => lnew_m m (q ns' a b)⟩) w
  · exact w
theorem methW_m {o : MI} {x : D} {xs : List D} (m : ∀ d h, Q d h → Q' d h) (w : methW o x xs h Q) : methW o x xs h Q' := by
  unfold methW at w ⊢
  split at w
  · obtain ⟨ds, e, l, w⟩ := w; exact ⟨ds, e, l, m _ _ w⟩
  · obtain ⟨ds, e, l, w⟩ := w; exact ⟨ds, e, l, m _ _ w⟩
  · obtain ⟨ds, es, e, e2, l, w⟩ := w; exact ⟨ds, es, e, e2, l, m _ _ w⟩
  · obtain ⟨ds, e, k, d, a, b, c, w⟩ := w; exact ⟨ds, e, k, d, a, b, c, m _ _ w⟩
  · obtain ⟨ds, e, l, b, w⟩ := w; exact ⟨ds, e, l, b, m _ _ w⟩
  · exact lstW_m (fun l ⟨x', d', j, z, a, b, c, d, e, f, g, q⟩ => ⟨x', d', j, z, a, b, c, d, e, f, g, m _ _ q⟩) w
  · exact lstW_m (fun l ⟨e, q⟩ => ⟨e, m _ _ q⟩) w
  · exact lstW_m (fun l ⟨e, q⟩ => ⟨e, m _ _ q⟩) w
  · obtain ⟨ns, e, j, a, b, w⟩ := w; exact ⟨ns, e, j, a, b, m _ _ w⟩
  · exact w
theorem meth0W_m {o : M0} {x : D} (m : ∀ d h, Q d h → Q' d h) (w : meth0W o x h Q) : meth0W o x h Q' := by
  cases x with
  | ref a =>
    obtain ⟨ds, e, w⟩ := w
    refine ⟨ds, e, ?_⟩
    cases o with
    | pop => obtain ⟨d, f, w⟩ := w; exact ⟨d, f, m _ _ w⟩
    | reverse => exact m _ _ w
    | clear => exact m _ _ w
  | _ => exact (show False from w).elim
theorem recvW_m {o : MI} {x : D} {A B : Prop} (m : A → B) (w : recvW o x h A) : recvW o x h B := by
  cases x with
  | ref a =>
    obtain ⟨w1, w2⟩ := (show (∃ ds, h a = some (.lst ds)) ∧ A from w)
    exact ⟨w1, m w2⟩
  | lst ds => exact m w
  | _ => exact (show False from w).elim
theorem enmW_m {d : D} {K K' : Src → List D → Prop} (m : ∀ s l, K s l → K' s l) (w : enmW d h K) : enmW d h K' := by
  unfold enmW at w ⊢
  split at w
  · exact m _ _ w
  · exact m _ _ w
  · obtain ⟨ds, e, w⟩ := w; exact ⟨ds, e, m _ _ w⟩
  · exact w
theorem revW_m {f : Bool} {d : D} (m : ∀ d h, Q d h → Q' d h) (w : revW f d h Q) : revW f d h Q' := by
  unfold revW at w ⊢
  split at w
  · exact m _ _ w
  · exact lnew_m m w
  · obtain ⟨ds, e, w⟩ := w; exact ⟨ds, e, lnew_m m w⟩
  · exact w
theorem rngW_m {t f : Bool} {k : IK} {ds : List D} (m : ∀ d h, Q d h → Q' d h) (w : rngW t f k ds h Q) : rngW t f k ds h Q' := by
  have key : ∀ {xs : List D}, rngT t f xs h Q → rngT t f xs h Q' := fun w => by
    cases t with
    | true => exact m _ _ w
    | false => exact lnew_m m w
  unfold rngW at w ⊢
  split at w
  · exact ⟨w.1, key w.2⟩
  · exact ⟨w.1, key w.2⟩
  · exact w
theorem itW_m {k : IK} {xs : List D} {K K' : Src → List D → Prop} (m : ∀ s l, K s l → K' s l) (w : itW k xs h K) : itW k xs h K' := by
  unfold itW at w ⊢
  split at w
  · split at w
    · exact m _ _ w
    · exact seqW_m (fun _ => m _ _) w
  · exact ⟨w.1, m _ _ w.2⟩
  · exact ⟨w.1, m _ _ w.2⟩
  · exact ⟨w.1, m _ _ w.2⟩
  · exact enmW_m m w
  · exact m _ _ w
  · exact m _ _ w
  · exact m _ _ w
  · obtain ⟨es, e, w⟩ := w; exact ⟨es, e, m _ _ w⟩
  · exact m _ _ w
  · exact m _ _ w
  · exact w
theorem still_m {s : Src} {A B : Prop} (m : A → B) (w : still s h A) : still s h B := by
  cases s with
  | none => exact m w
  | some x => exact ⟨w.1, m w.2⟩
theorem blW_m {d : D} {K K' : Bool → Prop} (m : ∀ b, K b → K' b) (w : blW d K) : blW d K' := by
  unfold blW at w ⊢
  split at w
  · exact m _ w
  · exact w
theorem intI_m {d : D} {K K' : Int → Prop} (m : ∀ b, K b → K' b) (w : intI d K) : intI d K' := by
  unfold intI at w ⊢
  split at w
  · exact m _ w
  · exact w
theorem cpW_m {f : Bool} {rs : List D} (m : ∀ d h, Q d h → Q' d h) (w : cpW f rs h Q) : cpW f rs h Q' := by
  cases f with
  | true => exact m _ _ w
  | false => exact fun p hp => m _ _ (w p hp)
theorem setW_m {o i d : D} {K K' : AH → Prop} (m : ∀ h, K h → K' h) (w : setW o i d h K) : setW o i d h K' := by
  unfold setW at w ⊢
  split at w
  · obtain ⟨ds, e, j, f, w⟩ := w; exact ⟨ds, e, j, f, m _ w⟩
  · exact w
end
mutual
theorem tgW_m : ∀ (t : Tg) {d : D} {v : Env'} {h : AH} {K K' : Env' → Prop}, (∀ v, K v → K' v) → tgW t d v h K → tgW t d v h K'
  | .var i, _, _, _, _, _, m, w => m _ w
  | .tup ts, _, _, _, _, _, m, w => seqW_m (fun l w => tgsW_m ts m w) w
theorem tgsW_m : ∀ (ts : List Tg) {ds : List D} {v : Env'} {h : AH} {K K' : Env' → Prop}, (∀ v, K v → K' v) → tgsW ts ds v h K → tgsW ts ds v h K'
  | [], [], _, _, _, _, m, w => m _ w
  | t :: ts, d :: ds, _, _, _, _, m, w => tgW_m t (fun v w => tgsW_m ts m w) w
  | [], _ :: _, _, _, _, _, _, w => w
  | _ :: _, [], _, _, _, _, _, w => w
end
theorem compW_m {s : Src} {T : D → AH → PV → Prop} {C : Env' → AH → (Bool → AH → Prop) → Prop} {R : Env' → AH → PQ → Prop} (mT : ∀ x h K K', (∀ v h, K v h → K' v h) → T x h K → T x h K') (mC : ∀ v h K K', (∀ b h, K b h → K' b h) → C v h K → C v h K')
    (mR : ∀ v h Q Q', (∀ d h, Q d h → Q' d h) → R v h Q → R v h Q') {K K' : List D → AH → Prop} (m : ∀ l h, K l h → K' l h) : ∀ {xs acc : List D} {h : AH}, compW s T C R xs acc h K → compW s T C R xs acc h K'
  | [], _, _, w => still_m (m _ _) w
  | _ :: _, _, _, w => still_m (mT _ _ _ _ fun v h => mC _ _ _ _ fun c h ⟨a, b⟩ => ⟨fun e => mR _ _ _ _ (fun d h ⟨l, w⟩ => ⟨l, compW_m mT mC mR m w⟩) (a e), fun e => compW_m mT mC mR m (b e)⟩) w
theorem forW_m {s : Src} {T : D → Env' → AH → PV → Prop} {B B' : PV → Env' → AH → Prop} {fin fin' : PV} (mT : ∀ x v h K K', (∀ v h, K v h → K' v h) → T x v h K → T x v h K') (mB : ∀ K K' v h, (∀ v h, K v h → K' v h) → B K v h → B' K' v h) (m : ∀ v h, fin v h → fin' v h) :
    ∀ {xs : List D} {v : Env'} {h : AH}, forW s T B fin xs v h → forW s T B' fin' xs v h
  | [], _, _, w => still_m (m _ _) w
  | _ :: _, _, _, w => still_m (mT _ _ _ _ _ fun v h => mB _ _ _ _ fun v h w => forW_m mT mB m w) w
def MonF (F : FT) : Prop := ∀ f ds h X X' Q Q', (∀ x h, X x h → X' x h) → (∀ d h, Q d h → Q' d h) → F f ds h X Q → F f ds h X' Q'
section
variable {F : FT} (hF : MonF F)
include hF
mutual
theorem wpE_m : ∀ (e : E) {v : Env'} {h : AH} {X X' : PX} {Q Q' : PQ}, (∀ x h, X x h → X' x h) → (∀ d h, Q d h → Q' d h) → wpE F e v h X Q → wpE F e v h X' Q'
  | .var i, v, h, X, X', Q, Q', mX, m, w => by
    unfold wpE at w ⊢
    split at w
    · exact m _ _ w
    · exact w
  | .omit, v, h, X, X', Q, Q', mX, m, w => m _ _ w
  | .dict0, v, h, X, X', Q, Q', mX, m, w => fun p hp => m _ _ (w p hp)
  | .int n, v, h, X, X', Q, Q', mX, m, w => m _ _ w
  | .bl n, v, h, X, X', Q, Q', mX, m, w => m _ _ w
  | .non, v, h, X, X', Q, Q', mX, m, w => m _ _ w
  | .str n, v, h, X, X', Q, Q', mX, m, w => m _ _ w
  | .cst _ _, v, h, X, X', Q, Q', mX, m, w => m _ _ w
  | .bin o a b, v, h, X, X', Q, Q', mX, m, w => wpE_m a mX (fun x h w => wpE_m b mX (fun y h w => binW_m m w) w) w
  | .neg a, v, h, X, X', Q, Q', mX, m, w => wpE_m a mX (fun x h w => by
      cases x <;> first
        | exact m _ _ w
        | exact w) w
  | .not a, v, h, X, X', Q, Q', mX, m, w => wpE_m a mX (fun x h w => blW_m (fun c => m _ _) w) w
  | .cmp o a b, v, h, X, X', Q, Q', mX, m, w => wpE_m a mX (fun x h w => wpE_m b mX (fun y h w => cmpW_m (fun c => m _ _) w) w) w
  | .cmp2 o p a b c, v, h, X, X', Q, Q', mX, m, w => wpE_m a mX (fun x h w => wpE_m b mX (fun y h w => cmpW_m (fun k ⟨w1, w2⟩ => ⟨fun e => wpE_m c mX (fun z h w => cmpW_m (fun c => m _ _) w) (w1 e), fun e => m _ _ (w2 e)⟩) w) w) w
  | .and es, v, h, X, X', Q, Q', mX, m, w => wpA_m es mX m w
  | .or es, v, h, X, X', Q, Q', mX, m, w => wpB_m es mX m w
  | .ife t a b, v, h, X, X', Q, Q', mX, m, w => wpE_m t mX (fun x h w => blW_m (fun c ⟨w1, w2⟩ => ⟨fun e => wpE_m a mX m (w1 e), fun e => wpE_m b mX m (w2 e)⟩) w) w
  | .tup es, v, h, X, X', Q, Q', mX, m, w => wpL_m es mX (fun ds h ⟨l, w⟩ => ⟨l, m _ _ w⟩) w
  | .lst f es, v, h, X, X', Q, Q', mX, m, w => wpL_m es mX (fun ds h w => lnew_m m w) w
  | .ix a i, v, h, X, X', Q, Q', mX, m, w => wpE_m a mX (fun x h w => wpE_m i mX (fun y h w => ixW_m m w) w) w
  | .sl f k a lo hi, v, h, X, X', Q, Q', mX, m, w => by
    cases k with
    | lo => exact wpE_m a mX (fun x h w => wpE_m lo mX (fun l h w => intI_m (fun l w => slW_m m w) w) w) w
    | hi => exact wpE_m a mX (fun x h w => wpE_m hi mX (fun l h w => intI_m (fun l w => slW_m m w) w) w) w
    | both => exact wpE_m a mX (fun x h w => wpE_m lo mX (fun l h w => intI_m (fun l w => wpE_m hi mX (fun u h w => intI_m (fun u w => slW_m m w) w) w) w) w) w
  | .call f es, v, h, X, X', Q, Q', mX, m, w => wpL_m es mX (fun ds h w => hF _ _ _ _ _ _ _ mX m w) w
  | .blt b es, v, h, X, X', Q, Q', mX, m, w => wpL_m es mX (fun ds h w => bltW_m m w) w
  | .isi a cs, v, h, X, X', Q, Q', mX, m, w => wpE_m a mX (fun d h ⟨b, e, w⟩ => ⟨b, e, m _ _ w⟩) w
  | .meth o a es, v, h, X, X', Q, Q', mX, m, w => wpE_m a mX (fun x h w => recvW_m (fun w => wpL_m es mX (fun ds h w => methW_m m w) w) w) w
  | .comp f own t k it c e, v, h, X, X', Q, Q', mX, m, w => by
    have w : wpL F it v h X (fun ds h => itW k ds h fun s xs => compW s (fun d h K => tgW t d (wipeE v own) h fun v => K v h) (fun v h K => wpE F c v h NX fun d h => blW d fun b => K b h) (fun v h K => wpE F e v h NX K) xs [] h fun rs h => cpW f rs h Q) := w
    show wpL F it v h X' (fun ds h => itW k ds h fun s xs => compW s (fun d h K => tgW t d (wipeE v own) h fun v => K v h) (fun v h K => wpE F c v h NX fun d h => blW d fun b => K b h) (fun v h K => wpE F e v h NX K) xs [] h fun rs h => cpW f rs h Q')
    exact wpL_m it mX (fun ds h w => itW_m (fun s xs w => compW_m (T := fun d h K => tgW t d (wipeE v own) h fun v => K v h) (C := fun v h K => wpE F c v h NX fun d h => blW d fun b => K b h) (R := fun v h K => wpE F e v h NX K) (fun x h K K' mk w => tgW_m t (fun v => mk v h) w) (fun v h K K' mk w => wpE_m c (fun _ _ z => z) (fun d h w => blW_m (fun b => mk b h) w) w)
      (fun v h Q Q' mk w => wpE_m e (fun _ _ z => z) mk w) (fun rs h w => cpW_m m w) w) w) w
  | .meth0 o a, v, h, X, X', Q, Q', mX, m, w => wpE_m a mX (fun x h w => meth0W_m m w) w
  | .frz a, v, h, X, X', Q, Q', mX, m, w => wpE_m a mX (fun d h w => by
      cases d with
      | ref a => obtain ⟨ds, e, w⟩ := w; exact ⟨ds, e, m _ _ w⟩
      | _ => exact m _ _ w) w
  | .dop .get a k z, v, h, X, X', Q, Q', mX, m, w => wpE_m a mX (fun x h w => wpE_m k mX (fun y h w => dgetW_m (fun o ⟨d, e, q⟩ => ⟨d, e, m _ _ q⟩) w) w) w
  | .dop .getD a k z, v, h, X, X', Q, Q', mX, m, w => wpE_m a mX (fun x h ⟨w0, w⟩ => ⟨w0, wpE_m k mX (fun y h w => wpE_m z mX (fun d h w => dgetW_m (fun o q => m _ _ q) w) w) w⟩) w
  | .dop .isin a k z, v, h, X, X', Q, Q', mX, m, w => wpE_m k mX (fun y h w => wpE_m a mX (fun x h w => dgetW_m (fun o q => m _ _ q) w) w) w
  | .dop .notin a k z, v, h, X, X', Q, Q', mX, m, w => wpE_m k mX (fun y h w => wpE_m a mX (fun x h w => dgetW_m (fun o q => m _ _ q) w) w) w
  | .dop (.srt f) a k z, v, h, X, X', Q, Q', mX, m, w => wpE_m a mX (fun x h w => dsrtW_m m w) w
  | .fld a f, v, h, X, X', Q, Q', mX, m, w => wpE_m a mX (fun d h w => by
      cases d with
      | exc c fs => obtain ⟨d, e, w⟩ := w; exact ⟨d, e, m _ _ w⟩
      | _ => exact w) w
  | .lam g a, v, h, X, X', Q, Q', mX, m, w => wpE_m a (X := fun x h => Q (.exc x.c x.fs) h) (X' := fun x h => Q' (.exc x.c x.fs) h) (fun x h => m _ _) (fun _ h => m _ _) w
  | .rev f a, v, h, X, X', Q, Q', mX, m, w => wpE_m a mX (fun d h w => revW_m m w) w
  | .rng t f k es, v, h, X, X', Q, Q', mX, m, w => wpL_m es mX (fun ds h w => rngW_m m w) w
  | .nil, v, h, X, X', Q, Q', mX, m, w => w
  | .die, v, h, X, X', Q, Q', mX, m, w => w
  | .cons _ _, v, h, X, X', Q, Q', mX, m, w => w
theorem wpL_m : ∀ (e : E) {v : Env'} {h : AH} {X X' : PX} {Q Q' : List D → AH → Prop}, (∀ x h, X x h → X' x h) → (∀ d h, Q d h → Q' d h) → wpL F e v h X Q → wpL F e v h X' Q'
  | .nil, v, h, X, X', Q, Q', mX, m, w => m _ _ w
  | .cons a b, v, h, X, X', Q, Q', mX, m, w => wpE_m a mX (fun d h w => wpL_m b mX (fun ds h w => m _ _ w) w) w
  | .omit, _, _, _, _, _, _, _, _, w | .var _, _, _, _, _, _, _, _, _, w | .int _, _, _, _, _, _, _, _, _, w | .bl _, _, _, _, _, _, _, _, _, w | .non, _, _, _, _, _, _, _, _, w | .str _, _, _, _, _, _, _, _, _, w | .cst _ _, _, _, _, _, _, _, _, _, w
  | .bin _ _ _, _, _, _, _, _, _, _, _, w | .neg _, _, _, _, _, _, _, _, _, w | .not _, _, _, _, _, _, _, _, _, w | .cmp _ _ _, _, _, _, _, _, _, _, _, w | .cmp2 _ _ _ _ _, _, _, _, _, _, _, _, _, w | .and _, _, _, _, _, _, _, _, _, w | .or _, _, _, _, _, _, _, _, _, w
  | .ife _ _ _, _, _, _, _, _, _, _, _, w | .tup _, _, _, _, _, _, _, _, _, w | .lst _ _, _, _, _, _, _, _, _, _, w | .ix _ _, _, _, _, _, _, _, _, _, w | .sl _ _ _ _ _, _, _, _, _, _, _, _, _, w | .call _ _, _, _, _, _, _, _, _, _, w | .blt _ _, _, _, _, _, _, _, _, _, w
  | .isi _ _, _, _, _, _, _, _, _, _, w | .meth _ _ _, _, _, _, _, _, _, _, _, w | .comp _ _ _ _ _ _ _, _, _, _, _, _, _, _, _, w | .frz _, _, _, _, _, _, _, _, _, w | .dop _ _ _ _, _, _, _, _, _, _, _, _, w | .dict0, _, _, _, _, _, _, _, _, w | .meth0 _ _, _, _, _, _, _, _, _, _, w | .rev _ _, _, _, _, _, _, _, _, _, w | .rng _ _ _ _, _, _, _, _, _, _, _, _, w | .fld _ _, _, _, _, _, _, _, _, _, w | .lam _ _, _, _, _, _, _, _, _, _, w | .die, _, _, _, _, _, _, _, _, w => w
theorem wpA_m : ∀ (e : E) {v : Env'} {h : AH} {X X' : PX} {Q Q' : PQ}, (∀ x h, X x h → X' x h) → (∀ d h, Q d h → Q' d h) → wpA F e v h X Q → wpA F e v h X' Q'
  | .cons a b, v, h, X, X', Q, Q', mX, m, w => by
    have hb : ∀ {v : Env'} {h : AH}, wpA F b v h X Q → wpA F b v h X' Q' := fun w => wpA_m b mX m w
    unfold wpA at w ⊢
    split at w
    · exact wpE_m a mX (fun x h w => blW_m (fun c => m _ _) w) w
    · exact wpE_m a mX (fun x h w => blW_m (fun c ⟨w1, w2⟩ => ⟨fun e => hb (w1 e), fun e => m _ _ (w2 e)⟩) w) w
  | .nil, _, _, _, _, _, _, _, _, w | .omit, _, _, _, _, _, _, _, _, w | .var _, _, _, _, _, _, _, _, _, w | .int _, _, _, _, _, _, _, _, _, w | .bl _, _, _, _, _, _, _, _, _, w | .non, _, _, _, _, _, _, _, _, w | .str _, _, _, _, _, _, _, _, _, w | .cst _ _, _, _, _, _, _, _, _, _, w
  | .bin _ _ _, _, _, _, _, _, _, _, _, w | .neg _, _, _, _, _, _, _, _, _, w | .not _, _, _, _, _, _, _, _, _, w | .cmp _ _ _, _, _, _, _, _, _, _, _, w | .cmp2 _ _ _ _ _, _, _, _, _, _, _, _, _, w | .and _, _, _, _, _, _, _, _, _, w | .or _, _, _, _, _, _, _, _, _, w
  | .ife _ _ _, _, _, _, _, _, _, _, _, w | .tup _, _, _, _, _, _, _, _, _, w | .lst _ _, _, _, _, _, _, _, _, _, w | .ix _ _, _, _, _, _, _, _, _, _, w | .sl _ _ _ _ _, _, _, _, _, _, _, _, _, w | .call _ _, _, _, _, _, _, _, _, _, w | .blt _ _, _, _, _, _, _, _, _, _, w
  | .isi _ _, _, _, _, _, _, _, _, _, w | .meth _ _ _, _, _, _, _, _, _, _, _, w | .comp _ _ _ _ _ _ _, _, _, _, _, _, _, _, _, w | .frz _, _, _, _, _, _, _, _, _, w | .dop _ _ _ _, _, _, _, _, _, _, _, _, w | .dict0, _, _, _, _, _, _, _, _, w | .meth0 _ _, _, _, _, _, _, _, _, _, w | .rev _ _, _, _, _, _, _, _, _, _, w | .rng _ _ _ _, _, _, _, _, _, _, _, _, w | .fld _ _, _, _, _, _, _, _, _, _, w | .lam _ _, _, _, _, _, _, _, _, _, w | .die, _, _, _, _, _, _, _, _, w => w
theorem wpB_m : ∀ (e : E) {v : Env'} {h : AH} {X X' : PX} {Q Q' : PQ}, (∀ x h, X x h → X' x h) → (∀ d h, Q d h → Q' d h) → wpB F e v h X Q → wpB F e v h X' Q'
  | .cons a b, v, h, X, X', Q, Q', mX, m, w => by
    have hb : ∀ {v : Env'} {h : AH}, wpB F b v h X Q → wpB F b v h X' Q' := fun w => wpB_m b mX m w
    unfold wpB at w ⊢
    split at w
    · exact wpE_m a mX (fun x h w => blW_m (fun c => m _ _) w) w
    · exact wpE_m a mX (fun x h w => blW_m (fun c ⟨w1, w2⟩ => ⟨fun e => m _ _ (w1 e), fun e => hb (w2 e)⟩) w) w
  | .nil, _, _, _, _, _, _, _, _, w | .omit, _, _, _, _, _, _, _, _, w | .var _, _, _, _, _, _, _, _, _, w | .int _, _, _, _, _, _, _, _, _, w | .bl _, _, _, _, _, _, _, _, _, w | .non, _, _, _, _, _, _, _, _, w | .str _, _, _, _, _, _, _, _, _, w | .cst _ _, _, _, _, _, _, _, _, _, w
  | .bin _ _ _, _, _, _, _, _, _, _, _, w | .neg _, _, _, _, _, _, _, _, _, w | .not _, _, _, _, _, _, _, _, _, w | .cmp _ _ _, _, _, _, _, _, _, _, _, w | .cmp2 _ _ _ _ _, _, _, _, _, _, _, _, _, w | .and _, _, _, _, _, _, _, _, _, w | .or _, _, _, _, _, _, _, _, _, w
  | .ife _ _ _, _, _, _, _, _, _, _, _, w | .tup _, _, _, _, _, _, _, _, _, w | .lst _ _, _, _, _, _, _, _, _, _, w | .ix _ _, _, _, _, _, _, _, _, _, w | .sl _ _ _ _ _, _, _, _, _, _, _, _, _, w | .call _ _, _, _, _, _, _, _, _, _, w | .blt _ _, _, _, _, _, _, _, _, _, w
  | .isi _ _, _, _, _, _, _, _, _, _, w | .meth _ _ _, _, _, _, _, _, _, _, _, w | .comp _ _ _ _ _ _ _, _, _, _, _, _, _, _, _, w | .frz _, _, _, _, _, _, _, _, _, w | .dop _ _ _ _, _, _, _, _, _, _, _, _, w | .dict0, _, _, _, _, _, _, _, _, w | .meth0 _ _, _, _, _, _, _, _, _, _, w | .rev _ _, _, _, _, _, _, _, _, _, w | .rng _ _ _ _, _, _, _, _, _, _, _, _, w | .fld _ _, _, _, _, _, _, _, _, _, w | .lam _ _, _, _, _, _, _, _, _, _, w | .die, _, _, _, _, _, _, _, _, w => w
end
end
structure EndsLe (A B : Ends') : Prop where
  nx : ∀ v h, A.nx v h → B.nx v h
  rt : ∀ d h, A.rt d h → B.rt d h
  bk : ∀ v h, A.bk v h → B.bk v h
  ct : ∀ v h, A.ct v h → B.ct v h
  xx : ∀ x v h, A.xx x v h → B.xx x v h
section
variable {F : FT} (hF : MonF F)
include hF
mutual
theorem wpS_m : ∀ (s : S) {A B : Ends'} {v : Env'} {h : AH}, EndsLe A B → wpS F s A v h → wpS F s B v h
  | .nil, A, B, v, h, m, w => m.nx _ _ w
  | .cons s r, A, B, v, h, m, w => wpS_m s (A := { A with nx := fun v h => wpS F r A v h }) (B := { B with nx := fun v h => wpS F r B v h }) ⟨fun v h w => wpS_m r m w, m.rt, m.bk, m.ct, m.xx⟩ w
  | .expr e, A, B, v, h, m, w => wpE_m hF e (fun x h => m.xx x v h) (fun _ h => m.nx v h) w
  | .asg t e, A, B, v, h, m, w => wpE_m hF e (fun x h => m.xx x v h) (fun d h w => tgW_m t (fun v => m.nx v _) w) w
  | .sub o i e, A, B, v, h, m, w => wpE_m hF e (fun x h => m.xx x v h) (fun d h w => wpE_m hF o (fun x h => m.xx x v h) (fun x h w => wpE_m hF i (fun x h => m.xx x v h) (fun y h w => setW_m (fun h => m.nx v h) w) w) w) w
  | .par i j a b, A, B, v, h, m, w => wpE_m hF a (fun x h => m.xx x v h) (fun x h w => wpE_m hF b (fun x h => m.xx x v h) (fun y h w => m.nx _ _ w) w) w
  | .ife t a b, A, B, v, h, m, w => wpE_m hF t (fun x h => m.xx x v h) (fun x h w => blW_m (fun c ⟨w1, w2⟩ => ⟨fun e => wpS_m a m (w1 e), fun e => wpS_m b m (w2 e)⟩) w) w
  | .whl t b, A, B, v, h, m, ⟨W, w0, w⟩ => ⟨W, w0, fun n v h z => wpE_m hF t (fun x h => m.xx x v h) (fun x h w => blW_m (fun c ⟨w1, w2⟩ => ⟨fun e => wpS_m b (A := { A with nx := fun v h => ∃ m', m' < n ∧ W m' v h, ct := fun v h => ∃ m', m' < n ∧ W m' v h, bk := A.nx }) (B := { B with nx := fun v h => ∃ m', m' < n ∧ W m' v h, ct := fun v h => ∃ m', m' < n ∧ W m' v h, bk := B.nx }) ⟨fun v h w => w, m.rt, m.nx, fun v h w => w, m.xx⟩ (w1 e), fun e => m.nx _ _ (w2 e)⟩) w) (w n v h z)⟩
  | .for t k it b, A, B, v, h, m, w => wpL_m hF it (fun x h => m.xx x v h) (fun ds h w => itW_m (fun s xs w => forW_m (T := fun d v h K => tgW t d v h fun v => K v h) (B := fun nx v h => wpS F b { A with nx := nx, ct := nx, bk := A.nx } v h) (B' := fun nx v h => wpS F b { B with nx := nx, ct := nx, bk := B.nx } v h) (fun d v h K K' mk w => tgW_m t (fun v => mk v h) w) (fun K K' v h mk w => wpS_m b (A := { A with nx := K, ct := K, bk := A.nx }) (B := { B with nx := K', ct := K', bk := B.nx }) ⟨mk, m.rt, m.nx, mk, m.xx⟩ w) m.nx w) w) w
  | .dput o i e, A, B, v, h, m, w => wpE_m hF e (fun x h => m.xx x v h) (fun d h w => wpE_m hF o (fun x h => m.xx x v h) (fun x h w => wpE_m hF i (fun x h => m.xx x v h) (fun y h w => dputW_m (fun h => m.nx v h) w) w) w) w
  | .sub2 o i p j e, A, B, v, h, m, w => wpE_m hF e (fun x h => m.xx x v h) (fun d h w => by
      split at w
      · exact wpE_m hF o (fun x h => m.xx x v h) (fun x h w => wpE_m hF i (fun x h => m.xx x v h) (fun y h w => setW_m (fun h w => wpE_m hF p (fun x h => m.xx x v h) (fun x h w => wpE_m hF j (fun x h => m.xx x v h) (fun y h w => setW_m (fun h => m.nx v h) w) w) w) w) w) w
      · exact w) w
  | .die, A, B, v, h, m, w => w
  | .ret e, A, B, v, h, m, w => wpE_m hF e (fun x h => m.xx x v h) m.rt w
  | .pass, A, B, v, h, m, w => m.nx _ _ w
  | .brk, A, B, v, h, m, w => m.bk _ _ w
  | .cnt, A, B, v, h, m, w => m.ct _ _ w
  | .rse c fs es, A, B, v, h, m, w => by
    cases fs with
    | nil => exact m.xx _ _ _ w
    | cons f fs => exact wpL_m hF es (fun x h => m.xx x v h) (fun ds h w => ⟨w.1, m.xx _ _ _ w.2⟩) w
  | .try_ b hs, A, B, v, h, m, w => wpS_m b (A := { A with xx := fun x v h => wpH F hs x A v h }) (B := { B with xx := fun x v h => wpH F hs x B v h }) ⟨m.nx, m.rt, m.bk, m.ct, fun x v h w => wpH_m hs m w⟩ w
  | .cut s, A, B, v, h, m, w => cut_in (wpS_m s m (cut_out w))
  | .frzb i s, A, B, v, h, m, w => by
    have hs : ∀ {v : Env'} {h : AH}, wpS F s A v h → wpS F s B v h := fun w => wpS_m s m w
    unfold wpS at w ⊢
    split at w
    · obtain ⟨ds, e, w⟩ := w
      exact ⟨ds, e, hs w⟩
    · exact hs w
  | .hnd _ _ _ _, A, B, v, h, m, w => w
  | .hnil, A, B, v, h, m, w => w
theorem wpH_m : ∀ (s : S) {x : Exn} {A B : Ends'} {v : Env'} {h : AH}, EndsLe A B → wpH F s x A v h → wpH F s x B v h
  | .hnil, x, A, B, v, h, m, w => m.xx _ _ _ w
  | .hnd c o b r, x, A, B, v, h, m, w => by
    have hr : wpH F r x A v h → wpH F r x B v h := fun w => wpH_m r m w
    have hb : ∀ {A B : Ends'} {v : Env'} {h : AH}, EndsLe A B → wpS F b A v h → wpS F b B v h := fun m w => wpS_m b m w
    unfold wpH at w ⊢
    split at w
    · split at w
      · rename_i i
        exact hb (A := { nx := fun v h => A.nx (v.set i none) h, rt := A.rt, bk := fun v h => A.bk (v.set i none) h, ct := fun v h => A.ct (v.set i none) h, xx := fun _ _ _ => False }) ⟨fun v h => m.nx _ _, m.rt, fun v h => m.bk _ _, fun v h => m.ct _ _, fun x v h z => z⟩ w
      · exact hb (A := { A with xx := fun _ _ _ => False }) ⟨m.nx, m.rt, m.bk, m.ct, fun x v h z => z⟩ w
    · exact hr w
  | .nil, _, _, _, _, _, _, w | .cons _ _, _, _, _, _, _, _, w | .expr _, _, _, _, _, _, _, w | .asg _ _, _, _, _, _, _, _, w | .sub _ _ _, _, _, _, _, _, _, w | .par _ _ _ _, _, _, _, _, _, _, w | .ife _ _ _, _, _, _, _, _, _, w | .whl _ _, _, _, _, _, _, _, w
  | .for _ _ _ _, _, _, _, _, _, _, w | .ret _, _, _, _, _, _, _, w | .pass, _, _, _, _, _, _, w | .brk, _, _, _, _, _, _, w | .cnt, _, _, _, _, _, _, w | .rse _ _ _, _, _, _, _, _, _, w | .try_ _ _, _, _, _, _, _, _, w | .cut _, _, _, _, _, _, _, w => w
end
end
theorem mon_call {P : Nat → Option Fn} : ∀ k, MonF (wpCall P k)
  | 0 => fun f ds h X X' Q Q' mX m w => (wpCall_zero w).elim
  | k + 1 => fun f ds h X X' Q Q' mX m w => by
    cases e : P f with
    | none =>
      rw [wpCall_eq] at w
      unfold wpCall0 at w
      rw [e] at w
      exact w.elim
    | some fn =>
      obtain ⟨l, w⟩ := (wpCall_succ e).mp w
      exact (wpCall_succ e).mpr ⟨l, wpS_m (mon_call k) fn.body (A := { nx := fun _ h' => ∃ h'', Sub h'' h' ∧ Q .non h'', rt := fun d h' => ∃ h'', Sub h'' h' ∧ Q d h'', xx := fun x _ h' => ∃ h'', Sub h'' h' ∧ X x h'' }) ⟨fun _ h' ⟨h'', sb, q⟩ => ⟨h'', sb, m _ _ q⟩, fun d h' ⟨h'', sb, q⟩ => ⟨h'', sb, m _ _ q⟩, fun _ _ z => z, fun _ _ z => z, fun x _ h' ⟨h'', sb, q⟩ => ⟨h'', sb, mX _ _ q⟩⟩ w⟩
theorem seqM {F : FT} (hF : MonF F) {s r : S} {A : Ends'} {v : Env'} {h : AH} (M : Env' → AH → Prop) (w : wpS F s { A with nx := M } v h) (n : ∀ v h, M v h → wpS F r A v h) : wpS F (.cons s r) A v h :=
  wpS_m hF s (A := { A with nx := M }) (B := { A with nx := fun v h => wpS F r A v h }) ⟨n, fun _ _ z => z, fun _ _ z => z, fun _ _ z => z, fun _ _ _ z => z⟩ w
theorem cutM {F : FT} (hF : MonF F) {s r : S} {A : Ends'} {v : Env'} {h : AH} (M : Env' → AH → Prop) (w : wpS F s { A with nx := M } v h) (n : ∀ v h, M v h → wpS F r A v h) : Cut (wpS F (.cons s r) A v h) := cut_in (seqM hF M w n)
end Ab
namespace Ab
open PySem PySem.Spec PyProof.Rows L2
theorem len_le {n : Nat} (h : n ≤ 1000) : n ≤ sizeLine := Nat.le_trans h (by decide +kernel)
theorem sub_refl (h : AH) : Sub h h := fun _ _ e => e
section
variable {P : Nat → Option Fn} {k : Nat} {h : AH} {X : PX} {Q : PQ}
theorem call_of {i : Nat} {fn : Fn} (hP : P i = some fn) {ds : List D} (hl : ds.length = fn.ps.length)
    (w : wpS (wpCall P k) fn.body { nx := fun _ h' => ∃ h'', Sub h'' h' ∧ Q .non h'', rt := fun d h' => ∃ h'', Sub h'' h' ∧ Q d h'', xx := fun x _ h' => ∃ h'', Sub h'' h' ∧ X x h'' } (ds.map some ++ List.replicate (fn.N.length - ds.length) none) h) : wpCall P (k + 1) i ds h X Q := by
  exact (wpCall_succ hP).mpr ⟨hl, w⟩
def rt (q : Rat) : D := .tup [.int q.num, .int q.den]
theorem log_of {x : Int} {n : Nat} (h : x.natAbs < 2 ^ n) (hn : 0 < n) : x.natAbs.log2 < n := by
  by_cases e : x.natAbs = 0
  · rw [e]; exact hn
  · exact (Nat.log2_lt e).mpr h
theorem mul_of {i j : Int} {a b : Nat} (hi : i.natAbs < 2 ^ a) (hj : j.natAbs < 2 ^ b) (ha : 0 < a) (hb : 0 < b) (h : a + b ≤ 1000000) : MulOk i j := wide_mul hi hj ha hb h
theorem noLong {i j : Int} {n : Nat} (h : j.natAbs < 2 ^ n) (h0 : 0 < n) (hn : n ≤ 9000) : Builtin.divisionGoesByPylong i j = false   := PyProof.noPylong_of_log2 (Nat.lt_of_lt_of_le (log_of h h0) hn)
theorem low_pos {a b : Int} (hb : 0 < b) : a.fdiv (Int.gcd a b) = ((a : Rat) / b).num ∧ b.fdiv (Int.gcd a b) = (((a : Rat) / b).den : Int) := by
  have g0 : 0 < Int.gcd a b := Int.gcd_pos_of_ne_zero_right a (by omega)
  rw [← Rat.divInt_eq_div, Rat.num_divInt, Rat.den_divInt, if_neg (by omega), Int.gcd_comm b a, Int.sign_eq_one_of_pos hb, Int.one_mul, Int.fdiv_eq_ediv_of_nonneg _ (by omega), Int.fdiv_eq_ediv_of_nonneg _ (by omega)]
  refine ⟨rfl, ?_⟩
  rw [Int.natCast_ediv, Int.natAbs_of_nonneg (by omega)]
end
theorem rat_bd {a b : Int} (hb : b ≠ 0) : ((a : Rat) / b).num.natAbs ≤ a.natAbs ∧ ((a : Rat) / b).den ≤ b.natAbs := by
  have key : ∀ {a b : Int}, 0 < b → ((a : Rat) / b).num.natAbs ≤ a.natAbs ∧ ((a : Rat) / b).den ≤ b.natAbs := fun {a b} h => by
    have g0 : 0 < Int.gcd a b := Int.gcd_pos_of_ne_zero_right a (by omega)
    obtain ⟨h1, h2⟩ := low_pos (a := a) h
    rw [Int.fdiv_eq_ediv_of_nonneg _ (by omega)] at h1 h2
    constructor
    · rw [← h1, Int.natAbs_ediv_of_dvd (Int.gcd_dvd_left ..)]
      exact Nat.div_le_self _ _
    · have := Int.ediv_le_self (a := b) (Int.gcd a b : Int) (by omega)
      omega
  rcases Int.lt_or_gt_of_ne hb with h | h
  · have e : ((-a : Int) : Rat) / ((-b : Int) : Rat) = (a : Rat) / b := by
      rw [Rat.intCast_neg, Rat.intCast_neg]
      grind
    have z := key (a := -a) (b := -b) (by omega)
    rw [e, Int.natAbs_neg, Int.natAbs_neg] at z
    exact z
  · exact key h
end Ab
namespace Ab
open PySem PySem.Spec PyProof.Rows L2
def bNext (c0 c1 c2 c3 c4 c5 c6 c7 : Int) : S :=
  (.cons (.asg (.tup [(.var 2), (.var 3), (.var 4)]) (.var 0))
  (.cut (.cons (.ife (.cmp .eq (.var 4) (.int 0)) (.cons (.sub (.var 0) (.int 1) (.bin .add (.var 3) (.int 1)))
  (.cut (.cons (.ife (.or (.cons (.cmp .ge (.var 3) (.blt .len (.cons (.var 2) .nil))) (.cons (.cmp .lt (.ix (.var 2) (.var 3)) (.bin .pow (.int 10) (.int 18))) .nil))) (.cons (.asg (.var 5) (.int c0))
  (.cut (.cons (.ife (.cmp .gt (.blt .len (.cons (.var 2) .nil)) (.int 0)) (.cons (.asg (.var 5) (.bin .mod (.ix (.var 2) (.bin .mod (.var 3) (.blt .len (.cons (.var 2) .nil)))) (.int 2147483629)))
  .nil) .nil)
  (.cons (.asg (.var 6) (.bin .mod (.bin .mul (.bin .add (.bin .add (.var 5) (.bin .mul (.int c1) (.var 3))) (.int c2)) (.int c3)) (.int 2147483647)))
  (.cons (.asg (.var 6) (.bin .mod (.bin .add (.bin .add (.bin .mul (.var 6) (.var 6)) (.bin .mul (.int c4) (.var 3))) (.int c5)) (.int 2147483587)))
  (.cons (.ret (.bin .mod (.bin .fdiv (.bin .mod (.bin .mul (.var 6) (.bin .add (.var 6) (.int c6))) (.int 2147483563)) (.int c7)) (.var 1)))
  .nil)))))) .nil)
  (.cons (.asg (.var 4) (.ix (.var 2) (.var 3)))
  .nil)))) .nil)
  (.cons (.sub (.var 0) (.int 2) (.bin .fdiv (.var 4) (.var 1)))
  (.cons (.ret (.bin .mod (.var 4) (.var 1)))
  .nil)))))
def PenAt (h : AH) (a : Addr) (ns : List Int) (B : Int) : Prop := ∃ t l : Int, 0 ≤ t ∧ t ≤ B ∧ 0 ≤ l ∧ h a = some (.lst [.scr (ns.map D.int), .int t, .int l])
def Off (h h' : AH) (a : Addr) : Prop := ∀ b, b ≠ a → h' b = h b
theorem put_same {h : AH} {a : Addr} {c : Cell} : put h a c a = some c := if_pos rfl
theorem put_ne {h : AH} {a b : Addr} {c : Cell} (n : b ≠ a) : put h a c b = h b := if_neg n
theorem off_put {h : AH} {a : Addr} {c : Cell} : Off h (put h a c) a := fun b n => put_ne n
theorem Off.trans {h h' h'' : AH} {a : Addr} (x : Off h h' a) (y : Off h' h'' a) : Off h h'' a := fun b n => (y b n).trans (x b n)
theorem Off.refl (h : AH) (a : Addr) : Off h h a := fun _ _ => rfl
theorem PenAt.mono {h : AH} {a : Addr} {ns : List Int} {B B' : Int} (x : PenAt h a ns B) (l : B ≤ B') : PenAt h a ns B' := let ⟨t, u, a1, a2, a3, a4⟩ := x; ⟨t, u, a1, Int.le_trans a2 l, a3, a4⟩
theorem at_map {ns : List Int} {i : Int} (h0 : 0 ≤ i) (h1 : i < ns.length) : ∃ z, atI (ns.map D.int) i = some (.int z) := by
  have hl : i.toNat < ns.length := by omega
  refine ⟨ns[i.toNat], ?_⟩
  have z := atI_nat (xs := ns.map D.int) (j := i.toNat) (v := .int ns[i.toNat]) (by rw [List.getElem?_map, List.getElem?_eq_getElem hl]; rfl)
  rwa [Int.toNat_of_nonneg h0] at z
theorem fmod_bd (a : Int) {m : Int} (h : 0 < m) : 0 ≤ a.fmod m ∧ a.fmod m < m := ⟨Int.fmod_nonneg_of_pos a h, Int.fmod_lt_of_pos a h⟩
theorem fdiv_nn {a b : Int} (ha : 0 ≤ a) (hb : 0 < b) : 0 ≤ a.fdiv b := Int.fdiv_nonneg ha (by omega)
theorem abs_mul {i j : Int} {a b : Nat} (hi : i.natAbs < 2 ^ a) (hj : j.natAbs < 2 ^ b) : (i * j).natAbs < 2 ^ (a + b) := by
  rw [Int.natAbs_mul, Nat.pow_add]
  exact Nat.mul_lt_mul'' hi hj
theorem abs_add {i j : Int} {a : Nat} (hi : i.natAbs < 2 ^ a) (hj : j.natAbs < 2 ^ a) : (i + j).natAbs < 2 ^ (a + 1) := by
  have := Int.natAbs_add_le i j
  rw [Nat.pow_succ]; omega
theorem abs_up {i : Int} {a b : Nat} (hi : i.natAbs < 2 ^ a) (h : a ≤ b) : i.natAbs < 2 ^ b := Nat.lt_of_lt_of_le hi (Nat.pow_le_pow_right (by decide) h)
def sRoll (c0 c1 c2 c3 c4 c5 c6 c7 : Int) : S :=
  (.cons (.asg (.var 5) (.int c0))
  (.cut (.cons (.ife (.cmp .gt (.blt .len (.cons (.var 2) .nil)) (.int 0)) (.cons (.asg (.var 5) (.bin .mod (.ix (.var 2) (.bin .mod (.var 3) (.blt .len (.cons (.var 2) .nil)))) (.int 2147483629)))
  .nil) .nil)
  (.cons (.asg (.var 6) (.bin .mod (.bin .mul (.bin .add (.bin .add (.var 5) (.bin .mul (.int c1) (.var 3))) (.int c2)) (.int c3)) (.int 2147483647)))
  (.cons (.asg (.var 6) (.bin .mod (.bin .add (.bin .add (.bin .mul (.var 6) (.var 6)) (.bin .mul (.int c4) (.var 3))) (.int c5)) (.int 2147483587)))
  (.cons (.ret (.bin .mod (.bin .fdiv (.bin .mod (.bin .mul (.var 6) (.bin .add (.var 6) (.int c6))) (.int 2147483563)) (.int c7)) (.var 1)))
  .nil))))))
def NextC (c0 c1 c2 c3 c4 c5 c6 c7 : Int) : Prop := c0.natAbs < 2 ^ 40 ∧ c1.natAbs < 2 ^ 40 ∧ c2.natAbs < 2 ^ 40 ∧ c3.natAbs < 2 ^ 40 ∧ c4.natAbs < 2 ^ 40 ∧ c5.natAbs < 2 ^ 40 ∧ c6.natAbs < 2 ^ 40 ∧ 0 < c7 ∧ c7 < 2 ^ 40
section
variable {F : FT} {P : Nat → Option Fn} {k : Nat} {h : AH} {X : PX} {Q : PQ}
theorem roll2 {c0 c1 c2 c3 c4 c5 c6 c7 : Int} (hc : NextC c0 c1 c2 c3 c4 c5 c6 c7) {D' : Ends'} {a : Addr} {ns : List Int} {many t cell : Int} {l v6 : Option D} (t0 : 0 ≤ t) (t1 : t < 2 ^ 100) (hm : 0 < many) (hm2 : many < 2 ^ 100) (hcell : cell.natAbs < 2 ^ 40) (q : ∀ r, 0 ≤ r → r < many → D'.rt (.int r) h) :
    wpS F (.cons (.asg (.var 6) (.bin .mod (.bin .mul (.bin .add (.bin .add (.var 5) (.bin .mul (.int c1) (.var 3))) (.int c2)) (.int c3)) (.int 2147483647)))
  (.cons (.asg (.var 6) (.bin .mod (.bin .add (.bin .add (.bin .mul (.var 6) (.var 6)) (.bin .mul (.int c4) (.var 3))) (.int c5)) (.int 2147483587)))
  (.cons (.ret (.bin .mod (.bin .fdiv (.bin .mod (.bin .mul (.var 6) (.bin .add (.var 6) (.int c6))) (.int 2147483563)) (.int c7)) (.var 1)))
  .nil))) D' [some (.ref a), some (.int many), some (.scr (ns.map D.int)), some (.int t), l, some (.int cell), v6] h := by
  obtain ⟨k0, k1, k2, k3, k4, k5, k6, k7, k8⟩ := hc
  have ht : t.natAbs < 2 ^ 100 := by omega
  conv => whnf
  refine ⟨mul_of k1 ht (by decide) (by decide) (by decide), ?_⟩
  have b1 := abs_add (abs_up (b := 140) hcell (by decide)) (abs_mul k1 ht)
  have b2 := abs_add b1 (abs_up (b := 141) k2 (by decide))
  conv => whnf
  refine ⟨mul_of b2 k3 (by decide) (by decide) (by decide), ?_⟩
  conv => whnf
  refine ⟨by decide, ?_⟩
  obtain ⟨n0, n1⟩ := fmod_bd ((cell + c1 * t + c2) * c3) (m := 2147483647) (by decide)
  generalize ((cell + c1 * t + c2) * c3).fmod 2147483647 = x at n0 n1 ⊢
  have hx : x.natAbs < 2 ^ 40 := by omega
  conv => whnf
  refine ⟨mul_of hx hx (by decide) (by decide) (by decide), ?_⟩
  conv => whnf
  refine ⟨mul_of k4 ht (by decide) (by decide) (by decide), ?_⟩
  conv => whnf
  refine ⟨by decide, ?_⟩
  obtain ⟨n2, n3⟩ := fmod_bd (x * x + c4 * t + c5) (m := 2147483587) (by decide)
  generalize (x * x + c4 * t + c5).fmod 2147483587 = y at n2 n3 ⊢
  have hy : y.natAbs < 2 ^ 40 := by omega
  conv => whnf
  refine ⟨mul_of hy (abs_add hy k6) (by decide) (by decide) (by decide), ?_⟩
  conv => whnf
  refine ⟨by decide, ?_⟩
  obtain ⟨n4, n5⟩ := fmod_bd (y * (y + c6)) (m := 2147483563) (by decide)
  generalize (y * (y + c6)).fmod 2147483563 = z at n4 n5 ⊢
  conv => whnf
  refine ⟨⟨by omega, noLong (n := 40) (by omega) (by decide) (by decide)⟩, ?_⟩
  conv => whnf
  refine ⟨by omega, ?_⟩
  exact q _ (fmod_bd _ hm).1 (fmod_bd _ hm).2
theorem roll_ok {c0 c1 c2 c3 c4 c5 c6 c7 : Int} (hc : NextC c0 c1 c2 c3 c4 c5 c6 c7) {D' : Ends'} {a : Addr} {ns : List Int} {many t : Int} {l v5 v6 : Option D} (t0 : 0 ≤ t) (t1 : t < 2 ^ 100) (hm : 0 < many) (hm2 : many < 2 ^ 100) (q : ∀ r, 0 ≤ r → r < many → D'.rt (.int r) h) :
    wpS F (sRoll c0 c1 c2 c3 c4 c5 c6 c7) D' [some (.ref a), some (.int many), some (.scr (ns.map D.int)), some (.int t), l, v5, v6] h := by
  conv => whnf
  refine cut_in ?_
  conv => whnf
  refine ⟨fun c => ?_, fun c => ?_⟩
  · have c := of_decide_eq_true c
    rw [List.length_map] at c
    conv => whnf
    refine ⟨by rw [List.length_map]; omega, ?_⟩
    rw [List.length_map]
    obtain ⟨n0, n1⟩ := fmod_bd t (m := (ns.length : Int)) c
    obtain ⟨z, ez⟩ := at_map n0 n1
    conv => whnf
    refine ⟨_, ez, ?_⟩
    conv => whnf
    refine ⟨by decide, ?_⟩
    obtain ⟨n2, n3⟩ := fmod_bd z (m := 2147483629) (by decide)
    exact roll2 hc t0 t1 hm hm2 (by omega) q
  · conv => whnf
    exact roll2 hc t0 t1 hm hm2 hc.1 q
theorem next_ok {i : Nat} {fn : Fn} {c0 c1 c2 c3 c4 c5 c6 c7 : Int} (hP : P i = some fn) (hb : fn.body = bNext c0 c1 c2 c3 c4 c5 c6 c7) (hps : fn.ps.length = 2) (hN : fn.N.length = 7) (hc : NextC c0 c1 c2 c3 c4 c5 c6 c7)
    {a : Addr} {ns : List Int} {B many : Int} (pen : PenAt h a ns B) (hB : B < 2 ^ 100) (hm : 0 < many) (hm2 : many < 2 ^ 100) (q : ∀ r h', 0 ≤ r → r < many → PenAt h' a ns (B + 1) → Off h h' a → Q (.int r) h') : wpCall P (k + 1) i [.ref a, .int many] h X Q := by
  refine call_of hP (by rw [hps]; rfl) ?_
  rw [hb, hN]
  obtain ⟨t, l, t0, t1, l0, e⟩ := pen
  conv => whnf
  refine ⟨_, e, ?_⟩
  conv => whnf
  refine cut_in ?_
  conv => whnf
  refine ⟨fun c => ?_, fun c => ?_⟩
  · have c := of_decide_eq_true c
    subst c
    conv => whnf
    refine ⟨_, e, 1, rfl, ?_⟩
    have pen1 : PenAt (put h a (.lst [.scr (ns.map D.int), .int (t + 1), .int 0])) a ns (B + 1) := ⟨t + 1, 0, by omega, by omega, by omega, put_same⟩
    have roll : ∀ D' : Ends', (∀ r, 0 ≤ r → r < many → D'.rt (.int r) (put h a (.lst [.scr (ns.map D.int), .int (t + 1), .int 0]))) → wpS (wpCall P k) (sRoll c0 c1 c2 c3 c4 c5 c6 c7) D' [some (.ref a), some (.int many), some (.scr (ns.map D.int)), some (.int t), some (.int 0), none, none] (put h a (.lst [.scr (ns.map D.int), .int (t + 1), .int 0])) :=
      fun D' q => roll_ok hc t0 (by omega) hm hm2 q
    conv => whnf
    refine cut_in ?_
    conv => whnf
    refine ⟨fun c => ?_, fun c => ?_⟩
    · conv => whnf
      refine ⟨fun _ => ?_, fun c => by cases c⟩
      exact roll _ fun r r0 r1 => ⟨_, sub_refl _, q r _ r0 r1 pen1 off_put⟩
    · have c := of_decide_eq_false c
      rw [List.length_map] at c
      obtain ⟨z, ez⟩ := at_map (ns := ns) t0 (by omega)
      conv => whnf
      refine ⟨_, ez, ?_⟩
      conv => whnf
      refine ⟨by decide, ?_⟩
      conv => whnf
      refine ⟨fun c => ?_, fun c => ?_⟩
      · exact roll _ fun r r0 r1 => ⟨_, sub_refl _, q r _ r0 r1 pen1 off_put⟩
      · have c := of_decide_eq_false c
        have z0 : 0 ≤ z := by
          have : (0 : Int) ≤ 10 ^ 18 := by decide
          have c' : ¬ z < 10 ^ 18 := c
          omega
        conv => whnf
        refine ⟨_, ez, ?_⟩
        conv => whnf
        refine ⟨⟨by omega, noLong (n := 100) (by omega) (by decide) (by decide)⟩, ?_⟩
        conv => whnf
        refine ⟨_, put_same, 2, rfl, ?_⟩
        conv => whnf
        refine ⟨by omega, ?_⟩
        exact ⟨_, sub_refl _, q _ _ (fmod_bd _ hm).1 (fmod_bd _ hm).2 ⟨t + 1, z.fdiv many, by omega, by omega, fdiv_nn z0 hm, put_same⟩ (off_put.trans off_put)⟩
  · conv => whnf
    refine ⟨⟨by omega, noLong (n := 100) (by omega) (by decide) (by decide)⟩, ?_⟩
    conv => whnf
    refine ⟨_, e, 2, rfl, ?_⟩
    conv => whnf
    refine ⟨by omega, ?_⟩
    exact ⟨_, sub_refl _, q _ _ (fmod_bd _ hm).1 (fmod_bd _ hm).2 ⟨t, l.fdiv many, by omega, by omega, fdiv_nn l0 hm, put_same⟩ off_put⟩
def bPen : S := (.cons (.ret (.lst false (.cons (.var 0) (.cons (.int 0) (.cons (.int 0) .nil))))) .nil)
theorem pen_ok {i : Nat} {fn : Fn} (hP : P i = some fn) (hb : fn.body = bPen) (hps : fn.ps.length = 1) (hN : fn.N.length = 1) {ns : List Int} (q : ∀ p h', h p = none → PenAt h' p ns 0 → Off h h' p → Q (.ref p) h') : wpCall P (k + 1) i [.scr (ns.map D.int)] h X Q := by
  refine call_of hP (by rw [hps]; rfl) ?_
  rw [hb, hN]
  conv => whnf
  refine ⟨len_le (by simp), fun p hp => ?_⟩
  exact ⟨_, sub_refl _, q p _ hp ⟨0, 0, by decide, by decide, by decide, put_same⟩ off_put⟩
def NxOk (P : Nat → Option Fn) : Prop := ∀ {k : Nat} {h : AH} {X : PX} {Q : PQ} {a : Addr} {ns : List Int} {B many : Int}, PenAt h a ns B → B < 2 ^ 100 → 0 < many → many < 2 ^ 100 → (∀ r h', 0 ≤ r → r < many → PenAt h' a ns (B + 1) → Off h h' a → Q (.int r) h') → wpCall P (k + 1) 900 [.ref a, .int many] h X Q
def PnOk (P : Nat → Option Fn) : Prop := ∀ {k : Nat} {h : AH} {X : PX} {Q : PQ} {ns : List Int}, (∀ p h', h p = none → PenAt h' p ns 0 → Off h h' p → Q (.ref p) h') → wpCall P (k + 1) 901 [.scr (ns.map D.int)] h X Q
theorem pF {A B : Prop} (h : B) : (false = true → A) ∧ (false = false → B) := ⟨fun c => (nomatch c), fun _ => h⟩
theorem pT {A B : Prop} (h : A) : (true = true → A) ∧ (true = false → B) := ⟨fun _ => h, fun c => (nomatch c)⟩
theorem forW_list {T : D → Env' → AH → PV → Prop} {B : PV → Env' → AH → Prop} {fin : PV} {xs : List D} (I : Nat → Env' → AH → Prop)
    (step : ∀ i x v h (nx : PV), xs[i]? = some x → I i v h → (∀ v' h', I (i + 1) v' h' → nx v' h') → T x v h fun v h => B nx v h) (hf : ∀ v h, I xs.length v h → fin v h) : ∀ {v : Env'} {h : AH}, I 0 v h → forW none T B fin xs v h := by
  have key : ∀ (ys : List D) (i : Nat), i + ys.length = xs.length → xs.drop i = ys → ∀ v h, I i v h → forW none T B fin ys v h := by
    intro ys
    induction ys with
    | nil =>
      intro i hl hd v h hi
      have : i = xs.length := by simpa using hl
      subst this
      exact hf v h hi
    | cons y ys ih =>
      intro i hl hd v h hi
      have hx : xs[i]? = some y := by
        have := congrArg List.head? hd
        rw [List.head?_drop] at this
        exact this
      have hd' : xs.drop (i + 1) = ys := by
        have := congrArg List.tail hd
        rwa [List.tail_drop] at this
      exact step i y v h _ hx hi fun v' h' hi' => ih (i + 1) (by rw [List.length_cons] at hl; omega) hd' v' h' hi'
  intro v h hi
  exact key xs 0 (by simp) (by simp) v h hi
theorem forW_rng {T : D → Env' → AH → PV → Prop} {B : PV → Env' → AH → Prop} {fin : PV} {lo : Int} {n : Nat} (I : Nat → Env' → AH → Prop)
    (step : ∀ i v h (nx : PV), i < n → I i v h → (∀ v' h', I (i + 1) v' h' → nx v' h') → T (.int (lo + (i : Int))) v h fun v h => B nx v h) (hf : ∀ v h, I n v h → fin v h) {v : Env'} {h : AH} (h0 : I 0 v h) : forW none T B fin (rngL lo n) v h := by
  refine forW_list I (fun i x v h nx hx hi hn => ?_) (fun v h hi => hf v h (by rwa [rng_len] at hi)) h0
  obtain ⟨h1, rfl⟩ := rng_get hx
  exact step i v h nx h1 hi hn
end
end Ab
namespace Ab
open PySem PySem.Spec PyProof.Rows L2
theorem cast_ne {a : Int} (h : a ≠ 0) : (a : Rat) ≠ 0 := fun z => h (Rat.intCast_eq_zero_iff.mp z)
def Rb (n : Nat) (q : Rat) : Prop := q.num.natAbs < 2 ^ n ∧ ((q.den : Nat) : Int).natAbs < 2 ^ n
theorem Rb.mono {n m : Nat} {q : Rat} (h : Rb n q) (l : n ≤ m) : Rb m q := ⟨abs_up h.1 l, abs_up h.2 l⟩
theorem rb_div {a b : Int} {n : Nat} (hb : b ≠ 0) (h1 : a.natAbs < 2 ^ n) (h2 : b.natAbs < 2 ^ n) : Rb n ((a : Rat) / b) := by
  obtain ⟨q1, q2⟩ := rat_bd (a := a) hb
  exact ⟨Nat.lt_of_le_of_lt q1 h1, Nat.lt_of_le_of_lt (by simpa using q2) h2⟩
theorem abs_sub {i j : Int} {a : Nat} (hi : i.natAbs < 2 ^ a) (hj : j.natAbs < 2 ^ a) : (i - j).natAbs < 2 ^ (a + 1) := by
  rw [Nat.pow_succ]; omega
section
variable {P : Nat → Option Fn} {k : Nat} {h : AH} {X : PX} {Q : PQ} {n : Nat} {p q : Rat}
end
end Ab
namespace Ab
open PySem PySem.Spec PyProof.Rows L2
theorem compW_list {T : D → AH → PV → Prop} {C : Env' → AH → (Bool → AH → Prop) → Prop} {R : Env' → AH → PQ → Prop} {xs : List D} {K : List D → AH → Prop} (I : Nat → List D → AH → Prop)
    (step : ∀ i x acc h (G : List D → AH → Prop), xs[i]? = some x → I i acc h → (∀ acc' h', I (i + 1) acc' h' → G acc' h') → T x h fun v h => C v h fun c h => (c = true → R v h fun d h => acc.length < sizeLine ∧ G (acc ++ [d]) h) ∧ (c = false → G acc h))
    (hf : ∀ acc h, I xs.length acc h → K acc h) {h : AH} (h0 : I 0 [] h) : compW none T C R xs [] h K := by
  have key : ∀ (ys : List D) (i : Nat), i + ys.length = xs.length → xs.drop i = ys → ∀ acc h, I i acc h → compW none T C R ys acc h K := by
    intro ys
    induction ys with
    | nil =>
      intro i hl hd acc h hi
      have : i = xs.length := by simpa using hl
      subst this
      exact hf acc h hi
    | cons y ys ih =>
      intro i hl hd acc h hi
      have hx : xs[i]? = some y := by
        have := congrArg List.head? hd
        rw [List.head?_drop] at this
        exact this
      have hd' : xs.drop (i + 1) = ys := by
        have := congrArg List.tail hd
        rwa [List.tail_drop] at this
      exact step i y acc h (fun acc h => compW none T C R ys acc h K) hx hi fun acc' h' hi' => ih (i + 1) (by rw [List.length_cons] at hl; omega) hd' acc' h' hi'
  exact key xs 0 (by simp) (by simp) [] h h0
theorem compW_map {α : Type} {T : D → AH → PV → Prop} {C : Env' → AH → (Bool → AH → Prop) → Prop} {R : Env' → AH → PQ → Prop} {l : List α} {K : List D → AH → Prop} {h : AH} (g f : α → D) (hl : l.length ≤ sizeLine)
    (step : ∀ x, x ∈ l → ∀ (acc : List D) (G : List D → AH → Prop), acc.length < sizeLine ∧ G (acc ++ [f x]) h → T (g x) h fun v h => C v h fun c h => (c = true → R v h fun d h => acc.length < sizeLine ∧ G (acc ++ [d]) h) ∧ (c = false → G acc h))
    (w : K (l.map f) h) : compW none T C R (l.map g) [] h K := by
  refine compW_list (fun i acc h' => h' = h ∧ acc = (l.take i).map f) ?_ ?_ ⟨rfl, by simp⟩
  · rintro i x acc h' G hx ⟨rfl, rfl⟩ hG
    rw [List.getElem?_map] at hx
    cases hy : l[i]? with
    | none => rw [hy] at hx; cases hx
    | some y =>
      rw [hy] at hx
      cases hx
      obtain ⟨hi, e⟩ := List.getElem?_eq_some_iff.mp hy
      refine step y (List.mem_of_getElem? hy) _ G ⟨by simp; omega, hG _ _ ⟨rfl, ?_⟩⟩
      rw [List.take_add_one, List.map_append, hy]
      rfl
  · rintro acc h' ⟨rfl, rfl⟩
    rw [List.length_map, List.take_length]
    exact w
def ct (c : Int × Int) : D := .tup [.int c.1, .int c.2]
section
variable {P : Nat → Option Fn} {k : Nat} {h : AH} {X : PX} {Q : PQ}
theorem together_ok {N0 : Nat} (hP : P N0 = some fn_together) {l : List (Int × Int)} {d : D} (hd : d = .lst (l.map ct) ∨ d = .tup (l.map ct)) (hl : l.length ≤ sizeLine) (w : Q (ct ((l.map (·.1)).sum, (l.map (·.2)).sum)) h) : wpCall P (k + 1) N0 [d] h X Q := by
  refine call_of hP rfl ?_
  have e1 : ∀ f : Int × Int → Int, l.map (fun c => D.int (f c)) = (l.map f).map D.int := fun f => by rw [List.map_map]; rfl
  rcases hd with rfl | rfl
  · conv => whnf
    refine compW_map ct (fun c => .int c.1) hl (fun x hx acc G hG => ?_) ?_
    · conv => whnf
      refine pT ?_
      conv => whnf
      exact ⟨_, rfl, hG⟩
    conv => whnf
    refine ⟨_, e1 (·.1), ?_⟩
    conv => whnf
    refine compW_map ct (fun c => .int c.2) hl (fun x hx acc G hG => ?_) ?_
    · conv => whnf
      refine pT ?_
      conv => whnf
      exact ⟨_, rfl, hG⟩
    conv => whnf
    refine ⟨_, e1 (·.2), ?_⟩
    conv => whnf
    exact ⟨len_le (by simp), _, sub_refl _, w⟩
  · conv => whnf
    refine compW_map ct (fun c => .int c.1) hl (fun x hx acc G hG => ?_) ?_
    · conv => whnf
      refine pT ?_
      conv => whnf
      exact ⟨_, rfl, hG⟩
    conv => whnf
    refine ⟨_, e1 (·.1), ?_⟩
    conv => whnf
    refine compW_map ct (fun c => .int c.2) hl (fun x hx acc G hG => ?_) ?_
    · conv => whnf
      refine pT ?_
      conv => whnf
      exact ⟨_, rfl, hG⟩
    conv => whnf
    refine ⟨_, e1 (·.2), ?_⟩
    conv => whnf
    exact ⟨len_le (by simp), _, sub_refl _, w⟩
end
end Ab
namespace Ab
open PySem PySem.Spec PyProof.Rows L2
def Sh (n : Nat) (d : D) : Prop := flat d = true ∧ (py d).canLay0 = true ∧ (py d).depth ≤ n
theorem Sh.mono {n m : Nat} {d : D} (h : Sh n d) (l : n ≤ m) : Sh m d := ⟨h.1, h.2.1, Nat.le_trans h.2.2 l⟩
theorem shs {n : Nat} : ∀ {ds : List D}, (∀ d ∈ ds, Sh n d) → flats ds = true ∧ PyData.canLayAll0 (pys ds) = true ∧ PyData.depthAll (pys ds) ≤ n
  | [], _ => ⟨rfl, rfl, Nat.zero_le _⟩
  | d :: ds, h => by
    obtain ⟨a1, a2, a3⟩ := h d List.mem_cons_self
    obtain ⟨b1, b2, b3⟩ := shs (ds := ds) fun e he => h e (List.mem_cons_of_mem _ he)
    refine ⟨by show (flat d && flats ds) = true; rw [a1, b1]; rfl, by show ((py d).canLay0 && PyData.canLayAll0 (pys ds)) = true; rw [a2, b2]; rfl, ?_⟩
    show max (py d).depth (PyData.depthAll (pys ds)) ≤ n
    omega
theorem sh_tup {n : Nat} {ds : List D} (h : ∀ d ∈ ds, Sh n d) : Sh (n + 1) (.tup ds) := by
  obtain ⟨a, b, c⟩ := shs h
  exact ⟨a, b, Nat.succ_le_succ c⟩
theorem sh_int (i : Int) : Sh 0 (.int i) := ⟨rfl, rfl, Nat.le_refl _⟩
theorem sh_ct (c : Int × Int) : Sh 1 (ct c) := ⟨rfl, rfl, Nat.le_refl _⟩
theorem sh_map {α : Type} {n : Nat} {l : List α} {f : α → D} (h : ∀ a, a ∈ l → Sh n (f a)) : ∀ d ∈ l.map f, Sh n d := fun d hd => by
  obtain ⟨a, ha, rfl⟩ := List.mem_map.mp hd
  exact h a ha
theorem sh_shp {n : Nat} {d : D} (h : Sh n d) (hn : n ≤ 64) : shp d = true := by
  unfold shp SeqAt.shaped
  rw [h.1, h.2.1, decide_eq_true (Nat.le_trans h.2.2 hn)]
  rfl
mutual
theorem eqv_refl : ∀ d : D, flat d = true → PyData.eqv (py d) (py d) = true
  | .non, _ => rfl
  | .bl b, _ => by show (b == b) = true; simp
  | .int b, _ => by show (b == b) = true; simp
  | .str b, _ => by show (b == b) = true; simp
  | .tup ds, h => eqv_refls ds h
  | .lst ds, h => eqv_refls ds h
theorem eqv_refls : ∀ ds : List D, flats ds = true → PyData.eqvAll (pys ds) (pys ds) = true
  | [], _ => rfl
  | d :: ds, h => by
    have h' : (flat d && flats ds) = true := h
    obtain ⟨h1, h2⟩ := Bool.and_eq_true_iff.mp h'
    show (PyData.eqv (py d) (py d) && PyData.eqvAll (pys ds) (pys ds)) = true
    rw [eqv_refl d h1, eqv_refls ds h2]
    rfl
end
theorem eqD_refl {d : D} (h : flat d = true) : eqD d d = true := eqv_refl d h
def sg (x y : Int) : Int := (if y < x then 1 else 0) - (if x < y then 1 else 0)
end Ab
namespace Ab
open PySem PySem.Spec PyProof.Rows L2
def Bd (n : Nat) (x : Int) : Prop := x.natAbs < 2 ^ n
theorem bd_add {a b : Nat} {x y : Int} (h : Bd a x) (g : Bd b y) : Bd (max a b + 1) (x + y) := abs_add (abs_up h (Nat.le_max_left ..)) (abs_up g (Nat.le_max_right ..))
theorem bd_sub {a b : Nat} {x y : Int} (h : Bd a x) (g : Bd b y) : Bd (max a b + 1) (x - y) := abs_sub (abs_up h (Nat.le_max_left ..)) (abs_up g (Nat.le_max_right ..))
theorem bd_mul {a b : Nat} {x y : Int} (h : Bd a x) (g : Bd b y) : Bd (a + b) (x * y) := abs_mul h g
theorem bd_neg {a : Nat} {x : Int} (h : Bd a x) : Bd a (-x) := by unfold Bd at *; rwa [Int.natAbs_neg]
theorem bd_64 {x : Int} (h : x.natAbs < 18446744073709551616) : Bd 64 x := h
theorem bd_128 {x : Int} (h : x.natAbs < 340282366920938463463374607431768211456) : Bd 128 x := h
theorem Bd.up {a b : Nat} {x : Int} (h : Bd a x) (l : a ≤ b) : Bd b x := abs_up h l
theorem Bd.le {a : Nat} {x y : Int} (h : Bd a y) (l : x.natAbs ≤ y.natAbs) : Bd a x := Nat.lt_of_le_of_lt l h
theorem Bd.nn {a : Nat} {x y : Int} (h : Bd a y) (l0 : 0 ≤ x) (l : x ≤ y) : Bd a x := h.le (by omega)
theorem mul_b {a b : Nat} {i j : Int} (hi : Bd a i) (hj : Bd b j) (h : a + b ≤ 999000) : MulOk i j := mul_of (a := a + 1) (b := b + 1) (abs_up hi (Nat.le_succ _)) (abs_up hj (Nat.le_succ _)) (Nat.succ_pos _) (Nat.succ_pos _) (by omega)
theorem div_b {a : Nat} {i j : Int} (h0 : j ≠ 0) (hj : Bd a j) (h : a ≤ 8999) : j ≠ 0 ∧ Builtin.divisionGoesByPylong i j = false := ⟨h0, noLong (n := a + 1) (abs_up hj (Nat.le_succ _)) (Nat.succ_pos _) (by omega)⟩
theorem at0 {α : Type} {a : α} {l : List α} : atI (a :: l) 0 = some a := by
  have := atI_nat (xs := a :: l) (j := 0) (v := a) rfl
  exact this
theorem at1 {α : Type} {a b : α} {l : List α} : atI (a :: b :: l) 1 = some b := by
  have := atI_nat (xs := a :: b :: l) (j := 1) (v := b) rfl
  exact this
theorem at2 {α : Type} {a b c : α} {l : List α} : atI (a :: b :: c :: l) 2 = some c := by
  have := atI_nat (xs := a :: b :: c :: l) (j := 2) (v := c) rfl
  exact this
theorem at3 {α : Type} {a b c d : α} {l : List α} : atI (a :: b :: c :: d :: l) 3 = some d := by
  have := atI_nat (xs := a :: b :: c :: d :: l) (j := 3) (v := d) rfl
  exact this
theorem ix_of {ds : List D} {i : Int} {d : D} {K : D → Prop} (e : atI ds i = some d) (q : K d) : ∃ d, atI ds i = some d ∧ K d := ⟨d, e, q⟩
theorem isi_of {d : D} {h : AH} {cs : List CI} {b : Bool} {K : Bool → Prop} (e : isiAny d h cs = some b) (q : K b) : ∃ b, isiAny d h cs = some b ∧ K b := ⟨b, e, q⟩
theorem ret_of {h : AH} {K : AH → Prop} (q : K h) : ∃ h'', Sub h'' h ∧ K h'' := ⟨h, sub_refl _, q⟩
theorem ref_of {h : AH} {a : Addr} {ds : List D} {K : List D → Prop} (e : h a = some (.lst ds)) (q : K ds) : ∃ ds, h a = some (.lst ds) ∧ K ds := ⟨ds, e, q⟩
end Ab
namespace Ab
open PySem PySem.Spec PyProof.Rows L2
section
variable {P : Nat → Option Fn} {k : Nat} {h : AH} {X : PX} {Q : PQ}
structure Cn (z : Nat) (c : Int × Int) : Prop where
  w0 : 0 ≤ c.2
  wn : c.2 ≤ c.1
  b1 : Bd z c.1
  b2 : Bd z c.2
theorem Cn.of {z : Nat} {n w : Int} (h0 : 0 ≤ w) (h1 : w ≤ n) (b : Bd z n) : Cn z (n, w) := ⟨h0, h1, b, b.nn h0 h1⟩
structure Few (T W T' W' m p q : Int) : Prop where
  p0 : 0 ≤ p
  q0 : 0 ≤ q
  pW : p ≤ W
  qW : q ≤ T' - W'
  ok : W * T' - W' * T + m ≤ p * T' + q * T
  least : ∀ p' q', 0 ≤ p' → 0 ≤ q' → p' + q' < p + q → p' * T' + q' * T < W * T' - W' * T + m
  great : ∀ p', p < p' → p' ≤ p + q → p' ≤ W → p' * T' + (p + q - p') * T < W * T' - W' * T + m
end
end Ab
namespace Ab
open PySem PySem.Spec PyProof.Rows L2
theorem rngL0 (n : Nat) : rngL 0 n = (List.range n).map fun (i : Nat) => D.int (i : Int) := by
  unfold rngL
  exact List.map_congr_left fun i _ => by rw [Int.zero_add]
section
variable {T : D → AH → PV → Prop} {C : Env' → AH → (Bool → AH → Prop) → Prop} {R : Env' → AH → PQ → Prop} {K : List D → AH → Prop} {h : AH}
theorem compW_rng {n : Nat} (f : Nat → D) (hl : n ≤ sizeLine)
    (step : ∀ i, i < n → ∀ (acc : List D) (G : List D → AH → Prop), acc.length < sizeLine ∧ G (acc ++ [f i]) h → T (.int (i : Int)) h fun v h => C v h fun c h => (c = true → R v h fun d h => acc.length < sizeLine ∧ G (acc ++ [d]) h) ∧ (c = false → G acc h))
    (w : K ((List.range n).map f) h) : compW none T C R (rngL 0 n) [] h K := by
  rw [rngL0]
  exact compW_map _ f (by simpa using hl) (fun i hi => step i (List.mem_range.mp hi)) w
end
section
variable {T : D → Env' → AH → PV → Prop} {B : PV → Env' → AH → Prop} {fin : PV}
theorem forW_r {n : Nat} (I : Nat → Env' → AH → Prop) (step : ∀ i v h (nx : PV), i < n → I i v h → (∀ v' h', I (i + 1) v' h' → nx v' h') → T (.int (i : Int)) v h fun v h => B nx v h) (hf : ∀ v h, I n v h → fin v h) {v : Env'} {h : AH} (h0 : I 0 v h) : forW none T B fin (rngL 0 n) v h :=
  forW_rng I (fun i v h nx a b c => by rw [Int.zero_add]; exact step i v h nx a b c) hf h0
theorem forW_map {α : Type} {l : List α} (g : α → D) (I : Nat → Env' → AH → Prop) (step : ∀ i y v h (nx : PV), l[i]? = some y → I i v h → (∀ v' h', I (i + 1) v' h' → nx v' h') → T (g y) v h fun v h => B nx v h) (hf : ∀ v h, I l.length v h → fin v h) {v : Env'} {h : AH} (h0 : I 0 v h) : forW none T B fin (l.map g) v h := by
  refine forW_list I (fun i x v h nx hx hi hn => ?_) (fun v h hi => hf v h (by rwa [List.length_map] at hi)) h0
  rw [List.getElem?_map] at hx
  cases hy : l[i]? with
  | none => rw [hy] at hx; cases hx
  | some y => rw [hy] at hx; cases hx; exact step i y v h nx hy hi hn
end
def StAt (s : Src) (h : AH) : Prop := match s with | none => True | some (a, ds) => h a = some (.lst ds)
theorem still_in {s : Src} {h : AH} {A : Prop} (a : StAt s h) (w : A) : still s h A := by
  cases s with
  | none => exact w
  | some x => exact ⟨a, w⟩
theorem compW_listS {s : Src} {T : D → AH → PV → Prop} {C : Env' → AH → (Bool → AH → Prop) → Prop} {R : Env' → AH → PQ → Prop} {xs : List D} {K : List D → AH → Prop} (I : Nat → List D → AH → Prop) (hs : ∀ i acc h, I i acc h → StAt s h)
    (step : ∀ i x acc h (G : List D → AH → Prop), xs[i]? = some x → I i acc h → (∀ acc' h', I (i + 1) acc' h' → G acc' h') → T x h fun v h => C v h fun c h => (c = true → R v h fun d h => acc.length < sizeLine ∧ G (acc ++ [d]) h) ∧ (c = false → G acc h))
    (hf : ∀ acc h, I xs.length acc h → K acc h) {h : AH} (h0 : I 0 [] h) : compW s T C R xs [] h K := by
  have key : ∀ (ys : List D) (i : Nat), i + ys.length = xs.length → xs.drop i = ys → ∀ acc h, I i acc h → compW s T C R ys acc h K := by
    intro ys
    induction ys with
    | nil =>
      intro i hl hd acc h hi
      have : i = xs.length := by simpa using hl
      subst this
      exact still_in (hs _ _ _ hi) (hf acc h hi)
    | cons y ys ih =>
      intro i hl hd acc h hi
      have hx : xs[i]? = some y := by
        have := congrArg List.head? hd
        rw [List.head?_drop] at this
        exact this
      have hd' : xs.drop (i + 1) = ys := by
        have := congrArg List.tail hd
        rwa [List.tail_drop] at this
      exact still_in (hs _ _ _ hi) (step i y acc h (fun acc h => compW s T C R ys acc h K) hx hi fun acc' h' hi' => ih (i + 1) (by rw [List.length_cons] at hl; omega) hd' acc' h' hi')
  exact key xs 0 (by simp) (by simp) [] h h0
theorem compW_filS {α : Type} {s : Src} {T : D → AH → PV → Prop} {C : Env' → AH → (Bool → AH → Prop) → Prop} {R : Env' → AH → PQ → Prop} {K : List D → AH → Prop} {h : AH} {l : List α} (hs : StAt s h) (g f : α → D) (p : α → Bool) (hl : l.length ≤ sizeLine)
    (step : ∀ x, x ∈ l → ∀ (acc : List D) (G : List D → AH → Prop), (p x = true → acc.length < sizeLine ∧ G (acc ++ [f x]) h) → (p x = false → G acc h) → T (g x) h fun v h => C v h fun c h => (c = true → R v h fun d h => acc.length < sizeLine ∧ G (acc ++ [d]) h) ∧ (c = false → G acc h))
    (w : K ((l.filter p).map f) h) : compW s T C R (l.map g) [] h K := by
  refine compW_listS (fun i acc h' => h' = h ∧ acc = ((l.take i).filter p).map f) (fun _ _ _ z => by rw [z.1]; exact hs) ?_ ?_ ⟨rfl, by simp⟩
  · rintro i x acc h' G hx ⟨rfl, rfl⟩ hG
    rw [List.getElem?_map] at hx
    cases hy : l[i]? with
    | none => rw [hy] at hx; cases hx
    | some y =>
      rw [hy] at hx
      cases hx
      obtain ⟨hi, e⟩ := List.getElem?_eq_some_iff.mp hy
      refine step y (List.mem_of_getElem? hy) _ G (fun hp => ⟨?_, hG _ _ ⟨rfl, ?_⟩⟩) (fun hp => hG _ _ ⟨rfl, ?_⟩)
      · have := List.length_filter_le p (l.take i)
        simp at this ⊢
        omega
      · rw [List.take_add_one, List.filter_append, List.map_append, hy]
        simp [hp]
      · rw [List.take_add_one, List.filter_append, List.map_append, hy]
        simp [hp]
  · rintro acc h' ⟨rfl, rfl⟩
    rw [List.length_map, List.take_length]
    exact w
theorem compW_mapS {α : Type} {s : Src} {T : D → AH → PV → Prop} {C : Env' → AH → (Bool → AH → Prop) → Prop} {R : Env' → AH → PQ → Prop} {l : List α} {K : List D → AH → Prop} {h : AH} (hs : StAt s h) (g f : α → D) (hl : l.length ≤ sizeLine)
    (step : ∀ x, x ∈ l → ∀ (acc : List D) (G : List D → AH → Prop), acc.length < sizeLine ∧ G (acc ++ [f x]) h → T (g x) h fun v h => C v h fun c h => (c = true → R v h fun d h => acc.length < sizeLine ∧ G (acc ++ [d]) h) ∧ (c = false → G acc h))
    (w : K (l.map f) h) : compW s T C R (l.map g) [] h K :=
  compW_filS hs g f (fun _ => true) hl (fun x hx acc G h1 _ => step x hx acc G (h1 rfl)) (by rw [List.filter_eq_self.mpr (fun _ _ => rfl)]; exact w)
theorem compW_mapR {α : Type} {a : Addr} {T : D → AH → PV → Prop} {C : Env' → AH → (Bool → AH → Prop) → Prop} {R : Env' → AH → PQ → Prop} {K : List D → AH → Prop} {h : AH} {l : List α} (g f : α → D) (e : h a = some (.lst (l.map g))) (hl : l.length ≤ sizeLine)
    (step : ∀ x, x ∈ l → ∀ (acc : List D) (G : List D → AH → Prop), acc.length < sizeLine ∧ G (acc ++ [f x]) h → T (g x) h fun v h => C v h fun c h => (c = true → R v h fun d h => acc.length < sizeLine ∧ G (acc ++ [d]) h) ∧ (c = false → G acc h))
    (w : K (l.map f) h) : compW (some (a, l.map g)) T C R (l.map g) [] h K := compW_mapS (s := some (a, l.map g)) e g f hl step w
theorem sub_new {h : AH} {p : Addr} {c : Cell} (e : h p = none) : Sub h (put h p c) := fun a c' x => by
  unfold put
  by_cases y : a = p
  · subst y; rw [e] at x; cases x
  · rw [if_neg y]; exact x
def Own (h h' : AH) (p : Addr) (ds : List D) : Prop := h p = none ∧ h' p = some (.lst ds) ∧ ∀ b, b ≠ p → h' b = h b
theorem Own.sub {h h' : AH} {p : Addr} {ds : List D} (o : Own h h' p ds) : Sub h (cut h' p) := fun a c x => by
  unfold cut
  by_cases y : a = p
  · subst y; rw [o.1] at x; cases x
  · rw [if_neg y, o.2.2 a y]; exact x
theorem Own.new {h : AH} {p : Addr} {ds : List D} (e : h p = none) : Own h (put h p (.lst ds)) p ds := ⟨e, put_same, fun b n => put_ne n⟩
theorem Own.put {h h' : AH} {p : Addr} {ds ds' : List D} (o : Own h h' p ds) : Own h (put h' p (.lst ds')) p ds' := ⟨o.1, put_same, fun b n => by rw [put_ne n]; exact o.2.2 b n⟩
theorem PenAt.ne {h : AH} {a p : Addr} {ns : List Int} {B : Int} (pen : PenAt h a ns B) (e : h p = none) : a ≠ p := fun z => by
  obtain ⟨_, _, _, _, _, q⟩ := pen
  rw [z, e] at q; cases q
theorem PenAt.put {h : AH} {a p : Addr} {ns : List Int} {B : Int} {c : Cell} (pen : PenAt h a ns B) (n : a ≠ p) : PenAt (put h p c) a ns B := by
  obtain ⟨t, l, h0, h1, h2, q⟩ := pen
  exact ⟨t, l, h0, h1, h2, by rw [put_ne n]; exact q⟩
theorem PenAt.cut {h : AH} {a p : Addr} {ns : List Int} {B : Int} (pen : PenAt h a ns B) (n : a ≠ p) : PenAt (cut h p) a ns B := by
  obtain ⟨t, l, h0, h1, h2, q⟩ := pen
  exact ⟨t, l, h0, h1, h2, by unfold Ab.cut; rw [if_neg n]; exact q⟩
theorem at_list {xs : List D} {j : Nat} {d : D} (h : xs[j]? = some d) : atI xs (j : Int) = some d := atI_nat h
theorem set_at {h : AH} {a : Addr} {ds : List D} {k : Nat} {d : D} {K : AH → Prop} (e : h a = some (.lst ds)) (hk : k < ds.length) (q : K (put h a (.lst (ds.set k d)))) : setW (.ref a) (.int (k : Int)) d h K :=
  ⟨ds, e, k, by unfold L2.ixN; rw [if_pos (by omega), if_pos (by omega)]; simp, q⟩
end Ab
namespace Ab
open PySem PySem.Spec PyProof.Rows L2
abbrev Row := List (Int × Int)
def rwD (r : Row) : D := .tup (r.map ct)
def tb (T : List Row) : D := .lst (T.map rwD)
structure RowOk (z m : Nat) (r : Row) : Prop where
  len : r.length = m
  cs : ∀ c ∈ r, Cn z c
structure Tab (z m : Nat) (T : List Row) : Prop where
  m2 : 2 ≤ m
  m6 : m ≤ 6
  n1 : 1 ≤ T.length
  n60 : T.length ≤ 61
  rows : ∀ r ∈ T, RowOk z m r
theorem Cn.up {z z' : Nat} {c : Int × Int} (h : Cn z c) (l : z ≤ z') : Cn z' c := ⟨h.w0, h.wn, h.b1.up l, h.b2.up l⟩
theorem RowOk.up {z z' m : Nat} {r : Row} (h : RowOk z m r) (l : z ≤ z') : RowOk z' m r := ⟨h.len, fun c hc => (h.cs c hc).up l⟩
theorem Tab.up {z z' m : Nat} {T : List Row} (h : Tab z m T) (l : z ≤ z') : Tab z' m T := ⟨h.m2, h.m6, h.n1, h.n60, fun r hr => (h.rows r hr).up l⟩
theorem cn0 (z : Nat) : Cn z (0, 0) := ⟨Int.le_refl _, Int.le_refl _, Nat.pow_pos (by decide), Nat.pow_pos (by decide)⟩
section
variable {P : Nat → Option Fn} {k : Nat} {h : AH} {X : PX} {Q : PQ}
end
end Ab
namespace Ab
open PySem PySem.Spec PyProof.Rows L2
def Kp (h h' : AH) (a : Addr) : Prop := ∀ b c, b ≠ a → h b = some c → h' b = some c
theorem Kp.refl (h : AH) (a : Addr) : Kp h h a := fun _ _ _ e => e
theorem Kp.trans {h h' h'' : AH} {a : Addr} (x : Kp h h' a) (y : Kp h' h'' a) : Kp h h'' a := fun b c n e => y b c n (x b c n e)
theorem Off.kp {h h' : AH} {a : Addr} (x : Off h h' a) : Kp h h' a := fun b c n e => by rw [x b n]; exact e
theorem Kp.new {h h' : AH} {a p : Addr} {c : Cell} (x : Kp h h' a) (e : h' p = none) : Kp h (put h' p c) a := fun b d n f => by
  have := x b d n f
  rw [put_ne (fun z => by rw [z, e] at this; cases this)]; exact this
theorem Kp.own {h h' : AH} {a p : Addr} {c : Cell} (x : Kp h h' a) (e : h p = none) : Kp h (put h' p c) a := fun b d n f => by
  rw [put_ne (fun z => by rw [z, e] at f; cases f)]; exact x b d n f
theorem Kp.cut {h h' : AH} {a p : Addr} (x : Kp h h' a) (e : h p = none) : Kp h (cut h' p) a := fun b d n f => by
  unfold Ab.cut
  rw [if_neg (fun z => by rw [z, e] at f; cases f)]; exact x b d n f
theorem cut_from (ds : List D) {k : Nat} (h : k ≤ ds.length) : cutD ds (some (k : Int)) none = ds.drop k := by
  unfold cutD
  rw [HT.sIx_nat, HT.sIx_none, Nat.min_eq_left h]
  apply List.take_of_length_le
  rw [List.length_drop]
  omega
theorem RowOk.rev {z m : Nat} {r : Row} (h : RowOk z m r) : RowOk z m r.reverse := ⟨by rw [List.length_reverse]; exact h.len, fun c hc => h.cs c (List.mem_reverse.mp hc)⟩
theorem RowOk.set {z m : Nat} {r : Row} (h : RowOk z m r) (i : Nat) {c : Int × Int} (hc : Cn z c) : RowOk z m (r.set i c) := ⟨by rw [List.length_set]; exact h.len, fun x hx => by
  rcases List.mem_or_eq_of_mem_set hx with hx | hx
  · exact h.cs x hx
  · rw [hx]; exact hc⟩
section
variable {P : Nat → Option Fn} {k : Nat} {h : AH}
end
end Ab
namespace Ab
open PySem PySem.Spec PyProof.Rows L2
section
variable {P : Nat → Option Fn} {k : Nat} {h : AH} {X : PX} {Q : PQ}
end
end Ab
namespace Ab
open PySem PySem.Spec PyProof.Rows L2
def cell (r : Row) (j : Nat) : Int × Int := r.getD j (0, 0)
def sm (T : List Row) (j : Nat) : Int × Int := ((T.map fun r => (cell r j).1).sum, (T.map fun r => (cell r j).2).sum)
theorem at_row {r : Row} {m j : Nat} (h : r.length = m) (hj : j < m) : atI (r.map ct) (j : Int) = some (ct (cell r j)) := by
  apply at_list
  rw [List.getElem?_map, List.getElem?_eq_getElem (by omega)]
  simp [cell, List.getElem?_eq_getElem (show j < r.length by omega)]
theorem cell_cn {z m j : Nat} {r : Row} (h : RowOk z m r) : Cn z (cell r j) := by
  unfold cell
  by_cases hj : j < r.length
  · rw [List.getD_eq_getElem?_getD, List.getElem?_eq_getElem hj]
    exact h.cs _ (List.getElem_mem hj)
  · rw [List.getD_eq_getElem?_getD, List.getElem?_eq_none (by omega)]
    exact cn0 z
theorem sum_bd {α : Type} {z : Nat} (f : α → Int) : ∀ {n : Nat} {l : List α}, l.length ≤ n → (∀ a ∈ l, 0 ≤ f a ∧ f a < 2 ^ z) → 0 ≤ (l.map f).sum ∧ (l.map f).sum ≤ n * 2 ^ z
  | n, [], _, _ => ⟨by simp, by simp; exact Int.mul_nonneg (by omega) (Int.le_of_lt (Int.pow_pos (by decide)))⟩
  | 0, a :: l, h, _ => by simp at h
  | n + 1, a :: l, h, hf => by
    obtain ⟨h1, h2⟩ := sum_bd (n := n) f (l := l) (by simpa using h) fun b hb => hf b (List.mem_cons_of_mem _ hb)
    obtain ⟨h3, h4⟩ := hf a List.mem_cons_self
    rw [List.map_cons, List.sum_cons]
    have e : ((n + 1 : Nat) : Int) * 2 ^ z = n * 2 ^ z + 2 ^ z := by rw [Int.natCast_add, Int.add_mul]; simp
    rw [e]
    omega
theorem sum_le {α : Type} (f g : α → Int) : ∀ {l : List α}, (∀ a ∈ l, f a ≤ g a) → (l.map f).sum ≤ (l.map g).sum
  | [], _ => by simp
  | a :: l, h => by
    have := sum_le f g (l := l) fun b hb => h b (List.mem_cons_of_mem _ hb)
    have := h a List.mem_cons_self
    simp only [List.map_cons, List.sum_cons]
    omega
theorem bd_nn {z : Nat} {x : Int} (h : Bd z x) (h0 : 0 ≤ x) : x < 2 ^ z := by
  unfold Bd at h
  have e : ((x.natAbs : Nat) : Int) = x := by omega
  have : ((x.natAbs : Nat) : Int) < ((2 ^ z : Nat) : Int) := by exact_mod_cast h
  rw [e] at this
  simpa using this
theorem nn_bd {z : Nat} {x : Int} (h0 : 0 ≤ x) (h : x < 2 ^ z) : Bd z x := by
  unfold Bd
  have e : ((x.natAbs : Nat) : Int) = x := by omega
  have : ((x.natAbs : Nat) : Int) < ((2 ^ z : Nat) : Int) := by rw [e]; simpa using h
  exact_mod_cast this
theorem sm_cn {z m j : Nat} {T : List Row} (h : ∀ r ∈ T, RowOk z m r) (hl : T.length ≤ 61) : Cn (z + 6) (sm T j) := by
  have c : ∀ r ∈ T, Cn z (cell r j) := fun r hr => cell_cn (h r hr)
  have key : ∀ f : Row → Int, (∀ r ∈ T, 0 ≤ f r ∧ f r < 2 ^ z) → Bd (z + 6) (T.map f).sum := fun f hf => by
    obtain ⟨h1, h2⟩ := sum_bd f hl hf
    refine nn_bd h1 ?_
    rw [Int.pow_add]
    have := Int.pow_pos (n := 2) (m := z) (by decide)
    omega
  have p1 : ∀ r ∈ T, 0 ≤ (cell r j).1 ∧ (cell r j).1 < 2 ^ z := fun r hr => ⟨by have := (c r hr).w0; have := (c r hr).wn; omega, bd_nn (c r hr).b1 (by have := (c r hr).w0; have := (c r hr).wn; omega)⟩
  have p2 : ∀ r ∈ T, 0 ≤ (cell r j).2 ∧ (cell r j).2 < 2 ^ z := fun r hr => ⟨(c r hr).w0, bd_nn (c r hr).b2 (c r hr).w0⟩
  exact ⟨(sum_bd _ hl p2).1, sum_le _ _ fun r hr => (c r hr).wn, key _ p1, key _ p2⟩
theorem sh_row (r : Row) : Sh 2 (rwD r) := sh_tup (sh_map fun c _ => sh_ct c)
theorem Cn.n0 {z : Nat} {c : Int × Int} (h : Cn z c) : 0 ≤ c.1 := by have := h.w0; have := h.wn; omega
section
variable {P : Nat → Option Fn} {k : Nat} {h : AH} {X : PX} {Q : PQ}
theorem together_of (h9 : P 9 = some fn_together) {l : List (Int × Int)} (hl : l.length ≤ 1000) {d : D} (hd : d = .lst (l.map ct) ∨ d = .tup (l.map ct)) (w : Q (ct ((l.map (·.1)).sum, (l.map (·.2)).sum)) h) : wpCall P (k + 1) 9 [d] h X Q := together_ok h9 hd (len_le hl) w
end
end Ab
namespace Ab
open PySem PySem.Spec PyProof.Rows L2
def optD : Option Int → D
  | none => .non
  | some i => .int i
def sayO (c c' : Int × Int) : Option Int := if c.1 = 0 ∨ c'.1 = 0 then none else some (sg (c.2 * c'.1) (c'.2 * c.1))
def turnO (L : List (Option Int)) (w : Option Int) : D :=
  if L.all (fun o => o == some 1) = true then (if (w == some 1) = true then .tup [.str "kept", .int 1] else .tup [.str "turned", .int 1, optD w])
  else if L.all (fun o => o == some (-1)) = true then (if (w == some (-1)) = true then .tup [.str "kept", .int (-1)] else .tup [.str "turned", .int (-1), optD w])
  else match L.findIdx? (fun o => o == none || o == some 0) with
    | some i => .tup [.str "open", .int (i : Nat)]
    | none => .tup [.str "apart", .int ((L.findIdx fun o => o == some 1) : Nat), .int ((L.findIdx fun o => o == some (-1)) : Nat)]
def turnT (T : List Row) (a b : Nat) : D := turnO (T.map fun r => sayO (cell r a) (cell r b)) (sayO (sm T a) (sm T b))
section
variable {P : Nat → Option Fn} {k : Nat} {h : AH} {X : PX} {Q : PQ}
end
end Ab
namespace Ab
open PySem PySem.Spec PyProof.Rows L2
def shr (c : Int × Int) : Rat := (c.2 : Rat) / c.1
def shO (c : Int × Int) : Option Rat := if c.1 = 0 then none else some (shr c)
def wt (T : List Row) (a : Nat) (r : Row) : Rat := ((cell r a).1 : Rat) / (sm T a).1
theorem Tab.sum_cn {z m j : Nat} {T : List Row} (t : Tab z m T) : Cn (z + 6) (sm T j) := sm_cn t.rows t.n60
section
variable {P : Nat → Option Fn} {k : Nat} {h : AH} {X : PX} {Q : PQ}
structure FB (f : Rat → Rat) (L : List (Option Rat)) (i : Nat) (q : Rat) : Prop where
  at_ : L[i]? = some (some q)
  le : ∀ (j : Nat) (p : Rat), L[j]? = some (some p) → f q ≤ f p
  lt : ∀ (j : Nat) (p : Rat), j < i → L[j]? = some (some p) → f q < f p
theorem FB.uniq {f : Rat → Rat} {L : List (Option Rat)} {i j : Nat} {p q : Rat} (a : FB f L i p) (b : FB f L j q) : i = j ∧ p = q := by
  have e : i = j := by
    rcases Nat.lt_trichotomy i j with h | h | h
    · exact absurd (b.lt i p h a.at_) (Rat.not_lt.mpr (a.le j q b.at_))
    · exact h
    · exact absurd (a.lt j q h b.at_) (Rat.not_lt.mpr (b.le i p a.at_))
  subst e
  have := a.at_.symm.trans b.at_
  exact ⟨rfl, by cases this; rfl⟩
def FBo (f : Rat → Rat) (L : List (Option Rat)) (k : Nat) : Option (Nat × Rat) → Prop
  | none => ∀ j : Nat, j < k → ∀ p : Rat, L[j]? = some (some p) → False
  | some (i, q) => i < k ∧ L[i]? = some (some q) ∧ (∀ (j : Nat) (p : Rat), j < k → L[j]? = some (some p) → f q ≤ f p) ∧ ∀ (j : Nat) (p : Rat), j < i → L[j]? = some (some p) → f q < f p
theorem FBo.zero (f : Rat → Rat) (L : List (Option Rat)) : FBo f L 0 none := fun j h => by omega
theorem FBo.skip {f : Rat → Rat} {L : List (Option Rat)} {k : Nat} {o : Option (Nat × Rat)} (a : FBo f L k o) (e : L[k]? = some none) : FBo f L (k + 1) o := by
  cases o with
  | none =>
    intro j hj p hp
    by_cases c : j = k
    · subst c; rw [e] at hp; cases hp
    · exact a j (by omega) p hp
  | some x =>
    obtain ⟨i, q⟩ := x
    obtain ⟨a1, a2, a3, a4⟩ := a
    refine ⟨by omega, a2, fun j p hj hp => ?_, a4⟩
    by_cases c : j = k
    · subst c; rw [e] at hp; cases hp
    · exact a3 j p (by omega) hp
theorem FBo.first {f : Rat → Rat} {L : List (Option Rat)} {k : Nat} {p : Rat} (a : FBo f L k none) (e : L[k]? = some (some p)) : FBo f L (k + 1) (some (k, p)) := by
  refine ⟨by omega, e, fun j p' hj hp => ?_, fun j p' hj hp => (a j hj p' hp).elim⟩
  by_cases c : j = k
  · subst c; rw [e] at hp; cases hp; exact Rat.le_refl
  · exact (a j (by omega) p' hp).elim
theorem FBo.all {f : Rat → Rat} {L : List (Option Rat)} {i : Nat} {q : Rat} (a : FBo f L L.length (some (i, q))) : FB f L i q := by
  obtain ⟨a1, a2, a3, a4⟩ := a
  exact ⟨a2, fun j p hp => a3 j p (List.getElem?_eq_some_iff.mp hp).1 hp, a4⟩
def shs_ (T : List Row) (a : Nat) : List (Option Rat) := T.map fun r => shO (cell r a)
def neg_ (q : Rat) : Rat := -q
end
end Ab
namespace Ab
open PySem PySem.Spec PyProof.Rows L2
section
variable {P : Nat → Option Fn} {k : Nat} {h : AH} {X : PX} {Q : PQ}
end
end Ab
namespace Ab
open PySem PySem.Spec PyProof.Rows L2
section
variable {P : Nat → Option Fn} {k : Nat} {h : AH} {X : PX} {Q : PQ}
end
end Ab
namespace Ab
open PySem PySem.Spec PyProof.Rows L2
abbrev PPart := (Int × Int) × (Int × Int)
structure PartsOk (z : Nat) (one other : Int × Int) (m : Nat) (L : List PPart) : Prop where
  len : L.length = m
  cs : ∀ x ∈ L, Cn z x.1 ∧ Cn z x.2 ∧ x.1.1 ≠ 0 ∧ x.2.1 ≠ 0 ∧ x.1.2 * x.2.1 < x.2.2 * x.1.1
  s1 : (L.map fun x => x.1.1).sum = one.1
  s2 : (L.map fun x => x.1.2).sum = one.2
  s3 : (L.map fun x => x.2.1).sum = other.1
  s4 : (L.map fun x => x.2.2).sum = other.2
section
variable {P : Nat → Option Fn} {k : Nat} {h : AH} {X : PX} {Q : PQ}
end
end Ab
namespace Ab
open PySem PySem.Spec PyProof.Rows L2
structure Cel (S : Int) (w s : Rat) (c : Int × Int) : Prop where
  e1 : (c.1 : Rat) = S * w
  e2 : (c.2 : Rat) = S * w * s
section
variable {P : Nat → Option Fn} {k : Nat} {h : AH} {X : PX} {Q : PQ}
end
end Ab
namespace Ab
open PySem PySem.Spec PyProof.Rows L2
theorem rdiv_pos {a b : Rat} (ha : 0 < a) (hb : 0 < b) : 0 < a / b := by
  have := Rat.mul_pos ha (Rat.inv_pos.mpr hb)
  rwa [← Rat.div_def] at this
section
variable {P : Nat → Option Fn} {k : Nat} {h : AH} {X : PX} {Q : PQ}
end
theorem dv2 {a b c : Rat} (hc : c ≠ 0) (h : a = b / c) : a * c = b := by grind
end Ab
namespace Ab
open PySem PySem.Spec PyProof.Rows L2
structure Wts (n : Nat) (W : List Int) : Prop where
  len : W.length = n
  nn : ∀ w ∈ W, 0 ≤ w ∧ w ≤ 3000
  sm : 0 < W.sum
section
variable {P : Nat → Option Fn} {k : Nat} {h : AH} {X : PX} {Q : PQ}
end
def wq (W : List Int) (i : Nat) : Rat := (((W[i]?).getD 0 : Int) : Rat) / ((W.sum : Int) : Rat)
theorem Wts.sum_le {n : Nat} {W : List Int} (h : Wts n W) (hn : n ≤ 61) : Bd 18 W.sum := by
  have key : ∀ l : List Int, (∀ w ∈ l, 0 ≤ w ∧ w ≤ 3000) → 0 ≤ l.sum ∧ l.sum ≤ 3000 * l.length := by
    intro l
    induction l with
    | nil => intro _; simp
    | cons a l ih =>
      intro hl
      have i := ih fun w hw => hl w (List.mem_cons_of_mem _ hw)
      have a0 := hl a List.mem_cons_self
      rw [List.sum_cons, List.length_cons]
      omega
  have := key W h.nn
  rw [h.len] at this
  unfold Bd
  omega
theorem Wts.get {n : Nat} {W : List Int} (h : Wts n W) (i : Nat) : 0 ≤ (W[i]?).getD 0 ∧ (W[i]?).getD 0 ≤ 3000 := by
  cases e : W[i]? with
  | none => exact ⟨Int.le_refl _, by decide⟩
  | some w => exact h.nn w (List.mem_of_getElem? e)
theorem Wts.rb {n : Nat} {W : List Int} (h : Wts n W) (hn : n ≤ 61) (i : Nat) : Rb 18 (wq W i) := by
  have s0 := h.sm
  have := h.get i
  exact rb_div (by omega) (show Bd 18 _ by unfold Bd; omega) (h.sum_le hn)
section
variable {P : Nat → Option Fn} {k : Nat} {h : AH} {X : PX} {Q : PQ}
end
end Ab
namespace Ab
open PySem PySem.Spec PyProof.Rows L2
section
variable {P : Nat → Option Fn} {k : Nat} {h : AH} {X : PX} {Q : PQ}
end
end Ab
namespace Ab
open PySem PySem.Spec PyProof.Rows L2
def sR (f : Row → Rat) : List Row → Rat
  | [] => 0
  | r :: l => f r + sR f l
theorem sR_congr {f g : Row → Rat} : ∀ {l : List Row}, (∀ r ∈ l, f r = g r) → sR f l = sR g l
  | [], _ => rfl
  | r :: l, h => by
    show f r + sR f l = g r + sR g l
    rw [h r List.mem_cons_self, sR_congr fun x hx => h x (List.mem_cons_of_mem _ hx)]
theorem sR_add (f g : Row → Rat) : ∀ l : List Row, sR (fun r => f r + g r) l = sR f l + sR g l
  | [] => by show (0 : Rat) = 0 + 0; grind
  | r :: l => by
    show f r + g r + sR (fun r => f r + g r) l = f r + sR f l + (g r + sR g l)
    rw [sR_add f g l]; grind
theorem sR_sub (f g : Row → Rat) : ∀ l : List Row, sR (fun r => f r - g r) l = sR f l - sR g l
  | [] => by show (0 : Rat) = 0 - 0; grind
  | r :: l => by
    show f r - g r + sR (fun r => f r - g r) l = f r + sR f l - (g r + sR g l)
    rw [sR_sub f g l]; grind
theorem sR_mul (f : Row → Rat) (c : Rat) : ∀ l : List Row, sR (fun r => f r * c) l = sR f l * c
  | [] => by show (0 : Rat) = 0 * c; grind
  | r :: l => by
    show f r * c + sR (fun r => f r * c) l = (f r + sR f l) * c
    rw [sR_mul f c l]; grind
theorem sR_le {f g : Row → Rat} : ∀ {l : List Row}, (∀ r ∈ l, f r ≤ g r) → sR f l ≤ sR g l
  | [], _ => Rat.le_refl
  | r :: l, h => by
    have h1 := h r List.mem_cons_self
    have h2 := sR_le fun x hx => h x (List.mem_cons_of_mem r hx)
    show f r + sR f l ≤ g r + sR g l
    grind
theorem sR_int (f : Row → Int) (S : Rat) : ∀ l : List Row, sR (fun r => (f r : Rat) / S) l = (((l.map f).sum : Int) : Rat) / S
  | [] => by
    show (0 : Rat) = ((0 : Int) : Rat) / S
    have e : ((0 : Int) : Rat) = 0 := rfl
    rw [e]; grind
  | r :: l => by
    show (f r : Rat) / S + sR (fun r => (f r : Rat) / S) l = _
    rw [sR_int f S l, List.map_cons, List.sum_cons, Rat.intCast_add]
    grind
theorem rdiv_nn {a b : Rat} (ha : 0 ≤ a) (hb : 0 ≤ b) : 0 ≤ a / b := by
  rcases Classical.em (b = 0) with e | e
  · rw [e]; grind
  · rcases Classical.em (a = 0) with e' | e'
    · rw [e']; grind
    · exact Rat.le_of_lt (rdiv_pos (by grind) (by grind))
section
variable {z m : Nat} {T : List Row}
theorem wt_sum {a : Nat} (ht : (sm T a).1 ≠ 0) : sR (wt T a) T = 1 := by
  have e := sR_int (fun r => (cell r a).1) ((sm T a).1 : Rat) T
  have h := cast_ne ht
  have : sR (wt T a) T = (((sm T a).1 : Int) : Rat) / ((sm T a).1 : Rat) := e
  rw [this]
  grind
theorem wt_nn (t : Tab z m T) {a : Nat} (ht : (sm T a).1 ≠ 0) {r : Row} (hr : r ∈ T) : 0 ≤ wt T a r := by
  have h0 := (cell_cn (j := a) (t.rows r hr)).n0
  have h1 := (t.sum_cn (j := a)).n0
  unfold wt
  have : (0 : Rat) ≤ ((cell r a).1 : Rat) := Rat.intCast_le_intCast.mpr h0
  have s0 : (0 : Rat) < ((sm T a).1 : Rat) := Rat.intCast_lt_intCast.mpr (by show (0 : Int) < (sm T a).1; omega)
  exact rdiv_nn this (Rat.le_of_lt s0)
theorem wt0 {a : Nat} {r : Row} (h : (cell r a).1 = 0) : wt T a r = 0 := by
  unfold wt
  rw [h]
  have e : ((0 : Int) : Rat) = 0 := rfl
  rw [e]; grind
theorem wsh (t : Tab z m T) {a : Nat} (ht : (sm T a).1 ≠ 0) : sR (fun r => wt T a r * shr (cell r a)) T = shr (sm T a) := by
  have e := sR_int (fun r => (cell r a).2) ((sm T a).1 : Rat) T
  have : shr (sm T a) = sR (fun r => ((cell r a).2 : Rat) / ((sm T a).1 : Rat)) T := by rw [e]; rfl
  rw [this]
  refine sR_congr fun r hr => ?_
  have cc := cell_cn (j := a) (t.rows r hr)
  by_cases h : (cell r a).1 = 0
  · have h2 : (cell r a).2 = 0 := by have := cc.w0; have := cc.wn; omega
    rw [wt0 h, h2]
    have e : ((0 : Int) : Rat) = 0 := rfl
    rw [e]; grind
  · have h1 := cast_ne h
    have h2 := cast_ne ht
    unfold wt shr
    grind
end
def Both (T : List Row) (a b : Nat) : Prop := ∀ r ∈ T, ((cell r a).1 = 0 ↔ (cell r b).1 = 0)
theorem Both.symm {T : List Row} {a b : Nat} (h : Both T a b) : Both T b a := fun r hr => (h r hr).symm
def ldO (r : Row) (a b : Nat) : Option Rat := if (cell r a).1 = 0 then none else some (shr (cell r a) - shr (cell r b))
def lds (T : List Row) (a b : Nat) : List (Option Rat) := T.map fun r => ldO r a b
def gr (x y : Rat) : Rat := if y < x then x - y else 0
def une (T : List Row) (a b : Nat) : Rat := sR (fun r => gr (wt T a r) (wt T b r)) T
theorem gr_sub (x y : Rat) : gr x y - gr y x = x - y := by
  unfold gr
  by_cases h : y < x
  · rw [if_pos h, if_neg (by grind)]; grind
  · by_cases h2 : x < y
    · rw [if_neg h, if_pos h2]; grind
    · rw [if_neg h, if_neg h2]; grind
theorem gr_nn (x y : Rat) : 0 ≤ gr x y := by
  unfold gr
  by_cases h : y < x
  · rw [if_pos h]; grind
  · rw [if_neg h]; exact Rat.le_refl
theorem une_symm {T : List Row} {a b : Nat} (ha : (sm T a).1 ≠ 0) (hb : (sm T b).1 ≠ 0) : une T a b = une T b a := by
  have h := sR_sub (fun r => gr (wt T a r) (wt T b r)) (fun r => gr (wt T b r) (wt T a r)) T
  have h2 : sR (fun r => gr (wt T a r) (wt T b r) - gr (wt T b r) (wt T a r)) T = sR (fun r => wt T a r - wt T b r) T := sR_congr fun r _ => gr_sub _ _
  rw [h2, sR_sub, wt_sum ha, wt_sum hb] at h
  unfold une
  grind
theorem gap_low {z m : Nat} {T : List Row} (t : Tab z m T) {a b : Nat} (ha : (sm T a).1 ≠ 0) (hb : (sm T b).1 ≠ 0) (bt : Both T a b) {l lo hi : Rat} (hl : ∀ r ∈ T, (cell r a).1 ≠ 0 → l ≤ shr (cell r a) - shr (cell r b))
    (hlo : ∀ r ∈ T, (cell r b).1 ≠ 0 → lo ≤ shr (cell r b)) (hhi : ∀ r ∈ T, (cell r b).1 ≠ 0 → shr (cell r b) ≤ hi) : l - une T a b * (hi - lo) ≤ shr (sm T a) - shr (sm T b) := by
  rw [← wsh t ha, ← wsh t hb]
  have e1 : sR (fun r => wt T a r * l + (gr (wt T a r) (wt T b r) * lo - gr (wt T b r) (wt T a r) * hi)) T = l - une T a b * (hi - lo) := by
    rw [sR_add, sR_mul, sR_sub, sR_mul, sR_mul, wt_sum ha]
    show 1 * l + (une T a b * lo - une T b a * hi) = _
    rw [une_symm hb ha]
    grind
  have e2 : sR (fun r => wt T a r * shr (cell r a) - wt T b r * shr (cell r b)) T = sR (fun r => wt T a r * shr (cell r a)) T - sR (fun r => wt T b r * shr (cell r b)) T := sR_sub _ _ _
  rw [← e1, ← e2]
  refine sR_le fun r hr => ?_
  by_cases h : (cell r a).1 = 0
  · have h' := (bt r hr).mp h
    rw [wt0 h, wt0 h']
    have : gr 0 0 = 0 := by unfold gr; rw [if_neg (by grind)]
    rw [this]
    grind
  · have h' : (cell r b).1 ≠ 0 := fun z => h ((bt r hr).mpr z)
    have k1 := hl r hr h
    have k2 := hlo r hr h'
    have k3 := hhi r hr h'
    have k4 := wt_nn t ha hr
    have g1 := gr_nn (wt T a r) (wt T b r)
    have g2 := gr_nn (wt T b r) (wt T a r)
    have g3 := gr_sub (wt T a r) (wt T b r)
    generalize gr (wt T a r) (wt T b r) = p at *
    generalize gr (wt T b r) (wt T a r) = q at *
    generalize wt T a r = x at *
    generalize wt T b r = y at *
    generalize shr (cell r a) = s at *
    generalize shr (cell r b) = u at *
    have m1 := Rat.mul_le_mul_of_nonneg_left k1 k4
    have m2 := Rat.mul_le_mul_of_nonneg_left k2 g1
    have m3 := Rat.mul_le_mul_of_nonneg_left k3 g2
    have e : y = x - (p - q) := by grind
    subst e
    grind
theorem gap_low' {z m : Nat} {T : List Row} (t : Tab z m T) {a b : Nat} (ha : (sm T a).1 ≠ 0) (hb : (sm T b).1 ≠ 0) (bt : Both T a b) {l lo hi : Rat} (hl : ∀ r ∈ T, (cell r a).1 ≠ 0 → l ≤ shr (cell r a) - shr (cell r b))
    (hlo : ∀ r ∈ T, (cell r a).1 ≠ 0 → lo ≤ shr (cell r a)) (hhi : ∀ r ∈ T, (cell r a).1 ≠ 0 → shr (cell r a) ≤ hi) : l - une T a b * (hi - lo) ≤ shr (sm T a) - shr (sm T b) := by
  rw [← wsh t ha, ← wsh t hb]
  have e1 : sR (fun r => wt T b r * l + (gr (wt T a r) (wt T b r) * lo - gr (wt T b r) (wt T a r) * hi)) T = l - une T a b * (hi - lo) := by
    rw [sR_add, sR_mul, sR_sub, sR_mul, sR_mul, wt_sum hb]
    show 1 * l + (une T a b * lo - une T b a * hi) = _
    rw [une_symm hb ha]
    grind
  have e2 : sR (fun r => wt T a r * shr (cell r a) - wt T b r * shr (cell r b)) T = sR (fun r => wt T a r * shr (cell r a)) T - sR (fun r => wt T b r * shr (cell r b)) T := sR_sub _ _ _
  rw [← e1, ← e2]
  refine sR_le fun r hr => ?_
  by_cases h : (cell r a).1 = 0
  · have h' := (bt r hr).mp h
    rw [wt0 h, wt0 h']
    have : gr 0 0 = 0 := by unfold gr; rw [if_neg (by grind)]
    rw [this]
    grind
  · have h' : (cell r b).1 ≠ 0 := fun z => h ((bt r hr).mpr z)
    have k1 := hl r hr h
    have k2 := hlo r hr h
    have k3 := hhi r hr h
    have k4 := wt_nn t hb hr
    have g1 := gr_nn (wt T a r) (wt T b r)
    have g2 := gr_nn (wt T b r) (wt T a r)
    have g3 := gr_sub (wt T a r) (wt T b r)
    generalize gr (wt T a r) (wt T b r) = p at *
    generalize gr (wt T b r) (wt T a r) = q at *
    generalize wt T a r = x at *
    generalize wt T b r = y at *
    generalize shr (cell r a) = s at *
    generalize shr (cell r b) = u at *
    have m1 := Rat.mul_le_mul_of_nonneg_left k1 k4
    have m2 := Rat.mul_le_mul_of_nonneg_left k2 g1
    have m3 := Rat.mul_le_mul_of_nonneg_left k3 g2
    have e : x = y + (p - q) := by grind
    subst e
    grind
end Ab
namespace Ab
open PySem PySem.Spec PyProof.Rows L2
section
variable {z m : Nat} {T : List Row} {a b : Nat}
end
section
variable {P : Nat → Option Fn} {k : Nat} {h : AH} {X : PX} {Q : PQ}
theorem lds_at {T : List Row} {a b k : Nat} {r : Row} (e : T[k]? = some r) : (lds T a b)[k]? = some (ldO r a b) := by
  unfold lds
  rw [List.getElem?_map, e]
  rfl
structure Spn (T : List Row) (a : Nat) (s lo hi : Rat) : Prop where
  eq : s = hi - lo
  ge : ∀ r ∈ T, (cell r a).1 ≠ 0 → lo ≤ shr (cell r a)
  le : ∀ r ∈ T, (cell r a).1 ≠ 0 → shr (cell r a) ≤ hi
  uq : ∀ lo' hi', (∃ i j, FB id (shs_ T a) i lo' ∧ FB neg_ (shs_ T a) j hi') → s = hi' - lo'
end
end Ab
namespace Ab
open PySem PySem.Spec PyProof.Rows L2
def spm (x y : Rat) : Rat := if y < x then y else x
structure GapIs (T : List Row) (a b : Nat) (l g s : Rat) : Prop where
  lo : ∃ i : Nat, FB id (lds T a b) i l
  hi : ∃ i : Nat, FB neg_ (lds T a b) i g
  sp : ∃ sa sb la ha lb hb, Spn T a sa la ha ∧ Spn T b sb lb hb ∧ s = spm sa sb ∧ (∃ i j, FB id (shs_ T a) i la ∧ FB neg_ (shs_ T a) j ha) ∧ ∃ i j, FB id (shs_ T b) i lb ∧ FB neg_ (shs_ T b) j hb
theorem GapIs.bd {z m : Nat} {T : List Row} (t : Tab z m T) {a b : Nat} (hta : (sm T a).1 ≠ 0) (htb : (sm T b).1 ≠ 0) (bt : Both T a b) {l g s : Rat} (h : GapIs T a b l g s) : l - une T a b * s ≤ shr (sm T a) - shr (sm T b) := by
  obtain ⟨⟨i, f⟩, _, sa, sb, la, ha, lb, hb, p1, p2, rfl, _, _⟩ := h
  have hl : ∀ r ∈ T, (cell r a).1 ≠ 0 → l ≤ shr (cell r a) - shr (cell r b) := fun r hr c => by
    obtain ⟨k, hk, e⟩ := List.getElem_of_mem hr
    have := f.le k _ (by rw [lds_at (show T[k]? = some r by rw [List.getElem?_eq_getElem hk, e])]; unfold ldO; rw [if_neg c])
    exact this
  have b1 := gap_low t hta htb bt hl p2.ge p2.le
  have b2 := gap_low' t hta htb bt hl p1.ge p1.le
  rw [← p2.eq] at b1
  rw [← p1.eq] at b2
  unfold spm
  split
  · exact b1
  · exact b2
theorem FB.neg {T : List Row} {a b i : Nat} (bt : Both T a b) {p : Rat} (f : FB id (lds T a b) i p) : FB neg_ (lds T b a) i (-p) := by
  have key : ∀ (k : Nat) (x : Rat), (lds T b a)[k]? = some (some x) → (lds T a b)[k]? = some (some (-x)) := fun k x e => by
    unfold lds at e ⊢
    rw [List.getElem?_map] at e ⊢
    cases hr : T[k]? with
    | none => rw [hr] at e; cases e
    | some r =>
      rw [hr] at e
      have e : ldO r b a = some x := by simpa using e
      have hb := bt r (List.mem_of_getElem? hr)
      unfold ldO at e
      split at e
      · cases e
      · rename_i c
        cases e
        show some (ldO r a b) = _
        unfold ldO
        rw [if_neg (fun z => c (hb.mp z))]
        congr 2
        grind
  have back : (lds T b a)[i]? = some (some (-p)) := by
    have e := f.at_
    unfold lds at e ⊢
    rw [List.getElem?_map] at e ⊢
    cases hr : T[i]? with
    | none => rw [hr] at e; cases e
    | some r =>
      rw [hr] at e
      have e : ldO r a b = some p := by simpa using e
      have hb := bt r (List.mem_of_getElem? hr)
      unfold ldO at e
      split at e
      · cases e
      · rename_i c
        cases e
        show some (ldO r b a) = _
        unfold ldO
        rw [if_neg (fun z => c (hb.mpr z))]
        congr 2
        grind
  refine ⟨back, fun j x e => ?_, fun j x hj e => ?_⟩
  · have := f.le j _ (key j x e)
    unfold neg_
    show -(-p) ≤ -x
    have h2 : p ≤ -x := this
    grind
  · have := f.lt j _ hj (key j x e)
    unfold neg_
    have h2 : p < -x := this
    grind
section
variable {P : Nat → Option Fn} {k : Nat} {h : AH} {X : PX} {Q : PQ}
end
end Ab
namespace Ab
open PySem PySem.Spec PyProof.Rows L2
section
variable {P : Nat → Option Fn} {k : Nat} {h : AH} {X : PX} {Q : PQ}
end
structure TurnF (T : List Row) (a b : Nat) (s : Str) (x : Int) (ds : List D) : Prop where
  eq : turnT T a b = .tup (.str s :: .int x :: ds)
  st : s = "kept" ∨ s = "turned" ∨ s = "open" ∨ s = "apart"
  tn : s = "turned" → (T.all fun r => sayO (cell r a) (cell r b) == some x) = true ∧ sayO (sm T a) (sm T b) ≠ some x
end Ab
namespace Ab
open PySem PySem.Spec PyProof.Rows L2
theorem compW_draw {α : Type} {T : D → AH → PV → Prop} {C : Env' → AH → (Bool → AH → Prop) → Prop} {R : Env' → AH → PQ → Prop} {K : List D → AH → Prop} {n : Nat} {h : AH} {a : Addr} {ns : List Int} {B : Int} (f : α → D) (Ok : α → Prop) (c : Nat) (hn : n ≤ 1000) (pen : PenAt h a ns B)
    (step : ∀ (i : Nat) h1 (acc : List D) (G : List D → AH → Prop), i < n → Off h h1 a → PenAt h1 a ns (B + ((c * i : Nat) : Int)) → (∀ y h2, Ok y → PenAt h2 a ns (B + ((c * i : Nat) : Int) + c) → Off h1 h2 a → acc.length < sizeLine ∧ G (acc ++ [f y]) h2) → T (.int (i : Int)) h1 fun v h => C v h fun cc h => (cc = true → R v h fun d h => acc.length < sizeLine ∧ G (acc ++ [d]) h) ∧ (cc = false → G acc h))
    (w : ∀ (l : List α) h1, l.length = n → (∀ y ∈ l, Ok y) → PenAt h1 a ns (B + ((c * n : Nat) : Int)) → Off h h1 a → K (l.map f) h1) : compW none T C R (rngL 0 n) [] h K := by
  refine compW_list (fun j acc h' => ∃ l : List α, acc = l.map f ∧ l.length = j ∧ (∀ y ∈ l, Ok y) ∧ PenAt h' a ns (B + ((c * j : Nat) : Int)) ∧ Off h h' a) ?_ ?_ ⟨[], rfl, rfl, fun _ h => (nomatch h), pen.mono (by simp), Off.refl h a⟩
  · rintro j x acc h3 G hx ⟨l, rfl, rfl, hl, pen, off⟩ hG
    rw [rngL0] at hx
    have hj : l.length < n := by
      have := (List.getElem?_eq_some_iff.mp hx).1
      simpa using this
    rw [List.getElem?_map, List.getElem?_range hj] at hx
    cases hx
    refine step _ h3 _ G hj off pen fun y h2 oy pen2 off2 => ⟨len_le (n := (l.map f).length + 1) (by rw [List.length_map]; omega), hG _ _ ⟨l ++ [y], by simp, by simp, fun z hz => ?_, ?_, off.trans off2⟩⟩
    · rcases List.mem_append.mp hz with hz | hz
      · exact hl z hz
      · rw [List.mem_singleton.mp hz]; exact oy
    · refine pen2.mono ?_
      rw [Nat.mul_succ]
      omega
  · rintro acc h3 ⟨l, rfl, ll, hl, pen, off⟩
    have ln : l.length = n := by rw [ll, rngL0, List.length_map, List.length_range]
    rw [rngL0, List.length_map, List.length_range] at pen
    exact w l h3 ln hl pen off
end Ab
namespace Ab
open PySem PySem.Spec PyProof.Rows L2
section
variable {z m : Nat} {T : List Row}
end
structure Own2 (h h' : AH) (p p' : Addr) (ds es : List D) : Prop where
  n : h p = none
  n' : h p' = none
  ne : p' ≠ p
  e : h' p = some (.lst ds)
  e' : h' p' = some (.lst es)
  o : ∀ b, b ≠ p → b ≠ p' → h' b = h b
theorem Own2.new {h : AH} {p p' : Addr} {c : Cell} {ds es : List D} (e : h p = none) (e' : put h p c p' = none) : Own2 h (put (put h p (.lst ds)) p' (.lst es)) p p' ds es := by
  have ne : p' ≠ p := fun z => by rw [z, put_same] at e'; cases e'
  refine ⟨e, by rw [put_ne ne] at e'; exact e', ne, by rw [put_ne (Ne.symm ne), put_same], put_same, fun b n n' => by rw [put_ne n', put_ne n]⟩
theorem Own2.sub {h h' : AH} {p p' : Addr} {ds es : List D} (o : Own2 h h' p p' ds es) : Sub h h' := fun b c e => by
  rw [o.o b (fun z => by rw [z, o.n] at e; cases e) (fun z => by rw [z, o.n'] at e; cases e)]
  exact e
theorem Sub.trans {h h' h'' : AH} (a : Sub h h') (b : Sub h' h'') : Sub h h'' := fun x c e => b x c (a x c e)
theorem Sub.ne {h h' : AH} (s : Sub h h') {p b : Addr} {c : Cell} (e : h b = some c) (n : h' p = none) : b ≠ p := fun z => by
  have := s b c e
  rw [z, n] at this; cases this
theorem PenAt.sub {h h' : AH} {a : Addr} {ns : List Int} {B : Int} (pen : PenAt h a ns B) (s : Sub h h') : PenAt h' a ns B := by
  obtain ⟨t, l, h0, h1, h2, q⟩ := pen
  exact ⟨t, l, h0, h1, h2, s _ _ q⟩
end Ab
namespace Ab
open PySem PySem.Spec PyProof.Rows L2
section
variable {P : Nat → Option Fn} {k : Nat} {h : AH} {X : PX} {Q : PQ}
end
structure WtG (n : Nat) (W : List Int) : Prop where
  len : W.length = n
  nn : ∀ w ∈ W, 0 ≤ w
  sm : 0 < W.sum
  bnd : W.sum < 2 ^ 60
theorem Wts.g {n : Nat} {W : List Int} (h : Wts n W) (hn : n ≤ 61) : WtG n W := ⟨h.len, fun w hw => (h.nn w hw).1, h.sm, by
  have := h.sum_le hn
  have := h.sm
  have e : W.sum.natAbs < 2 ^ 18 := h.sum_le hn
  omega⟩
section
variable {P : Nat → Option Fn} {k : Nat} {h : AH} {X : PX} {Q : PQ}
end
section
variable {P : Nat → Option Fn} {k : Nat} {h : AH} {X : PX} {Q : PQ}
end
section
variable {P : Nat → Option Fn} {k : Nat} {h : AH} {X : PX} {Q : PQ}
end
end Ab
namespace Ab
open PySem PySem.Spec PyProof.Rows L2
theorem cut_to (ds : List D) (k : Nat) : cutD ds none (some (k : Int)) = ds.take k := by
  unfold cutD
  rw [HT.sIx_nat, HT.sIx_none]
  show (ds.drop 0).take (min k ds.length - 0) = _
  rw [List.drop_zero, Nat.sub_zero, ← List.take_eq_take_min]
theorem cut_last (ds : List D) : cutD ds none (some (-1)) = ds.dropLast := by
  unfold cutD
  rw [HT.sIx_none]
  show (ds.drop 0).take (((-1 : Int) + (ds.length : Int)).toNat - 0) = _
  rw [List.drop_zero, Nat.sub_zero, List.dropLast_eq_take]
  congr 1
  omega
section
variable {P : Nat → Option Fn} {k : Nat} {h : AH} {X : PX} {Q : PQ}
end
end Ab
namespace Ab
open PySem PySem.Spec PyProof.Rows L2
def rsum : List Rat → Rat
  | [] => 0
  | a :: l => a + rsum l
structure Wr (n : Nat) (Ws : List Rat) : Prop where
  len : Ws.length = n
  nn : ∀ w ∈ Ws, 0 ≤ w
  sm : rsum Ws = 1
  rb : ∀ w ∈ Ws, Rb 60 w
section
variable {P : Nat → Option Fn} {k : Nat} {h : AH} {X : PX} {Q : PQ}
end
end Ab
namespace Ab
open PySem PySem.Spec PyProof.Rows L2
section
variable {P : Nat → Option Fn} {k : Nat} {h : AH} {X : PX} {Q : PQ}
end
end Ab
namespace Ab
open PySem PySem.Spec PyProof.Rows L2
def OddG (m : Nat) (h : AH) (d : D) : Prop := (∃ i : Int, d = .int i ∧ ¬ (0 ≤ i ∧ i < m)) ∨ (∃ b, d = .bl b) ∨ isiAny d h [.int] = some false
section
variable {P : Nat → Option Fn} {k : Nat} {h : AH} {X : PX} {Q : PQ}
end
end Ab
namespace Ab
open PySem PySem.Spec PyProof.Rows L2
theorem isi_no {h : AH} {p : Addr} : isiAny (.ref p) h [.int] = some false ↔ ∃ c, h p = some c ∧ ∀ a b, c ≠ .ins a b := by
  simp only [isiAny, isiOne]
  cases h p with
  | none => exact ⟨fun z => (by cases z), fun ⟨_, z, _⟩ => (by cases z)⟩
  | some c =>
    cases c with
    | lst ds => exact ⟨fun _ => ⟨_, rfl, fun _ _ z => (by cases z)⟩, fun _ => rfl⟩
    | dct ds => exact ⟨fun _ => ⟨_, rfl, fun _ _ z => (by cases z)⟩, fun _ => rfl⟩
    | ins x y => exact ⟨fun z => (by cases z), fun ⟨_, z, w⟩ => (by cases z; exact absurd rfl (w x y))⟩
theorem isi_sub {h h' : AH} (s : Sub h h') {d : D} (e : isiAny d h [.int] = some false) : isiAny d h' [.int] = some false := by
  cases d with
  | ref p =>
    obtain ⟨c, e, n⟩ := isi_no.mp e
    exact isi_no.mpr ⟨c, s _ _ e, n⟩
  | _ => exact e
theorem OddG.sub {m : Nat} {h h' : AH} (s : Sub h h') {d : D} (o : OddG m h d) : OddG m h' d := by
  rcases o with o | o | o
  · exact .inl o
  · exact .inr (.inl o)
  · exact .inr (.inr (isi_sub s o))
theorem OddG.off {m : Nat} {h h' : AH} {a : Addr} (s : Off h h' a) {d : D} (n : d ≠ .ref a) (o : OddG m h d) : OddG m h' d := by
  rcases o with o | o | o
  · exact .inl o
  · exact .inr (.inl o)
  · refine .inr (.inr ?_)
    cases d with
    | ref p =>
      obtain ⟨c, e, n2⟩ := isi_no.mp o
      exact isi_no.mpr ⟨c, by rw [s p (fun z => n (by rw [z]))]; exact e, n2⟩
    | _ => exact o
section
variable {P : Nat → Option Fn} {k : Nat} {h : AH} {X : PX} {Q : PQ}
end
end Ab
namespace Ab
open PySem PySem.Spec PyProof.Rows L2
section
variable {P : Nat → Option Fn} {k : Nat} {h : AH} {X : PX} {Q : PQ}
end
end Ab
namespace Ab
open PySem PySem.Spec PyProof.Rows L2
section
variable {z m : Nat} {T : List Row}
end
end Ab
namespace Ab
open PySem PySem.Spec PyProof.Rows L2
abbrev Ln := Rat × Rat
def hgt (l : Ln) (t : Rat) : Rat := l.1 + t * (l.2 - l.1)
def ris (l : Ln) : Rat := l.2 - l.1
def ahd (l o : Ln) (t : Rat) : Prop := hgt o t < hgt l t ∨ (hgt l t = hgt o t ∧ ris o < ris l)
instance (l o : Ln) (t : Rat) : Decidable (ahd l o t) := by unfold ahd; infer_instance
end Ab
namespace Ab
open PySem PySem.Spec PyProof.Rows L2
section
variable {P : Nat → Option Fn} {k : Nat} {h : AH} {X : PX} {Q : PQ} {n m : Nat} {p q : Rat}
end
section
variable {P : Nat → Option Fn} {k : Nat} {h : AH} {X : PX} {Q : PQ}
end
end Ab
namespace Ab
open PySem PySem.Spec PyProof.Rows L2
section
variable {P : Nat → Option Fn} {k : Nat} {h : AH} {X : PX} {Q : PQ}
end
end Ab
namespace Ab
open PySem PySem.Spec PyProof.Rows L2
abbrev Fr := Int × Int × Nat
def vl (e : Fr) : Rat := (e.1 : Rat) / e.2.1
structure FE (f : Rat → Rat) (S : List Fr) (e : Fr) : Prop where
  mem : e ∈ S
  le : ∀ e' ∈ S, f (vl e) ≤ f (vl e') ∧ (e'.2.2 < e.2.2 → f (vl e) < f (vl e'))
def FrS (S : List Fr) : Prop := List.Pairwise (fun e e' : Fr => e.2.2 < e'.2.2) S
theorem FE.one (f : Rat → Rat) (e : Fr) : FE f [e] e := ⟨List.mem_singleton.mpr rfl, fun e' h => by
  rw [List.mem_singleton.mp h]; exact ⟨Rat.le_refl, fun z => absurd z (Nat.lt_irrefl _)⟩⟩
theorem fe_take {S : List Fr} {i : Nat} {e : Fr} (h : S[i]? = some e) : S.take (i + 1) = S.take i ++ [e] := by
  rw [List.take_add_one, h]; rfl
theorem fe_before {S : List Fr} (s : FrS S) {i : Nat} {e : Fr} (h : S[i]? = some e) : ∀ e' ∈ S.take i, e'.2.2 < e.2.2 := by
  unfold FrS at s
  intro e' h'
  obtain ⟨j, hj, rfl⟩ := List.getElem_of_mem h'
  rw [List.length_take] at hj
  obtain ⟨hi, rfl⟩ := List.getElem?_eq_some_iff.mp h
  rw [List.getElem_take]
  exact List.pairwise_iff_getElem.mp s j i (by omega) hi (by omega)
theorem FE.new {f : Rat → Rat} {S : List Fr} (s : FrS S) {i : Nat} {e l : Fr} (h : S[i]? = some e) (a : FE f (S.take i) l) (c : f (vl e) < f (vl l)) : FE f (S.take (i + 1)) e := by
  rw [fe_take h]
  refine ⟨List.mem_append.mpr (.inr (List.mem_singleton.mpr rfl)), fun e' h' => ?_⟩
  rcases List.mem_append.mp h' with h' | h'
  · have := (a.le e' h').1
    exact ⟨by grind, fun _ => by grind⟩
  · rw [List.mem_singleton.mp h']; exact ⟨Rat.le_refl, fun z => absurd z (Nat.lt_irrefl _)⟩
theorem FE.keep {f : Rat → Rat} {S : List Fr} (s : FrS S) {i : Nat} {e l : Fr} (h : S[i]? = some e) (a : FE f (S.take i) l) (c : ¬ f (vl e) < f (vl l)) : FE f (S.take (i + 1)) l := by
  rw [fe_take h]
  refine ⟨List.mem_append.mpr (.inl a.mem), fun e' h' => ?_⟩
  rcases List.mem_append.mp h' with h' | h'
  · exact a.le e' h'
  · rw [List.mem_singleton.mp h']
    have := fe_before s h l a.mem
    exact ⟨Rat.not_lt.mp c, fun z => absurd z (by omega)⟩
def FEi (f : Rat → Rat) (S : List Fr) (i : Nat) (l : Fr) : Prop := (i = 0 ∧ S[0]? = some l) ∨ FE f (S.take i) l
theorem FEi.step {f : Rat → Rat} {S : List Fr} (s : FrS S) {i : Nat} {e l : Fr} (h : S[i]? = some e) (a : FEi f S i l) : (f (vl e) < f (vl l) → FEi f S (i + 1) e) ∧ (¬ f (vl e) < f (vl l) → FEi f S (i + 1) l) := by
  rcases a with ⟨rfl, a⟩ | a
  · rw [h] at a
    cases a
    refine ⟨fun z => absurd z Rat.lt_irrefl, fun _ => .inr ?_⟩
    rw [fe_take h]
    exact FE.one f e
  · exact ⟨fun c => .inr (FE.new s h a c), fun c => .inr (FE.keep s h a c)⟩
section
variable {P : Nat → Option Fn} {k : Nat} {h : AH} {X : PX} {Q : PQ}
end
end Ab
namespace Ab
open PySem PySem.Spec PyProof.Rows L2
section
variable {P : Nat → Option Fn} {k : Nat} {h : AH} {X : PX} {Q : PQ}
end
end Ab
namespace Ab
open PySem PySem.Spec PyProof.Rows L2
section
variable {P : Nat → Option Fn} {k : Nat} {h : AH} {X : PX} {Q : PQ}
end
end Ab
namespace Ab
open PySem PySem.Spec PyProof.Rows L2
def keyD (y : List Int) : D := .tup (y.map D.int)
theorem code_inj {B : Int} : ∀ {a b : List Int}, a.length = b.length → TS.Bd B a → TS.Bd B b → TS.code B a = TS.code B b → a = b
  | [], [], _, _, _, _ => rfl
  | [], _ :: _, l, _, _, _ => by cases l
  | _ :: _, [], l, _, _, _ => by cases l
  | d :: r, e :: q, l, h1, h2, c => by
    have l' : r.length = q.length := by simpa using l
    rcases Int.lt_trichotomy d e with g | g | g
    · have := TS.code_lt l' h1.tail h2.tail g
      omega
    · subst g
      have c' : d * B ^ r.length + TS.code B r = d * B ^ q.length + TS.code B q := c
      rw [l'] at c'
      rw [code_inj l' h1.tail h2.tail (by omega)]
    · have := TS.code_lt l'.symm h2.tail h1.tail g
      omega
structure KS (L ys : List (List Int)) : Prop where
  mem : ∀ y, y ∈ ys ↔ y ∈ L
  nd : ys.Nodup
  so : ys.Pairwise fun a b => TS.code 8 a ≤ TS.code 8 b
theorem KS.uniq {n : Nat} {L ys zs : List (List Int)} (hL : ∀ y ∈ L, y.length = n ∧ TS.Bd 8 y) (a : KS L ys) (b : KS L zs) : ys = zs := by
  have p : ys.Perm zs := (List.perm_ext_iff_of_nodup a.nd b.nd).mpr fun y => (a.mem y).trans (b.mem y).symm
  refine List.Perm.eq_of_pairwise (le := fun x y => TS.code 8 x ≤ TS.code 8 y) (fun x y hx hy h1 h2 => ?_) a.so b.so p
  have h3 := hL x ((a.mem x).mp hx)
  have h4 := hL y ((b.mem y).mp hy)
  exact code_inj (h3.1.trans h4.1.symm) h3.2 h4.2 (by omega)
theorem KS.congr {L L' ys : List (List Int)} (a : KS L ys) (h : ∀ y, y ∈ L ↔ y ∈ L') : KS L' ys := ⟨fun y => (a.mem y).trans (h y), a.nd, a.so⟩
theorem KS.len {L ys : List (List Int)} (a : KS L ys) : ys.length ≤ L.length := by
  have : ∀ (ys L : List (List Int)), ys.Nodup → (∀ y ∈ ys, y ∈ L) → ys.length ≤ L.length := by
    intro ys
    induction ys with
    | nil => intro L _ _; simp
    | cons y ys ih =>
      intro L nd h
      obtain ⟨n1, n2⟩ := List.nodup_cons.mp nd
      have hy := h y List.mem_cons_self
      have := ih (L.erase y) n2 fun z hz => (List.mem_erase_of_ne fun (e : z = y) => n1 (by rw [← e]; exact hz)).mpr (h z (List.mem_cons_of_mem _ hz))
      have e := List.length_erase_of_mem hy
      have p := List.length_pos_of_mem hy
      rw [List.length_cons]
      omega
  exact this ys L a.nd fun y h => (a.mem y).mp h
theorem lookD_none {ks : List (List Int × D)} {k : List Int} : lookD ks k = none ↔ k ∉ ks.map (·.1) := by
  unfold lookD
  rw [Option.map_eq_none_iff, List.find?_eq_none]
  constructor
  · intro h hk
    obtain ⟨kv, m, e⟩ := List.mem_map.mp hk
    exact h kv m (decide_eq_true e)
  · intro h kv m e
    exact h (List.mem_map.mpr ⟨kv, m, of_decide_eq_true e⟩)
theorem lookD_some {ks : List (List Int × D)} {k : List Int} (h : k ∈ ks.map (·.1)) : ∃ d, lookD ks k = some d := by
  cases e : lookD ks k with
  | none => exact absurd h (lookD_none.mp e)
  | some d => exact ⟨d, rfl⟩
theorem lookD_mem {ks : List (List Int × D)} {k : List Int} {d : D} (h : lookD ks k = some d) : k ∈ ks.map (·.1) := by
  apply Classical.byContradiction
  intro z
  rw [lookD_none.mpr z] at h
  cases h
theorem lookD_cons (p : List Int × D) (ks : List (List Int × D)) (k : List Int) : lookD (p :: ks) k = if p.1 = k then some p.2 else lookD ks k := by
  unfold lookD
  rw [List.find?_cons]
  by_cases e : p.1 = k
  · rw [decide_eq_true e, if_pos e]; rfl
  · rw [decide_eq_false e, if_neg e]
theorem any_key {ks : List (List Int × D)} {k : List Int} : (ks.any fun kv => decide (kv.1 = k)) = true ↔ k ∈ ks.map (·.1) := by
  rw [List.any_eq_true]
  constructor
  · rintro ⟨kv, m, e⟩
    exact List.mem_map.mpr ⟨kv, m, of_decide_eq_true e⟩
  · intro h
    obtain ⟨kv, m, e⟩ := List.mem_map.mp h
    exact ⟨kv, m, decide_eq_true e⟩
theorem keys_put (ks : List (List Int × D)) (k : List Int) (d : D) : (putD ks k d).map (·.1) = if k ∈ ks.map (·.1) then ks.map (·.1) else ks.map (·.1) ++ [k] := by
  unfold putD
  by_cases c : k ∈ ks.map (·.1)
  · rw [if_pos (any_key.mpr c), if_pos c, List.map_map]
    refine List.map_congr_left fun kv _ => ?_
    show (if kv.1 = k then (kv.1, d) else kv).1 = kv.1
    split <;> rfl
  · rw [if_neg (fun z => c (any_key.mp z)), if_neg c, List.map_append]
    rfl
theorem lookD_put (ks : List (List Int × D)) (k j : List Int) (d : D) : lookD (putD ks k d) j = if j = k then some d else lookD ks j := by
  unfold putD
  by_cases c : k ∈ ks.map (·.1)
  · rw [if_pos (any_key.mpr c)]
    have key : ∀ ks : List (List Int × D), lookD (ks.map fun kv => if kv.1 = k then (kv.1, d) else kv) j = if j = k then (lookD ks j).map fun _ => d else lookD ks j := by
      intro ks
      induction ks with
      | nil =>
        show none = if j = k then none else none
        split <;> rfl
      | cons p ks ih =>
        rw [List.map_cons, lookD_cons, ih, lookD_cons]
        by_cases e : p.1 = k
        · rw [if_pos e]
          show (if p.1 = j then some d else _) = _
          by_cases g : p.1 = j
          · rw [if_pos g, if_pos g, if_pos (show j = k by rw [← g]; exact e)]; rfl
          · rw [if_neg g, if_neg g]
        · rw [if_neg e]
          by_cases g : p.1 = j
          · rw [if_pos g, if_neg (show ¬ j = k by rw [← g]; exact e), if_pos g]
          · rw [if_neg g, if_neg g]
    rw [key]
    by_cases e : j = k
    · rw [if_pos e, if_pos e]
      subst e
      obtain ⟨d', e'⟩ := lookD_some c
      rw [e']; rfl
    · rw [if_neg e, if_neg e]
  · rw [if_neg (fun z => c (any_key.mp z))]
    have key : ∀ ks : List (List Int × D), k ∉ ks.map (·.1) → lookD (ks ++ [(k, d)]) j = if j = k then some d else lookD ks j := by
      intro ks
      induction ks with
      | nil =>
        intro _
        rw [List.nil_append, lookD_cons]
        show (if k = j then some d else none) = if j = k then some d else none
        by_cases e : j = k
        · rw [if_pos e, if_pos e.symm]
        · rw [if_neg e, if_neg fun z => e z.symm]
      | cons p ks ih =>
        intro h
        rw [List.map_cons, List.mem_cons, not_or] at h
        rw [List.cons_append, lookD_cons, ih h.2, lookD_cons]
        by_cases g : p.1 = j
        · rw [if_pos g, if_pos g, if_neg (show ¬ j = k by rw [← g]; exact fun z => h.1 z.symm)]
        · rw [if_neg g, if_neg g]
    exact key ks c
theorem nodup_put {ks : List (List Int × D)} (h : (ks.map (·.1)).Nodup) (k : List Int) (d : D) : ((putD ks k d).map (·.1)).Nodup := by
  rw [keys_put]
  split
  · exact h
  · rename_i c
    rw [List.nodup_append]
    refine ⟨h, by simp, fun a ha b hb e => ?_⟩
    rw [List.mem_singleton.mp hb] at e
    exact c (e ▸ ha)
theorem mem_put {ks : List (List Int × D)} {k j : List Int} {d : D} : j ∈ (putD ks k d).map (·.1) ↔ j ∈ ks.map (·.1) ∨ j = k := by
  rw [keys_put]
  split
  · rename_i c
    constructor
    · exact .inl
    · rintro (h | rfl)
      · exact h
      · exact c
  · rw [List.mem_append, List.mem_singleton]
theorem len_put (ks : List (List Int × D)) (k : List Int) (d : D) : (putD ks k d).length ≤ ks.length + 1 := by
  unfold putD
  split
  · rw [List.length_map]; omega
  · rw [List.length_append, List.length_cons, List.length_nil]; omega
section
variable {h : AH} {Q : PQ}
theorem dsrt_of {f : Bool} {a : Addr} {ks : List (List Int × D)} {n : Nat} {L : List (List Int)} (e : h a = some (.dct ks)) (nd : (ks.map (·.1)).Nodup) (hk : ∀ y ∈ L, y.length = n ∧ TS.Bd 8 y) (hm : ∀ k, k ∈ ks.map (·.1) ↔ k ∈ L) (l : L.length < 64)
    (q : ∀ ys, KS L ys → lnew f (ys.map keyD) h Q) : dsrtW f (.ref a) h Q := by
  have ln : ks.length ≤ L.length := by
    have : ∀ (ys L : List (List Int)), ys.Nodup → (∀ y ∈ ys, y ∈ L) → ys.length ≤ L.length := by
      intro ys
      induction ys with
      | nil => intro L _ _; simp
      | cons y ys ih =>
        intro L nd h
        obtain ⟨n1, n2⟩ := List.nodup_cons.mp nd
        have hy := h y List.mem_cons_self
        have := ih (L.erase y) n2 fun z hz => (List.mem_erase_of_ne fun (e : z = y) => n1 (by rw [← e]; exact hz)).mpr (h z (List.mem_cons_of_mem _ hz))
        have e := List.length_erase_of_mem hy
        have p := List.length_pos_of_mem hy
        rw [List.length_cons]
        omega
    have := this _ L nd fun y h => (hm y).mp h
    rwa [List.length_map] at this
  have kk : ∀ kv ∈ ks, kv.1.length = n ∧ TS.Bd 8 kv.1 := fun kv m => hk _ ((hm _).mp (List.mem_map.mpr ⟨kv, m, rfl⟩))
  refine ⟨ks, n, 8, e, by omega, ?_, kk, fun ys p so => ?_⟩
  · by_cases n0 : n = 0
    · right
      cases ks with
      | nil => simp
      | cons a ks =>
        cases ks with
        | nil => simp
        | cons b ks =>
          exfalso
          have h1 := (kk a (by simp)).1
          have h2 := (kk b (by simp)).1
          rw [List.map_cons, List.map_cons, List.nodup_cons] at nd
          apply nd.1
          rw [List.length_eq_zero_iff.mp (h1.trans n0), List.length_eq_zero_iff.mp (h2.trans n0)]
          simp
    · left; omega
  · have := q ys ⟨fun y => p.mem_iff.trans (hm y), p.nodup_iff.mpr nd, so⟩
    exact this
end
end Ab
namespace Ab
open PySem PySem.Spec PyProof.Rows L2
def KOk (ks : List Nat) (y : List Int) : Prop := y.length = ks.length ∧ ∀ (i : Nat) (x : Int) (n : Nat), y[i]? = some x → ks[i]? = some n → 0 ≤ x ∧ x < n
abbrev Clx := List Int × Row
structure Bk (z m : Nat) (ks : List Nat) (C : List Clx) : Prop where
  m2 : 2 ≤ m
  m6 : m ≤ 6
  k5 : ks.length ≤ 5
  k6 : ∀ k ∈ ks, 1 ≤ k ∧ k ≤ 6
  c60 : C.length ≤ 60
  key : ∀ c ∈ C, KOk ks c.1
  row : ∀ c ∈ C, RowOk z m c.2
  tri : ∀ c ∈ C, 0 < (c.2.map (·.1)).sum
  sk : KS (C.map (·.1)) (C.map (·.1))
def celD (c : Clx) : D := .tup [keyD c.1, rwD c.2]
def bookD (m : Nat) (ks : List Nat) (C : List Clx) : D := .tup [.int (m : Int), .tup (ks.map fun (k : Nat) => D.int (k : Int)), .tup (C.map celD)]
theorem KOk.bd {ks : List Nat} (k6 : ∀ k ∈ ks, 1 ≤ k ∧ k ≤ 6) {y : List Int} (h : KOk ks y) : TS.Bd 8 y := fun x hx => by
  obtain ⟨i, hi, e⟩ := List.getElem_of_mem hx
  have hk : i < ks.length := by rw [← h.1]; exact hi
  have := h.2 i x ks[i] (by rw [List.getElem?_eq_getElem hi, e]) (List.getElem?_eq_getElem hk)
  have := k6 _ (List.getElem_mem hk)
  omega
section
variable {P : Nat → Option Fn} {k : Nat} {h : AH} {X : PX} {Q : PQ}
structure DB (z m : Nat) (ks : List Nat) (h : AH) (d : Addr) (n : Nat) (kvs : List (List Int × D)) : Prop where
  e : h d = some (.dct kvs)
  nd : (kvs.map (·.1)).Nodup
  len : kvs.length ≤ n
  key : ∀ y ∈ kvs.map (·.1), KOk ks y
  row : ∀ y v, lookD kvs y = some v → ∃ r : Row, v = rwD r ∧ RowOk z m r ∧ 0 < (r.map (·.1)).sum
theorem DB.put {z m n : Nat} {ks : List Nat} {h : AH} {d : Addr} {kvs : List (List Int × D)} (b : DB z m ks h d n kvs) {y : List Int} (hy : KOk ks y) {r : Row} (hr : RowOk z m r) (h0 : 0 < (r.map (·.1)).sum) : DB z m ks (put h d (.dct (putD kvs y (rwD r)))) d (n + 1) (putD kvs y (rwD r)) where
  e := put_same
  nd := nodup_put b.nd _ _
  len := Nat.le_trans (len_put _ _ _) (by have := b.len; omega)
  key := fun x hx => by
    rcases mem_put.mp hx with hx | rfl
    · exact b.key x hx
    · exact hy
  row := fun x v hv => by
    rw [lookD_put] at hv
    split at hv
    · cases hv; exact ⟨r, rfl, hr, h0⟩
    · exact b.row x v hv
theorem compW_drawK {α β : Type} {T : D → AH → PV → Prop} {C : Env' → AH → (Bool → AH → Prop) → Prop} {R : Env' → AH → PQ → Prop} {K : List D → AH → Prop} {l : List β} {h : AH} {a : Addr} {ns : List Int} {B : Int} (g : β → D) (f : α → D) (Ok : β → α → Prop) (c : Nat) (hl : l.length ≤ 1000) (pen : PenAt h a ns B)
    (step : ∀ (i : Nat) b h1 (acc : List D) (G : List D → AH → Prop), l[i]? = some b → Off h h1 a → PenAt h1 a ns (B + ((c * i : Nat) : Int)) → (∀ y h2, Ok b y → PenAt h2 a ns (B + ((c * i : Nat) : Int) + c) → Off h1 h2 a → acc.length < sizeLine ∧ G (acc ++ [f y]) h2) → T (g b) h1 fun v h => C v h fun cc h => (cc = true → R v h fun d h => acc.length < sizeLine ∧ G (acc ++ [d]) h) ∧ (cc = false → G acc h))
    (w : ∀ (ys : List α) h1, ys.length = l.length → (∀ (i : Nat) b y, l[i]? = some b → ys[i]? = some y → Ok b y) → PenAt h1 a ns (B + ((c * l.length : Nat) : Int)) → Off h h1 a → K (ys.map f) h1) : compW none T C R (l.map g) [] h K := by
  refine compW_list (fun j acc h' => ∃ ys : List α, acc = ys.map f ∧ ys.length = j ∧ (∀ (i : Nat) b y, l[i]? = some b → ys[i]? = some y → Ok b y) ∧ PenAt h' a ns (B + ((c * j : Nat) : Int)) ∧ Off h h' a) ?_ ?_ ⟨[], rfl, rfl, fun _ _ _ _ h => (nomatch h), pen.mono (by simp), Off.refl h a⟩
  · rintro j x acc h3 G hx ⟨ys, rfl, rfl, hy, pen, off⟩ hG
    rw [List.getElem?_map] at hx
    obtain ⟨b, hb, rfl⟩ := Option.map_eq_some_iff.mp hx
    have hj := (List.getElem?_eq_some_iff.mp hb).1
    refine step _ b h3 _ G hb off pen fun y h2 oy pen2 off2 => ⟨len_le (n := (ys.map f).length + 1) (by rw [List.length_map]; omega), hG _ _ ⟨ys ++ [y], by simp, by simp, fun i b' y' e1 e2 => ?_, ?_, off.trans off2⟩⟩
    · by_cases e : i < ys.length
      · rw [List.getElem?_append_left e] at e2
        exact hy i b' y' e1 e2
      · have := (List.getElem?_eq_some_iff.mp e2).1
        rw [List.length_append, List.length_singleton] at this
        have ei : i = ys.length := by omega
        subst ei
        rw [List.getElem?_concat_length] at e2
        cases e2
        rw [hb] at e1
        cases e1
        exact oy
    · refine pen2.mono ?_
      rw [Nat.mul_succ]
      omega
  · rintro acc h3 ⟨ys, rfl, ll, hy, pen, off⟩
    rw [List.length_map] at ll pen
    exact w ys h3 ll hy pen off
theorem DB.off {z m n : Nat} {ks : List Nat} {h h' : AH} {d a : Addr} {kvs : List (List Int × D)} (b : DB z m ks h d n kvs) (o : Off h h' a) (e : d ≠ a) : DB z m ks h' d n kvs := ⟨by rw [o d e]; exact b.e, b.nd, b.len, b.key, b.row⟩
end
end Ab
namespace Ab
open PySem PySem.Spec PyProof.Rows L2
def prj (sl : List Nat) (y : List Int) : List Int := sl.map fun i => (y[i]?).getD 0
def rowsAt (C : List Clx) (sl : List Nat) (v : List Int) : List Row := (C.filter fun c => decide (prj sl c.1 = v)).map (·.2)
def Sel (n : Nat) (sl : List Nat) : Prop := sl.Nodup ∧ ∀ i ∈ sl, i < n
noncomputable def ksOf (L : List (List Int)) : List (List Int) := open Classical in if h : ∃ ys, KS L ys then Classical.choose h else []
theorem ksOf_eq {n : Nat} {L ys : List (List Int)} (hL : ∀ y ∈ L, y.length = n ∧ TS.Bd 8 y) (a : KS L ys) : ksOf L = ys := by
  unfold ksOf
  rw [dif_pos ⟨ys, a⟩]
  exact KS.uniq hL (Classical.choose_spec (⟨ys, a⟩ : ∃ ys, KS L ys)) a
theorem Sel.len {n : Nat} {sl : List Nat} (s : Sel n sl) : sl.length ≤ n := by
  have h : ∀ (l : List Nat) (n : Nat), l.Nodup → (∀ i ∈ l, i < n) → l.length ≤ n := by
    intro l n nd h
    have := (List.nodup_iff_count.mp nd)
    have p : l.length ≤ (List.range n).length := by
      have sub : ∀ (l L : List Nat), l.Nodup → (∀ y ∈ l, y ∈ L) → l.length ≤ L.length := by
        intro l
        induction l with
        | nil => intro L _ _; simp
        | cons y l ih =>
          intro L nd h
          obtain ⟨n1, n2⟩ := List.nodup_cons.mp nd
          have hy := h y List.mem_cons_self
          have := ih (L.erase y) n2 fun z hz => (List.mem_erase_of_ne fun (e : z = y) => n1 (by rw [← e]; exact hz)).mpr (h z (List.mem_cons_of_mem _ hz))
          have e := List.length_erase_of_mem hy
          have p := List.length_pos_of_mem hy
          rw [List.length_cons]
          omega
      exact sub l _ nd fun y hy => List.mem_range.mpr (h y hy)
    rwa [List.length_range] at p
  exact h sl n s.1 s.2
theorem Sel.take {n : Nat} {sl : List Nat} (s : Sel n sl) (k : Nat) : Sel n (sl.take k) := ⟨(List.take_sublist k sl).nodup s.1, fun i hi => s.2 i (List.mem_of_mem_take hi)⟩
theorem KOk.at {ks : List Nat} {y : List Int} (h : KOk ks y) {i : Nat} (hi : i < ks.length) : y[i]? = some ((y[i]?).getD 0) := by
  have : i < y.length := by rw [h.1]; exact hi
  rw [List.getElem?_eq_getElem this]; rfl
theorem prj_ok {ks : List Nat} (k6 : ∀ k ∈ ks, 1 ≤ k ∧ k ≤ 6) {sl : List Nat} (s : Sel ks.length sl) {y : List Int} (h : KOk ks y) : (prj sl y).length = sl.length ∧ TS.Bd 8 (prj sl y) := by
  refine ⟨by unfold prj; rw [List.length_map], fun x hx => ?_⟩
  obtain ⟨i, hi, e⟩ := List.mem_map.mp hx
  have := h.at (s.2 i hi)
  rw [e] at this
  exact KOk.bd k6 h x (List.mem_of_getElem? this)
theorem Bk.keys {z m : Nat} {ks : List Nat} {C : List Clx} (b : Bk z m ks C) {sl : List Nat} (s : Sel ks.length sl) : ∀ y ∈ C.map (fun c => prj sl c.1), y.length = sl.length ∧ TS.Bd 8 y := fun y hy => by
  obtain ⟨c, hc, e⟩ := List.mem_map.mp hy
  rw [← e]
  exact prj_ok b.k6 s (b.key c hc)
theorem rowsAt_succ (C : List Clx) (sl : List Nat) {i : Nat} {c : Clx} (h : C[i]? = some c) (v : List Int) : rowsAt (C.take (i + 1)) sl v = rowsAt (C.take i) sl v ++ (if prj sl c.1 = v then [c.2] else []) := by
  unfold rowsAt
  rw [List.take_succ, h]
  show ((C.take i ++ [c]).filter _).map _ = _
  rw [List.filter_append, List.map_append]
  congr 1
  by_cases e : prj sl c.1 = v
  · rw [if_pos e, List.filter_cons_of_pos (by exact decide_eq_true e)]; rfl
  · rw [if_neg e, List.filter_cons_of_neg (by simpa using e)]; rfl
theorem lt_line {n : Nat} (h : n < 1000) : n < sizeLine := Nat.lt_of_lt_of_le h (len_le (Nat.le_refl 1000))
section
variable {P : Nat → Option Fn} {k : Nat} {h : AH} {X : PX} {Q : PQ}
structure LI (h : AH) (d : Addr) (C : List Clx) (sl : List Nat) (i : Nat) (kvs : List (List Int × D)) : Prop where
  e : h d = some (.dct kvs)
  nd : (kvs.map (·.1)).Nodup
  len : kvs.length ≤ i
  mem : ∀ y, y ∈ kvs.map (·.1) ↔ y ∈ (C.take i).map fun c => prj sl c.1
  val : ∀ y, y ∈ kvs.map (·.1) → lookD kvs y = some (.lst ((rowsAt (C.take i) sl y).map rwD))
theorem rowsAt_nil {C : List Clx} {sl : List Nat} {v : List Int} (h : v ∉ C.map fun c => prj sl c.1) : rowsAt C sl v = [] := by
  unfold rowsAt
  rw [List.filter_eq_nil_iff.mpr, List.map_nil]
  intro c hc e
  exact h (List.mem_map.mpr ⟨c, hc, of_decide_eq_true e⟩)
theorem take_mem {C : List Clx} (sl : List Nat) {i : Nat} {c : Clx} (h : C[i]? = some c) (y : List Int) : y ∈ (C.take (i + 1)).map (fun c => prj sl c.1) ↔ y ∈ (C.take i).map (fun c => prj sl c.1) ∨ y = prj sl c.1 := by
  rw [List.take_succ, h]
  show y ∈ ((C.take i ++ [c]).map _) ↔ _
  rw [List.map_append, List.mem_append]
  show _ ∨ y ∈ [prj sl c.1] ↔ _
  rw [List.mem_singleton]
theorem LI.step {d : Addr} {C : List Clx} {sl : List Nat} {i : Nat} {kvs : List (List Int × D)} (a : LI h d C sl i kvs) {c : Clx} (hc : C[i]? = some c) :
    LI (put h d (.dct (putD kvs (prj sl c.1) (.lst ((rowsAt (C.take (i + 1)) sl (prj sl c.1)).map rwD))))) d C sl (i + 1) (putD kvs (prj sl c.1) (.lst ((rowsAt (C.take (i + 1)) sl (prj sl c.1)).map rwD))) where
  e := put_same
  nd := nodup_put a.nd _ _
  len := Nat.le_trans (len_put _ _ _) (by have := a.len; omega)
  mem := fun y => by rw [mem_put, a.mem, take_mem sl hc]
  val := fun y hy => by
    rw [lookD_put]
    split
    · rename_i e
      rw [e]
    · rename_i e
      rw [mem_put] at hy
      rw [a.val y (hy.resolve_right e), rowsAt_succ C sl hc, if_neg fun z => e z.symm, List.append_nil]
theorem LI.get {d : Addr} {C : List Clx} {sl : List Nat} {i : Nat} {kvs : List (List Int × D)} (a : LI h d C sl i kvs) (y : List Int) : (lookD kvs y).getD (.lst []) = .lst ((rowsAt (C.take i) sl y).map rwD) := by
  by_cases c : y ∈ kvs.map (·.1)
  · rw [a.val y c]; rfl
  · rw [lookD_none.mpr c, rowsAt_nil (fun z => c ((a.mem y).mpr z))]; rfl
structure GI (h0 h : AH) (d : Addr) (C : List Clx) (sl : List Nat) (i : Nat) (kvs : List (List Int × D)) : Prop where
  e : h d = some (.dct kvs)
  d0 : h0 d = none
  nd : (kvs.map (·.1)).Nodup
  len : kvs.length ≤ i
  mem : ∀ y, y ∈ kvs.map (·.1) ↔ y ∈ (C.take i).map fun c => prj sl c.1
  val : ∀ y, y ∈ kvs.map (·.1) → ∃ p, lookD kvs y = some (.ref p) ∧ p ≠ d ∧ h0 p = none ∧ h p = some (.lst ((rowsAt (C.take i) sl y).map rwD))
  inj : ∀ y z p, lookD kvs y = some (.ref p) → lookD kvs z = some (.ref p) → y = z
  sub : Sub h0 h
theorem GI.old {h0 : AH} {d : Addr} {C : List Clx} {sl : List Nat} {i : Nat} {kvs : List (List Int × D)} (a : GI h0 h d C sl i kvs) {c : Clx} (hc : C[i]? = some c) {p : Addr} (hy : lookD kvs (prj sl c.1) = some (.ref p)) (hd : p ≠ d) (h0p : h0 p = none) :
    GI h0 (put h p (.lst ((rowsAt (C.take i) sl (prj sl c.1)).map rwD ++ [rwD c.2]))) d C sl (i + 1) kvs where
  e := by rw [put_ne (Ne.symm hd)]; exact a.e
  d0 := a.d0
  nd := a.nd
  len := Nat.le_trans a.len (Nat.le_succ _)
  mem := fun y => by
    rw [a.mem, take_mem sl hc]
    constructor
    · exact .inl
    · rintro (z | rfl)
      · exact z
      · exact (a.mem _).mp (lookD_mem hy)
  val := fun y hk => by
    by_cases e : prj sl c.1 = y
    · subst e
      refine ⟨p, hy, hd, h0p, ?_⟩
      rw [put_same, rowsAt_succ C sl hc, if_pos rfl, List.map_append]; rfl
    · obtain ⟨p', e1, e2, e3, e4⟩ := a.val y hk
      refine ⟨p', e1, e2, e3, ?_⟩
      have : p' ≠ p := fun z => e (a.inj _ _ p hy (z ▸ e1))
      rw [put_ne this, rowsAt_succ C sl hc, if_neg e, List.append_nil]
      exact e4
  inj := a.inj
  sub := fun b v hb => by
    rw [put_ne fun (z : b = p) => by rw [z, h0p] at hb; cases hb]
    exact a.sub b v hb
theorem GI.new {h0 : AH} {d : Addr} {C : List Clx} {sl : List Nat} {i : Nat} {kvs : List (List Int × D)} (a : GI h0 h d C sl i kvs) {c : Clx} (hc : C[i]? = some c) {p : Addr} (hy : prj sl c.1 ∉ kvs.map (·.1)) (hp : h p = none) :
    GI h0 (put (put (put h p (.lst [])) d (.dct (putD kvs (prj sl c.1) (.ref p)))) p (.lst ([] ++ [rwD c.2]))) d C sl (i + 1) (putD kvs (prj sl c.1) (.ref p)) where
  e := by
    have hd : d ≠ p := fun z => by rw [← z, a.e] at hp; cases hp
    rw [put_ne hd, put_same]
  d0 := a.d0
  nd := nodup_put a.nd _ _
  len := Nat.le_trans (len_put _ _ _) (by have := a.len; omega)
  mem := fun y => by rw [mem_put, a.mem, take_mem sl hc]
  val := fun y hk => by
    have hd : d ≠ p := fun z => by rw [← z, a.e] at hp; cases hp
    have h0p : h0 p = none := by
      cases e : h0 p with
      | none => rfl
      | some v => rw [a.sub p v e] at hp; cases hp
    rw [lookD_put]
    by_cases e : y = prj sl c.1
    · rw [if_pos e]
      refine ⟨p, rfl, hd.symm, h0p, ?_⟩
      rw [put_same, e, rowsAt_succ C sl hc, if_pos rfl, rowsAt_nil fun z => hy ((a.mem _).mpr z)]; rfl
    · rw [if_neg e]
      rw [mem_put] at hk
      obtain ⟨p', e1, e2, e3, e4⟩ := a.val y (hk.resolve_right e)
      refine ⟨p', e1, e2, e3, ?_⟩
      have : p' ≠ p := fun z => by rw [z, hp] at e4; cases e4
      rw [put_ne this, put_ne e2, put_ne this, rowsAt_succ C sl hc, if_neg fun z => e z.symm, List.append_nil]
      exact e4
  inj := fun y z q h1 h2 => by
    rw [lookD_put] at h1 h2
    have key : ∀ y, lookD kvs y = some (.ref p) → False := fun y e => by
      obtain ⟨p', e1, _, _, e4⟩ := a.val y (lookD_mem e)
      rw [e] at e1
      cases e1
      rw [hp] at e4
      cases e4
    split at h1
    · rename_i e1
      split at h2
      · rename_i e2
        rw [e1, e2]
      · cases h1
        exact (key z h2).elim
    · split at h2
      · cases h2
        exact (key y h1).elim
      · exact a.inj y z q h1 h2
  sub := fun b v hb => by
    have h0p : h0 p = none := by
      cases e : h0 p with
      | none => rfl
      | some v => rw [a.sub p v e] at hp; cases hp
    have n1 : b ≠ p := fun z => by rw [z, h0p] at hb; cases hb
    have n2 : b ≠ d := fun z => by rw [z, a.d0] at hb; cases hb
    rw [put_ne n1, put_ne n2, put_ne n1]
    exact a.sub b v hb
end
end Ab
namespace Ab
open PySem PySem.Spec PyProof.Rows L2
section
variable {P : Nat → Option Fn} {k : Nat} {h : AH} {X : PX} {Q : PQ}
structure KnO (m : Nat) (c : Clx) : Prop where
  len : c.1.length ≤ 5
  row : RowOk 46 m c.2
theorem sh_key (y : List Int) : Sh 1 (keyD y) := sh_tup (sh_map fun x _ => sh_int x)
theorem sh_cel (c : Clx) : Sh 3 (celD c) := sh_tup fun d hd => by
  rcases List.mem_cons.mp hd with rfl | hd
  · exact (sh_key _).mono (by decide)
  · rw [List.mem_singleton.mp hd]; exact sh_row _
theorem sh_book (m : Nat) (ks : List Nat) (C : List Clx) : Sh 5 (bookD m ks C) := sh_tup fun d hd => by
  rcases List.mem_cons.mp hd with rfl | hd
  · exact (sh_int _).mono (by decide)
  rcases List.mem_cons.mp hd with rfl | hd
  · exact (sh_tup (sh_map fun x _ => sh_int _)).mono (by decide)
  · rw [List.mem_singleton.mp hd]
    exact sh_tup (sh_map fun c _ => sh_cel c)
end
end Ab
namespace Ab
open PySem PySem.Spec PyProof.Rows L2
section
variable {P : Nat → Option Fn} {k : Nat} {h : AH} {X : PX} {Q : PQ}
end
end Ab
namespace Ab
open PySem PySem.Spec PyProof.Rows L2
structure OwG (h h' : AH) (p : Addr) (ds : List D) : Prop where
  n : h p = none
  e : h' p = some (.lst ds)
  sub : Sub h h'
section
variable {h h' : AH} {p g : Addr} {ds : List D} {c : Cell}
theorem OwG.new (e : h p = none) (ds : List D) : OwG h (put h p (.lst ds)) p ds := ⟨e, put_same, sub_new e⟩
theorem OwG.put (o : OwG h h' p ds) (ds' : List D) : OwG h (put h' p (.lst ds')) p ds' := ⟨o.n, put_same, fun b v e => by
  rw [put_ne fun z => by rw [z, o.n] at e; cases e]
  exact o.sub b v e⟩
theorem OwG.ne (o : OwG h h' p ds) (e : h' g = none) : g ≠ p := fun z => by rw [z, o.e] at e; cases e
theorem OwG.none (o : OwG h h' p ds) (e : h' g = none) : h g = none := by
  cases x : h g with
  | none => rfl
  | some v => rw [o.sub g v x] at e; cases e
theorem OwG.other (o : OwG h h' p ds) (n : g ≠ p) (e : h g = Option.none) : OwG h (Ab.put h' g c) p ds := ⟨o.n, by rw [put_ne n.symm]; exact o.e, fun b v x => by
  rw [put_ne fun z => by rw [z, e] at x; cases x]
  exact o.sub b v x⟩
theorem OwG.cut (o : OwG h h' p ds) : Sub h (Ab.cut h' p) := fun b v e => by
  have n : b ≠ p := fun z => by rw [z, o.n] at e; cases e
  unfold Ab.cut
  rw [if_neg n]
  exact o.sub b v e
end
section
variable {P : Nat → Option Fn} {k : Nat} {h : AH} {X : PX} {Q : PQ}
theorem forW_abs {T : D → Env' → AH → PV → Prop} {B : PV → Env' → AH → Prop} {fin : PV} {v : Env'} {h : AH} {xs : List D} (w : ∀ ys, ys = xs → forW none T B fin ys v h) : forW none T B fin xs v h := w xs rfl
end
end Ab
namespace Ab
open PySem PySem.Spec PyProof.Rows L2
section
variable {P : Nat → Option Fn} {k : Nat} {h : AH} {X : PX} {Q : PQ}
theorem below_no (h7 : P 7 = some fn_is_whole) (h13 : P 13 = some fn_is_below) {m : Nat} {d : D} (hd : OddG m h d) (q : Q (.bl false) h) : wpCall P (k + 2) 13 [d, .int (m : Int)] h X Q := by
  refine call_of h13 rfl ?_
  (((conv => whnf); repeat ((first | with_reducible refine ret_of ?_ | with_reducible refine ix_of at0 ?_ | with_reducible refine ix_of at1 ?_ | with_reducible refine ix_of at2 ?_ | with_reducible refine ix_of at3 ?_ | ((with_reducible apply isi_of); focus rfl) | refine pF ?_ | refine pT ?_ | ((with_reducible refine And.intro (len_le ?_) ?_); (focus (simp; done))) | ((with_reducible refine And.intro ?_ ?_); (focus (first | ((apply mul_b; (focus ((repeat' (first | assumption | apply bd_add | apply bd_sub | apply bd_mul | apply bd_neg | (apply bd_64; decide) | (apply bd_64; omega) | (apply bd_128; decide) | (apply bd_128; omega))); done)); (focus ((repeat' (first | assumption | apply bd_add | apply bd_sub | apply bd_mul | apply bd_neg | (apply bd_64; decide) | (apply bd_64; omega) | (apply bd_128; decide) | (apply bd_128; omega))); done)); (focus decide))) | ((apply div_b; (focus (first | decide | omega)); (focus ((repeat' (first | assumption | apply bd_add | apply bd_sub | apply bd_mul | apply bd_neg | (apply bd_64; decide) | (apply bd_64; omega) | (apply bd_128; decide) | (apply bd_128; omega))); done)); (focus decide))) | decide | (show (_ : Int) ≠ 0; omega))))); (conv => whnf))))
  refine call_of h7 rfl ?_
  rcases hd with ⟨i, rfl, hi⟩ | ⟨b, rfl⟩ | e
  · (((conv => whnf); repeat ((first | with_reducible refine ret_of ?_ | with_reducible refine ix_of at0 ?_ | with_reducible refine ix_of at1 ?_ | with_reducible refine ix_of at2 ?_ | with_reducible refine ix_of at3 ?_ | ((with_reducible apply isi_of); focus rfl) | refine pF ?_ | refine pT ?_ | ((with_reducible refine And.intro (len_le ?_) ?_); (focus (simp; done))) | ((with_reducible refine And.intro ?_ ?_); (focus (first | ((apply mul_b; (focus ((repeat' (first | assumption | apply bd_add | apply bd_sub | apply bd_mul | apply bd_neg | (apply bd_64; decide) | (apply bd_64; omega) | (apply bd_128; decide) | (apply bd_128; omega))); done)); (focus ((repeat' (first | assumption | apply bd_add | apply bd_sub | apply bd_mul | apply bd_neg | (apply bd_64; decide) | (apply bd_64; omega) | (apply bd_128; decide) | (apply bd_128; omega))); done)); (focus decide))) | ((apply div_b; (focus (first | decide | omega)); (focus ((repeat' (first | assumption | apply bd_add | apply bd_sub | apply bd_mul | apply bd_neg | (apply bd_64; decide) | (apply bd_64; omega) | (apply bd_128; decide) | (apply bd_128; omega))); done)); (focus decide))) | decide | (show (_ : Int) ≠ 0; omega))))); (conv => whnf))))
    by_cases h0 : 0 ≤ i
    · rw [decide_eq_true h0]
      (((conv => whnf); repeat ((first | with_reducible refine ret_of ?_ | with_reducible refine ix_of at0 ?_ | with_reducible refine ix_of at1 ?_ | with_reducible refine ix_of at2 ?_ | with_reducible refine ix_of at3 ?_ | ((with_reducible apply isi_of); focus rfl) | refine pF ?_ | refine pT ?_ | ((with_reducible refine And.intro (len_le ?_) ?_); (focus (simp; done))) | ((with_reducible refine And.intro ?_ ?_); (focus (first | ((apply mul_b; (focus ((repeat' (first | assumption | apply bd_add | apply bd_sub | apply bd_mul | apply bd_neg | (apply bd_64; decide) | (apply bd_64; omega) | (apply bd_128; decide) | (apply bd_128; omega))); done)); (focus ((repeat' (first | assumption | apply bd_add | apply bd_sub | apply bd_mul | apply bd_neg | (apply bd_64; decide) | (apply bd_64; omega) | (apply bd_128; decide) | (apply bd_128; omega))); done)); (focus decide))) | ((apply div_b; (focus (first | decide | omega)); (focus ((repeat' (first | assumption | apply bd_add | apply bd_sub | apply bd_mul | apply bd_neg | (apply bd_64; decide) | (apply bd_64; omega) | (apply bd_128; decide) | (apply bd_128; omega))); done)); (focus decide))) | decide | (show (_ : Int) ≠ 0; omega))))); (conv => whnf))))
      rw [decide_eq_false (fun z => hi ⟨h0, z⟩)]
      exact q
    · rw [decide_eq_false h0]
      (((conv => whnf); repeat ((first | with_reducible refine ret_of ?_ | with_reducible refine ix_of at0 ?_ | with_reducible refine ix_of at1 ?_ | with_reducible refine ix_of at2 ?_ | with_reducible refine ix_of at3 ?_ | ((with_reducible apply isi_of); focus rfl) | refine pF ?_ | refine pT ?_ | ((with_reducible refine And.intro (len_le ?_) ?_); (focus (simp; done))) | ((with_reducible refine And.intro ?_ ?_); (focus (first | ((apply mul_b; (focus ((repeat' (first | assumption | apply bd_add | apply bd_sub | apply bd_mul | apply bd_neg | (apply bd_64; decide) | (apply bd_64; omega) | (apply bd_128; decide) | (apply bd_128; omega))); done)); (focus ((repeat' (first | assumption | apply bd_add | apply bd_sub | apply bd_mul | apply bd_neg | (apply bd_64; decide) | (apply bd_64; omega) | (apply bd_128; decide) | (apply bd_128; omega))); done)); (focus decide))) | ((apply div_b; (focus (first | decide | omega)); (focus ((repeat' (first | assumption | apply bd_add | apply bd_sub | apply bd_mul | apply bd_neg | (apply bd_64; decide) | (apply bd_64; omega) | (apply bd_128; decide) | (apply bd_128; omega))); done)); (focus decide))) | decide | (show (_ : Int) ≠ 0; omega))))); (conv => whnf))))
      exact q
  · (((conv => whnf); repeat ((first | with_reducible refine ret_of ?_ | with_reducible refine ix_of at0 ?_ | with_reducible refine ix_of at1 ?_ | with_reducible refine ix_of at2 ?_ | with_reducible refine ix_of at3 ?_ | ((with_reducible apply isi_of); focus rfl) | refine pF ?_ | refine pT ?_ | ((with_reducible refine And.intro (len_le ?_) ?_); (focus (simp; done))) | ((with_reducible refine And.intro ?_ ?_); (focus (first | ((apply mul_b; (focus ((repeat' (first | assumption | apply bd_add | apply bd_sub | apply bd_mul | apply bd_neg | (apply bd_64; decide) | (apply bd_64; omega) | (apply bd_128; decide) | (apply bd_128; omega))); done)); (focus ((repeat' (first | assumption | apply bd_add | apply bd_sub | apply bd_mul | apply bd_neg | (apply bd_64; decide) | (apply bd_64; omega) | (apply bd_128; decide) | (apply bd_128; omega))); done)); (focus decide))) | ((apply div_b; (focus (first | decide | omega)); (focus ((repeat' (first | assumption | apply bd_add | apply bd_sub | apply bd_mul | apply bd_neg | (apply bd_64; decide) | (apply bd_64; omega) | (apply bd_128; decide) | (apply bd_128; omega))); done)); (focus decide))) | decide | (show (_ : Int) ≠ 0; omega))))); (conv => whnf))))
    exact q
  · (((conv => whnf); repeat ((first | with_reducible refine ret_of ?_ | with_reducible refine ix_of at0 ?_ | with_reducible refine ix_of at1 ?_ | with_reducible refine ix_of at2 ?_ | with_reducible refine ix_of at3 ?_ | ((with_reducible apply isi_of); focus rfl) | refine pF ?_ | refine pT ?_ | ((with_reducible refine And.intro (len_le ?_) ?_); (focus (simp; done))) | ((with_reducible refine And.intro ?_ ?_); (focus (first | ((apply mul_b; (focus ((repeat' (first | assumption | apply bd_add | apply bd_sub | apply bd_mul | apply bd_neg | (apply bd_64; decide) | (apply bd_64; omega) | (apply bd_128; decide) | (apply bd_128; omega))); done)); (focus ((repeat' (first | assumption | apply bd_add | apply bd_sub | apply bd_mul | apply bd_neg | (apply bd_64; decide) | (apply bd_64; omega) | (apply bd_128; decide) | (apply bd_128; omega))); done)); (focus decide))) | ((apply div_b; (focus (first | decide | omega)); (focus ((repeat' (first | assumption | apply bd_add | apply bd_sub | apply bd_mul | apply bd_neg | (apply bd_64; decide) | (apply bd_64; omega) | (apply bd_128; decide) | (apply bd_128; omega))); done)); (focus decide))) | decide | (show (_ : Int) ≠ 0; omega))))); (conv => whnf))))
    refine isi_of e ?_
    (((conv => whnf); repeat ((first | with_reducible refine ret_of ?_ | with_reducible refine ix_of at0 ?_ | with_reducible refine ix_of at1 ?_ | with_reducible refine ix_of at2 ?_ | with_reducible refine ix_of at3 ?_ | ((with_reducible apply isi_of); focus rfl) | refine pF ?_ | refine pT ?_ | ((with_reducible refine And.intro (len_le ?_) ?_); (focus (simp; done))) | ((with_reducible refine And.intro ?_ ?_); (focus (first | ((apply mul_b; (focus ((repeat' (first | assumption | apply bd_add | apply bd_sub | apply bd_mul | apply bd_neg | (apply bd_64; decide) | (apply bd_64; omega) | (apply bd_128; decide) | (apply bd_128; omega))); done)); (focus ((repeat' (first | assumption | apply bd_add | apply bd_sub | apply bd_mul | apply bd_neg | (apply bd_64; decide) | (apply bd_64; omega) | (apply bd_128; decide) | (apply bd_128; omega))); done)); (focus decide))) | ((apply div_b; (focus (first | decide | omega)); (focus ((repeat' (first | assumption | apply bd_add | apply bd_sub | apply bd_mul | apply bd_neg | (apply bd_64; decide) | (apply bd_64; omega) | (apply bd_128; decide) | (apply bd_128; omega))); done)); (focus decide))) | decide | (show (_ : Int) ≠ 0; omega))))); (conv => whnf))))
    exact q
theorem below_yes (h7 : P 7 = some fn_is_whole) (h13 : P 13 = some fn_is_below) {m i : Nat} (hi : i < m) (q : Q (.bl true) h) : wpCall P (k + 2) 13 [.int (i : Int), .int (m : Int)] h X Q := by
  refine call_of h13 rfl ?_
  (((conv => whnf); repeat ((first | with_reducible refine ret_of ?_ | with_reducible refine ix_of at0 ?_ | with_reducible refine ix_of at1 ?_ | with_reducible refine ix_of at2 ?_ | with_reducible refine ix_of at3 ?_ | ((with_reducible apply isi_of); focus rfl) | refine pF ?_ | refine pT ?_ | ((with_reducible refine And.intro (len_le ?_) ?_); (focus (simp; done))) | ((with_reducible refine And.intro ?_ ?_); (focus (first | ((apply mul_b; (focus ((repeat' (first | assumption | apply bd_add | apply bd_sub | apply bd_mul | apply bd_neg | (apply bd_64; decide) | (apply bd_64; omega) | (apply bd_128; decide) | (apply bd_128; omega))); done)); (focus ((repeat' (first | assumption | apply bd_add | apply bd_sub | apply bd_mul | apply bd_neg | (apply bd_64; decide) | (apply bd_64; omega) | (apply bd_128; decide) | (apply bd_128; omega))); done)); (focus decide))) | ((apply div_b; (focus (first | decide | omega)); (focus ((repeat' (first | assumption | apply bd_add | apply bd_sub | apply bd_mul | apply bd_neg | (apply bd_64; decide) | (apply bd_64; omega) | (apply bd_128; decide) | (apply bd_128; omega))); done)); (focus decide))) | decide | (show (_ : Int) ≠ 0; omega))))); (conv => whnf))))
  refine call_of h7 rfl ?_
  (((conv => whnf); repeat ((first | with_reducible refine ret_of ?_ | with_reducible refine ix_of at0 ?_ | with_reducible refine ix_of at1 ?_ | with_reducible refine ix_of at2 ?_ | with_reducible refine ix_of at3 ?_ | ((with_reducible apply isi_of); focus rfl) | refine pF ?_ | refine pT ?_ | ((with_reducible refine And.intro (len_le ?_) ?_); (focus (simp; done))) | ((with_reducible refine And.intro ?_ ?_); (focus (first | ((apply mul_b; (focus ((repeat' (first | assumption | apply bd_add | apply bd_sub | apply bd_mul | apply bd_neg | (apply bd_64; decide) | (apply bd_64; omega) | (apply bd_128; decide) | (apply bd_128; omega))); done)); (focus ((repeat' (first | assumption | apply bd_add | apply bd_sub | apply bd_mul | apply bd_neg | (apply bd_64; decide) | (apply bd_64; omega) | (apply bd_128; decide) | (apply bd_128; omega))); done)); (focus decide))) | ((apply div_b; (focus (first | decide | omega)); (focus ((repeat' (first | assumption | apply bd_add | apply bd_sub | apply bd_mul | apply bd_neg | (apply bd_64; decide) | (apply bd_64; omega) | (apply bd_128; decide) | (apply bd_128; omega))); done)); (focus decide))) | decide | (show (_ : Int) ≠ 0; omega))))); (conv => whnf))))
  rw [decide_eq_true (show (i : Int) < m by omega)]
  exact q
def BadMk (n : Nat) (h : AH) (d : D) : Prop := isiAny d h [.tuple] = some false ∨ (∃ x, d = .tup [x] ∧ OddG n h x) ∨ (∃ x y, d = .tup [x, y] ∧ OddG n h x) ∨ ∃ (i : Nat) (y : D), i < n ∧ d = .tup [.int (i : Int), y] ∧ (OddG n h y ∨ y = .int (i : Int))
def BadMd (n : Nat) (h : AH) (d : D) : Prop := (∀ hh, BadMk n hh d) ∨ ∃ p kvs, d = .ref p ∧ h p = some (.dct kvs)
theorem BadMd.mk {n : Nat} {d : D} (b : BadMd n h d) : BadMk n h d := by
  rcases b with b | ⟨p, kvs, rfl, e⟩
  · exact b h
  · refine .inl ?_
    simp only [isiAny, isiOne]
    rw [e]
end
end Ab
namespace Ab
open PySem PySem.Spec PyProof.Rows L2
def fst0 (s : List Nat) : Nat := match s.getLast? with | none => 0 | some l => l + 1
def ext1 (n : Nat) (s : List Nat) : List (List Nat) := (List.range (n - fst0 s)).map fun k => s ++ [fst0 s + k]
def lay (n : Nat) : Nat → List (List Nat)
  | 0 => [[]]
  | i + 1 => ((lay n i).map (ext1 n)).flatten
section
variable {P : Nat → Option Fn} {k : Nat} {h : AH} {X : PX} {Q : PQ}
end
section
variable {P : Nat → Option Fn} {k : Nat} {h : AH} {X : PX} {Q : PQ}
end
end Ab
namespace Ab
open PySem PySem.Spec PyProof.Rows L2
def SeqAt (h : AH) (d : D) (ds : List D) : Prop := d = .tup ds ∨ d = .lst ds ∨ ∃ a, d = .ref a ∧ h a = some (.lst ds)
theorem SeqAt.sub {h h' : AH} {d : D} {ds : List D} (s : SeqAt h d ds) (z : Sub h h') : SeqAt h' d ds := by
  rcases s with s | s | ⟨a, s, e⟩
  · exact .inl s
  · exact .inr (.inl s)
  · exact .inr (.inr ⟨a, s, z _ _ e⟩)
abbrev Rw := Nat × List Int × Int × Int
def rwT (r : Rw) : D := .tup [.int (r.1 : Int), keyD r.2.1, .int r.2.2.1, .int r.2.2.2]
structure RwOk (m : Nat) (ks : List Nat) (r : Rw) : Prop where
  hs : r.1 < m
  kd : KOk ks r.2.1
  w0 : 0 ≤ r.2.2.2
  wt : r.2.2.2 ≤ r.2.2.1
  mx : r.2.2.1 ≤ 1000000000000
def ksD (ks : List Nat) : List D := ks.map fun (k : Nat) => D.int (k : Int)
def here (y : List Int) (j : Nat) (r : Rw) : Bool := decide (r.2.1 = y) && decide (r.1 = j)
def cntR (R : List Rw) (y : List Int) (j : Nat) : Int × Int := (((R.filter (here y j)).map (·.2.2.1)).sum, ((R.filter (here y j)).map (·.2.2.2)).sum)
def cntsR (m : Nat) (R : List Rw) (y : List Int) : Row := (List.range m).map (cntR R y)
noncomputable def bookC (m : Nat) (R : List Rw) : List Clx := ((ksOf (R.map (·.2.1))).filter fun y => decide (0 < ((cntsR m R y).map (·.1)).sum)).map fun y => (y, cntsR m R y)
theorem cntR_add (R : List Rw) (r : Rw) (y : List Int) (j : Nat) : cntR (R ++ [r]) y j = if r.2.1 = y ∧ r.1 = j then ((cntR R y j).1 + r.2.2.1, (cntR R y j).2 + r.2.2.2) else cntR R y j := by
  unfold cntR
  rw [List.filter_append]
  by_cases e : r.2.1 = y ∧ r.1 = j
  · have : here y j r = true := by unfold here; rw [decide_eq_true e.1, decide_eq_true e.2]; rfl
    rw [if_pos e, List.filter_cons_of_pos this, List.filter_nil]
    simp [List.sum_append]
  · have : here y j r = false := by
      unfold here
      by_cases e1 : r.2.1 = y
      · rw [decide_eq_false (fun z => e ⟨e1, z⟩)]; simp
      · rw [decide_eq_false e1]; rfl
    rw [if_neg e, List.filter_cons_of_neg (by simp [this]), List.filter_nil, List.append_nil]
theorem cntsR_set {m : Nat} (R : List Rw) (r : Rw) (hr : r.1 < m) : cntsR m (R ++ [r]) r.2.1 = (cntsR m R r.2.1).set r.1 ((cntR R r.2.1 r.1).1 + r.2.2.1, (cntR R r.2.1 r.1).2 + r.2.2.2) := by
  unfold cntsR
  apply List.ext_getElem?
  intro i
  rw [List.getElem?_set, List.getElem?_map, List.length_map, List.length_range, List.getElem?_map]
  by_cases e : r.1 = i
  · subst e
    rw [if_pos rfl, if_pos hr, List.getElem?_range hr]
    show some (cntR (R ++ [r]) r.2.1 r.1) = _
    rw [cntR_add, if_pos ⟨rfl, rfl⟩]
  · rw [if_neg e]
    by_cases hi : i < m
    · rw [List.getElem?_range hi]
      show some (cntR (R ++ [r]) r.2.1 i) = some (cntR R r.2.1 i)
      rw [cntR_add, if_neg fun z => e z.2]
    · rw [List.getElem?_eq_none (by rw [List.length_range]; omega)]; rfl
theorem cntsR_ne {m : Nat} (R : List Rw) (r : Rw) {y : List Int} (h : r.2.1 ≠ y) : cntsR m (R ++ [r]) y = cntsR m R y := by
  unfold cntsR
  refine List.map_congr_left fun j _ => ?_
  rw [cntR_add, if_neg fun z => h z.1]
theorem cntsR_none {m : Nat} {R : List Rw} {y : List Int} (h : y ∉ R.map (·.2.1)) : cntsR m R y = List.replicate m (0, 0) := by
  unfold cntsR
  have : ∀ j, cntR R y j = (0, 0) := fun j => by
    unfold cntR
    rw [List.filter_eq_nil_iff.mpr fun r hr e => h (by
      unfold here at e
      have := of_decide_eq_true (Bool.and_eq_true_iff.mp e).1
      exact List.mem_map.mpr ⟨r, hr, this⟩)]
    rfl
  rw [List.map_congr_left fun j _ => this j]
  rw [List.map_const', List.length_range]
theorem cell_cnts {m : Nat} (R : List Rw) (y : List Int) {j : Nat} (hj : j < m) : cell (cntsR m R y) j = cntR R y j := by
  unfold cell cntsR
  rw [List.getD_eq_getElem?_getD, List.getElem?_map, List.getElem?_range hj]; rfl
structure DV (h0 h : AH) (d : Addr) (kvs : List (List Int × D)) (f : List Int → List D) : Prop where
  e : h d = some (.dct kvs)
  d0 : h0 d = none
  nd : (kvs.map (·.1)).Nodup
  val : ∀ y, y ∈ kvs.map (·.1) → ∃ p, lookD kvs y = some (.ref p) ∧ p ≠ d ∧ h0 p = none ∧ h p = some (.lst (f y))
  inj : ∀ y z p, lookD kvs y = some (.ref p) → lookD kvs z = some (.ref p) → y = z
  sub : Sub h0 h
theorem DV.set {h0 h : AH} {d : Addr} {kvs : List (List Int × D)} {f : List Int → List D} (a : DV h0 h d kvs f) {y : List Int} {p : Addr} (hy : lookD kvs y = some (.ref p)) (hd : p ≠ d) (h0p : h0 p = none) (l : List D) :
    DV h0 (put h p (.lst l)) d kvs (fun z => if z = y then l else f z) where
  e := by rw [put_ne (Ne.symm hd)]; exact a.e
  d0 := a.d0
  nd := a.nd
  val := fun z hk => by
    by_cases e : z = y
    · subst e
      exact ⟨p, hy, hd, h0p, by rw [put_same, if_pos rfl]⟩
    · obtain ⟨p', e1, e2, e3, e4⟩ := a.val z hk
      have : p' ≠ p := fun q => e (a.inj z y p (q ▸ e1) hy)
      exact ⟨p', e1, e2, e3, by rw [put_ne this, if_neg e]; exact e4⟩
  inj := a.inj
  sub := fun b v hb => by
    rw [put_ne fun (z : b = p) => by rw [z, h0p] at hb; cases hb]
    exact a.sub b v hb
theorem DV.add {h0 h : AH} {d : Addr} {kvs : List (List Int × D)} {f : List Int → List D} (a : DV h0 h d kvs f) {y : List Int} {p : Addr} (hy : y ∉ kvs.map (·.1)) (hp : h p = none) (l : List D) :
    DV h0 (put (put h p (.lst l)) d (.dct (putD kvs y (.ref p)))) d (putD kvs y (.ref p)) (fun z => if z = y then l else f z) := by
  have hd : d ≠ p := fun z => by rw [← z, a.e] at hp; cases hp
  have h0p : h0 p = none := by
    cases e : h0 p with
    | none => rfl
    | some v => rw [a.sub p v e] at hp; cases hp
  exact {
    e := put_same
    d0 := a.d0
    nd := nodup_put a.nd _ _
    val := fun z hk => by
      rw [lookD_put]
      by_cases e : z = y
      · rw [if_pos e]
        exact ⟨p, rfl, hd.symm, h0p, by rw [put_ne hd.symm, put_same, if_pos e]⟩
      · rw [if_neg e]
        rw [mem_put] at hk
        obtain ⟨p', e1, e2, e3, e4⟩ := a.val z (hk.resolve_right e)
        have : p' ≠ p := fun q => by rw [q, hp] at e4; cases e4
        exact ⟨p', e1, e2, e3, by rw [put_ne e2, put_ne this, if_neg e]; exact e4⟩
    inj := fun z1 z2 q h1 h2 => by
      rw [lookD_put] at h1 h2
      have key : ∀ z, lookD kvs z = some (.ref p) → False := fun z e => by
        obtain ⟨p', e1, _, _, e4⟩ := a.val z (lookD_mem e)
        rw [e] at e1
        cases e1
        rw [hp] at e4
        cases e4
      split at h1
      · rename_i e1
        split at h2
        · rename_i e2
          rw [e1, e2]
        · cases h1
          exact (key z2 h2).elim
      · split at h2
        · cases h2
          exact (key z1 h1).elim
        · exact a.inj z1 z2 q h1 h2
    sub := fun b v hb => by
      have n1 : b ≠ p := fun z => by rw [z, h0p] at hb; cases hb
      have n2 : b ≠ d := fun z => by rw [z, a.d0] at hb; cases hb
      rw [put_ne n2, put_ne n1]
      exact a.sub b v hb }
theorem forW_Sd {s : Src} {T : D → Env' → AH → PV → Prop} {B : PV → Env' → AH → Prop} {fin : PV} {xs : List D} (I : Nat → Env' → AH → Prop) (hs : ∀ i v h, I i v h → StAt s h)
    (step : ∀ i x v h (nx : PV), xs[i]? = some x → I i v h → (∀ v' h', I (i + 1) v' h' → nx v' h') → T x v h fun v h => B nx v h) (hf : ∀ v h, I xs.length v h → fin v h) {v : Env'} {h : AH} (h0 : I 0 v h) : forW s T B fin xs v h := by
  have key : ∀ (ys : List D) (i : Nat), i + ys.length = xs.length → xs.drop i = ys → ∀ v h, I i v h → forW s T B fin ys v h := by
    intro ys
    induction ys with
    | nil =>
      intro i hl hd v h hi
      have : i = xs.length := by simpa using hl
      subst this
      exact still_in (hs _ _ _ hi) (hf v h hi)
    | cons y ys ih =>
      intro i hl hd v h hi
      have hx : xs[i]? = some y := by
        have := congrArg List.head? hd
        rw [List.head?_drop] at this
        exact this
      have hd' : xs.drop (i + 1) = ys := by
        have := congrArg List.tail hd
        rwa [List.tail_drop] at this
      exact still_in (hs _ _ _ hi) (step i y v h _ hx hi fun v' h' hi' => ih (i + 1) (by rw [List.length_cons] at hl; omega) hd' v' h' hi')
  exact key xs 0 (by simp) (by simp) v h h0
section
variable {P : Nat → Option Fn} {k : Nat} {h : AH} {X : PX} {Q : PQ}
theorem together_ref (h9 : P 9 = some fn_together) {p : Addr} {l : List (Int × Int)} (e : h p = some (.lst (l.map ct))) (hl : l.length ≤ 1000) (w : Q (ct ((l.map (·.1)).sum, (l.map (·.2)).sum)) h) : wpCall P (k + 1) 9 [.ref p] h X Q := by
  have e1 : ∀ f : Int × Int → Int, l.map (fun c => D.int (f c)) = (l.map f).map D.int := fun f => by rw [List.map_map]; rfl
  refine call_of h9 rfl ?_
  (((conv => whnf); repeat ((first | with_reducible refine ret_of ?_ | with_reducible refine ix_of at0 ?_ | with_reducible refine ix_of at1 ?_ | with_reducible refine ix_of at2 ?_ | with_reducible refine ix_of at3 ?_ | ((with_reducible apply isi_of); focus rfl) | refine pF ?_ | refine pT ?_ | ((with_reducible refine And.intro (len_le ?_) ?_); (focus (simp; done))) | ((with_reducible refine And.intro ?_ ?_); (focus (first | ((apply mul_b; (focus ((repeat' (first | assumption | apply bd_add | apply bd_sub | apply bd_mul | apply bd_neg | (apply bd_64; decide) | (apply bd_64; omega) | (apply bd_128; decide) | (apply bd_128; omega))); done)); (focus ((repeat' (first | assumption | apply bd_add | apply bd_sub | apply bd_mul | apply bd_neg | (apply bd_64; decide) | (apply bd_64; omega) | (apply bd_128; decide) | (apply bd_128; omega))); done)); (focus decide))) | ((apply div_b; (focus (first | decide | omega)); (focus ((repeat' (first | assumption | apply bd_add | apply bd_sub | apply bd_mul | apply bd_neg | (apply bd_64; decide) | (apply bd_64; omega) | (apply bd_128; decide) | (apply bd_128; omega))); done)); (focus decide))) | decide | (show (_ : Int) ≠ 0; omega))))); (conv => whnf))))
  refine ref_of e ?_
  refine compW_mapR ct (fun c => .int c.1) e (len_le hl) (fun x hx acc G hG => ?_) ?_
  · (((conv => whnf); repeat ((first | with_reducible refine ret_of ?_ | with_reducible refine ix_of at0 ?_ | with_reducible refine ix_of at1 ?_ | with_reducible refine ix_of at2 ?_ | with_reducible refine ix_of at3 ?_ | ((with_reducible apply isi_of); focus rfl) | refine pF ?_ | refine pT ?_ | ((with_reducible refine And.intro (len_le ?_) ?_); (focus (simp; done))) | ((with_reducible refine And.intro ?_ ?_); (focus (first | ((apply mul_b; (focus ((repeat' (first | assumption | apply bd_add | apply bd_sub | apply bd_mul | apply bd_neg | (apply bd_64; decide) | (apply bd_64; omega) | (apply bd_128; decide) | (apply bd_128; omega))); done)); (focus ((repeat' (first | assumption | apply bd_add | apply bd_sub | apply bd_mul | apply bd_neg | (apply bd_64; decide) | (apply bd_64; omega) | (apply bd_128; decide) | (apply bd_128; omega))); done)); (focus decide))) | ((apply div_b; (focus (first | decide | omega)); (focus ((repeat' (first | assumption | apply bd_add | apply bd_sub | apply bd_mul | apply bd_neg | (apply bd_64; decide) | (apply bd_64; omega) | (apply bd_128; decide) | (apply bd_128; omega))); done)); (focus decide))) | decide | (show (_ : Int) ≠ 0; omega))))); (conv => whnf))))
    exact hG
  (((conv => whnf); repeat ((first | with_reducible refine ret_of ?_ | with_reducible refine ix_of at0 ?_ | with_reducible refine ix_of at1 ?_ | with_reducible refine ix_of at2 ?_ | with_reducible refine ix_of at3 ?_ | ((with_reducible apply isi_of); focus rfl) | refine pF ?_ | refine pT ?_ | ((with_reducible refine And.intro (len_le ?_) ?_); (focus (simp; done))) | ((with_reducible refine And.intro ?_ ?_); (focus (first | ((apply mul_b; (focus ((repeat' (first | assumption | apply bd_add | apply bd_sub | apply bd_mul | apply bd_neg | (apply bd_64; decide) | (apply bd_64; omega) | (apply bd_128; decide) | (apply bd_128; omega))); done)); (focus ((repeat' (first | assumption | apply bd_add | apply bd_sub | apply bd_mul | apply bd_neg | (apply bd_64; decide) | (apply bd_64; omega) | (apply bd_128; decide) | (apply bd_128; omega))); done)); (focus decide))) | ((apply div_b; (focus (first | decide | omega)); (focus ((repeat' (first | assumption | apply bd_add | apply bd_sub | apply bd_mul | apply bd_neg | (apply bd_64; decide) | (apply bd_64; omega) | (apply bd_128; decide) | (apply bd_128; omega))); done)); (focus decide))) | decide | (show (_ : Int) ≠ 0; omega))))); (conv => whnf))))
  refine ⟨_, e1 (·.1), ?_⟩
  (((conv => whnf); repeat ((first | with_reducible refine ret_of ?_ | with_reducible refine ix_of at0 ?_ | with_reducible refine ix_of at1 ?_ | with_reducible refine ix_of at2 ?_ | with_reducible refine ix_of at3 ?_ | ((with_reducible apply isi_of); focus rfl) | refine pF ?_ | refine pT ?_ | ((with_reducible refine And.intro (len_le ?_) ?_); (focus (simp; done))) | ((with_reducible refine And.intro ?_ ?_); (focus (first | ((apply mul_b; (focus ((repeat' (first | assumption | apply bd_add | apply bd_sub | apply bd_mul | apply bd_neg | (apply bd_64; decide) | (apply bd_64; omega) | (apply bd_128; decide) | (apply bd_128; omega))); done)); (focus ((repeat' (first | assumption | apply bd_add | apply bd_sub | apply bd_mul | apply bd_neg | (apply bd_64; decide) | (apply bd_64; omega) | (apply bd_128; decide) | (apply bd_128; omega))); done)); (focus decide))) | ((apply div_b; (focus (first | decide | omega)); (focus ((repeat' (first | assumption | apply bd_add | apply bd_sub | apply bd_mul | apply bd_neg | (apply bd_64; decide) | (apply bd_64; omega) | (apply bd_128; decide) | (apply bd_128; omega))); done)); (focus decide))) | decide | (show (_ : Int) ≠ 0; omega))))); (conv => whnf))))
  refine ref_of e ?_
  refine compW_mapR ct (fun c => .int c.2) e (len_le hl) (fun x hx acc G hG => ?_) ?_
  · (((conv => whnf); repeat ((first | with_reducible refine ret_of ?_ | with_reducible refine ix_of at0 ?_ | with_reducible refine ix_of at1 ?_ | with_reducible refine ix_of at2 ?_ | with_reducible refine ix_of at3 ?_ | ((with_reducible apply isi_of); focus rfl) | refine pF ?_ | refine pT ?_ | ((with_reducible refine And.intro (len_le ?_) ?_); (focus (simp; done))) | ((with_reducible refine And.intro ?_ ?_); (focus (first | ((apply mul_b; (focus ((repeat' (first | assumption | apply bd_add | apply bd_sub | apply bd_mul | apply bd_neg | (apply bd_64; decide) | (apply bd_64; omega) | (apply bd_128; decide) | (apply bd_128; omega))); done)); (focus ((repeat' (first | assumption | apply bd_add | apply bd_sub | apply bd_mul | apply bd_neg | (apply bd_64; decide) | (apply bd_64; omega) | (apply bd_128; decide) | (apply bd_128; omega))); done)); (focus decide))) | ((apply div_b; (focus (first | decide | omega)); (focus ((repeat' (first | assumption | apply bd_add | apply bd_sub | apply bd_mul | apply bd_neg | (apply bd_64; decide) | (apply bd_64; omega) | (apply bd_128; decide) | (apply bd_128; omega))); done)); (focus decide))) | decide | (show (_ : Int) ≠ 0; omega))))); (conv => whnf))))
    exact hG
  (((conv => whnf); repeat ((first | with_reducible refine ret_of ?_ | with_reducible refine ix_of at0 ?_ | with_reducible refine ix_of at1 ?_ | with_reducible refine ix_of at2 ?_ | with_reducible refine ix_of at3 ?_ | ((with_reducible apply isi_of); focus rfl) | refine pF ?_ | refine pT ?_ | ((with_reducible refine And.intro (len_le ?_) ?_); (focus (simp; done))) | ((with_reducible refine And.intro ?_ ?_); (focus (first | ((apply mul_b; (focus ((repeat' (first | assumption | apply bd_add | apply bd_sub | apply bd_mul | apply bd_neg | (apply bd_64; decide) | (apply bd_64; omega) | (apply bd_128; decide) | (apply bd_128; omega))); done)); (focus ((repeat' (first | assumption | apply bd_add | apply bd_sub | apply bd_mul | apply bd_neg | (apply bd_64; decide) | (apply bd_64; omega) | (apply bd_128; decide) | (apply bd_128; omega))); done)); (focus decide))) | ((apply div_b; (focus (first | decide | omega)); (focus ((repeat' (first | assumption | apply bd_add | apply bd_sub | apply bd_mul | apply bd_neg | (apply bd_64; decide) | (apply bd_64; omega) | (apply bd_128; decide) | (apply bd_128; omega))); done)); (focus decide))) | decide | (show (_ : Int) ≠ 0; omega))))); (conv => whnf))))
  refine ⟨_, e1 (·.2), ?_⟩
  (((conv => whnf); repeat ((first | with_reducible refine ret_of ?_ | with_reducible refine ix_of at0 ?_ | with_reducible refine ix_of at1 ?_ | with_reducible refine ix_of at2 ?_ | with_reducible refine ix_of at3 ?_ | ((with_reducible apply isi_of); focus rfl) | refine pF ?_ | refine pT ?_ | ((with_reducible refine And.intro (len_le ?_) ?_); (focus (simp; done))) | ((with_reducible refine And.intro ?_ ?_); (focus (first | ((apply mul_b; (focus ((repeat' (first | assumption | apply bd_add | apply bd_sub | apply bd_mul | apply bd_neg | (apply bd_64; decide) | (apply bd_64; omega) | (apply bd_128; decide) | (apply bd_128; omega))); done)); (focus ((repeat' (first | assumption | apply bd_add | apply bd_sub | apply bd_mul | apply bd_neg | (apply bd_64; decide) | (apply bd_64; omega) | (apply bd_128; decide) | (apply bd_128; omega))); done)); (focus decide))) | ((apply div_b; (focus (first | decide | omega)); (focus ((repeat' (first | assumption | apply bd_add | apply bd_sub | apply bd_mul | apply bd_neg | (apply bd_64; decide) | (apply bd_64; omega) | (apply bd_128; decide) | (apply bd_128; omega))); done)); (focus decide))) | decide | (show (_ : Int) ≠ 0; omega))))); (conv => whnf))))
  exact w
theorem is_list_ok (hP : P 12 = some fn_is_list) {d : D} {ds : List D} (s : SeqAt h d ds) {n : Nat} (hn : ds.length ≤ n) (q : Q (.bl true) h) : wpCall P (k + 1) 12 [d, .int (n : Int)] h X Q := by
  refine call_of hP rfl ?_
  rcases s with rfl | rfl | ⟨a, rfl, e⟩
  · (((conv => whnf); repeat ((first | with_reducible refine ret_of ?_ | with_reducible refine ix_of at0 ?_ | with_reducible refine ix_of at1 ?_ | with_reducible refine ix_of at2 ?_ | with_reducible refine ix_of at3 ?_ | ((with_reducible apply isi_of); focus rfl) | refine pF ?_ | refine pT ?_ | ((with_reducible refine And.intro (len_le ?_) ?_); (focus (simp; done))) | ((with_reducible refine And.intro ?_ ?_); (focus (first | ((apply mul_b; (focus ((repeat' (first | assumption | apply bd_add | apply bd_sub | apply bd_mul | apply bd_neg | (apply bd_64; decide) | (apply bd_64; omega) | (apply bd_128; decide) | (apply bd_128; omega))); done)); (focus ((repeat' (first | assumption | apply bd_add | apply bd_sub | apply bd_mul | apply bd_neg | (apply bd_64; decide) | (apply bd_64; omega) | (apply bd_128; decide) | (apply bd_128; omega))); done)); (focus decide))) | ((apply div_b; (focus (first | decide | omega)); (focus ((repeat' (first | assumption | apply bd_add | apply bd_sub | apply bd_mul | apply bd_neg | (apply bd_64; decide) | (apply bd_64; omega) | (apply bd_128; decide) | (apply bd_128; omega))); done)); (focus decide))) | decide | (show (_ : Int) ≠ 0; omega))))); (conv => whnf))))
    rw [decide_eq_true (show (ds.length : Int) ≤ n by omega)]
    exact q
  · (((conv => whnf); repeat ((first | with_reducible refine ret_of ?_ | with_reducible refine ix_of at0 ?_ | with_reducible refine ix_of at1 ?_ | with_reducible refine ix_of at2 ?_ | with_reducible refine ix_of at3 ?_ | ((with_reducible apply isi_of); focus rfl) | refine pF ?_ | refine pT ?_ | ((with_reducible refine And.intro (len_le ?_) ?_); (focus (simp; done))) | ((with_reducible refine And.intro ?_ ?_); (focus (first | ((apply mul_b; (focus ((repeat' (first | assumption | apply bd_add | apply bd_sub | apply bd_mul | apply bd_neg | (apply bd_64; decide) | (apply bd_64; omega) | (apply bd_128; decide) | (apply bd_128; omega))); done)); (focus ((repeat' (first | assumption | apply bd_add | apply bd_sub | apply bd_mul | apply bd_neg | (apply bd_64; decide) | (apply bd_64; omega) | (apply bd_128; decide) | (apply bd_128; omega))); done)); (focus decide))) | ((apply div_b; (focus (first | decide | omega)); (focus ((repeat' (first | assumption | apply bd_add | apply bd_sub | apply bd_mul | apply bd_neg | (apply bd_64; decide) | (apply bd_64; omega) | (apply bd_128; decide) | (apply bd_128; omega))); done)); (focus decide))) | decide | (show (_ : Int) ≠ 0; omega))))); (conv => whnf))))
    rw [decide_eq_true (show (ds.length : Int) ≤ n by omega)]
    exact q
  · have ei : isiAny (.ref a) h [.list, .tuple] = some true := by
      simp only [isiAny, isiOne]
      rw [e]
    (((conv => whnf); repeat ((first | with_reducible refine ret_of ?_ | with_reducible refine ix_of at0 ?_ | with_reducible refine ix_of at1 ?_ | with_reducible refine ix_of at2 ?_ | with_reducible refine ix_of at3 ?_ | ((with_reducible apply isi_of); focus rfl) | refine pF ?_ | refine pT ?_ | ((with_reducible refine And.intro (len_le ?_) ?_); (focus (simp; done))) | ((with_reducible refine And.intro ?_ ?_); (focus (first | ((apply mul_b; (focus ((repeat' (first | assumption | apply bd_add | apply bd_sub | apply bd_mul | apply bd_neg | (apply bd_64; decide) | (apply bd_64; omega) | (apply bd_128; decide) | (apply bd_128; omega))); done)); (focus ((repeat' (first | assumption | apply bd_add | apply bd_sub | apply bd_mul | apply bd_neg | (apply bd_64; decide) | (apply bd_64; omega) | (apply bd_128; decide) | (apply bd_128; omega))); done)); (focus decide))) | ((apply div_b; (focus (first | decide | omega)); (focus ((repeat' (first | assumption | apply bd_add | apply bd_sub | apply bd_mul | apply bd_neg | (apply bd_64; decide) | (apply bd_64; omega) | (apply bd_128; decide) | (apply bd_128; omega))); done)); (focus decide))) | decide | (show (_ : Int) ≠ 0; omega))))); (conv => whnf))))
    refine isi_of ei ?_
    (((conv => whnf); repeat ((first | with_reducible refine ret_of ?_ | with_reducible refine ix_of at0 ?_ | with_reducible refine ix_of at1 ?_ | with_reducible refine ix_of at2 ?_ | with_reducible refine ix_of at3 ?_ | ((with_reducible apply isi_of); focus rfl) | refine pF ?_ | refine pT ?_ | ((with_reducible refine And.intro (len_le ?_) ?_); (focus (simp; done))) | ((with_reducible refine And.intro ?_ ?_); (focus (first | ((apply mul_b; (focus ((repeat' (first | assumption | apply bd_add | apply bd_sub | apply bd_mul | apply bd_neg | (apply bd_64; decide) | (apply bd_64; omega) | (apply bd_128; decide) | (apply bd_128; omega))); done)); (focus ((repeat' (first | assumption | apply bd_add | apply bd_sub | apply bd_mul | apply bd_neg | (apply bd_64; decide) | (apply bd_64; omega) | (apply bd_128; decide) | (apply bd_128; omega))); done)); (focus decide))) | ((apply div_b; (focus (first | decide | omega)); (focus ((repeat' (first | assumption | apply bd_add | apply bd_sub | apply bd_mul | apply bd_neg | (apply bd_64; decide) | (apply bd_64; omega) | (apply bd_128; decide) | (apply bd_128; omega))); done)); (focus decide))) | decide | (show (_ : Int) ≠ 0; omega))))); (conv => whnf))))
    refine ⟨_, e, ?_⟩
    (((conv => whnf); repeat ((first | with_reducible refine ret_of ?_ | with_reducible refine ix_of at0 ?_ | with_reducible refine ix_of at1 ?_ | with_reducible refine ix_of at2 ?_ | with_reducible refine ix_of at3 ?_ | ((with_reducible apply isi_of); focus rfl) | refine pF ?_ | refine pT ?_ | ((with_reducible refine And.intro (len_le ?_) ?_); (focus (simp; done))) | ((with_reducible refine And.intro ?_ ?_); (focus (first | ((apply mul_b; (focus ((repeat' (first | assumption | apply bd_add | apply bd_sub | apply bd_mul | apply bd_neg | (apply bd_64; decide) | (apply bd_64; omega) | (apply bd_128; decide) | (apply bd_128; omega))); done)); (focus ((repeat' (first | assumption | apply bd_add | apply bd_sub | apply bd_mul | apply bd_neg | (apply bd_64; decide) | (apply bd_64; omega) | (apply bd_128; decide) | (apply bd_128; omega))); done)); (focus decide))) | ((apply div_b; (focus (first | decide | omega)); (focus ((repeat' (first | assumption | apply bd_add | apply bd_sub | apply bd_mul | apply bd_neg | (apply bd_64; decide) | (apply bd_64; omega) | (apply bd_128; decide) | (apply bd_128; omega))); done)); (focus decide))) | decide | (show (_ : Int) ≠ 0; omega))))); (conv => whnf))))
    rw [decide_eq_true (show (ds.length : Int) ≤ n by omega)]
    exact q
theorem are_marks_ok (hP : P 7 = some fn_is_whole ∧ P 12 = some fn_is_list ∧ P 14 = some fn_are_marks) {d : D} {ks : List Nat} (s : SeqAt h d (ksD ks)) (k5 : ks.length ≤ 5) (k6 : ∀ k ∈ ks, 1 ≤ k ∧ k ≤ 6) (q : Q (.bl true) h) : wpCall P (k + 2) 14 [d] h X Q := by
  obtain ⟨h7, h12, h14⟩ := hP
  refine call_of h14 rfl ?_
  (((conv => whnf); repeat ((first | with_reducible refine ret_of ?_ | with_reducible refine ix_of at0 ?_ | with_reducible refine ix_of at1 ?_ | with_reducible refine ix_of at2 ?_ | with_reducible refine ix_of at3 ?_ | ((with_reducible apply isi_of); focus rfl) | refine pF ?_ | refine pT ?_ | ((with_reducible refine And.intro (len_le ?_) ?_); (focus (simp; done))) | ((with_reducible refine And.intro ?_ ?_); (focus (first | ((apply mul_b; (focus ((repeat' (first | assumption | apply bd_add | apply bd_sub | apply bd_mul | apply bd_neg | (apply bd_64; decide) | (apply bd_64; omega) | (apply bd_128; decide) | (apply bd_128; omega))); done)); (focus ((repeat' (first | assumption | apply bd_add | apply bd_sub | apply bd_mul | apply bd_neg | (apply bd_64; decide) | (apply bd_64; omega) | (apply bd_128; decide) | (apply bd_128; omega))); done)); (focus decide))) | ((apply div_b; (focus (first | decide | omega)); (focus ((repeat' (first | assumption | apply bd_add | apply bd_sub | apply bd_mul | apply bd_neg | (apply bd_64; decide) | (apply bd_64; omega) | (apply bd_128; decide) | (apply bd_128; omega))); done)); (focus decide))) | decide | (show (_ : Int) ≠ 0; omega))))); (conv => whnf))))
  refine is_list_ok h12 s (n := 5) (by unfold ksD; rw [List.length_map]; exact k5) ?_
  (((conv => whnf); repeat ((first | with_reducible refine ret_of ?_ | with_reducible refine ix_of at0 ?_ | with_reducible refine ix_of at1 ?_ | with_reducible refine ix_of at2 ?_ | with_reducible refine ix_of at3 ?_ | ((with_reducible apply isi_of); focus rfl) | refine pF ?_ | refine pT ?_ | ((with_reducible refine And.intro (len_le ?_) ?_); (focus (simp; done))) | ((with_reducible refine And.intro ?_ ?_); (focus (first | ((apply mul_b; (focus ((repeat' (first | assumption | apply bd_add | apply bd_sub | apply bd_mul | apply bd_neg | (apply bd_64; decide) | (apply bd_64; omega) | (apply bd_128; decide) | (apply bd_128; omega))); done)); (focus ((repeat' (first | assumption | apply bd_add | apply bd_sub | apply bd_mul | apply bd_neg | (apply bd_64; decide) | (apply bd_64; omega) | (apply bd_128; decide) | (apply bd_128; omega))); done)); (focus decide))) | ((apply div_b; (focus (first | decide | omega)); (focus ((repeat' (first | assumption | apply bd_add | apply bd_sub | apply bd_mul | apply bd_neg | (apply bd_64; decide) | (apply bd_64; omega) | (apply bd_128; decide) | (apply bd_128; omega))); done)); (focus decide))) | decide | (show (_ : Int) ≠ 0; omega))))); (conv => whnf))))
  rcases s with rfl | rfl | ⟨a, rfl, e⟩
  all_goals
    (((conv => whnf); repeat ((first | with_reducible refine ret_of ?_ | with_reducible refine ix_of at0 ?_ | with_reducible refine ix_of at1 ?_ | with_reducible refine ix_of at2 ?_ | with_reducible refine ix_of at3 ?_ | ((with_reducible apply isi_of); focus rfl) | refine pF ?_ | refine pT ?_ | ((with_reducible refine And.intro (len_le ?_) ?_); (focus (simp; done))) | ((with_reducible refine And.intro ?_ ?_); (focus (first | ((apply mul_b; (focus ((repeat' (first | assumption | apply bd_add | apply bd_sub | apply bd_mul | apply bd_neg | (apply bd_64; decide) | (apply bd_64; omega) | (apply bd_128; decide) | (apply bd_128; omega))); done)); (focus ((repeat' (first | assumption | apply bd_add | apply bd_sub | apply bd_mul | apply bd_neg | (apply bd_64; decide) | (apply bd_64; omega) | (apply bd_128; decide) | (apply bd_128; omega))); done)); (focus decide))) | ((apply div_b; (focus (first | decide | omega)); (focus ((repeat' (first | assumption | apply bd_add | apply bd_sub | apply bd_mul | apply bd_neg | (apply bd_64; decide) | (apply bd_64; omega) | (apply bd_128; decide) | (apply bd_128; omega))); done)); (focus decide))) | decide | (show (_ : Int) ≠ 0; omega))))); (conv => whnf))))
    first
      | refine ⟨_, e, ?_⟩
      | skip
    unfold ksD at *
    refine compW_mapS (by first | exact e | trivial) (fun (k : Nat) => D.int (k : Int)) (fun _ => D.bl true) (len_le (by omega)) (fun x hx acc G hG => ?_) ?_
    · have := k6 x hx
      (((conv => whnf); repeat ((first | with_reducible refine ret_of ?_ | with_reducible refine ix_of at0 ?_ | with_reducible refine ix_of at1 ?_ | with_reducible refine ix_of at2 ?_ | with_reducible refine ix_of at3 ?_ | ((with_reducible apply isi_of); focus rfl) | refine pF ?_ | refine pT ?_ | ((with_reducible refine And.intro (len_le ?_) ?_); (focus (simp; done))) | ((with_reducible refine And.intro ?_ ?_); (focus (first | ((apply mul_b; (focus ((repeat' (first | assumption | apply bd_add | apply bd_sub | apply bd_mul | apply bd_neg | (apply bd_64; decide) | (apply bd_64; omega) | (apply bd_128; decide) | (apply bd_128; omega))); done)); (focus ((repeat' (first | assumption | apply bd_add | apply bd_sub | apply bd_mul | apply bd_neg | (apply bd_64; decide) | (apply bd_64; omega) | (apply bd_128; decide) | (apply bd_128; omega))); done)); (focus decide))) | ((apply div_b; (focus (first | decide | omega)); (focus ((repeat' (first | assumption | apply bd_add | apply bd_sub | apply bd_mul | apply bd_neg | (apply bd_64; decide) | (apply bd_64; omega) | (apply bd_128; decide) | (apply bd_128; omega))); done)); (focus decide))) | decide | (show (_ : Int) ≠ 0; omega))))); (conv => whnf))))
      refine call_of h7 rfl ?_
      (((conv => whnf); repeat ((first | with_reducible refine ret_of ?_ | with_reducible refine ix_of at0 ?_ | with_reducible refine ix_of at1 ?_ | with_reducible refine ix_of at2 ?_ | with_reducible refine ix_of at3 ?_ | ((with_reducible apply isi_of); focus rfl) | refine pF ?_ | refine pT ?_ | ((with_reducible refine And.intro (len_le ?_) ?_); (focus (simp; done))) | ((with_reducible refine And.intro ?_ ?_); (focus (first | ((apply mul_b; (focus ((repeat' (first | assumption | apply bd_add | apply bd_sub | apply bd_mul | apply bd_neg | (apply bd_64; decide) | (apply bd_64; omega) | (apply bd_128; decide) | (apply bd_128; omega))); done)); (focus ((repeat' (first | assumption | apply bd_add | apply bd_sub | apply bd_mul | apply bd_neg | (apply bd_64; decide) | (apply bd_64; omega) | (apply bd_128; decide) | (apply bd_128; omega))); done)); (focus decide))) | ((apply div_b; (focus (first | decide | omega)); (focus ((repeat' (first | assumption | apply bd_add | apply bd_sub | apply bd_mul | apply bd_neg | (apply bd_64; decide) | (apply bd_64; omega) | (apply bd_128; decide) | (apply bd_128; omega))); done)); (focus decide))) | decide | (show (_ : Int) ≠ 0; omega))))); (conv => whnf))))
      rw [decide_eq_true (show (1 : Int) ≤ x by omega)]
      (((conv => whnf); repeat ((first | with_reducible refine ret_of ?_ | with_reducible refine ix_of at0 ?_ | with_reducible refine ix_of at1 ?_ | with_reducible refine ix_of at2 ?_ | with_reducible refine ix_of at3 ?_ | ((with_reducible apply isi_of); focus rfl) | refine pF ?_ | refine pT ?_ | ((with_reducible refine And.intro (len_le ?_) ?_); (focus (simp; done))) | ((with_reducible refine And.intro ?_ ?_); (focus (first | ((apply mul_b; (focus ((repeat' (first | assumption | apply bd_add | apply bd_sub | apply bd_mul | apply bd_neg | (apply bd_64; decide) | (apply bd_64; omega) | (apply bd_128; decide) | (apply bd_128; omega))); done)); (focus ((repeat' (first | assumption | apply bd_add | apply bd_sub | apply bd_mul | apply bd_neg | (apply bd_64; decide) | (apply bd_64; omega) | (apply bd_128; decide) | (apply bd_128; omega))); done)); (focus decide))) | ((apply div_b; (focus (first | decide | omega)); (focus ((repeat' (first | assumption | apply bd_add | apply bd_sub | apply bd_mul | apply bd_neg | (apply bd_64; decide) | (apply bd_64; omega) | (apply bd_128; decide) | (apply bd_128; omega))); done)); (focus decide))) | decide | (show (_ : Int) ≠ 0; omega))))); (conv => whnf))))
      rw [decide_eq_true (show (x : Int) ≤ 6 by omega)]
      exact hG
    (((conv => whnf); repeat ((first | with_reducible refine ret_of ?_ | with_reducible refine ix_of at0 ?_ | with_reducible refine ix_of at1 ?_ | with_reducible refine ix_of at2 ?_ | with_reducible refine ix_of at3 ?_ | ((with_reducible apply isi_of); focus rfl) | refine pF ?_ | refine pT ?_ | ((with_reducible refine And.intro (len_le ?_) ?_); (focus (simp; done))) | ((with_reducible refine And.intro ?_ ?_); (focus (first | ((apply mul_b; (focus ((repeat' (first | assumption | apply bd_add | apply bd_sub | apply bd_mul | apply bd_neg | (apply bd_64; decide) | (apply bd_64; omega) | (apply bd_128; decide) | (apply bd_128; omega))); done)); (focus ((repeat' (first | assumption | apply bd_add | apply bd_sub | apply bd_mul | apply bd_neg | (apply bd_64; decide) | (apply bd_64; omega) | (apply bd_128; decide) | (apply bd_128; omega))); done)); (focus decide))) | ((apply div_b; (focus (first | decide | omega)); (focus ((repeat' (first | assumption | apply bd_add | apply bd_sub | apply bd_mul | apply bd_neg | (apply bd_64; decide) | (apply bd_64; omega) | (apply bd_128; decide) | (apply bd_128; omega))); done)); (focus decide))) | decide | (show (_ : Int) ≠ 0; omega))))); (conv => whnf))))
    refine ⟨ks.map fun _ => true, by rw [List.map_map]; rfl, ?_⟩
    rw [show (ks.map fun _ => true).all id = true by rw [List.all_map]; exact List.all_eq_true.mpr fun _ _ => rfl]
    (((conv => whnf); repeat ((first | with_reducible refine ret_of ?_ | with_reducible refine ix_of at0 ?_ | with_reducible refine ix_of at1 ?_ | with_reducible refine ix_of at2 ?_ | with_reducible refine ix_of at3 ?_ | ((with_reducible apply isi_of); focus rfl) | refine pF ?_ | refine pT ?_ | ((with_reducible refine And.intro (len_le ?_) ?_); (focus (simp; done))) | ((with_reducible refine And.intro ?_ ?_); (focus (first | ((apply mul_b; (focus ((repeat' (first | assumption | apply bd_add | apply bd_sub | apply bd_mul | apply bd_neg | (apply bd_64; decide) | (apply bd_64; omega) | (apply bd_128; decide) | (apply bd_128; omega))); done)); (focus ((repeat' (first | assumption | apply bd_add | apply bd_sub | apply bd_mul | apply bd_neg | (apply bd_64; decide) | (apply bd_64; omega) | (apply bd_128; decide) | (apply bd_128; omega))); done)); (focus decide))) | ((apply div_b; (focus (first | decide | omega)); (focus ((repeat' (first | assumption | apply bd_add | apply bd_sub | apply bd_mul | apply bd_neg | (apply bd_64; decide) | (apply bd_64; omega) | (apply bd_128; decide) | (apply bd_128; omega))); done)); (focus decide))) | decide | (show (_ : Int) ≠ 0; omega))))); (conv => whnf))))
    exact q
theorem are_kinds_ok (hP : P 7 = some fn_is_whole ∧ P 13 = some fn_is_below ∧ P 15 = some fn_are_kinds) {d : D} {ks : List Nat} {y : List Int} (s : SeqAt h d (ksD ks)) (k5 : ks.length ≤ 5) (hy : KOk ks y) (q : Q (.bl true) h) : wpCall P (k + 3) 15 [d, keyD y] h X Q := by
  obtain ⟨h7, h13, h15⟩ := hP
  refine call_of h15 rfl ?_
  rcases s with rfl | rfl | ⟨a, rfl, e⟩
  all_goals
    unfold keyD
    (((conv => whnf); repeat ((first | refine cut_in ?_ | (first | with_reducible refine ret_of ?_ | with_reducible refine ix_of at0 ?_ | with_reducible refine ix_of at1 ?_ | with_reducible refine ix_of at2 ?_ | with_reducible refine ix_of at3 ?_ | ((with_reducible apply isi_of); focus rfl) | refine pF ?_ | refine pT ?_ | ((with_reducible refine And.intro (len_le ?_) ?_); (focus (simp; done))) | ((with_reducible refine And.intro ?_ ?_); (focus (first | ((apply mul_b; (focus ((repeat' (first | assumption | apply bd_add | apply bd_sub | apply bd_mul | apply bd_neg | (apply bd_64; decide) | (apply bd_64; omega) | (apply bd_128; decide) | (apply bd_128; omega))); done)); (focus ((repeat' (first | assumption | apply bd_add | apply bd_sub | apply bd_mul | apply bd_neg | (apply bd_64; decide) | (apply bd_64; omega) | (apply bd_128; decide) | (apply bd_128; omega))); done)); (focus decide))) | ((apply div_b; (focus (first | decide | omega)); (focus ((repeat' (first | assumption | apply bd_add | apply bd_sub | apply bd_mul | apply bd_neg | (apply bd_64; decide) | (apply bd_64; omega) | (apply bd_128; decide) | (apply bd_128; omega))); done)); (focus decide))) | decide | (show (_ : Int) ≠ 0; omega)))))); (conv => whnf))))
    first
      | refine ⟨_, e, ?_⟩; (((conv => whnf); repeat ((first | refine cut_in ?_ | (first | with_reducible refine ret_of ?_ | with_reducible refine ix_of at0 ?_ | with_reducible refine ix_of at1 ?_ | with_reducible refine ix_of at2 ?_ | with_reducible refine ix_of at3 ?_ | ((with_reducible apply isi_of); focus rfl) | refine pF ?_ | refine pT ?_ | ((with_reducible refine And.intro (len_le ?_) ?_); (focus (simp; done))) | ((with_reducible refine And.intro ?_ ?_); (focus (first | ((apply mul_b; (focus ((repeat' (first | assumption | apply bd_add | apply bd_sub | apply bd_mul | apply bd_neg | (apply bd_64; decide) | (apply bd_64; omega) | (apply bd_128; decide) | (apply bd_128; omega))); done)); (focus ((repeat' (first | assumption | apply bd_add | apply bd_sub | apply bd_mul | apply bd_neg | (apply bd_64; decide) | (apply bd_64; omega) | (apply bd_128; decide) | (apply bd_128; omega))); done)); (focus decide))) | ((apply div_b; (focus (first | decide | omega)); (focus ((repeat' (first | assumption | apply bd_add | apply bd_sub | apply bd_mul | apply bd_neg | (apply bd_64; decide) | (apply bd_64; omega) | (apply bd_128; decide) | (apply bd_128; omega))); done)); (focus decide))) | decide | (show (_ : Int) ≠ 0; omega)))))); (conv => whnf))))
      | skip
    rw [decide_eq_true (show ((y.map D.int).length : Int) = ((ksD ks).length : Int) by unfold ksD; rw [List.length_map, List.length_map, hy.1])]
    (((conv => whnf); repeat ((first | refine cut_in ?_ | (first | with_reducible refine ret_of ?_ | with_reducible refine ix_of at0 ?_ | with_reducible refine ix_of at1 ?_ | with_reducible refine ix_of at2 ?_ | with_reducible refine ix_of at3 ?_ | ((with_reducible apply isi_of); focus rfl) | refine pF ?_ | refine pT ?_ | ((with_reducible refine And.intro (len_le ?_) ?_); (focus (simp; done))) | ((with_reducible refine And.intro ?_ ?_); (focus (first | ((apply mul_b; (focus ((repeat' (first | assumption | apply bd_add | apply bd_sub | apply bd_mul | apply bd_neg | (apply bd_64; decide) | (apply bd_64; omega) | (apply bd_128; decide) | (apply bd_128; omega))); done)); (focus ((repeat' (first | assumption | apply bd_add | apply bd_sub | apply bd_mul | apply bd_neg | (apply bd_64; decide) | (apply bd_64; omega) | (apply bd_128; decide) | (apply bd_128; omega))); done)); (focus decide))) | ((apply div_b; (focus (first | decide | omega)); (focus ((repeat' (first | assumption | apply bd_add | apply bd_sub | apply bd_mul | apply bd_neg | (apply bd_64; decide) | (apply bd_64; omega) | (apply bd_128; decide) | (apply bd_128; omega))); done)); (focus decide))) | decide | (show (_ : Int) ≠ 0; omega)))))); (conv => whnf))))
    first
      | refine ⟨_, e, ?_⟩
      | skip
    refine compW_listS (fun i acc h' => acc = (List.replicate i true).map D.bl ∧ i ≤ ks.length ∧ h' = h) (fun i acc h' z => by
      obtain ⟨_, _, rfl⟩ := z
      first | exact e | trivial) (fun i x acc h' G hx z hG => ?_) (fun acc h' z => ?_) ⟨rfl, Nat.zero_le _, rfl⟩
    · obtain ⟨rfl, hi, rfl⟩ := z
      obtain ⟨u, v, hu, hv, rfl⟩ := zip_get hx
      unfold ksD at hv
      rw [List.getElem?_map] at hu hv
      obtain ⟨x, hx1, rfl⟩ := Option.map_eq_some_iff.mp hu
      obtain ⟨n, hn1, rfl⟩ := Option.map_eq_some_iff.mp hv
      have b := hy.2 i x n hx1 hn1
      have hi' := (List.getElem?_eq_some_iff.mp hn1).1
      obtain ⟨x, rfl⟩ : ∃ x' : Nat, x = (x' : Int) := ⟨x.toNat, by omega⟩
      (((conv => whnf); repeat ((first | with_reducible refine ret_of ?_ | with_reducible refine ix_of at0 ?_ | with_reducible refine ix_of at1 ?_ | with_reducible refine ix_of at2 ?_ | with_reducible refine ix_of at3 ?_ | ((with_reducible apply isi_of); focus rfl) | refine pF ?_ | refine pT ?_ | ((with_reducible refine And.intro (len_le ?_) ?_); (focus (simp; done))) | ((with_reducible refine And.intro ?_ ?_); (focus (first | ((apply mul_b; (focus ((repeat' (first | assumption | apply bd_add | apply bd_sub | apply bd_mul | apply bd_neg | (apply bd_64; decide) | (apply bd_64; omega) | (apply bd_128; decide) | (apply bd_128; omega))); done)); (focus ((repeat' (first | assumption | apply bd_add | apply bd_sub | apply bd_mul | apply bd_neg | (apply bd_64; decide) | (apply bd_64; omega) | (apply bd_128; decide) | (apply bd_128; omega))); done)); (focus decide))) | ((apply div_b; (focus (first | decide | omega)); (focus ((repeat' (first | assumption | apply bd_add | apply bd_sub | apply bd_mul | apply bd_neg | (apply bd_64; decide) | (apply bd_64; omega) | (apply bd_128; decide) | (apply bd_128; omega))); done)); (focus decide))) | decide | (show (_ : Int) ≠ 0; omega))))); (conv => whnf))))
      refine below_yes h7 h13 (by omega) ?_
      refine ⟨lt_line (by rw [List.length_map, List.length_replicate]; omega), hG _ _ ⟨?_, by omega, rfl⟩⟩
      rw [List.replicate_succ', List.map_append]; rfl
    · obtain ⟨rfl, hi, rfl⟩ := z
      (((conv => whnf); repeat ((first | with_reducible refine ret_of ?_ | with_reducible refine ix_of at0 ?_ | with_reducible refine ix_of at1 ?_ | with_reducible refine ix_of at2 ?_ | with_reducible refine ix_of at3 ?_ | ((with_reducible apply isi_of); focus rfl) | refine pF ?_ | refine pT ?_ | ((with_reducible refine And.intro (len_le ?_) ?_); (focus (simp; done))) | ((with_reducible refine And.intro ?_ ?_); (focus (first | ((apply mul_b; (focus ((repeat' (first | assumption | apply bd_add | apply bd_sub | apply bd_mul | apply bd_neg | (apply bd_64; decide) | (apply bd_64; omega) | (apply bd_128; decide) | (apply bd_128; omega))); done)); (focus ((repeat' (first | assumption | apply bd_add | apply bd_sub | apply bd_mul | apply bd_neg | (apply bd_64; decide) | (apply bd_64; omega) | (apply bd_128; decide) | (apply bd_128; omega))); done)); (focus decide))) | ((apply div_b; (focus (first | decide | omega)); (focus ((repeat' (first | assumption | apply bd_add | apply bd_sub | apply bd_mul | apply bd_neg | (apply bd_64; decide) | (apply bd_64; omega) | (apply bd_128; decide) | (apply bd_128; omega))); done)); (focus decide))) | decide | (show (_ : Int) ≠ 0; omega))))); (conv => whnf))))
      refine ⟨_, rfl, ?_⟩
      rw [show (List.replicate (zipD (y.map D.int) (ksD ks)).length true).all id = true from List.all_eq_true.mpr fun x hx => (List.mem_replicate.mp hx).2]
      (((conv => whnf); repeat ((first | with_reducible refine ret_of ?_ | with_reducible refine ix_of at0 ?_ | with_reducible refine ix_of at1 ?_ | with_reducible refine ix_of at2 ?_ | with_reducible refine ix_of at3 ?_ | ((with_reducible apply isi_of); focus rfl) | refine pF ?_ | refine pT ?_ | ((with_reducible refine And.intro (len_le ?_) ?_); (focus (simp; done))) | ((with_reducible refine And.intro ?_ ?_); (focus (first | ((apply mul_b; (focus ((repeat' (first | assumption | apply bd_add | apply bd_sub | apply bd_mul | apply bd_neg | (apply bd_64; decide) | (apply bd_64; omega) | (apply bd_128; decide) | (apply bd_128; omega))); done)); (focus ((repeat' (first | assumption | apply bd_add | apply bd_sub | apply bd_mul | apply bd_neg | (apply bd_64; decide) | (apply bd_64; omega) | (apply bd_128; decide) | (apply bd_128; omega))); done)); (focus decide))) | ((apply div_b; (focus (first | decide | omega)); (focus ((repeat' (first | assumption | apply bd_add | apply bd_sub | apply bd_mul | apply bd_neg | (apply bd_64; decide) | (apply bd_64; omega) | (apply bd_128; decide) | (apply bd_128; omega))); done)); (focus decide))) | decide | (show (_ : Int) ≠ 0; omega))))); (conv => whnf))))
      exact q
theorem is_cnt_ok (hP : P 7 = some fn_is_whole ∧ P 8 = some fn_is_count) {t w : Int} (w0 : 0 ≤ w) (wt : w ≤ t) (q : Q (.bl true) h) : wpCall P (k + 2) 8 [.tup [.int t, .int w]] h X Q := by
  obtain ⟨h7, h8⟩ := hP
  refine call_of h8 rfl ?_
  (((conv => whnf); repeat ((first | refine cut_in ?_ | (first | with_reducible refine ret_of ?_ | with_reducible refine ix_of at0 ?_ | with_reducible refine ix_of at1 ?_ | with_reducible refine ix_of at2 ?_ | with_reducible refine ix_of at3 ?_ | ((with_reducible apply isi_of); focus rfl) | refine pF ?_ | refine pT ?_ | ((with_reducible refine And.intro (len_le ?_) ?_); (focus (simp; done))) | ((with_reducible refine And.intro ?_ ?_); (focus (first | ((apply mul_b; (focus ((repeat' (first | assumption | apply bd_add | apply bd_sub | apply bd_mul | apply bd_neg | (apply bd_64; decide) | (apply bd_64; omega) | (apply bd_128; decide) | (apply bd_128; omega))); done)); (focus ((repeat' (first | assumption | apply bd_add | apply bd_sub | apply bd_mul | apply bd_neg | (apply bd_64; decide) | (apply bd_64; omega) | (apply bd_128; decide) | (apply bd_128; omega))); done)); (focus decide))) | ((apply div_b; (focus (first | decide | omega)); (focus ((repeat' (first | assumption | apply bd_add | apply bd_sub | apply bd_mul | apply bd_neg | (apply bd_64; decide) | (apply bd_64; omega) | (apply bd_128; decide) | (apply bd_128; omega))); done)); (focus decide))) | decide | (show (_ : Int) ≠ 0; omega)))))); (conv => whnf))))
  refine call_of h7 rfl ?_
  (((conv => whnf); repeat ((first | refine cut_in ?_ | (first | with_reducible refine ret_of ?_ | with_reducible refine ix_of at0 ?_ | with_reducible refine ix_of at1 ?_ | with_reducible refine ix_of at2 ?_ | with_reducible refine ix_of at3 ?_ | ((with_reducible apply isi_of); focus rfl) | refine pF ?_ | refine pT ?_ | ((with_reducible refine And.intro (len_le ?_) ?_); (focus (simp; done))) | ((with_reducible refine And.intro ?_ ?_); (focus (first | ((apply mul_b; (focus ((repeat' (first | assumption | apply bd_add | apply bd_sub | apply bd_mul | apply bd_neg | (apply bd_64; decide) | (apply bd_64; omega) | (apply bd_128; decide) | (apply bd_128; omega))); done)); (focus ((repeat' (first | assumption | apply bd_add | apply bd_sub | apply bd_mul | apply bd_neg | (apply bd_64; decide) | (apply bd_64; omega) | (apply bd_128; decide) | (apply bd_128; omega))); done)); (focus decide))) | ((apply div_b; (focus (first | decide | omega)); (focus ((repeat' (first | assumption | apply bd_add | apply bd_sub | apply bd_mul | apply bd_neg | (apply bd_64; decide) | (apply bd_64; omega) | (apply bd_128; decide) | (apply bd_128; omega))); done)); (focus decide))) | decide | (show (_ : Int) ≠ 0; omega)))))); (conv => whnf))))
  refine call_of h7 rfl ?_
  (((conv => whnf); repeat ((first | refine cut_in ?_ | (first | with_reducible refine ret_of ?_ | with_reducible refine ix_of at0 ?_ | with_reducible refine ix_of at1 ?_ | with_reducible refine ix_of at2 ?_ | with_reducible refine ix_of at3 ?_ | ((with_reducible apply isi_of); focus rfl) | refine pF ?_ | refine pT ?_ | ((with_reducible refine And.intro (len_le ?_) ?_); (focus (simp; done))) | ((with_reducible refine And.intro ?_ ?_); (focus (first | ((apply mul_b; (focus ((repeat' (first | assumption | apply bd_add | apply bd_sub | apply bd_mul | apply bd_neg | (apply bd_64; decide) | (apply bd_64; omega) | (apply bd_128; decide) | (apply bd_128; omega))); done)); (focus ((repeat' (first | assumption | apply bd_add | apply bd_sub | apply bd_mul | apply bd_neg | (apply bd_64; decide) | (apply bd_64; omega) | (apply bd_128; decide) | (apply bd_128; omega))); done)); (focus decide))) | ((apply div_b; (focus (first | decide | omega)); (focus ((repeat' (first | assumption | apply bd_add | apply bd_sub | apply bd_mul | apply bd_neg | (apply bd_64; decide) | (apply bd_64; omega) | (apply bd_128; decide) | (apply bd_128; omega))); done)); (focus decide))) | decide | (show (_ : Int) ≠ 0; omega)))))); (conv => whnf))))
  rw [decide_eq_true w0]
  (((conv => whnf); repeat ((first | refine cut_in ?_ | (first | with_reducible refine ret_of ?_ | with_reducible refine ix_of at0 ?_ | with_reducible refine ix_of at1 ?_ | with_reducible refine ix_of at2 ?_ | with_reducible refine ix_of at3 ?_ | ((with_reducible apply isi_of); focus rfl) | refine pF ?_ | refine pT ?_ | ((with_reducible refine And.intro (len_le ?_) ?_); (focus (simp; done))) | ((with_reducible refine And.intro ?_ ?_); (focus (first | ((apply mul_b; (focus ((repeat' (first | assumption | apply bd_add | apply bd_sub | apply bd_mul | apply bd_neg | (apply bd_64; decide) | (apply bd_64; omega) | (apply bd_128; decide) | (apply bd_128; omega))); done)); (focus ((repeat' (first | assumption | apply bd_add | apply bd_sub | apply bd_mul | apply bd_neg | (apply bd_64; decide) | (apply bd_64; omega) | (apply bd_128; decide) | (apply bd_128; omega))); done)); (focus decide))) | ((apply div_b; (focus (first | decide | omega)); (focus ((repeat' (first | assumption | apply bd_add | apply bd_sub | apply bd_mul | apply bd_neg | (apply bd_64; decide) | (apply bd_64; omega) | (apply bd_128; decide) | (apply bd_128; omega))); done)); (focus decide))) | decide | (show (_ : Int) ≠ 0; omega)))))); (conv => whnf))))
  rw [decide_eq_true wt]
  exact q
theorem is_row_ok (hP : P 7 = some fn_is_whole ∧ P 8 = some fn_is_count ∧ P 13 = some fn_is_below ∧ P 15 = some fn_are_kinds ∧ P 16 = some fn_is_row) {m : Nat} {d : D} {ks : List Nat} (s : SeqAt h d (ksD ks)) (k5 : ks.length ≤ 5) {r : Rw} (ro : RwOk m ks r) (q : Q (.bl true) h) : wpCall P (k + 4) 16 [.int (m : Int), d, rwT r] h X Q := by
  obtain ⟨h7, h8, h13, h15, h16⟩ := hP
  refine call_of h16 rfl ?_
  unfold rwT
  (((conv => whnf); repeat ((first | refine cut_in ?_ | (first | with_reducible refine ret_of ?_ | with_reducible refine ix_of at0 ?_ | with_reducible refine ix_of at1 ?_ | with_reducible refine ix_of at2 ?_ | with_reducible refine ix_of at3 ?_ | ((with_reducible apply isi_of); focus rfl) | refine pF ?_ | refine pT ?_ | ((with_reducible refine And.intro (len_le ?_) ?_); (focus (simp; done))) | ((with_reducible refine And.intro ?_ ?_); (focus (first | ((apply mul_b; (focus ((repeat' (first | assumption | apply bd_add | apply bd_sub | apply bd_mul | apply bd_neg | (apply bd_64; decide) | (apply bd_64; omega) | (apply bd_128; decide) | (apply bd_128; omega))); done)); (focus ((repeat' (first | assumption | apply bd_add | apply bd_sub | apply bd_mul | apply bd_neg | (apply bd_64; decide) | (apply bd_64; omega) | (apply bd_128; decide) | (apply bd_128; omega))); done)); (focus decide))) | ((apply div_b; (focus (first | decide | omega)); (focus ((repeat' (first | assumption | apply bd_add | apply bd_sub | apply bd_mul | apply bd_neg | (apply bd_64; decide) | (apply bd_64; omega) | (apply bd_128; decide) | (apply bd_128; omega))); done)); (focus decide))) | decide | (show (_ : Int) ≠ 0; omega)))))); (conv => whnf))))
  refine below_yes h7 h13 ro.hs ?_
  (((conv => whnf); repeat ((first | refine cut_in ?_ | (first | with_reducible refine ret_of ?_ | with_reducible refine ix_of at0 ?_ | with_reducible refine ix_of at1 ?_ | with_reducible refine ix_of at2 ?_ | with_reducible refine ix_of at3 ?_ | ((with_reducible apply isi_of); focus rfl) | refine pF ?_ | refine pT ?_ | ((with_reducible refine And.intro (len_le ?_) ?_); (focus (simp; done))) | ((with_reducible refine And.intro ?_ ?_); (focus (first | ((apply mul_b; (focus ((repeat' (first | assumption | apply bd_add | apply bd_sub | apply bd_mul | apply bd_neg | (apply bd_64; decide) | (apply bd_64; omega) | (apply bd_128; decide) | (apply bd_128; omega))); done)); (focus ((repeat' (first | assumption | apply bd_add | apply bd_sub | apply bd_mul | apply bd_neg | (apply bd_64; decide) | (apply bd_64; omega) | (apply bd_128; decide) | (apply bd_128; omega))); done)); (focus decide))) | ((apply div_b; (focus (first | decide | omega)); (focus ((repeat' (first | assumption | apply bd_add | apply bd_sub | apply bd_mul | apply bd_neg | (apply bd_64; decide) | (apply bd_64; omega) | (apply bd_128; decide) | (apply bd_128; omega))); done)); (focus decide))) | decide | (show (_ : Int) ≠ 0; omega)))))); (conv => whnf))))
  refine are_kinds_ok ⟨h7, h13, h15⟩ s k5 ro.kd ?_
  (((conv => whnf); repeat ((first | refine cut_in ?_ | (first | with_reducible refine ret_of ?_ | with_reducible refine ix_of at0 ?_ | with_reducible refine ix_of at1 ?_ | with_reducible refine ix_of at2 ?_ | with_reducible refine ix_of at3 ?_ | ((with_reducible apply isi_of); focus rfl) | refine pF ?_ | refine pT ?_ | ((with_reducible refine And.intro (len_le ?_) ?_); (focus (simp; done))) | ((with_reducible refine And.intro ?_ ?_); (focus (first | ((apply mul_b; (focus ((repeat' (first | assumption | apply bd_add | apply bd_sub | apply bd_mul | apply bd_neg | (apply bd_64; decide) | (apply bd_64; omega) | (apply bd_128; decide) | (apply bd_128; omega))); done)); (focus ((repeat' (first | assumption | apply bd_add | apply bd_sub | apply bd_mul | apply bd_neg | (apply bd_64; decide) | (apply bd_64; omega) | (apply bd_128; decide) | (apply bd_128; omega))); done)); (focus decide))) | ((apply div_b; (focus (first | decide | omega)); (focus ((repeat' (first | assumption | apply bd_add | apply bd_sub | apply bd_mul | apply bd_neg | (apply bd_64; decide) | (apply bd_64; omega) | (apply bd_128; decide) | (apply bd_128; omega))); done)); (focus decide))) | decide | (show (_ : Int) ≠ 0; omega)))))); (conv => whnf))))
  refine is_cnt_ok ⟨h7, h8⟩ ro.w0 ro.wt ?_
  (((conv => whnf); repeat ((first | refine cut_in ?_ | (first | with_reducible refine ret_of ?_ | with_reducible refine ix_of at0 ?_ | with_reducible refine ix_of at1 ?_ | with_reducible refine ix_of at2 ?_ | with_reducible refine ix_of at3 ?_ | ((with_reducible apply isi_of); focus rfl) | refine pF ?_ | refine pT ?_ | ((with_reducible refine And.intro (len_le ?_) ?_); (focus (simp; done))) | ((with_reducible refine And.intro ?_ ?_); (focus (first | ((apply mul_b; (focus ((repeat' (first | assumption | apply bd_add | apply bd_sub | apply bd_mul | apply bd_neg | (apply bd_64; decide) | (apply bd_64; omega) | (apply bd_128; decide) | (apply bd_128; omega))); done)); (focus ((repeat' (first | assumption | apply bd_add | apply bd_sub | apply bd_mul | apply bd_neg | (apply bd_64; decide) | (apply bd_64; omega) | (apply bd_128; decide) | (apply bd_128; omega))); done)); (focus decide))) | ((apply div_b; (focus (first | decide | omega)); (focus ((repeat' (first | assumption | apply bd_add | apply bd_sub | apply bd_mul | apply bd_neg | (apply bd_64; decide) | (apply bd_64; omega) | (apply bd_128; decide) | (apply bd_128; omega))); done)); (focus decide))) | decide | (show (_ : Int) ≠ 0; omega)))))); (conv => whnf))))
  rw [decide_eq_true (show r.2.2.1 ≤ 1000000000000 from ro.mx)]
  exact q
theorem put_to_ok (hP : P 9 = some fn_together ∧ P 1455 = some fn_put_to_1455) {h0 : AH} {d : Addr} {kvs : List (List Int × D)} {m : Nat} {R : List Rw} (m6 : m ≤ 6) (dv : DV h0 h d kvs fun y => (cntsR m R y).map ct) (kl : kvs.length ≤ R.length) (rl : R.length ≤ 60) (km : ∀ y, y ∈ kvs.map (·.1) ↔ y ∈ R.map (·.2.1)) {r : Rw} (hr : r.1 < m)
    (q : ∀ kvs' h', DV h0 h' d kvs' (fun y => (cntsR m (R ++ [r]) y).map ct) → kvs'.length ≤ (R ++ [r]).length → (∀ y, y ∈ kvs'.map (·.1) ↔ y ∈ (R ++ [r]).map (·.2.1)) → Q .non h') : wpCall P (k + 2) 1455 [.ref d, .int (m : Int), keyD r.2.1, .int (r.1 : Int), .tup [.int r.2.2.1, .int r.2.2.2]] h X Q := by
  obtain ⟨h9, h55⟩ := hP
  have km2 : ∀ y, y ∈ (R ++ [r]).map (·.2.1) ↔ y ∈ R.map (·.2.1) ∨ y = r.2.1 := fun y => by
    rw [List.map_append, List.mem_append]
    show _ ∨ y ∈ [r.2.1] ↔ _
    rw [List.mem_singleton]
  have fs : ∀ y, (if y = r.2.1 then ((cntsR m (R ++ [r]) r.2.1).map ct) else (cntsR m R y).map ct) = (cntsR m (R ++ [r]) y).map ct := fun y => by
    by_cases e : y = r.2.1
    · rw [if_pos e, e]
    · rw [if_neg e, cntsR_ne R r fun z => e z.symm]
  have cl : (cntsR m R r.2.1).length = m := by unfold cntsR; rw [List.length_map, List.length_range]
  have cc : atI ((cntsR m R r.2.1).map ct) (r.1 : Int) = some (ct (cntR R r.2.1 r.1)) := by
    have := at_row (r := cntsR m R r.2.1) (m := m) cl hr
    rwa [cell_cnts R r.2.1 hr] at this
  refine call_of h55 rfl ?_
  conv => whnf
  refine cutM (mon_call _) (fun v h' => ∃ kvs', v = [some (.ref d), some (.int (m : Int)), some (keyD r.2.1), some (.int (r.1 : Int)), some (.tup [.int r.2.2.1, .int r.2.2.2])] ∧ DV h0 h' d kvs' (fun y => (cntsR m R y).map ct) ∧ kvs'.length ≤ R.length + 1 ∧ ∀ y, y ∈ kvs'.map (·.1) ↔ y ∈ R.map (·.2.1) ∨ y = r.2.1) ?_ ?_
  · (((conv => whnf); repeat ((first | refine cut_in ?_ | (first | with_reducible refine ret_of ?_ | with_reducible refine ix_of at0 ?_ | with_reducible refine ix_of at1 ?_ | with_reducible refine ix_of at2 ?_ | with_reducible refine ix_of at3 ?_ | ((with_reducible apply isi_of); focus rfl) | refine pF ?_ | refine pT ?_ | ((with_reducible refine And.intro (len_le ?_) ?_); (focus (simp; done))) | ((with_reducible refine And.intro ?_ ?_); (focus (first | ((apply mul_b; (focus ((repeat' (first | assumption | apply bd_add | apply bd_sub | apply bd_mul | apply bd_neg | (apply bd_64; decide) | (apply bd_64; omega) | (apply bd_128; decide) | (apply bd_128; omega))); done)); (focus ((repeat' (first | assumption | apply bd_add | apply bd_sub | apply bd_mul | apply bd_neg | (apply bd_64; decide) | (apply bd_64; omega) | (apply bd_128; decide) | (apply bd_128; omega))); done)); (focus decide))) | ((apply div_b; (focus (first | decide | omega)); (focus ((repeat' (first | assumption | apply bd_add | apply bd_sub | apply bd_mul | apply bd_neg | (apply bd_64; decide) | (apply bd_64; omega) | (apply bd_128; decide) | (apply bd_128; omega))); done)); (focus decide))) | decide | (show (_ : Int) ≠ 0; omega)))))); (conv => whnf))))
    refine ⟨kvs, r.2.1, dv.e, rfl, ?_⟩
    by_cases hy : r.2.1 ∈ kvs.map (·.1)
    · obtain ⟨p, e1, _⟩ := dv.val _ hy
      rw [e1]
      (((conv => whnf); repeat ((first | with_reducible refine ret_of ?_ | with_reducible refine ix_of at0 ?_ | with_reducible refine ix_of at1 ?_ | with_reducible refine ix_of at2 ?_ | with_reducible refine ix_of at3 ?_ | ((with_reducible apply isi_of); focus rfl) | refine pF ?_ | refine pT ?_ | ((with_reducible refine And.intro (len_le ?_) ?_); (focus (simp; done))) | ((with_reducible refine And.intro ?_ ?_); (focus (first | ((apply mul_b; (focus ((repeat' (first | assumption | apply bd_add | apply bd_sub | apply bd_mul | apply bd_neg | (apply bd_64; decide) | (apply bd_64; omega) | (apply bd_128; decide) | (apply bd_128; omega))); done)); (focus ((repeat' (first | assumption | apply bd_add | apply bd_sub | apply bd_mul | apply bd_neg | (apply bd_64; decide) | (apply bd_64; omega) | (apply bd_128; decide) | (apply bd_128; omega))); done)); (focus decide))) | ((apply div_b; (focus (first | decide | omega)); (focus ((repeat' (first | assumption | apply bd_add | apply bd_sub | apply bd_mul | apply bd_neg | (apply bd_64; decide) | (apply bd_64; omega) | (apply bd_128; decide) | (apply bd_128; omega))); done)); (focus decide))) | decide | (show (_ : Int) ≠ 0; omega))))); (conv => whnf))))
      refine ⟨kvs, rfl, dv, by omega, fun y => ?_⟩
      rw [km]
      exact ⟨.inl, fun z => z.elim id fun e => e ▸ (km _).mp hy⟩
    · rw [lookD_none.mpr hy]
      (((conv => whnf); repeat ((first | with_reducible refine ret_of ?_ | with_reducible refine ix_of at0 ?_ | with_reducible refine ix_of at1 ?_ | with_reducible refine ix_of at2 ?_ | with_reducible refine ix_of at3 ?_ | ((with_reducible apply isi_of); focus rfl) | refine pF ?_ | refine pT ?_ | ((with_reducible refine And.intro (len_le ?_) ?_); (focus (simp; done))) | ((with_reducible refine And.intro ?_ ?_); (focus (first | ((apply mul_b; (focus ((repeat' (first | assumption | apply bd_add | apply bd_sub | apply bd_mul | apply bd_neg | (apply bd_64; decide) | (apply bd_64; omega) | (apply bd_128; decide) | (apply bd_128; omega))); done)); (focus ((repeat' (first | assumption | apply bd_add | apply bd_sub | apply bd_mul | apply bd_neg | (apply bd_64; decide) | (apply bd_64; omega) | (apply bd_128; decide) | (apply bd_128; omega))); done)); (focus decide))) | ((apply div_b; (focus (first | decide | omega)); (focus ((repeat' (first | assumption | apply bd_add | apply bd_sub | apply bd_mul | apply bd_neg | (apply bd_64; decide) | (apply bd_64; omega) | (apply bd_128; decide) | (apply bd_128; omega))); done)); (focus decide))) | decide | (show (_ : Int) ≠ 0; omega))))); (conv => whnf))))
      rw [Int.toNat_natCast]
      refine ⟨⟨by omega, by omega, len_le (by show 1 * m ≤ 1000; omega)⟩, ?_⟩
      intro p hp
      have hd : d ≠ p := fun z => by rw [← z, dv.e] at hp; cases hp
      have e0 : (List.replicate m [D.tup [.int 0, .int 0]]).flatten = (cntsR m R r.2.1).map ct := by
        rw [cntsR_none (fun z => hy ((km _).mpr z)), List.map_replicate]
        show _ = List.replicate m (D.tup [.int 0, .int 0])
        generalize m = c
        induction c with
        | zero => rfl
        | succ c ih => rw [List.replicate_succ, List.flatten_cons, ih, List.replicate_succ]; rfl
      rw [e0]
      have dv2 := dv.add hy hp ((cntsR m R r.2.1).map ct)
      have ff : (fun z => if z = r.2.1 then (cntsR m R r.2.1).map ct else (cntsR m R z).map ct) = fun y => (cntsR m R y).map ct := by
        funext z
        by_cases e : z = r.2.1
        · rw [if_pos e, e]
        · rw [if_neg e]
      rw [ff] at dv2
      (((conv => whnf); repeat ((first | with_reducible refine ret_of ?_ | with_reducible refine ix_of at0 ?_ | with_reducible refine ix_of at1 ?_ | with_reducible refine ix_of at2 ?_ | with_reducible refine ix_of at3 ?_ | ((with_reducible apply isi_of); focus rfl) | refine pF ?_ | refine pT ?_ | ((with_reducible refine And.intro (len_le ?_) ?_); (focus (simp; done))) | ((with_reducible refine And.intro ?_ ?_); (focus (first | ((apply mul_b; (focus ((repeat' (first | assumption | apply bd_add | apply bd_sub | apply bd_mul | apply bd_neg | (apply bd_64; decide) | (apply bd_64; omega) | (apply bd_128; decide) | (apply bd_128; omega))); done)); (focus ((repeat' (first | assumption | apply bd_add | apply bd_sub | apply bd_mul | apply bd_neg | (apply bd_64; decide) | (apply bd_64; omega) | (apply bd_128; decide) | (apply bd_128; omega))); done)); (focus decide))) | ((apply div_b; (focus (first | decide | omega)); (focus ((repeat' (first | assumption | apply bd_add | apply bd_sub | apply bd_mul | apply bd_neg | (apply bd_64; decide) | (apply bd_64; omega) | (apply bd_128; decide) | (apply bd_128; omega))); done)); (focus decide))) | decide | (show (_ : Int) ≠ 0; omega))))); (conv => whnf))))
      refine ⟨kvs, r.2.1, by rw [put_ne hd]; exact dv.e, rfl, lt_line (by omega), ?_⟩
      (((conv => whnf); repeat ((first | with_reducible refine ret_of ?_ | with_reducible refine ix_of at0 ?_ | with_reducible refine ix_of at1 ?_ | with_reducible refine ix_of at2 ?_ | with_reducible refine ix_of at3 ?_ | ((with_reducible apply isi_of); focus rfl) | refine pF ?_ | refine pT ?_ | ((with_reducible refine And.intro (len_le ?_) ?_); (focus (simp; done))) | ((with_reducible refine And.intro ?_ ?_); (focus (first | ((apply mul_b; (focus ((repeat' (first | assumption | apply bd_add | apply bd_sub | apply bd_mul | apply bd_neg | (apply bd_64; decide) | (apply bd_64; omega) | (apply bd_128; decide) | (apply bd_128; omega))); done)); (focus ((repeat' (first | assumption | apply bd_add | apply bd_sub | apply bd_mul | apply bd_neg | (apply bd_64; decide) | (apply bd_64; omega) | (apply bd_128; decide) | (apply bd_128; omega))); done)); (focus decide))) | ((apply div_b; (focus (first | decide | omega)); (focus ((repeat' (first | assumption | apply bd_add | apply bd_sub | apply bd_mul | apply bd_neg | (apply bd_64; decide) | (apply bd_64; omega) | (apply bd_128; decide) | (apply bd_128; omega))); done)); (focus decide))) | decide | (show (_ : Int) ≠ 0; omega))))); (conv => whnf))))
      exact ⟨_, rfl, dv2, Nat.le_trans (len_put _ _ _) (by omega), fun y => by rw [mem_put, km]⟩
  · rintro v h' ⟨kvs', rfl, dv, kl', km'⟩
    obtain ⟨p, e1, e2, e3, e4⟩ := dv.val r.2.1 ((km' _).mpr (.inr rfl))
    (((conv => whnf); repeat ((first | with_reducible refine ret_of ?_ | with_reducible refine ix_of at0 ?_ | with_reducible refine ix_of at1 ?_ | with_reducible refine ix_of at2 ?_ | with_reducible refine ix_of at3 ?_ | ((with_reducible apply isi_of); focus rfl) | refine pF ?_ | refine pT ?_ | ((with_reducible refine And.intro (len_le ?_) ?_); (focus (simp; done))) | ((with_reducible refine And.intro ?_ ?_); (focus (first | ((apply mul_b; (focus ((repeat' (first | assumption | apply bd_add | apply bd_sub | apply bd_mul | apply bd_neg | (apply bd_64; decide) | (apply bd_64; omega) | (apply bd_128; decide) | (apply bd_128; omega))); done)); (focus ((repeat' (first | assumption | apply bd_add | apply bd_sub | apply bd_mul | apply bd_neg | (apply bd_64; decide) | (apply bd_64; omega) | (apply bd_128; decide) | (apply bd_128; omega))); done)); (focus decide))) | ((apply div_b; (focus (first | decide | omega)); (focus ((repeat' (first | assumption | apply bd_add | apply bd_sub | apply bd_mul | apply bd_neg | (apply bd_64; decide) | (apply bd_64; omega) | (apply bd_128; decide) | (apply bd_128; omega))); done)); (focus decide))) | decide | (show (_ : Int) ≠ 0; omega))))); (conv => whnf))))
    refine ⟨kvs', r.2.1, dv.e, rfl, _, e1, ?_⟩
    (((conv => whnf); repeat ((first | with_reducible refine ret_of ?_ | with_reducible refine ix_of at0 ?_ | with_reducible refine ix_of at1 ?_ | with_reducible refine ix_of at2 ?_ | with_reducible refine ix_of at3 ?_ | ((with_reducible apply isi_of); focus rfl) | refine pF ?_ | refine pT ?_ | ((with_reducible refine And.intro (len_le ?_) ?_); (focus (simp; done))) | ((with_reducible refine And.intro ?_ ?_); (focus (first | ((apply mul_b; (focus ((repeat' (first | assumption | apply bd_add | apply bd_sub | apply bd_mul | apply bd_neg | (apply bd_64; decide) | (apply bd_64; omega) | (apply bd_128; decide) | (apply bd_128; omega))); done)); (focus ((repeat' (first | assumption | apply bd_add | apply bd_sub | apply bd_mul | apply bd_neg | (apply bd_64; decide) | (apply bd_64; omega) | (apply bd_128; decide) | (apply bd_128; omega))); done)); (focus decide))) | ((apply div_b; (focus (first | decide | omega)); (focus ((repeat' (first | assumption | apply bd_add | apply bd_sub | apply bd_mul | apply bd_neg | (apply bd_64; decide) | (apply bd_64; omega) | (apply bd_128; decide) | (apply bd_128; omega))); done)); (focus decide))) | decide | (show (_ : Int) ≠ 0; omega))))); (conv => whnf))))
    refine ⟨_, e4, ?_⟩
    refine ix_of cc ?_
    (((conv => whnf); repeat ((first | with_reducible refine ret_of ?_ | with_reducible refine ix_of at0 ?_ | with_reducible refine ix_of at1 ?_ | with_reducible refine ix_of at2 ?_ | with_reducible refine ix_of at3 ?_ | ((with_reducible apply isi_of); focus rfl) | refine pF ?_ | refine pT ?_ | ((with_reducible refine And.intro (len_le ?_) ?_); (focus (simp; done))) | ((with_reducible refine And.intro ?_ ?_); (focus (first | ((apply mul_b; (focus ((repeat' (first | assumption | apply bd_add | apply bd_sub | apply bd_mul | apply bd_neg | (apply bd_64; decide) | (apply bd_64; omega) | (apply bd_128; decide) | (apply bd_128; omega))); done)); (focus ((repeat' (first | assumption | apply bd_add | apply bd_sub | apply bd_mul | apply bd_neg | (apply bd_64; decide) | (apply bd_64; omega) | (apply bd_128; decide) | (apply bd_128; omega))); done)); (focus decide))) | ((apply div_b; (focus (first | decide | omega)); (focus ((repeat' (first | assumption | apply bd_add | apply bd_sub | apply bd_mul | apply bd_neg | (apply bd_64; decide) | (apply bd_64; omega) | (apply bd_128; decide) | (apply bd_128; omega))); done)); (focus decide))) | decide | (show (_ : Int) ≠ 0; omega))))); (conv => whnf))))
    refine together_of (l := [cntR R r.2.1 r.1, (r.2.2.1, r.2.2.2)]) h9 (by show 2 ≤ 1000; omega) (.inl rfl) ?_
    (((conv => whnf); repeat ((first | with_reducible refine ret_of ?_ | with_reducible refine ix_of at0 ?_ | with_reducible refine ix_of at1 ?_ | with_reducible refine ix_of at2 ?_ | with_reducible refine ix_of at3 ?_ | ((with_reducible apply isi_of); focus rfl) | refine pF ?_ | refine pT ?_ | ((with_reducible refine And.intro (len_le ?_) ?_); (focus (simp; done))) | ((with_reducible refine And.intro ?_ ?_); (focus (first | ((apply mul_b; (focus ((repeat' (first | assumption | apply bd_add | apply bd_sub | apply bd_mul | apply bd_neg | (apply bd_64; decide) | (apply bd_64; omega) | (apply bd_128; decide) | (apply bd_128; omega))); done)); (focus ((repeat' (first | assumption | apply bd_add | apply bd_sub | apply bd_mul | apply bd_neg | (apply bd_64; decide) | (apply bd_64; omega) | (apply bd_128; decide) | (apply bd_128; omega))); done)); (focus decide))) | ((apply div_b; (focus (first | decide | omega)); (focus ((repeat' (first | assumption | apply bd_add | apply bd_sub | apply bd_mul | apply bd_neg | (apply bd_64; decide) | (apply bd_64; omega) | (apply bd_128; decide) | (apply bd_128; omega))); done)); (focus decide))) | decide | (show (_ : Int) ≠ 0; omega))))); (conv => whnf))))
    refine ⟨kvs', r.2.1, dv.e, rfl, _, e1, ?_⟩
    (((conv => whnf); repeat ((first | with_reducible refine ret_of ?_ | with_reducible refine ix_of at0 ?_ | with_reducible refine ix_of at1 ?_ | with_reducible refine ix_of at2 ?_ | with_reducible refine ix_of at3 ?_ | ((with_reducible apply isi_of); focus rfl) | refine pF ?_ | refine pT ?_ | ((with_reducible refine And.intro (len_le ?_) ?_); (focus (simp; done))) | ((with_reducible refine And.intro ?_ ?_); (focus (first | ((apply mul_b; (focus ((repeat' (first | assumption | apply bd_add | apply bd_sub | apply bd_mul | apply bd_neg | (apply bd_64; decide) | (apply bd_64; omega) | (apply bd_128; decide) | (apply bd_128; omega))); done)); (focus ((repeat' (first | assumption | apply bd_add | apply bd_sub | apply bd_mul | apply bd_neg | (apply bd_64; decide) | (apply bd_64; omega) | (apply bd_128; decide) | (apply bd_128; omega))); done)); (focus decide))) | ((apply div_b; (focus (first | decide | omega)); (focus ((repeat' (first | assumption | apply bd_add | apply bd_sub | apply bd_mul | apply bd_neg | (apply bd_64; decide) | (apply bd_64; omega) | (apply bd_128; decide) | (apply bd_128; omega))); done)); (focus decide))) | decide | (show (_ : Int) ≠ 0; omega))))); (conv => whnf))))
    refine set_at e4 (by rw [List.length_map, cl]; exact hr) ?_
    have dv2 := dv.set e1 e2 e3 (((cntsR m R r.2.1).map ct).set r.1 (ct (([cntR R r.2.1 r.1, (r.2.2.1, r.2.2.2)].map (·.1)).sum, ([cntR R r.2.1 r.1, (r.2.2.1, r.2.2.2)].map (·.2)).sum)))
    have es : ((cntsR m R r.2.1).map ct).set r.1 (ct (([cntR R r.2.1 r.1, (r.2.2.1, r.2.2.2)].map (·.1)).sum, ([cntR R r.2.1 r.1, (r.2.2.1, r.2.2.2)].map (·.2)).sum)) = (cntsR m (R ++ [r]) r.2.1).map ct := by
      rw [cntsR_set R r hr, List.map_set]
      simp
    rw [es] at dv2
    have ff : (fun z => if z = r.2.1 then (cntsR m (R ++ [r]) r.2.1).map ct else (cntsR m R z).map ct) = fun y => (cntsR m (R ++ [r]) y).map ct := funext fs
    rw [ff] at dv2
    (((conv => whnf); repeat ((first | with_reducible refine ret_of ?_ | with_reducible refine ix_of at0 ?_ | with_reducible refine ix_of at1 ?_ | with_reducible refine ix_of at2 ?_ | with_reducible refine ix_of at3 ?_ | ((with_reducible apply isi_of); focus rfl) | refine pF ?_ | refine pT ?_ | ((with_reducible refine And.intro (len_le ?_) ?_); (focus (simp; done))) | ((with_reducible refine And.intro ?_ ?_); (focus (first | ((apply mul_b; (focus ((repeat' (first | assumption | apply bd_add | apply bd_sub | apply bd_mul | apply bd_neg | (apply bd_64; decide) | (apply bd_64; omega) | (apply bd_128; decide) | (apply bd_128; omega))); done)); (focus ((repeat' (first | assumption | apply bd_add | apply bd_sub | apply bd_mul | apply bd_neg | (apply bd_64; decide) | (apply bd_64; omega) | (apply bd_128; decide) | (apply bd_128; omega))); done)); (focus decide))) | ((apply div_b; (focus (first | decide | omega)); (focus ((repeat' (first | assumption | apply bd_add | apply bd_sub | apply bd_mul | apply bd_neg | (apply bd_64; decide) | (apply bd_64; omega) | (apply bd_128; decide) | (apply bd_128; omega))); done)); (focus decide))) | decide | (show (_ : Int) ≠ 0; omega))))); (conv => whnf))))
    rw [es]
    exact q kvs' _ dv2 (by rw [List.length_append]; exact kl') fun y => by rw [km', km2]
theorem book_by_ok (hP : P 9 = some fn_together ∧ P 1428 = some fn_book_by_1428) {h0 : AH} {d s : Addr} {D0 : D} {kvs : List (List Int × D)} {m : Nat} {ks : List Nat} {R : List Rw} {mk : D} (hR : ∀ r ∈ R, RwOk m ks r) (k6 : ∀ k ∈ ks, 1 ≤ k ∧ k ≤ 6) (dv : DV h0 h d kvs fun y => (cntsR m R y).map ct) (rl : R.length ≤ 60) (m6 : m ≤ 6) (k5 : ks.length ≤ 5) (km : ∀ y, y ∈ kvs.map (·.1) ↔ y ∈ R.map (·.2.1)) (sm : SeqAt h mk (ksD ks))
    (q : ∀ h', Sub h h' → Q (bookD m ks (bookC m R)) h') : wpCall P (k + 2) 1428 [.int (m : Int), mk, .ref d] h X Q := by
  obtain ⟨h9, h28⟩ := hP
  have bk : ∀ y ∈ R.map (·.2.1), y.length = ks.length ∧ TS.Bd 8 y := fun y hy => by
    obtain ⟨r, hr, rfl⟩ := List.mem_map.mp hy
    exact ⟨(hR r hr).kd.1, KOk.bd k6 (hR r hr).kd⟩
  refine call_of h28 rfl ?_
  (((conv => whnf); repeat ((first | with_reducible refine ret_of ?_ | with_reducible refine ix_of at0 ?_ | with_reducible refine ix_of at1 ?_ | with_reducible refine ix_of at2 ?_ | with_reducible refine ix_of at3 ?_ | ((with_reducible apply isi_of); focus rfl) | refine pF ?_ | refine pT ?_ | ((with_reducible refine And.intro (len_le ?_) ?_); (focus (simp; done))) | ((with_reducible refine And.intro ?_ ?_); (focus (first | ((apply mul_b; (focus ((repeat' (first | assumption | apply bd_add | apply bd_sub | apply bd_mul | apply bd_neg | (apply bd_64; decide) | (apply bd_64; omega) | (apply bd_128; decide) | (apply bd_128; omega))); done)); (focus ((repeat' (first | assumption | apply bd_add | apply bd_sub | apply bd_mul | apply bd_neg | (apply bd_64; decide) | (apply bd_64; omega) | (apply bd_128; decide) | (apply bd_128; omega))); done)); (focus decide))) | ((apply div_b; (focus (first | decide | omega)); (focus ((repeat' (first | assumption | apply bd_add | apply bd_sub | apply bd_mul | apply bd_neg | (apply bd_64; decide) | (apply bd_64; omega) | (apply bd_128; decide) | (apply bd_128; omega))); done)); (focus decide))) | decide | (show (_ : Int) ≠ 0; omega))))); (conv => whnf))))
  intro f hf
  have df : d ≠ f := fun z => by rw [← z, dv.e] at hf; cases hf
  have ed : put h f (.lst []) d = some (.dct kvs) := by rw [put_ne df]; exact dv.e
  (((conv => whnf); repeat ((first | refine cut_in ?_ | (first | with_reducible refine ret_of ?_ | with_reducible refine ix_of at0 ?_ | with_reducible refine ix_of at1 ?_ | with_reducible refine ix_of at2 ?_ | with_reducible refine ix_of at3 ?_ | ((with_reducible apply isi_of); focus rfl) | refine pF ?_ | refine pT ?_ | ((with_reducible refine And.intro (len_le ?_) ?_); (focus (simp; done))) | ((with_reducible refine And.intro ?_ ?_); (focus (first | ((apply mul_b; (focus ((repeat' (first | assumption | apply bd_add | apply bd_sub | apply bd_mul | apply bd_neg | (apply bd_64; decide) | (apply bd_64; omega) | (apply bd_128; decide) | (apply bd_128; omega))); done)); (focus ((repeat' (first | assumption | apply bd_add | apply bd_sub | apply bd_mul | apply bd_neg | (apply bd_64; decide) | (apply bd_64; omega) | (apply bd_128; decide) | (apply bd_128; omega))); done)); (focus decide))) | ((apply div_b; (focus (first | decide | omega)); (focus ((repeat' (first | assumption | apply bd_add | apply bd_sub | apply bd_mul | apply bd_neg | (apply bd_64; decide) | (apply bd_64; omega) | (apply bd_128; decide) | (apply bd_128; omega))); done)); (focus decide))) | decide | (show (_ : Int) ≠ 0; omega)))))); (conv => whnf))))
  refine dsrt_of ed dv.nd bk km (by rw [List.length_map]; omega) fun ys sk => ?_
  have yl := sk.len
  rw [List.length_map] at yl
  have ey : ksOf (R.map (·.2.1)) = ys := ksOf_eq bk sk
  refine ⟨len_le (by rw [List.length_map]; omega), ?_⟩
  (((conv => whnf); repeat ((first | with_reducible refine ret_of ?_ | with_reducible refine ix_of at0 ?_ | with_reducible refine ix_of at1 ?_ | with_reducible refine ix_of at2 ?_ | with_reducible refine ix_of at3 ?_ | ((with_reducible apply isi_of); focus rfl) | refine pF ?_ | refine pT ?_ | ((with_reducible refine And.intro (len_le ?_) ?_); (focus (simp; done))) | ((with_reducible refine And.intro ?_ ?_); (focus (first | ((apply mul_b; (focus ((repeat' (first | assumption | apply bd_add | apply bd_sub | apply bd_mul | apply bd_neg | (apply bd_64; decide) | (apply bd_64; omega) | (apply bd_128; decide) | (apply bd_128; omega))); done)); (focus ((repeat' (first | assumption | apply bd_add | apply bd_sub | apply bd_mul | apply bd_neg | (apply bd_64; decide) | (apply bd_64; omega) | (apply bd_128; decide) | (apply bd_128; omega))); done)); (focus decide))) | ((apply div_b; (focus (first | decide | omega)); (focus ((repeat' (first | assumption | apply bd_add | apply bd_sub | apply bd_mul | apply bd_neg | (apply bd_64; decide) | (apply bd_64; omega) | (apply bd_128; decide) | (apply bd_128; omega))); done)); (focus decide))) | decide | (show (_ : Int) ≠ 0; omega))))); (conv => whnf))))
  refine forW_map keyD (fun i v h' => ∃ u4, v = [some (.int (m : Int)), some mk, some (.ref d), some (.ref f), u4] ∧ Own h h' f ((((ys.take i).filter fun y => decide (0 < ((cntsR m R y).map (·.1)).sum)).map fun y => (y, cntsR m R y)).map celD)) ?_ ?_ ⟨_, rfl, .new hf⟩
  · rintro i y v h1 nx' hy ⟨u4, rfl, own⟩ hn
    have hi := (List.getElem?_eq_some_iff.mp hy).1
    have hm := (sk.mem y).mp (List.mem_of_getElem? hy)
    obtain ⟨p, e1, e2, e3, e4⟩ := dv.val y ((km y).mpr hm)
    have pf : p ≠ f := fun z => by rw [z, hf] at e4; cases e4
    have ed : h1 d = some (.dct kvs) := by rw [own.2.2 d df]; exact dv.e
    have ep : h1 p = some (.lst ((cntsR m R y).map ct)) := by rw [own.2.2 p pf]; exact e4
    have cl : (cntsR m R y).length = m := by unfold cntsR; rw [List.length_map, List.length_range]
    have fl : ((ys.take i).filter fun y => decide (0 < ((cntsR m R y).map (·.1)).sum)).length ≤ i := Nat.le_trans (List.length_filter_le _ _) (by rw [List.length_take]; omega)
    have fx : (ys.take (i + 1)).filter (fun y => decide (0 < ((cntsR m R y).map (·.1)).sum)) = (ys.take i).filter (fun y => decide (0 < ((cntsR m R y).map (·.1)).sum)) ++ if 0 < ((cntsR m R y).map (·.1)).sum then [y] else [] := by
      rw [List.take_succ, hy, List.filter_append]
      congr 1
      show List.filter _ [y] = _
      rw [List.filter_cons, List.filter_nil]
      by_cases e : 0 < ((cntsR m R y).map (·.1)).sum
      · rw [if_pos e, if_pos (decide_eq_true e)]
      · rw [if_neg e, if_neg (by simpa using e)]
    (((conv => whnf); repeat ((first | with_reducible refine ret_of ?_ | with_reducible refine ix_of at0 ?_ | with_reducible refine ix_of at1 ?_ | with_reducible refine ix_of at2 ?_ | with_reducible refine ix_of at3 ?_ | ((with_reducible apply isi_of); focus rfl) | refine pF ?_ | refine pT ?_ | ((with_reducible refine And.intro (len_le ?_) ?_); (focus (simp; done))) | ((with_reducible refine And.intro ?_ ?_); (focus (first | ((apply mul_b; (focus ((repeat' (first | assumption | apply bd_add | apply bd_sub | apply bd_mul | apply bd_neg | (apply bd_64; decide) | (apply bd_64; omega) | (apply bd_128; decide) | (apply bd_128; omega))); done)); (focus ((repeat' (first | assumption | apply bd_add | apply bd_sub | apply bd_mul | apply bd_neg | (apply bd_64; decide) | (apply bd_64; omega) | (apply bd_128; decide) | (apply bd_128; omega))); done)); (focus decide))) | ((apply div_b; (focus (first | decide | omega)); (focus ((repeat' (first | assumption | apply bd_add | apply bd_sub | apply bd_mul | apply bd_neg | (apply bd_64; decide) | (apply bd_64; omega) | (apply bd_128; decide) | (apply bd_128; omega))); done)); (focus decide))) | decide | (show (_ : Int) ≠ 0; omega))))); (conv => whnf))))
    refine ⟨kvs, y, ed, rfl, _, e1, ?_⟩
    (((conv => whnf); repeat ((first | with_reducible refine ret_of ?_ | with_reducible refine ix_of at0 ?_ | with_reducible refine ix_of at1 ?_ | with_reducible refine ix_of at2 ?_ | with_reducible refine ix_of at3 ?_ | ((with_reducible apply isi_of); focus rfl) | refine pF ?_ | refine pT ?_ | ((with_reducible refine And.intro (len_le ?_) ?_); (focus (simp; done))) | ((with_reducible refine And.intro ?_ ?_); (focus (first | ((apply mul_b; (focus ((repeat' (first | assumption | apply bd_add | apply bd_sub | apply bd_mul | apply bd_neg | (apply bd_64; decide) | (apply bd_64; omega) | (apply bd_128; decide) | (apply bd_128; omega))); done)); (focus ((repeat' (first | assumption | apply bd_add | apply bd_sub | apply bd_mul | apply bd_neg | (apply bd_64; decide) | (apply bd_64; omega) | (apply bd_128; decide) | (apply bd_128; omega))); done)); (focus decide))) | ((apply div_b; (focus (first | decide | omega)); (focus ((repeat' (first | assumption | apply bd_add | apply bd_sub | apply bd_mul | apply bd_neg | (apply bd_64; decide) | (apply bd_64; omega) | (apply bd_128; decide) | (apply bd_128; omega))); done)); (focus decide))) | decide | (show (_ : Int) ≠ 0; omega))))); (conv => whnf))))
    refine together_ref h9 ep (by omega) ?_
    (((conv => whnf); repeat ((first | with_reducible refine ret_of ?_ | with_reducible refine ix_of at0 ?_ | with_reducible refine ix_of at1 ?_ | with_reducible refine ix_of at2 ?_ | with_reducible refine ix_of at3 ?_ | ((with_reducible apply isi_of); focus rfl) | refine pF ?_ | refine pT ?_ | ((with_reducible refine And.intro (len_le ?_) ?_); (focus (simp; done))) | ((with_reducible refine And.intro ?_ ?_); (focus (first | ((apply mul_b; (focus ((repeat' (first | assumption | apply bd_add | apply bd_sub | apply bd_mul | apply bd_neg | (apply bd_64; decide) | (apply bd_64; omega) | (apply bd_128; decide) | (apply bd_128; omega))); done)); (focus ((repeat' (first | assumption | apply bd_add | apply bd_sub | apply bd_mul | apply bd_neg | (apply bd_64; decide) | (apply bd_64; omega) | (apply bd_128; decide) | (apply bd_128; omega))); done)); (focus decide))) | ((apply div_b; (focus (first | decide | omega)); (focus ((repeat' (first | assumption | apply bd_add | apply bd_sub | apply bd_mul | apply bd_neg | (apply bd_64; decide) | (apply bd_64; omega) | (apply bd_128; decide) | (apply bd_128; omega))); done)); (focus decide))) | decide | (show (_ : Int) ≠ 0; omega))))); (conv => whnf))))
    refine ⟨fun e => ?_, fun e => ?_⟩
    · have e := of_decide_eq_true e
      rw [if_pos e] at fx
      (((conv => whnf); repeat ((first | with_reducible refine ret_of ?_ | with_reducible refine ix_of at0 ?_ | with_reducible refine ix_of at1 ?_ | with_reducible refine ix_of at2 ?_ | with_reducible refine ix_of at3 ?_ | ((with_reducible apply isi_of); focus rfl) | refine pF ?_ | refine pT ?_ | ((with_reducible refine And.intro (len_le ?_) ?_); (focus (simp; done))) | ((with_reducible refine And.intro ?_ ?_); (focus (first | ((apply mul_b; (focus ((repeat' (first | assumption | apply bd_add | apply bd_sub | apply bd_mul | apply bd_neg | (apply bd_64; decide) | (apply bd_64; omega) | (apply bd_128; decide) | (apply bd_128; omega))); done)); (focus ((repeat' (first | assumption | apply bd_add | apply bd_sub | apply bd_mul | apply bd_neg | (apply bd_64; decide) | (apply bd_64; omega) | (apply bd_128; decide) | (apply bd_128; omega))); done)); (focus decide))) | ((apply div_b; (focus (first | decide | omega)); (focus ((repeat' (first | assumption | apply bd_add | apply bd_sub | apply bd_mul | apply bd_neg | (apply bd_64; decide) | (apply bd_64; omega) | (apply bd_128; decide) | (apply bd_128; omega))); done)); (focus decide))) | decide | (show (_ : Int) ≠ 0; omega))))); (conv => whnf))))
      refine ⟨⟨_, own.2.1⟩, ?_⟩
      (((conv => whnf); repeat ((first | with_reducible refine ret_of ?_ | with_reducible refine ix_of at0 ?_ | with_reducible refine ix_of at1 ?_ | with_reducible refine ix_of at2 ?_ | with_reducible refine ix_of at3 ?_ | ((with_reducible apply isi_of); focus rfl) | refine pF ?_ | refine pT ?_ | ((with_reducible refine And.intro (len_le ?_) ?_); (focus (simp; done))) | ((with_reducible refine And.intro ?_ ?_); (focus (first | ((apply mul_b; (focus ((repeat' (first | assumption | apply bd_add | apply bd_sub | apply bd_mul | apply bd_neg | (apply bd_64; decide) | (apply bd_64; omega) | (apply bd_128; decide) | (apply bd_128; omega))); done)); (focus ((repeat' (first | assumption | apply bd_add | apply bd_sub | apply bd_mul | apply bd_neg | (apply bd_64; decide) | (apply bd_64; omega) | (apply bd_128; decide) | (apply bd_128; omega))); done)); (focus decide))) | ((apply div_b; (focus (first | decide | omega)); (focus ((repeat' (first | assumption | apply bd_add | apply bd_sub | apply bd_mul | apply bd_neg | (apply bd_64; decide) | (apply bd_64; omega) | (apply bd_128; decide) | (apply bd_128; omega))); done)); (focus decide))) | decide | (show (_ : Int) ≠ 0; omega))))); (conv => whnf))))
      refine ⟨kvs, y, ed, rfl, _, e1, ?_⟩
      (((conv => whnf); repeat ((first | with_reducible refine ret_of ?_ | with_reducible refine ix_of at0 ?_ | with_reducible refine ix_of at1 ?_ | with_reducible refine ix_of at2 ?_ | with_reducible refine ix_of at3 ?_ | ((with_reducible apply isi_of); focus rfl) | refine pF ?_ | refine pT ?_ | ((with_reducible refine And.intro (len_le ?_) ?_); (focus (simp; done))) | ((with_reducible refine And.intro ?_ ?_); (focus (first | ((apply mul_b; (focus ((repeat' (first | assumption | apply bd_add | apply bd_sub | apply bd_mul | apply bd_neg | (apply bd_64; decide) | (apply bd_64; omega) | (apply bd_128; decide) | (apply bd_128; omega))); done)); (focus ((repeat' (first | assumption | apply bd_add | apply bd_sub | apply bd_mul | apply bd_neg | (apply bd_64; decide) | (apply bd_64; omega) | (apply bd_128; decide) | (apply bd_128; omega))); done)); (focus decide))) | ((apply div_b; (focus (first | decide | omega)); (focus ((repeat' (first | assumption | apply bd_add | apply bd_sub | apply bd_mul | apply bd_neg | (apply bd_64; decide) | (apply bd_64; omega) | (apply bd_128; decide) | (apply bd_128; omega))); done)); (focus decide))) | decide | (show (_ : Int) ≠ 0; omega))))); (conv => whnf))))
      refine ⟨_, ep, ?_⟩
      (((conv => whnf); repeat ((first | with_reducible refine ret_of ?_ | with_reducible refine ix_of at0 ?_ | with_reducible refine ix_of at1 ?_ | with_reducible refine ix_of at2 ?_ | with_reducible refine ix_of at3 ?_ | ((with_reducible apply isi_of); focus rfl) | refine pF ?_ | refine pT ?_ | ((with_reducible refine And.intro (len_le ?_) ?_); (focus (simp; done))) | ((with_reducible refine And.intro ?_ ?_); (focus (first | ((apply mul_b; (focus ((repeat' (first | assumption | apply bd_add | apply bd_sub | apply bd_mul | apply bd_neg | (apply bd_64; decide) | (apply bd_64; omega) | (apply bd_128; decide) | (apply bd_128; omega))); done)); (focus ((repeat' (first | assumption | apply bd_add | apply bd_sub | apply bd_mul | apply bd_neg | (apply bd_64; decide) | (apply bd_64; omega) | (apply bd_128; decide) | (apply bd_128; omega))); done)); (focus decide))) | ((apply div_b; (focus (first | decide | omega)); (focus ((repeat' (first | assumption | apply bd_add | apply bd_sub | apply bd_mul | apply bd_neg | (apply bd_64; decide) | (apply bd_64; omega) | (apply bd_128; decide) | (apply bd_128; omega))); done)); (focus decide))) | decide | (show (_ : Int) ≠ 0; omega))))); (conv => whnf))))
      refine ⟨_, own.2.1, lt_line (by rw [List.length_map, List.length_map]; omega), ?_⟩
      (((conv => whnf); repeat ((first | with_reducible refine ret_of ?_ | with_reducible refine ix_of at0 ?_ | with_reducible refine ix_of at1 ?_ | with_reducible refine ix_of at2 ?_ | with_reducible refine ix_of at3 ?_ | ((with_reducible apply isi_of); focus rfl) | refine pF ?_ | refine pT ?_ | ((with_reducible refine And.intro (len_le ?_) ?_); (focus (simp; done))) | ((with_reducible refine And.intro ?_ ?_); (focus (first | ((apply mul_b; (focus ((repeat' (first | assumption | apply bd_add | apply bd_sub | apply bd_mul | apply bd_neg | (apply bd_64; decide) | (apply bd_64; omega) | (apply bd_128; decide) | (apply bd_128; omega))); done)); (focus ((repeat' (first | assumption | apply bd_add | apply bd_sub | apply bd_mul | apply bd_neg | (apply bd_64; decide) | (apply bd_64; omega) | (apply bd_128; decide) | (apply bd_128; omega))); done)); (focus decide))) | ((apply div_b; (focus (first | decide | omega)); (focus ((repeat' (first | assumption | apply bd_add | apply bd_sub | apply bd_mul | apply bd_neg | (apply bd_64; decide) | (apply bd_64; omega) | (apply bd_128; decide) | (apply bd_128; omega))); done)); (focus decide))) | decide | (show (_ : Int) ≠ 0; omega))))); (conv => whnf))))
      refine hn _ _ ⟨_, rfl, ?_⟩
      rw [fx, List.map_append, List.map_append]
      exact own.put
    · have e := of_decide_eq_false e
      rw [if_neg e, List.append_nil] at fx
      (((conv => whnf); repeat ((first | with_reducible refine ret_of ?_ | with_reducible refine ix_of at0 ?_ | with_reducible refine ix_of at1 ?_ | with_reducible refine ix_of at2 ?_ | with_reducible refine ix_of at3 ?_ | ((with_reducible apply isi_of); focus rfl) | refine pF ?_ | refine pT ?_ | ((with_reducible refine And.intro (len_le ?_) ?_); (focus (simp; done))) | ((with_reducible refine And.intro ?_ ?_); (focus (first | ((apply mul_b; (focus ((repeat' (first | assumption | apply bd_add | apply bd_sub | apply bd_mul | apply bd_neg | (apply bd_64; decide) | (apply bd_64; omega) | (apply bd_128; decide) | (apply bd_128; omega))); done)); (focus ((repeat' (first | assumption | apply bd_add | apply bd_sub | apply bd_mul | apply bd_neg | (apply bd_64; decide) | (apply bd_64; omega) | (apply bd_128; decide) | (apply bd_128; omega))); done)); (focus decide))) | ((apply div_b; (focus (first | decide | omega)); (focus ((repeat' (first | assumption | apply bd_add | apply bd_sub | apply bd_mul | apply bd_neg | (apply bd_64; decide) | (apply bd_64; omega) | (apply bd_128; decide) | (apply bd_128; omega))); done)); (focus decide))) | decide | (show (_ : Int) ≠ 0; omega))))); (conv => whnf))))
      refine hn _ _ ⟨_, rfl, ?_⟩
      rw [fx]
      exact own
  · rintro v h1 ⟨u4, rfl, own⟩
    rw [List.take_length] at own
    have sb : Sub h h1 := fun b c e => by rw [own.2.2 b fun z => by rw [z, hf] at e; cases e]; exact e
    have sm := sm.sub sb
    have fin : bookD m ks (bookC m R) = .tup [.int (m : Int), .tup (ksD ks), .tup (((ys.filter fun y => decide (0 < ((cntsR m R y).map (·.1)).sum)).map fun y => (y, cntsR m R y)).map celD)] := by
      unfold bookD bookC
      rw [ey]; rfl
    rw [fin] at q
    rcases sm with rfl | rfl | ⟨a, rfl, e⟩
    all_goals
      (((conv => whnf); repeat ((first | with_reducible refine ret_of ?_ | with_reducible refine ix_of at0 ?_ | with_reducible refine ix_of at1 ?_ | with_reducible refine ix_of at2 ?_ | with_reducible refine ix_of at3 ?_ | ((with_reducible apply isi_of); focus rfl) | refine pF ?_ | refine pT ?_ | ((with_reducible refine And.intro (len_le ?_) ?_); (focus (simp; done))) | ((with_reducible refine And.intro ?_ ?_); (focus (first | ((apply mul_b; (focus ((repeat' (first | assumption | apply bd_add | apply bd_sub | apply bd_mul | apply bd_neg | (apply bd_64; decide) | (apply bd_64; omega) | (apply bd_128; decide) | (apply bd_128; omega))); done)); (focus ((repeat' (first | assumption | apply bd_add | apply bd_sub | apply bd_mul | apply bd_neg | (apply bd_64; decide) | (apply bd_64; omega) | (apply bd_128; decide) | (apply bd_128; omega))); done)); (focus decide))) | ((apply div_b; (focus (first | decide | omega)); (focus ((repeat' (first | assumption | apply bd_add | apply bd_sub | apply bd_mul | apply bd_neg | (apply bd_64; decide) | (apply bd_64; omega) | (apply bd_128; decide) | (apply bd_128; omega))); done)); (focus decide))) | decide | (show (_ : Int) ≠ 0; omega))))); (conv => whnf))))
      first
        | (refine ⟨_, e, ?_⟩; (((conv => whnf); repeat ((first | with_reducible refine ret_of ?_ | with_reducible refine ix_of at0 ?_ | with_reducible refine ix_of at1 ?_ | with_reducible refine ix_of at2 ?_ | with_reducible refine ix_of at3 ?_ | ((with_reducible apply isi_of); focus rfl) | refine pF ?_ | refine pT ?_ | ((with_reducible refine And.intro (len_le ?_) ?_); (focus (simp; done))) | ((with_reducible refine And.intro ?_ ?_); (focus (first | ((apply mul_b; (focus ((repeat' (first | assumption | apply bd_add | apply bd_sub | apply bd_mul | apply bd_neg | (apply bd_64; decide) | (apply bd_64; omega) | (apply bd_128; decide) | (apply bd_128; omega))); done)); (focus ((repeat' (first | assumption | apply bd_add | apply bd_sub | apply bd_mul | apply bd_neg | (apply bd_64; decide) | (apply bd_64; omega) | (apply bd_128; decide) | (apply bd_128; omega))); done)); (focus decide))) | ((apply div_b; (focus (first | decide | omega)); (focus ((repeat' (first | assumption | apply bd_add | apply bd_sub | apply bd_mul | apply bd_neg | (apply bd_64; decide) | (apply bd_64; omega) | (apply bd_128; decide) | (apply bd_128; omega))); done)); (focus decide))) | decide | (show (_ : Int) ≠ 0; omega))))); (conv => whnf)))))
        | skip
      refine ⟨_, own.2.1, ?_⟩
      (((conv => whnf); repeat ((first | with_reducible refine ret_of ?_ | with_reducible refine ix_of at0 ?_ | with_reducible refine ix_of at1 ?_ | with_reducible refine ix_of at2 ?_ | with_reducible refine ix_of at3 ?_ | ((with_reducible apply isi_of); focus rfl) | refine pF ?_ | refine pT ?_ | ((with_reducible refine And.intro (len_le ?_) ?_); (focus (simp; done))) | ((with_reducible refine And.intro ?_ ?_); (focus (first | ((apply mul_b; (focus ((repeat' (first | assumption | apply bd_add | apply bd_sub | apply bd_mul | apply bd_neg | (apply bd_64; decide) | (apply bd_64; omega) | (apply bd_128; decide) | (apply bd_128; omega))); done)); (focus ((repeat' (first | assumption | apply bd_add | apply bd_sub | apply bd_mul | apply bd_neg | (apply bd_64; decide) | (apply bd_64; omega) | (apply bd_128; decide) | (apply bd_128; omega))); done)); (focus decide))) | ((apply div_b; (focus (first | decide | omega)); (focus ((repeat' (first | assumption | apply bd_add | apply bd_sub | apply bd_mul | apply bd_neg | (apply bd_64; decide) | (apply bd_64; omega) | (apply bd_128; decide) | (apply bd_128; omega))); done)); (focus decide))) | decide | (show (_ : Int) ≠ 0; omega))))); (conv => whnf))))
      exact q h1 sb
theorem book_of_ok (hP : P 7 = some fn_is_whole ∧ P 8 = some fn_is_count ∧ P 9 = some fn_together ∧ P 12 = some fn_is_list ∧ P 13 = some fn_is_below ∧ P 14 = some fn_are_marks ∧ P 15 = some fn_are_kinds ∧ P 16 = some fn_is_row ∧ P 1455 = some fn_put_to_1455 ∧ P 1428 = some fn_book_by_1428 ∧ P 1456 = some fn_book_of_1456) {m : Nat} (m2 : 2 ≤ m) (m6 : m ≤ 6) {ks : List Nat} (k5 : ks.length ≤ 5) (k6 : ∀ k ∈ ks, 1 ≤ k ∧ k ≤ 6) {R : List Rw} (hR : ∀ r ∈ R, RwOk m ks r) (rl : R.length ≤ 60) {mk rd : D} (sm : SeqAt h mk (ksD ks)) (sr : SeqAt h rd (R.map rwT))
    (q : Q (bookD m ks (bookC m R)) h) : wpCall P (k + 5) 1456 [.int (m : Int), mk, rd] h X Q := by
  obtain ⟨h7, h8, h9, h12, h13, h14, h15, h16, h55, h28, h56⟩ := hP
  refine call_of h56 rfl ?_
  (((conv => whnf); repeat ((first | refine cut_in ?_ | (first | with_reducible refine ret_of ?_ | with_reducible refine ix_of at0 ?_ | with_reducible refine ix_of at1 ?_ | with_reducible refine ix_of at2 ?_ | with_reducible refine ix_of at3 ?_ | ((with_reducible apply isi_of); focus rfl) | refine pF ?_ | refine pT ?_ | ((with_reducible refine And.intro (len_le ?_) ?_); (focus (simp; done))) | ((with_reducible refine And.intro ?_ ?_); (focus (first | ((apply mul_b; (focus ((repeat' (first | assumption | apply bd_add | apply bd_sub | apply bd_mul | apply bd_neg | (apply bd_64; decide) | (apply bd_64; omega) | (apply bd_128; decide) | (apply bd_128; omega))); done)); (focus ((repeat' (first | assumption | apply bd_add | apply bd_sub | apply bd_mul | apply bd_neg | (apply bd_64; decide) | (apply bd_64; omega) | (apply bd_128; decide) | (apply bd_128; omega))); done)); (focus decide))) | ((apply div_b; (focus (first | decide | omega)); (focus ((repeat' (first | assumption | apply bd_add | apply bd_sub | apply bd_mul | apply bd_neg | (apply bd_64; decide) | (apply bd_64; omega) | (apply bd_128; decide) | (apply bd_128; omega))); done)); (focus decide))) | decide | (show (_ : Int) ≠ 0; omega)))))); (conv => whnf))))
  refine call_of h7 rfl ?_
  (((conv => whnf); repeat ((first | refine cut_in ?_ | (first | with_reducible refine ret_of ?_ | with_reducible refine ix_of at0 ?_ | with_reducible refine ix_of at1 ?_ | with_reducible refine ix_of at2 ?_ | with_reducible refine ix_of at3 ?_ | ((with_reducible apply isi_of); focus rfl) | refine pF ?_ | refine pT ?_ | ((with_reducible refine And.intro (len_le ?_) ?_); (focus (simp; done))) | ((with_reducible refine And.intro ?_ ?_); (focus (first | ((apply mul_b; (focus ((repeat' (first | assumption | apply bd_add | apply bd_sub | apply bd_mul | apply bd_neg | (apply bd_64; decide) | (apply bd_64; omega) | (apply bd_128; decide) | (apply bd_128; omega))); done)); (focus ((repeat' (first | assumption | apply bd_add | apply bd_sub | apply bd_mul | apply bd_neg | (apply bd_64; decide) | (apply bd_64; omega) | (apply bd_128; decide) | (apply bd_128; omega))); done)); (focus decide))) | ((apply div_b; (focus (first | decide | omega)); (focus ((repeat' (first | assumption | apply bd_add | apply bd_sub | apply bd_mul | apply bd_neg | (apply bd_64; decide) | (apply bd_64; omega) | (apply bd_128; decide) | (apply bd_128; omega))); done)); (focus decide))) | decide | (show (_ : Int) ≠ 0; omega)))))); (conv => whnf))))
  rw [decide_eq_true (show (2 : Int) ≤ m by omega)]
  (((conv => whnf); repeat ((first | refine cut_in ?_ | (first | with_reducible refine ret_of ?_ | with_reducible refine ix_of at0 ?_ | with_reducible refine ix_of at1 ?_ | with_reducible refine ix_of at2 ?_ | with_reducible refine ix_of at3 ?_ | ((with_reducible apply isi_of); focus rfl) | refine pF ?_ | refine pT ?_ | ((with_reducible refine And.intro (len_le ?_) ?_); (focus (simp; done))) | ((with_reducible refine And.intro ?_ ?_); (focus (first | ((apply mul_b; (focus ((repeat' (first | assumption | apply bd_add | apply bd_sub | apply bd_mul | apply bd_neg | (apply bd_64; decide) | (apply bd_64; omega) | (apply bd_128; decide) | (apply bd_128; omega))); done)); (focus ((repeat' (first | assumption | apply bd_add | apply bd_sub | apply bd_mul | apply bd_neg | (apply bd_64; decide) | (apply bd_64; omega) | (apply bd_128; decide) | (apply bd_128; omega))); done)); (focus decide))) | ((apply div_b; (focus (first | decide | omega)); (focus ((repeat' (first | assumption | apply bd_add | apply bd_sub | apply bd_mul | apply bd_neg | (apply bd_64; decide) | (apply bd_64; omega) | (apply bd_128; decide) | (apply bd_128; omega))); done)); (focus decide))) | decide | (show (_ : Int) ≠ 0; omega)))))); (conv => whnf))))
  rw [decide_eq_true (show (m : Int) ≤ 6 by omega)]
  (((conv => whnf); repeat ((first | refine cut_in ?_ | (first | with_reducible refine ret_of ?_ | with_reducible refine ix_of at0 ?_ | with_reducible refine ix_of at1 ?_ | with_reducible refine ix_of at2 ?_ | with_reducible refine ix_of at3 ?_ | ((with_reducible apply isi_of); focus rfl) | refine pF ?_ | refine pT ?_ | ((with_reducible refine And.intro (len_le ?_) ?_); (focus (simp; done))) | ((with_reducible refine And.intro ?_ ?_); (focus (first | ((apply mul_b; (focus ((repeat' (first | assumption | apply bd_add | apply bd_sub | apply bd_mul | apply bd_neg | (apply bd_64; decide) | (apply bd_64; omega) | (apply bd_128; decide) | (apply bd_128; omega))); done)); (focus ((repeat' (first | assumption | apply bd_add | apply bd_sub | apply bd_mul | apply bd_neg | (apply bd_64; decide) | (apply bd_64; omega) | (apply bd_128; decide) | (apply bd_128; omega))); done)); (focus decide))) | ((apply div_b; (focus (first | decide | omega)); (focus ((repeat' (first | assumption | apply bd_add | apply bd_sub | apply bd_mul | apply bd_neg | (apply bd_64; decide) | (apply bd_64; omega) | (apply bd_128; decide) | (apply bd_128; omega))); done)); (focus decide))) | decide | (show (_ : Int) ≠ 0; omega)))))); (conv => whnf))))
  refine are_marks_ok ⟨h7, h12, h14⟩ sm k5 k6 ?_
  (((conv => whnf); repeat ((first | refine cut_in ?_ | (first | with_reducible refine ret_of ?_ | with_reducible refine ix_of at0 ?_ | with_reducible refine ix_of at1 ?_ | with_reducible refine ix_of at2 ?_ | with_reducible refine ix_of at3 ?_ | ((with_reducible apply isi_of); focus rfl) | refine pF ?_ | refine pT ?_ | ((with_reducible refine And.intro (len_le ?_) ?_); (focus (simp; done))) | ((with_reducible refine And.intro ?_ ?_); (focus (first | ((apply mul_b; (focus ((repeat' (first | assumption | apply bd_add | apply bd_sub | apply bd_mul | apply bd_neg | (apply bd_64; decide) | (apply bd_64; omega) | (apply bd_128; decide) | (apply bd_128; omega))); done)); (focus ((repeat' (first | assumption | apply bd_add | apply bd_sub | apply bd_mul | apply bd_neg | (apply bd_64; decide) | (apply bd_64; omega) | (apply bd_128; decide) | (apply bd_128; omega))); done)); (focus decide))) | ((apply div_b; (focus (first | decide | omega)); (focus ((repeat' (first | assumption | apply bd_add | apply bd_sub | apply bd_mul | apply bd_neg | (apply bd_64; decide) | (apply bd_64; omega) | (apply bd_128; decide) | (apply bd_128; omega))); done)); (focus decide))) | decide | (show (_ : Int) ≠ 0; omega)))))); (conv => whnf))))
  refine is_list_ok h12 sr (n := 60) (by rw [List.length_map]; exact rl) ?_
  (((conv => whnf); repeat ((first | refine cut_in ?_ | (first | with_reducible refine ret_of ?_ | with_reducible refine ix_of at0 ?_ | with_reducible refine ix_of at1 ?_ | with_reducible refine ix_of at2 ?_ | with_reducible refine ix_of at3 ?_ | ((with_reducible apply isi_of); focus rfl) | refine pF ?_ | refine pT ?_ | ((with_reducible refine And.intro (len_le ?_) ?_); (focus (simp; done))) | ((with_reducible refine And.intro ?_ ?_); (focus (first | ((apply mul_b; (focus ((repeat' (first | assumption | apply bd_add | apply bd_sub | apply bd_mul | apply bd_neg | (apply bd_64; decide) | (apply bd_64; omega) | (apply bd_128; decide) | (apply bd_128; omega))); done)); (focus ((repeat' (first | assumption | apply bd_add | apply bd_sub | apply bd_mul | apply bd_neg | (apply bd_64; decide) | (apply bd_64; omega) | (apply bd_128; decide) | (apply bd_128; omega))); done)); (focus decide))) | ((apply div_b; (focus (first | decide | omega)); (focus ((repeat' (first | assumption | apply bd_add | apply bd_sub | apply bd_mul | apply bd_neg | (apply bd_64; decide) | (apply bd_64; omega) | (apply bd_128; decide) | (apply bd_128; omega))); done)); (focus decide))) | decide | (show (_ : Int) ≠ 0; omega)))))); (conv => whnf))))
  intro d hd
  have s0 : Sub h (put h d (.dct [])) := sub_new hd
  have dv0 : DV h (put h d (.dct [])) d [] (fun y => (cntsR m ([] : List Rw) y).map ct) := ⟨put_same, hd, List.nodup_nil, fun y z => (by cases z), fun _ _ _ z => (by cases z), s0⟩
  have sr' := sr.sub s0
  generalize put h d (.dct []) = h1 at *
  rcases sr with rfl | rfl | ⟨a, rfl, e⟩
  all_goals
    (((conv => whnf); repeat ((first | refine cut_in ?_ | (first | with_reducible refine ret_of ?_ | with_reducible refine ix_of at0 ?_ | with_reducible refine ix_of at1 ?_ | with_reducible refine ix_of at2 ?_ | with_reducible refine ix_of at3 ?_ | ((with_reducible apply isi_of); focus rfl) | refine pF ?_ | refine pT ?_ | ((with_reducible refine And.intro (len_le ?_) ?_); (focus (simp; done))) | ((with_reducible refine And.intro ?_ ?_); (focus (first | ((apply mul_b; (focus ((repeat' (first | assumption | apply bd_add | apply bd_sub | apply bd_mul | apply bd_neg | (apply bd_64; decide) | (apply bd_64; omega) | (apply bd_128; decide) | (apply bd_128; omega))); done)); (focus ((repeat' (first | assumption | apply bd_add | apply bd_sub | apply bd_mul | apply bd_neg | (apply bd_64; decide) | (apply bd_64; omega) | (apply bd_128; decide) | (apply bd_128; omega))); done)); (focus decide))) | ((apply div_b; (focus (first | decide | omega)); (focus ((repeat' (first | assumption | apply bd_add | apply bd_sub | apply bd_mul | apply bd_neg | (apply bd_64; decide) | (apply bd_64; omega) | (apply bd_128; decide) | (apply bd_128; omega))); done)); (focus decide))) | decide | (show (_ : Int) ≠ 0; omega)))))); (conv => whnf))))
    first
      | (refine ⟨_, s0 _ _ e, ?_⟩)
      | skip
    refine forW_Sd (fun i v h' => ∃ (kvs : List (List Int × D)) (u4 u5 u6 u7 u8 : Option D), (∃ rd, v = [some (.int (m : Int)), some mk, some rd, some (.ref d), u4, u5, u6, u7, u8]) ∧ DV h h' d kvs (fun y => (cntsR m (R.take i) y).map ct) ∧ kvs.length ≤ (R.take i).length ∧ ∀ y, y ∈ kvs.map (·.1) ↔ y ∈ (R.take i).map (·.2.1)) (fun i v h' z => by
      obtain ⟨_, _, _, _, _, _, _, dv, _, _⟩ := z
      first | exact dv.sub _ _ e | trivial) (fun i x v h' nx' hx z hn => ?_) (fun v h' z => ?_) ⟨[], _, _, _, _, _, ⟨_, rfl⟩, dv0, Nat.le_refl 0, fun y => Iff.rfl⟩
    · obtain ⟨kvs, u4, u5, u6, u7, u8, ⟨rd, rfl⟩, dv, kl, km⟩ := z
      rw [List.getElem?_map] at hx
      obtain ⟨r, hr, rfl⟩ := Option.map_eq_some_iff.mp hx
      have ro := hR r (List.mem_of_getElem? hr)
      have hi := (List.getElem?_eq_some_iff.mp hr).1
      have et : R.take (i + 1) = R.take i ++ [r] := by rw [List.take_succ, hr]; rfl
      (((conv => whnf); repeat ((first | refine cut_in ?_ | (first | with_reducible refine ret_of ?_ | with_reducible refine ix_of at0 ?_ | with_reducible refine ix_of at1 ?_ | with_reducible refine ix_of at2 ?_ | with_reducible refine ix_of at3 ?_ | ((with_reducible apply isi_of); focus rfl) | refine pF ?_ | refine pT ?_ | ((with_reducible refine And.intro (len_le ?_) ?_); (focus (simp; done))) | ((with_reducible refine And.intro ?_ ?_); (focus (first | ((apply mul_b; (focus ((repeat' (first | assumption | apply bd_add | apply bd_sub | apply bd_mul | apply bd_neg | (apply bd_64; decide) | (apply bd_64; omega) | (apply bd_128; decide) | (apply bd_128; omega))); done)); (focus ((repeat' (first | assumption | apply bd_add | apply bd_sub | apply bd_mul | apply bd_neg | (apply bd_64; decide) | (apply bd_64; omega) | (apply bd_128; decide) | (apply bd_128; omega))); done)); (focus decide))) | ((apply div_b; (focus (first | decide | omega)); (focus ((repeat' (first | assumption | apply bd_add | apply bd_sub | apply bd_mul | apply bd_neg | (apply bd_64; decide) | (apply bd_64; omega) | (apply bd_128; decide) | (apply bd_128; omega))); done)); (focus decide))) | decide | (show (_ : Int) ≠ 0; omega)))))); (conv => whnf))))
      refine is_row_ok ⟨h7, h8, h13, h15, h16⟩ (sm.sub dv.sub) k5 ro ?_
      unfold rwT
      (((conv => whnf); repeat ((first | refine cut_in ?_ | (first | with_reducible refine ret_of ?_ | with_reducible refine ix_of at0 ?_ | with_reducible refine ix_of at1 ?_ | with_reducible refine ix_of at2 ?_ | with_reducible refine ix_of at3 ?_ | ((with_reducible apply isi_of); focus rfl) | refine pF ?_ | refine pT ?_ | ((with_reducible refine And.intro (len_le ?_) ?_); (focus (simp; done))) | ((with_reducible refine And.intro ?_ ?_); (focus (first | ((apply mul_b; (focus ((repeat' (first | assumption | apply bd_add | apply bd_sub | apply bd_mul | apply bd_neg | (apply bd_64; decide) | (apply bd_64; omega) | (apply bd_128; decide) | (apply bd_128; omega))); done)); (focus ((repeat' (first | assumption | apply bd_add | apply bd_sub | apply bd_mul | apply bd_neg | (apply bd_64; decide) | (apply bd_64; omega) | (apply bd_128; decide) | (apply bd_128; omega))); done)); (focus decide))) | ((apply div_b; (focus (first | decide | omega)); (focus ((repeat' (first | assumption | apply bd_add | apply bd_sub | apply bd_mul | apply bd_neg | (apply bd_64; decide) | (apply bd_64; omega) | (apply bd_128; decide) | (apply bd_128; omega))); done)); (focus decide))) | decide | (show (_ : Int) ≠ 0; omega)))))); (conv => whnf))))
      refine put_to_ok ⟨h9, h55⟩ m6 dv kl (by rw [List.length_take]; omega) km ro.hs fun kvs' h2 dv2 kl2 km2 => ?_
      (((conv => whnf); repeat ((first | with_reducible refine ret_of ?_ | with_reducible refine ix_of at0 ?_ | with_reducible refine ix_of at1 ?_ | with_reducible refine ix_of at2 ?_ | with_reducible refine ix_of at3 ?_ | ((with_reducible apply isi_of); focus rfl) | refine pF ?_ | refine pT ?_ | ((with_reducible refine And.intro (len_le ?_) ?_); (focus (simp; done))) | ((with_reducible refine And.intro ?_ ?_); (focus (first | ((apply mul_b; (focus ((repeat' (first | assumption | apply bd_add | apply bd_sub | apply bd_mul | apply bd_neg | (apply bd_64; decide) | (apply bd_64; omega) | (apply bd_128; decide) | (apply bd_128; omega))); done)); (focus ((repeat' (first | assumption | apply bd_add | apply bd_sub | apply bd_mul | apply bd_neg | (apply bd_64; decide) | (apply bd_64; omega) | (apply bd_128; decide) | (apply bd_128; omega))); done)); (focus decide))) | ((apply div_b; (focus (first | decide | omega)); (focus ((repeat' (first | assumption | apply bd_add | apply bd_sub | apply bd_mul | apply bd_neg | (apply bd_64; decide) | (apply bd_64; omega) | (apply bd_128; decide) | (apply bd_128; omega))); done)); (focus decide))) | decide | (show (_ : Int) ≠ 0; omega))))); (conv => whnf))))
      refine hn _ _ ⟨kvs', _, _, _, _, _, ⟨_, rfl⟩, ?_, ?_, ?_⟩
      · rw [et]; exact dv2
      · rw [et]; exact kl2
      · rw [et]; exact km2
    · obtain ⟨kvs, u4, u5, u6, u7, u8, ⟨rd, rfl⟩, dv, kl, km⟩ := z
      rw [List.length_map, List.take_length] at dv km
      (((conv => whnf); repeat ((first | with_reducible refine ret_of ?_ | with_reducible refine ix_of at0 ?_ | with_reducible refine ix_of at1 ?_ | with_reducible refine ix_of at2 ?_ | with_reducible refine ix_of at3 ?_ | ((with_reducible apply isi_of); focus rfl) | refine pF ?_ | refine pT ?_ | ((with_reducible refine And.intro (len_le ?_) ?_); (focus (simp; done))) | ((with_reducible refine And.intro ?_ ?_); (focus (first | ((apply mul_b; (focus ((repeat' (first | assumption | apply bd_add | apply bd_sub | apply bd_mul | apply bd_neg | (apply bd_64; decide) | (apply bd_64; omega) | (apply bd_128; decide) | (apply bd_128; omega))); done)); (focus ((repeat' (first | assumption | apply bd_add | apply bd_sub | apply bd_mul | apply bd_neg | (apply bd_64; decide) | (apply bd_64; omega) | (apply bd_128; decide) | (apply bd_128; omega))); done)); (focus decide))) | ((apply div_b; (focus (first | decide | omega)); (focus ((repeat' (first | assumption | apply bd_add | apply bd_sub | apply bd_mul | apply bd_neg | (apply bd_64; decide) | (apply bd_64; omega) | (apply bd_128; decide) | (apply bd_128; omega))); done)); (focus decide))) | decide | (show (_ : Int) ≠ 0; omega))))); (conv => whnf))))
      refine book_by_ok (s := d) (D0 := .non) ⟨h9, h28⟩ hR k6 dv rl m6 k5 km (sm.sub dv.sub) fun h2 sb => ?_
      conv => whnf
      exact ⟨h, fun b c e => sb b c (dv.sub b c e), q⟩
end
end Ab
namespace Ab
open PySem PySem.Spec PyProof.Rows L2
inductive TI : Nat → D → Prop
  | int {n : Nat} (i : Int) : TI n (.int i)
  | tup {n : Nat} {ds : List D} (h : ∀ d ∈ ds, TI n d) (l : ds.length ≤ 100) : TI (n + 1) (.tup ds)
section
variable {P : Nat → Option Fn} {h : AH} {X : PX} {Q : PQ}
end
theorem TI.mono {n m : Nat} {d : D} (t : TI n d) : n ≤ m → TI m d := by
  intro l
  induction t generalizing m with
  | int i => exact .int i
  | tup h l' ih =>
    cases m with
    | zero => omega
    | succ m => exact .tup (fun d hd => ih d hd (by omega)) l'
section
variable {P : Nat → Option Fn} {k : Nat} {h : AH} {X : PX} {Q : PQ}
end
theorem RwOk.zero {m : Nat} {ks : List Nat} {r : Rw} (h : RwOk m ks r) (e : ¬ 0 < r.2.2.1) : r.2.2.1 = 0 ∧ r.2.2.2 = 0 := by
  have := h.w0
  have := h.wt
  omega
section
variable {P : Nat → Option Fn} {k : Nat} {h : AH} {X : PX} {Q : PQ}
structure LV (h : AH) (d : Addr) (n : Nat) (L : List (List Int)) (kvs : List (List Int × D)) (f : List Int → D) : Prop where
  e : h d = some (.dct kvs)
  nd : (kvs.map (·.1)).Nodup
  len : kvs.length ≤ n
  mem : ∀ y, y ∈ kvs.map (·.1) ↔ y ∈ L
  val : ∀ y, y ∈ kvs.map (·.1) → lookD kvs y = some (f y)
theorem LV.put {d : Addr} {n : Nat} {L L' : List (List Int)} {kvs : List (List Int × D)} {f f' : List Int → D} (a : LV h d n L kvs f) {y : List Int} (hL : ∀ z, z ∈ L' ↔ z ∈ L ∨ z = y) (hf : ∀ z, z ≠ y → f' z = f z) : LV (put h d (.dct (putD kvs y (f' y)))) d (n + 1) L' (putD kvs y (f' y)) f' where
  e := put_same
  nd := nodup_put a.nd _ _
  len := Nat.le_trans (len_put _ _ _) (by have := a.len; omega)
  mem := fun z => by rw [mem_put, a.mem, hL]
  val := fun z hz => by
    rw [lookD_put]
    split
    · rename_i e
      rw [e]
    · rename_i e
      rw [mem_put] at hz
      rw [a.val z (hz.resolve_right e), hf z e]
theorem cut_set {xs : List D} {j : Nat} (hj : j < xs.length) (d : D) : cutD xs none (some (j : Int)) ++ [d] ++ cutD xs (some ((j : Int) + 1)) none = xs.set j d := by
  rw [cut_to, show (j : Int) + 1 = ((j + 1 : Nat) : Int) by omega, cut_from _ (by omega), List.append_assoc]
  rw [List.set_eq_take_append_cons_drop, if_pos hj]; rfl
end
end Ab
namespace Ab
open PySem PySem.Spec PyProof.Rows L2
section
variable {P : Nat → Option Fn} {k : Nat} {h : AH} {X : PX} {Q : PQ}
end
end Ab
namespace Ab
open PySem PySem.Spec PyProof.Rows L2
def cutK {α : Type} (j : Nat) (y : List α) : List α := y.take j ++ y.drop (j + 1)
theorem cutK_len {α : Type} {j : Nat} {y : List α} (h : j < y.length) : (cutK j y).length = y.length - 1 := by
  unfold cutK
  rw [List.length_append, List.length_take, List.length_drop]
  omega
theorem cutK_get {α : Type} {j : Nat} {y : List α} (h : j < y.length) (i : Nat) : (cutK j y)[i]? = if i < j then y[i]? else y[i + 1]? := by
  unfold cutK
  by_cases c : i < j
  · rw [if_pos c, List.getElem?_append_left (by rw [List.length_take]; omega), List.getElem?_take, if_pos c]
  · rw [if_neg c, List.getElem?_append_right (by rw [List.length_take]; omega), List.getElem?_drop, List.length_take]
    congr 1
    omega
theorem cutK_inj {j : Nat} {y z : List Int} {x : Int} (hy : y[j]? = some x) (hz : z[j]? = some x) (l : y.length = z.length) (e : cutK j y = cutK j z) : y = z := by
  have hj := (List.getElem?_eq_some_iff.mp hy).1
  apply List.ext_getElem?
  intro i
  rcases Nat.lt_trichotomy i j with c | c | c
  · have h1 := cutK_get hj i
    have h2 := cutK_get (y := z) (show j < z.length by omega) i
    rw [if_pos c] at h1 h2
    rw [← h1, ← h2, e]
  · rw [c, hy, hz]
  · have h1 := cutK_get hj (i - 1)
    have h2 := cutK_get (y := z) (show j < z.length by omega) (i - 1)
    rw [if_neg (by omega), show i - 1 + 1 = i by omega] at h1 h2
    rw [← h1, ← h2, e]
theorem KOk.cut {ks : List Nat} {y : List Int} (h : KOk ks y) {j : Nat} (hj : j < ks.length) : KOk (cutK j ks) (cutK j y) := by
  have hy : j < y.length := by rw [h.1]; exact hj
  refine ⟨by rw [cutK_len hj, cutK_len hy, h.1], fun i x n e1 e2 => ?_⟩
  rw [cutK_get hy] at e1
  rw [cutK_get hj] at e2
  split at e1
  · rename_i c
    rw [if_pos c] at e2
    exact h.2 _ x n e1 e2
  · rename_i c
    rw [if_neg c] at e2
    exact h.2 _ x n e1 e2
def wiM (C : List Clx) (j : Nat) (x : Int) : List Clx := C.filter fun c => decide (c.1[j]? = some x)
section
variable {P : Nat → Option Fn} {k : Nat} {h : AH} {X : PX} {Q : PQ}
theorem Bk.inj {z m : Nat} {ks : List Nat} {C : List Clx} (b : Bk z m ks C) {j : Nat} {x : Int} {c c' : Clx} (hc : c ∈ wiM C j x) (hc' : c' ∈ wiM C j x) (e : cutK j c.1 = cutK j c'.1) : c.1 = c'.1 := by
  obtain ⟨h1, h2⟩ := List.mem_filter.mp hc
  obtain ⟨h3, h4⟩ := List.mem_filter.mp hc'
  exact cutK_inj (of_decide_eq_true h2) (of_decide_eq_true h4) ((b.key c h1).1.trans (b.key c' h3).1.symm) e
end
end Ab
namespace Ab
open PySem PySem.Spec PyProof.Rows L2
def OddN (h : AH) (d : D) : Prop := (∃ b, d = .bl b) ∨ isiAny d h [.int] = some false
def BadL (n : Nat) (h : AH) (d : D) : Prop := isiAny d h [.list, .tuple] = some false ∨ ∃ ds, d = .lst ds ∧ n < ds.length
def BadMn (h : AH) (d : D) : Prop := OddN h d ∨ ∃ i : Int, d = .int i ∧ ¬ (1 ≤ i ∧ i ≤ 6)
def BadMs (h : AH) (d : D) : Prop := BadL 5 h d ∨ ∃ ds, d = .lst ds ∧ ds.length ≤ 5 ∧ (∀ x ∈ ds, (∃ k : Nat, x = .int (k : Int) ∧ 1 ≤ k ∧ k ≤ 6) ∨ BadMn h x) ∧ ∃ x ∈ ds, BadMn h x
def BadKd (ks : List Nat) (h : AH) (d : D) : Prop := isiAny d h [.tuple] = some false ∨ ∃ ds, d = .tup ds ∧ (ds.length ≠ ks.length ∨ ds.length = ks.length ∧ (∀ (i : Nat) x n, ds[i]? = some x → ks[i]? = some n → (∃ a : Nat, x = .int (a : Int) ∧ a < n) ∨ OddG n h x) ∧ ∃ (i : Nat) (x : D) (n : Nat), ds[i]? = some x ∧ ks[i]? = some n ∧ OddG n h x)
def BadCn (h : AH) (t w : D) : Prop := OddN h t ∨ (∃ i : Int, t = .int i) ∧ OddN h w ∨ ∃ i j : Int, t = .int i ∧ w = .int j ∧ ¬ (0 ≤ j ∧ j ≤ i)
inductive BadRw (m : Nat) (ks : List Nat) (h : AH) : D → Prop
  | nt {d : D} (e : isiAny d h [.tuple] = some false) : BadRw m ks h d
  | len {ds : List D} (e : ds.length ≠ 4) (l : ds.length ≤ 100) : BadRw m ks h (.tup ds)
  | hs {a b c d : D} (o : OddG m h a) : BadRw m ks h (.tup [a, b, c, d])
  | kd {j : Nat} {b c d : D} (hj : j < m) (o : BadKd ks h b) : BadRw m ks h (.tup [.int (j : Int), b, c, d])
  | cn {j : Nat} {y : List Int} {c d : D} (hj : j < m) (ky : KOk ks y) (o : BadCn h c d) : BadRw m ks h (.tup [.int (j : Int), keyD y, c, d])
  | big {j : Nat} {y : List Int} {t w : Int} (hj : j < m) (ky : KOk ks y) (w0 : 0 ≤ w) (wt : w ≤ t) (o : 1000000000000 < t) : BadRw m ks h (.tup [.int (j : Int), keyD y, .int t, .int w])
theorem OddN.sub {h h' : AH} {d : D} (s : Sub h h') (o : OddN h d) : OddN h' d := o.elim .inl fun e => .inr (isi_sub s e)
section
variable {P : Nat → Option Fn} {k : Nat} {h : AH} {X : PX} {Q : PQ}
theorem whole_no (h7 : P 7 = some fn_is_whole) {d : D} (o : OddN h d) (q : Q (.bl false) h) : wpCall P (k + 1) 7 [d] h X Q := by
  refine call_of h7 rfl ?_
  rcases o with ⟨b, rfl⟩ | e
  · (((conv => whnf); repeat ((first | with_reducible refine ret_of ?_ | with_reducible refine ix_of at0 ?_ | with_reducible refine ix_of at1 ?_ | with_reducible refine ix_of at2 ?_ | with_reducible refine ix_of at3 ?_ | ((with_reducible apply isi_of); focus rfl) | refine pF ?_ | refine pT ?_ | ((with_reducible refine And.intro (len_le ?_) ?_); (focus (simp; done))) | ((with_reducible refine And.intro ?_ ?_); (focus (first | ((apply mul_b; (focus ((repeat' (first | assumption | apply bd_add | apply bd_sub | apply bd_mul | apply bd_neg | (apply bd_64; decide) | (apply bd_64; omega) | (apply bd_128; decide) | (apply bd_128; omega))); done)); (focus ((repeat' (first | assumption | apply bd_add | apply bd_sub | apply bd_mul | apply bd_neg | (apply bd_64; decide) | (apply bd_64; omega) | (apply bd_128; decide) | (apply bd_128; omega))); done)); (focus decide))) | ((apply div_b; (focus (first | decide | omega)); (focus ((repeat' (first | assumption | apply bd_add | apply bd_sub | apply bd_mul | apply bd_neg | (apply bd_64; decide) | (apply bd_64; omega) | (apply bd_128; decide) | (apply bd_128; omega))); done)); (focus decide))) | decide | (show (_ : Int) ≠ 0; omega))))); (conv => whnf))))
    exact q
  · (((conv => whnf); repeat ((first | with_reducible refine ret_of ?_ | with_reducible refine ix_of at0 ?_ | with_reducible refine ix_of at1 ?_ | with_reducible refine ix_of at2 ?_ | with_reducible refine ix_of at3 ?_ | ((with_reducible apply isi_of); focus rfl) | refine pF ?_ | refine pT ?_ | ((with_reducible refine And.intro (len_le ?_) ?_); (focus (simp; done))) | ((with_reducible refine And.intro ?_ ?_); (focus (first | ((apply mul_b; (focus ((repeat' (first | assumption | apply bd_add | apply bd_sub | apply bd_mul | apply bd_neg | (apply bd_64; decide) | (apply bd_64; omega) | (apply bd_128; decide) | (apply bd_128; omega))); done)); (focus ((repeat' (first | assumption | apply bd_add | apply bd_sub | apply bd_mul | apply bd_neg | (apply bd_64; decide) | (apply bd_64; omega) | (apply bd_128; decide) | (apply bd_128; omega))); done)); (focus decide))) | ((apply div_b; (focus (first | decide | omega)); (focus ((repeat' (first | assumption | apply bd_add | apply bd_sub | apply bd_mul | apply bd_neg | (apply bd_64; decide) | (apply bd_64; omega) | (apply bd_128; decide) | (apply bd_128; omega))); done)); (focus decide))) | decide | (show (_ : Int) ≠ 0; omega))))); (conv => whnf))))
    refine isi_of e ?_
    (((conv => whnf); repeat ((first | with_reducible refine ret_of ?_ | with_reducible refine ix_of at0 ?_ | with_reducible refine ix_of at1 ?_ | with_reducible refine ix_of at2 ?_ | with_reducible refine ix_of at3 ?_ | ((with_reducible apply isi_of); focus rfl) | refine pF ?_ | refine pT ?_ | ((with_reducible refine And.intro (len_le ?_) ?_); (focus (simp; done))) | ((with_reducible refine And.intro ?_ ?_); (focus (first | ((apply mul_b; (focus ((repeat' (first | assumption | apply bd_add | apply bd_sub | apply bd_mul | apply bd_neg | (apply bd_64; decide) | (apply bd_64; omega) | (apply bd_128; decide) | (apply bd_128; omega))); done)); (focus ((repeat' (first | assumption | apply bd_add | apply bd_sub | apply bd_mul | apply bd_neg | (apply bd_64; decide) | (apply bd_64; omega) | (apply bd_128; decide) | (apply bd_128; omega))); done)); (focus decide))) | ((apply div_b; (focus (first | decide | omega)); (focus ((repeat' (first | assumption | apply bd_add | apply bd_sub | apply bd_mul | apply bd_neg | (apply bd_64; decide) | (apply bd_64; omega) | (apply bd_128; decide) | (apply bd_128; omega))); done)); (focus decide))) | decide | (show (_ : Int) ≠ 0; omega))))); (conv => whnf))))
    exact q
theorem is_list_no (h12 : P 12 = some fn_is_list) {n : Nat} {d : D} (o : BadL n h d) (q : Q (.bl false) h) : wpCall P (k + 1) 12 [d, .int (n : Int)] h X Q := by
  refine call_of h12 rfl ?_
  rcases o with e | ⟨ds, rfl, l⟩
  · (((conv => whnf); repeat ((first | with_reducible refine ret_of ?_ | with_reducible refine ix_of at0 ?_ | with_reducible refine ix_of at1 ?_ | with_reducible refine ix_of at2 ?_ | with_reducible refine ix_of at3 ?_ | ((with_reducible apply isi_of); focus rfl) | refine pF ?_ | refine pT ?_ | ((with_reducible refine And.intro (len_le ?_) ?_); (focus (simp; done))) | ((with_reducible refine And.intro ?_ ?_); (focus (first | ((apply mul_b; (focus ((repeat' (first | assumption | apply bd_add | apply bd_sub | apply bd_mul | apply bd_neg | (apply bd_64; decide) | (apply bd_64; omega) | (apply bd_128; decide) | (apply bd_128; omega))); done)); (focus ((repeat' (first | assumption | apply bd_add | apply bd_sub | apply bd_mul | apply bd_neg | (apply bd_64; decide) | (apply bd_64; omega) | (apply bd_128; decide) | (apply bd_128; omega))); done)); (focus decide))) | ((apply div_b; (focus (first | decide | omega)); (focus ((repeat' (first | assumption | apply bd_add | apply bd_sub | apply bd_mul | apply bd_neg | (apply bd_64; decide) | (apply bd_64; omega) | (apply bd_128; decide) | (apply bd_128; omega))); done)); (focus decide))) | decide | (show (_ : Int) ≠ 0; omega))))); (conv => whnf))))
    refine isi_of e ?_
    (((conv => whnf); repeat ((first | with_reducible refine ret_of ?_ | with_reducible refine ix_of at0 ?_ | with_reducible refine ix_of at1 ?_ | with_reducible refine ix_of at2 ?_ | with_reducible refine ix_of at3 ?_ | ((with_reducible apply isi_of); focus rfl) | refine pF ?_ | refine pT ?_ | ((with_reducible refine And.intro (len_le ?_) ?_); (focus (simp; done))) | ((with_reducible refine And.intro ?_ ?_); (focus (first | ((apply mul_b; (focus ((repeat' (first | assumption | apply bd_add | apply bd_sub | apply bd_mul | apply bd_neg | (apply bd_64; decide) | (apply bd_64; omega) | (apply bd_128; decide) | (apply bd_128; omega))); done)); (focus ((repeat' (first | assumption | apply bd_add | apply bd_sub | apply bd_mul | apply bd_neg | (apply bd_64; decide) | (apply bd_64; omega) | (apply bd_128; decide) | (apply bd_128; omega))); done)); (focus decide))) | ((apply div_b; (focus (first | decide | omega)); (focus ((repeat' (first | assumption | apply bd_add | apply bd_sub | apply bd_mul | apply bd_neg | (apply bd_64; decide) | (apply bd_64; omega) | (apply bd_128; decide) | (apply bd_128; omega))); done)); (focus decide))) | decide | (show (_ : Int) ≠ 0; omega))))); (conv => whnf))))
    exact q
  · (((conv => whnf); repeat ((first | with_reducible refine ret_of ?_ | with_reducible refine ix_of at0 ?_ | with_reducible refine ix_of at1 ?_ | with_reducible refine ix_of at2 ?_ | with_reducible refine ix_of at3 ?_ | ((with_reducible apply isi_of); focus rfl) | refine pF ?_ | refine pT ?_ | ((with_reducible refine And.intro (len_le ?_) ?_); (focus (simp; done))) | ((with_reducible refine And.intro ?_ ?_); (focus (first | ((apply mul_b; (focus ((repeat' (first | assumption | apply bd_add | apply bd_sub | apply bd_mul | apply bd_neg | (apply bd_64; decide) | (apply bd_64; omega) | (apply bd_128; decide) | (apply bd_128; omega))); done)); (focus ((repeat' (first | assumption | apply bd_add | apply bd_sub | apply bd_mul | apply bd_neg | (apply bd_64; decide) | (apply bd_64; omega) | (apply bd_128; decide) | (apply bd_128; omega))); done)); (focus decide))) | ((apply div_b; (focus (first | decide | omega)); (focus ((repeat' (first | assumption | apply bd_add | apply bd_sub | apply bd_mul | apply bd_neg | (apply bd_64; decide) | (apply bd_64; omega) | (apply bd_128; decide) | (apply bd_128; omega))); done)); (focus decide))) | decide | (show (_ : Int) ≠ 0; omega))))); (conv => whnf))))
    rw [decide_eq_false (show ¬ (ds.length : Int) ≤ n by omega)]
    exact q
theorem are_marks_no (hP : P 7 = some fn_is_whole ∧ P 12 = some fn_is_list ∧ P 14 = some fn_are_marks) {d : D} (o : BadMs h d) (q : Q (.bl false) h) : wpCall P (k + 2) 14 [d] h X Q := by
  obtain ⟨h7, h12, h14⟩ := hP
  refine call_of h14 rfl ?_
  rcases o with o | ⟨ds, rfl, l5, al, x0, hx0, ox⟩
  · (((conv => whnf); repeat ((first | with_reducible refine ret_of ?_ | with_reducible refine ix_of at0 ?_ | with_reducible refine ix_of at1 ?_ | with_reducible refine ix_of at2 ?_ | with_reducible refine ix_of at3 ?_ | ((with_reducible apply isi_of); focus rfl) | refine pF ?_ | refine pT ?_ | ((with_reducible refine And.intro (len_le ?_) ?_); (focus (simp; done))) | ((with_reducible refine And.intro ?_ ?_); (focus (first | ((apply mul_b; (focus ((repeat' (first | assumption | apply bd_add | apply bd_sub | apply bd_mul | apply bd_neg | (apply bd_64; decide) | (apply bd_64; omega) | (apply bd_128; decide) | (apply bd_128; omega))); done)); (focus ((repeat' (first | assumption | apply bd_add | apply bd_sub | apply bd_mul | apply bd_neg | (apply bd_64; decide) | (apply bd_64; omega) | (apply bd_128; decide) | (apply bd_128; omega))); done)); (focus decide))) | ((apply div_b; (focus (first | decide | omega)); (focus ((repeat' (first | assumption | apply bd_add | apply bd_sub | apply bd_mul | apply bd_neg | (apply bd_64; decide) | (apply bd_64; omega) | (apply bd_128; decide) | (apply bd_128; omega))); done)); (focus decide))) | decide | (show (_ : Int) ≠ 0; omega))))); (conv => whnf))))
    refine is_list_no h12 (n := 5) o ?_
    (((conv => whnf); repeat ((first | with_reducible refine ret_of ?_ | with_reducible refine ix_of at0 ?_ | with_reducible refine ix_of at1 ?_ | with_reducible refine ix_of at2 ?_ | with_reducible refine ix_of at3 ?_ | ((with_reducible apply isi_of); focus rfl) | refine pF ?_ | refine pT ?_ | ((with_reducible refine And.intro (len_le ?_) ?_); (focus (simp; done))) | ((with_reducible refine And.intro ?_ ?_); (focus (first | ((apply mul_b; (focus ((repeat' (first | assumption | apply bd_add | apply bd_sub | apply bd_mul | apply bd_neg | (apply bd_64; decide) | (apply bd_64; omega) | (apply bd_128; decide) | (apply bd_128; omega))); done)); (focus ((repeat' (first | assumption | apply bd_add | apply bd_sub | apply bd_mul | apply bd_neg | (apply bd_64; decide) | (apply bd_64; omega) | (apply bd_128; decide) | (apply bd_128; omega))); done)); (focus decide))) | ((apply div_b; (focus (first | decide | omega)); (focus ((repeat' (first | assumption | apply bd_add | apply bd_sub | apply bd_mul | apply bd_neg | (apply bd_64; decide) | (apply bd_64; omega) | (apply bd_128; decide) | (apply bd_128; omega))); done)); (focus decide))) | decide | (show (_ : Int) ≠ 0; omega))))); (conv => whnf))))
    exact q
  · (((conv => whnf); repeat ((first | with_reducible refine ret_of ?_ | with_reducible refine ix_of at0 ?_ | with_reducible refine ix_of at1 ?_ | with_reducible refine ix_of at2 ?_ | with_reducible refine ix_of at3 ?_ | ((with_reducible apply isi_of); focus rfl) | refine pF ?_ | refine pT ?_ | ((with_reducible refine And.intro (len_le ?_) ?_); (focus (simp; done))) | ((with_reducible refine And.intro ?_ ?_); (focus (first | ((apply mul_b; (focus ((repeat' (first | assumption | apply bd_add | apply bd_sub | apply bd_mul | apply bd_neg | (apply bd_64; decide) | (apply bd_64; omega) | (apply bd_128; decide) | (apply bd_128; omega))); done)); (focus ((repeat' (first | assumption | apply bd_add | apply bd_sub | apply bd_mul | apply bd_neg | (apply bd_64; decide) | (apply bd_64; omega) | (apply bd_128; decide) | (apply bd_128; omega))); done)); (focus decide))) | ((apply div_b; (focus (first | decide | omega)); (focus ((repeat' (first | assumption | apply bd_add | apply bd_sub | apply bd_mul | apply bd_neg | (apply bd_64; decide) | (apply bd_64; omega) | (apply bd_128; decide) | (apply bd_128; omega))); done)); (focus decide))) | decide | (show (_ : Int) ≠ 0; omega))))); (conv => whnf))))
    refine is_list_ok h12 (.inr (.inl rfl)) (n := 5) l5 ?_
    (((conv => whnf); repeat ((first | with_reducible refine ret_of ?_ | with_reducible refine ix_of at0 ?_ | with_reducible refine ix_of at1 ?_ | with_reducible refine ix_of at2 ?_ | with_reducible refine ix_of at3 ?_ | ((with_reducible apply isi_of); focus rfl) | refine pF ?_ | refine pT ?_ | ((with_reducible refine And.intro (len_le ?_) ?_); (focus (simp; done))) | ((with_reducible refine And.intro ?_ ?_); (focus (first | ((apply mul_b; (focus ((repeat' (first | assumption | apply bd_add | apply bd_sub | apply bd_mul | apply bd_neg | (apply bd_64; decide) | (apply bd_64; omega) | (apply bd_128; decide) | (apply bd_128; omega))); done)); (focus ((repeat' (first | assumption | apply bd_add | apply bd_sub | apply bd_mul | apply bd_neg | (apply bd_64; decide) | (apply bd_64; omega) | (apply bd_128; decide) | (apply bd_128; omega))); done)); (focus decide))) | ((apply div_b; (focus (first | decide | omega)); (focus ((repeat' (first | assumption | apply bd_add | apply bd_sub | apply bd_mul | apply bd_neg | (apply bd_64; decide) | (apply bd_64; omega) | (apply bd_128; decide) | (apply bd_128; omega))); done)); (focus decide))) | decide | (show (_ : Int) ≠ 0; omega))))); (conv => whnf))))
    refine compW_list (fun i acc h' => ∃ bs : List Bool, acc = bs.map D.bl ∧ bs.length = i ∧ h' = h ∧ ∀ (j : Nat) x, j < i → ds[j]? = some x → BadMn h x → bs[j]? = some false) (fun i x acc h' G hx z hG => ?_) (fun acc h' z => ?_) ⟨[], rfl, rfl, rfl, fun j x z => absurd z (Nat.not_lt_zero _)⟩
    · obtain ⟨bs, rfl, rfl, rfl, hb⟩ := z
      have hm := List.mem_of_getElem? hx
      have hi := (List.getElem?_eq_some_iff.mp hx).1
      have nxt : ∀ b : Bool, (BadMn h' x → b = false) → G (bs.map D.bl ++ [.bl b]) h' := fun b hbb => hG _ _ ⟨bs ++ [b], by rw [List.map_append]; rfl, by rw [List.length_append]; rfl, rfl, fun j y hj hy oy => by
        by_cases c : j < bs.length
        · rw [List.getElem?_append_left c]; exact hb j y c hy oy
        · have : j = bs.length := by omega
          subst this
          rw [hx] at hy
          cases hy
          rw [List.getElem?_concat_length, hbb oy]⟩
      have lt : (bs.map D.bl).length < sizeLine := lt_line (by rw [List.length_map]; omega)
      rcases al x hm with ⟨k0, rfl, k1, k2⟩ | o
      · (((conv => whnf); repeat ((first | with_reducible refine ret_of ?_ | with_reducible refine ix_of at0 ?_ | with_reducible refine ix_of at1 ?_ | with_reducible refine ix_of at2 ?_ | with_reducible refine ix_of at3 ?_ | ((with_reducible apply isi_of); focus rfl) | refine pF ?_ | refine pT ?_ | ((with_reducible refine And.intro (len_le ?_) ?_); (focus (simp; done))) | ((with_reducible refine And.intro ?_ ?_); (focus (first | ((apply mul_b; (focus ((repeat' (first | assumption | apply bd_add | apply bd_sub | apply bd_mul | apply bd_neg | (apply bd_64; decide) | (apply bd_64; omega) | (apply bd_128; decide) | (apply bd_128; omega))); done)); (focus ((repeat' (first | assumption | apply bd_add | apply bd_sub | apply bd_mul | apply bd_neg | (apply bd_64; decide) | (apply bd_64; omega) | (apply bd_128; decide) | (apply bd_128; omega))); done)); (focus decide))) | ((apply div_b; (focus (first | decide | omega)); (focus ((repeat' (first | assumption | apply bd_add | apply bd_sub | apply bd_mul | apply bd_neg | (apply bd_64; decide) | (apply bd_64; omega) | (apply bd_128; decide) | (apply bd_128; omega))); done)); (focus decide))) | decide | (show (_ : Int) ≠ 0; omega))))); (conv => whnf))))
        refine call_of h7 rfl ?_
        (((conv => whnf); repeat ((first | with_reducible refine ret_of ?_ | with_reducible refine ix_of at0 ?_ | with_reducible refine ix_of at1 ?_ | with_reducible refine ix_of at2 ?_ | with_reducible refine ix_of at3 ?_ | ((with_reducible apply isi_of); focus rfl) | refine pF ?_ | refine pT ?_ | ((with_reducible refine And.intro (len_le ?_) ?_); (focus (simp; done))) | ((with_reducible refine And.intro ?_ ?_); (focus (first | ((apply mul_b; (focus ((repeat' (first | assumption | apply bd_add | apply bd_sub | apply bd_mul | apply bd_neg | (apply bd_64; decide) | (apply bd_64; omega) | (apply bd_128; decide) | (apply bd_128; omega))); done)); (focus ((repeat' (first | assumption | apply bd_add | apply bd_sub | apply bd_mul | apply bd_neg | (apply bd_64; decide) | (apply bd_64; omega) | (apply bd_128; decide) | (apply bd_128; omega))); done)); (focus decide))) | ((apply div_b; (focus (first | decide | omega)); (focus ((repeat' (first | assumption | apply bd_add | apply bd_sub | apply bd_mul | apply bd_neg | (apply bd_64; decide) | (apply bd_64; omega) | (apply bd_128; decide) | (apply bd_128; omega))); done)); (focus decide))) | decide | (show (_ : Int) ≠ 0; omega))))); (conv => whnf))))
        rw [decide_eq_true (show (1 : Int) ≤ k0 by omega)]
        (((conv => whnf); repeat ((first | with_reducible refine ret_of ?_ | with_reducible refine ix_of at0 ?_ | with_reducible refine ix_of at1 ?_ | with_reducible refine ix_of at2 ?_ | with_reducible refine ix_of at3 ?_ | ((with_reducible apply isi_of); focus rfl) | refine pF ?_ | refine pT ?_ | ((with_reducible refine And.intro (len_le ?_) ?_); (focus (simp; done))) | ((with_reducible refine And.intro ?_ ?_); (focus (first | ((apply mul_b; (focus ((repeat' (first | assumption | apply bd_add | apply bd_sub | apply bd_mul | apply bd_neg | (apply bd_64; decide) | (apply bd_64; omega) | (apply bd_128; decide) | (apply bd_128; omega))); done)); (focus ((repeat' (first | assumption | apply bd_add | apply bd_sub | apply bd_mul | apply bd_neg | (apply bd_64; decide) | (apply bd_64; omega) | (apply bd_128; decide) | (apply bd_128; omega))); done)); (focus decide))) | ((apply div_b; (focus (first | decide | omega)); (focus ((repeat' (first | assumption | apply bd_add | apply bd_sub | apply bd_mul | apply bd_neg | (apply bd_64; decide) | (apply bd_64; omega) | (apply bd_128; decide) | (apply bd_128; omega))); done)); (focus decide))) | decide | (show (_ : Int) ≠ 0; omega))))); (conv => whnf))))
        rw [decide_eq_true (show (k0 : Int) ≤ 6 by omega)]
        refine ⟨lt, nxt true fun o => ?_⟩
        rcases o with (⟨b, e⟩ | e) | ⟨i, e, n⟩
        · cases e
        · cases e
        · cases e
          exact absurd ⟨by omega, by omega⟩ n
      · rcases o with o | ⟨i, rfl, n⟩
        · (((conv => whnf); repeat ((first | with_reducible refine ret_of ?_ | with_reducible refine ix_of at0 ?_ | with_reducible refine ix_of at1 ?_ | with_reducible refine ix_of at2 ?_ | with_reducible refine ix_of at3 ?_ | ((with_reducible apply isi_of); focus rfl) | refine pF ?_ | refine pT ?_ | ((with_reducible refine And.intro (len_le ?_) ?_); (focus (simp; done))) | ((with_reducible refine And.intro ?_ ?_); (focus (first | ((apply mul_b; (focus ((repeat' (first | assumption | apply bd_add | apply bd_sub | apply bd_mul | apply bd_neg | (apply bd_64; decide) | (apply bd_64; omega) | (apply bd_128; decide) | (apply bd_128; omega))); done)); (focus ((repeat' (first | assumption | apply bd_add | apply bd_sub | apply bd_mul | apply bd_neg | (apply bd_64; decide) | (apply bd_64; omega) | (apply bd_128; decide) | (apply bd_128; omega))); done)); (focus decide))) | ((apply div_b; (focus (first | decide | omega)); (focus ((repeat' (first | assumption | apply bd_add | apply bd_sub | apply bd_mul | apply bd_neg | (apply bd_64; decide) | (apply bd_64; omega) | (apply bd_128; decide) | (apply bd_128; omega))); done)); (focus decide))) | decide | (show (_ : Int) ≠ 0; omega))))); (conv => whnf))))
          refine whole_no h7 o ?_
          (((conv => whnf); repeat ((first | with_reducible refine ret_of ?_ | with_reducible refine ix_of at0 ?_ | with_reducible refine ix_of at1 ?_ | with_reducible refine ix_of at2 ?_ | with_reducible refine ix_of at3 ?_ | ((with_reducible apply isi_of); focus rfl) | refine pF ?_ | refine pT ?_ | ((with_reducible refine And.intro (len_le ?_) ?_); (focus (simp; done))) | ((with_reducible refine And.intro ?_ ?_); (focus (first | ((apply mul_b; (focus ((repeat' (first | assumption | apply bd_add | apply bd_sub | apply bd_mul | apply bd_neg | (apply bd_64; decide) | (apply bd_64; omega) | (apply bd_128; decide) | (apply bd_128; omega))); done)); (focus ((repeat' (first | assumption | apply bd_add | apply bd_sub | apply bd_mul | apply bd_neg | (apply bd_64; decide) | (apply bd_64; omega) | (apply bd_128; decide) | (apply bd_128; omega))); done)); (focus decide))) | ((apply div_b; (focus (first | decide | omega)); (focus ((repeat' (first | assumption | apply bd_add | apply bd_sub | apply bd_mul | apply bd_neg | (apply bd_64; decide) | (apply bd_64; omega) | (apply bd_128; decide) | (apply bd_128; omega))); done)); (focus decide))) | decide | (show (_ : Int) ≠ 0; omega))))); (conv => whnf))))
          exact ⟨lt, nxt false fun _ => rfl⟩
        · (((conv => whnf); repeat ((first | with_reducible refine ret_of ?_ | with_reducible refine ix_of at0 ?_ | with_reducible refine ix_of at1 ?_ | with_reducible refine ix_of at2 ?_ | with_reducible refine ix_of at3 ?_ | ((with_reducible apply isi_of); focus rfl) | refine pF ?_ | refine pT ?_ | ((with_reducible refine And.intro (len_le ?_) ?_); (focus (simp; done))) | ((with_reducible refine And.intro ?_ ?_); (focus (first | ((apply mul_b; (focus ((repeat' (first | assumption | apply bd_add | apply bd_sub | apply bd_mul | apply bd_neg | (apply bd_64; decide) | (apply bd_64; omega) | (apply bd_128; decide) | (apply bd_128; omega))); done)); (focus ((repeat' (first | assumption | apply bd_add | apply bd_sub | apply bd_mul | apply bd_neg | (apply bd_64; decide) | (apply bd_64; omega) | (apply bd_128; decide) | (apply bd_128; omega))); done)); (focus decide))) | ((apply div_b; (focus (first | decide | omega)); (focus ((repeat' (first | assumption | apply bd_add | apply bd_sub | apply bd_mul | apply bd_neg | (apply bd_64; decide) | (apply bd_64; omega) | (apply bd_128; decide) | (apply bd_128; omega))); done)); (focus decide))) | decide | (show (_ : Int) ≠ 0; omega))))); (conv => whnf))))
          refine call_of h7 rfl ?_
          (((conv => whnf); repeat ((first | with_reducible refine ret_of ?_ | with_reducible refine ix_of at0 ?_ | with_reducible refine ix_of at1 ?_ | with_reducible refine ix_of at2 ?_ | with_reducible refine ix_of at3 ?_ | ((with_reducible apply isi_of); focus rfl) | refine pF ?_ | refine pT ?_ | ((with_reducible refine And.intro (len_le ?_) ?_); (focus (simp; done))) | ((with_reducible refine And.intro ?_ ?_); (focus (first | ((apply mul_b; (focus ((repeat' (first | assumption | apply bd_add | apply bd_sub | apply bd_mul | apply bd_neg | (apply bd_64; decide) | (apply bd_64; omega) | (apply bd_128; decide) | (apply bd_128; omega))); done)); (focus ((repeat' (first | assumption | apply bd_add | apply bd_sub | apply bd_mul | apply bd_neg | (apply bd_64; decide) | (apply bd_64; omega) | (apply bd_128; decide) | (apply bd_128; omega))); done)); (focus decide))) | ((apply div_b; (focus (first | decide | omega)); (focus ((repeat' (first | assumption | apply bd_add | apply bd_sub | apply bd_mul | apply bd_neg | (apply bd_64; decide) | (apply bd_64; omega) | (apply bd_128; decide) | (apply bd_128; omega))); done)); (focus decide))) | decide | (show (_ : Int) ≠ 0; omega))))); (conv => whnf))))
          by_cases c : (1 : Int) ≤ i
          · rw [decide_eq_true c]
            (((conv => whnf); repeat ((first | with_reducible refine ret_of ?_ | with_reducible refine ix_of at0 ?_ | with_reducible refine ix_of at1 ?_ | with_reducible refine ix_of at2 ?_ | with_reducible refine ix_of at3 ?_ | ((with_reducible apply isi_of); focus rfl) | refine pF ?_ | refine pT ?_ | ((with_reducible refine And.intro (len_le ?_) ?_); (focus (simp; done))) | ((with_reducible refine And.intro ?_ ?_); (focus (first | ((apply mul_b; (focus ((repeat' (first | assumption | apply bd_add | apply bd_sub | apply bd_mul | apply bd_neg | (apply bd_64; decide) | (apply bd_64; omega) | (apply bd_128; decide) | (apply bd_128; omega))); done)); (focus ((repeat' (first | assumption | apply bd_add | apply bd_sub | apply bd_mul | apply bd_neg | (apply bd_64; decide) | (apply bd_64; omega) | (apply bd_128; decide) | (apply bd_128; omega))); done)); (focus decide))) | ((apply div_b; (focus (first | decide | omega)); (focus ((repeat' (first | assumption | apply bd_add | apply bd_sub | apply bd_mul | apply bd_neg | (apply bd_64; decide) | (apply bd_64; omega) | (apply bd_128; decide) | (apply bd_128; omega))); done)); (focus decide))) | decide | (show (_ : Int) ≠ 0; omega))))); (conv => whnf))))
            rw [decide_eq_false (show ¬ i ≤ 6 by omega)]
            exact ⟨lt, nxt false fun _ => rfl⟩
          · rw [decide_eq_false c]
            (((conv => whnf); repeat ((first | with_reducible refine ret_of ?_ | with_reducible refine ix_of at0 ?_ | with_reducible refine ix_of at1 ?_ | with_reducible refine ix_of at2 ?_ | with_reducible refine ix_of at3 ?_ | ((with_reducible apply isi_of); focus rfl) | refine pF ?_ | refine pT ?_ | ((with_reducible refine And.intro (len_le ?_) ?_); (focus (simp; done))) | ((with_reducible refine And.intro ?_ ?_); (focus (first | ((apply mul_b; (focus ((repeat' (first | assumption | apply bd_add | apply bd_sub | apply bd_mul | apply bd_neg | (apply bd_64; decide) | (apply bd_64; omega) | (apply bd_128; decide) | (apply bd_128; omega))); done)); (focus ((repeat' (first | assumption | apply bd_add | apply bd_sub | apply bd_mul | apply bd_neg | (apply bd_64; decide) | (apply bd_64; omega) | (apply bd_128; decide) | (apply bd_128; omega))); done)); (focus decide))) | ((apply div_b; (focus (first | decide | omega)); (focus ((repeat' (first | assumption | apply bd_add | apply bd_sub | apply bd_mul | apply bd_neg | (apply bd_64; decide) | (apply bd_64; omega) | (apply bd_128; decide) | (apply bd_128; omega))); done)); (focus decide))) | decide | (show (_ : Int) ≠ 0; omega))))); (conv => whnf))))
            exact ⟨lt, nxt false fun _ => rfl⟩
    · obtain ⟨bs, rfl, lb, rfl, hb⟩ := z
      obtain ⟨j, hj, ej⟩ := List.getElem_of_mem hx0
      have e := hb j x0 (by omega) (by rw [List.getElem?_eq_getElem hj, ej]) ox
      (((conv => whnf); repeat ((first | with_reducible refine ret_of ?_ | with_reducible refine ix_of at0 ?_ | with_reducible refine ix_of at1 ?_ | with_reducible refine ix_of at2 ?_ | with_reducible refine ix_of at3 ?_ | ((with_reducible apply isi_of); focus rfl) | refine pF ?_ | refine pT ?_ | ((with_reducible refine And.intro (len_le ?_) ?_); (focus (simp; done))) | ((with_reducible refine And.intro ?_ ?_); (focus (first | ((apply mul_b; (focus ((repeat' (first | assumption | apply bd_add | apply bd_sub | apply bd_mul | apply bd_neg | (apply bd_64; decide) | (apply bd_64; omega) | (apply bd_128; decide) | (apply bd_128; omega))); done)); (focus ((repeat' (first | assumption | apply bd_add | apply bd_sub | apply bd_mul | apply bd_neg | (apply bd_64; decide) | (apply bd_64; omega) | (apply bd_128; decide) | (apply bd_128; omega))); done)); (focus decide))) | ((apply div_b; (focus (first | decide | omega)); (focus ((repeat' (first | assumption | apply bd_add | apply bd_sub | apply bd_mul | apply bd_neg | (apply bd_64; decide) | (apply bd_64; omega) | (apply bd_128; decide) | (apply bd_128; omega))); done)); (focus decide))) | decide | (show (_ : Int) ≠ 0; omega))))); (conv => whnf))))
      refine ⟨bs, rfl, ?_⟩
      have : bs.all id = false := by
        rw [List.all_eq_false]
        exact ⟨false, List.mem_of_getElem? e, by simp⟩
      rw [this]
      (((conv => whnf); repeat ((first | with_reducible refine ret_of ?_ | with_reducible refine ix_of at0 ?_ | with_reducible refine ix_of at1 ?_ | with_reducible refine ix_of at2 ?_ | with_reducible refine ix_of at3 ?_ | ((with_reducible apply isi_of); focus rfl) | refine pF ?_ | refine pT ?_ | ((with_reducible refine And.intro (len_le ?_) ?_); (focus (simp; done))) | ((with_reducible refine And.intro ?_ ?_); (focus (first | ((apply mul_b; (focus ((repeat' (first | assumption | apply bd_add | apply bd_sub | apply bd_mul | apply bd_neg | (apply bd_64; decide) | (apply bd_64; omega) | (apply bd_128; decide) | (apply bd_128; omega))); done)); (focus ((repeat' (first | assumption | apply bd_add | apply bd_sub | apply bd_mul | apply bd_neg | (apply bd_64; decide) | (apply bd_64; omega) | (apply bd_128; decide) | (apply bd_128; omega))); done)); (focus decide))) | ((apply div_b; (focus (first | decide | omega)); (focus ((repeat' (first | assumption | apply bd_add | apply bd_sub | apply bd_mul | apply bd_neg | (apply bd_64; decide) | (apply bd_64; omega) | (apply bd_128; decide) | (apply bd_128; omega))); done)); (focus decide))) | decide | (show (_ : Int) ≠ 0; omega))))); (conv => whnf))))
      exact q
theorem are_kinds_no (hP : P 7 = some fn_is_whole ∧ P 13 = some fn_is_below ∧ P 15 = some fn_are_kinds) {d : D} {ks : List Nat} (k5 : ks.length ≤ 5) (o : BadKd ks h d) (q : Q (.bl false) h) : wpCall P (k + 3) 15 [.lst (ksD ks), d] h X Q := by
  obtain ⟨h7, h13, h15⟩ := hP
  have kl : (ksD ks).length = ks.length := by unfold ksD; rw [List.length_map]
  refine call_of h15 rfl ?_
  rcases o with e | ⟨ds, rfl, l | ⟨l, al, i0, x0, n0, e1, e2, o⟩⟩
  · (((conv => whnf); repeat ((first | refine cut_in ?_ | (first | with_reducible refine ret_of ?_ | with_reducible refine ix_of at0 ?_ | with_reducible refine ix_of at1 ?_ | with_reducible refine ix_of at2 ?_ | with_reducible refine ix_of at3 ?_ | ((with_reducible apply isi_of); focus rfl) | refine pF ?_ | refine pT ?_ | ((with_reducible refine And.intro (len_le ?_) ?_); (focus (simp; done))) | ((with_reducible refine And.intro ?_ ?_); (focus (first | ((apply mul_b; (focus ((repeat' (first | assumption | apply bd_add | apply bd_sub | apply bd_mul | apply bd_neg | (apply bd_64; decide) | (apply bd_64; omega) | (apply bd_128; decide) | (apply bd_128; omega))); done)); (focus ((repeat' (first | assumption | apply bd_add | apply bd_sub | apply bd_mul | apply bd_neg | (apply bd_64; decide) | (apply bd_64; omega) | (apply bd_128; decide) | (apply bd_128; omega))); done)); (focus decide))) | ((apply div_b; (focus (first | decide | omega)); (focus ((repeat' (first | assumption | apply bd_add | apply bd_sub | apply bd_mul | apply bd_neg | (apply bd_64; decide) | (apply bd_64; omega) | (apply bd_128; decide) | (apply bd_128; omega))); done)); (focus decide))) | decide | (show (_ : Int) ≠ 0; omega)))))); (conv => whnf))))
    refine isi_of e ?_
    (((conv => whnf); repeat ((first | refine cut_in ?_ | (first | with_reducible refine ret_of ?_ | with_reducible refine ix_of at0 ?_ | with_reducible refine ix_of at1 ?_ | with_reducible refine ix_of at2 ?_ | with_reducible refine ix_of at3 ?_ | ((with_reducible apply isi_of); focus rfl) | refine pF ?_ | refine pT ?_ | ((with_reducible refine And.intro (len_le ?_) ?_); (focus (simp; done))) | ((with_reducible refine And.intro ?_ ?_); (focus (first | ((apply mul_b; (focus ((repeat' (first | assumption | apply bd_add | apply bd_sub | apply bd_mul | apply bd_neg | (apply bd_64; decide) | (apply bd_64; omega) | (apply bd_128; decide) | (apply bd_128; omega))); done)); (focus ((repeat' (first | assumption | apply bd_add | apply bd_sub | apply bd_mul | apply bd_neg | (apply bd_64; decide) | (apply bd_64; omega) | (apply bd_128; decide) | (apply bd_128; omega))); done)); (focus decide))) | ((apply div_b; (focus (first | decide | omega)); (focus ((repeat' (first | assumption | apply bd_add | apply bd_sub | apply bd_mul | apply bd_neg | (apply bd_64; decide) | (apply bd_64; omega) | (apply bd_128; decide) | (apply bd_128; omega))); done)); (focus decide))) | decide | (show (_ : Int) ≠ 0; omega)))))); (conv => whnf))))
    exact q
  · (((conv => whnf); repeat ((first | refine cut_in ?_ | (first | with_reducible refine ret_of ?_ | with_reducible refine ix_of at0 ?_ | with_reducible refine ix_of at1 ?_ | with_reducible refine ix_of at2 ?_ | with_reducible refine ix_of at3 ?_ | ((with_reducible apply isi_of); focus rfl) | refine pF ?_ | refine pT ?_ | ((with_reducible refine And.intro (len_le ?_) ?_); (focus (simp; done))) | ((with_reducible refine And.intro ?_ ?_); (focus (first | ((apply mul_b; (focus ((repeat' (first | assumption | apply bd_add | apply bd_sub | apply bd_mul | apply bd_neg | (apply bd_64; decide) | (apply bd_64; omega) | (apply bd_128; decide) | (apply bd_128; omega))); done)); (focus ((repeat' (first | assumption | apply bd_add | apply bd_sub | apply bd_mul | apply bd_neg | (apply bd_64; decide) | (apply bd_64; omega) | (apply bd_128; decide) | (apply bd_128; omega))); done)); (focus decide))) | ((apply div_b; (focus (first | decide | omega)); (focus ((repeat' (first | assumption | apply bd_add | apply bd_sub | apply bd_mul | apply bd_neg | (apply bd_64; decide) | (apply bd_64; omega) | (apply bd_128; decide) | (apply bd_128; omega))); done)); (focus decide))) | decide | (show (_ : Int) ≠ 0; omega)))))); (conv => whnf))))
    rw [kl, decide_eq_false (show ¬ (ds.length : Int) = ks.length by omega)]
    (((conv => whnf); repeat ((first | refine cut_in ?_ | (first | with_reducible refine ret_of ?_ | with_reducible refine ix_of at0 ?_ | with_reducible refine ix_of at1 ?_ | with_reducible refine ix_of at2 ?_ | with_reducible refine ix_of at3 ?_ | ((with_reducible apply isi_of); focus rfl) | refine pF ?_ | refine pT ?_ | ((with_reducible refine And.intro (len_le ?_) ?_); (focus (simp; done))) | ((with_reducible refine And.intro ?_ ?_); (focus (first | ((apply mul_b; (focus ((repeat' (first | assumption | apply bd_add | apply bd_sub | apply bd_mul | apply bd_neg | (apply bd_64; decide) | (apply bd_64; omega) | (apply bd_128; decide) | (apply bd_128; omega))); done)); (focus ((repeat' (first | assumption | apply bd_add | apply bd_sub | apply bd_mul | apply bd_neg | (apply bd_64; decide) | (apply bd_64; omega) | (apply bd_128; decide) | (apply bd_128; omega))); done)); (focus decide))) | ((apply div_b; (focus (first | decide | omega)); (focus ((repeat' (first | assumption | apply bd_add | apply bd_sub | apply bd_mul | apply bd_neg | (apply bd_64; decide) | (apply bd_64; omega) | (apply bd_128; decide) | (apply bd_128; omega))); done)); (focus decide))) | decide | (show (_ : Int) ≠ 0; omega)))))); (conv => whnf))))
    exact q
  · (((conv => whnf); repeat ((first | refine cut_in ?_ | (first | with_reducible refine ret_of ?_ | with_reducible refine ix_of at0 ?_ | with_reducible refine ix_of at1 ?_ | with_reducible refine ix_of at2 ?_ | with_reducible refine ix_of at3 ?_ | ((with_reducible apply isi_of); focus rfl) | refine pF ?_ | refine pT ?_ | ((with_reducible refine And.intro (len_le ?_) ?_); (focus (simp; done))) | ((with_reducible refine And.intro ?_ ?_); (focus (first | ((apply mul_b; (focus ((repeat' (first | assumption | apply bd_add | apply bd_sub | apply bd_mul | apply bd_neg | (apply bd_64; decide) | (apply bd_64; omega) | (apply bd_128; decide) | (apply bd_128; omega))); done)); (focus ((repeat' (first | assumption | apply bd_add | apply bd_sub | apply bd_mul | apply bd_neg | (apply bd_64; decide) | (apply bd_64; omega) | (apply bd_128; decide) | (apply bd_128; omega))); done)); (focus decide))) | ((apply div_b; (focus (first | decide | omega)); (focus ((repeat' (first | assumption | apply bd_add | apply bd_sub | apply bd_mul | apply bd_neg | (apply bd_64; decide) | (apply bd_64; omega) | (apply bd_128; decide) | (apply bd_128; omega))); done)); (focus decide))) | decide | (show (_ : Int) ≠ 0; omega)))))); (conv => whnf))))
    rw [kl, decide_eq_true (show (ds.length : Int) = ks.length by omega)]
    (((conv => whnf); repeat ((first | refine cut_in ?_ | (first | with_reducible refine ret_of ?_ | with_reducible refine ix_of at0 ?_ | with_reducible refine ix_of at1 ?_ | with_reducible refine ix_of at2 ?_ | with_reducible refine ix_of at3 ?_ | ((with_reducible apply isi_of); focus rfl) | refine pF ?_ | refine pT ?_ | ((with_reducible refine And.intro (len_le ?_) ?_); (focus (simp; done))) | ((with_reducible refine And.intro ?_ ?_); (focus (first | ((apply mul_b; (focus ((repeat' (first | assumption | apply bd_add | apply bd_sub | apply bd_mul | apply bd_neg | (apply bd_64; decide) | (apply bd_64; omega) | (apply bd_128; decide) | (apply bd_128; omega))); done)); (focus ((repeat' (first | assumption | apply bd_add | apply bd_sub | apply bd_mul | apply bd_neg | (apply bd_64; decide) | (apply bd_64; omega) | (apply bd_128; decide) | (apply bd_128; omega))); done)); (focus decide))) | ((apply div_b; (focus (first | decide | omega)); (focus ((repeat' (first | assumption | apply bd_add | apply bd_sub | apply bd_mul | apply bd_neg | (apply bd_64; decide) | (apply bd_64; omega) | (apply bd_128; decide) | (apply bd_128; omega))); done)); (focus decide))) | decide | (show (_ : Int) ≠ 0; omega)))))); (conv => whnf))))
    refine compW_list (fun i acc h' => ∃ bs : List Bool, acc = bs.map D.bl ∧ bs.length = i ∧ h' = h ∧ i ≤ ks.length ∧ ∀ (j : Nat) x n, j < i → ds[j]? = some x → ks[j]? = some n → OddG n h x → bs[j]? = some false) (fun i x acc h' G hx z hG => ?_) (fun acc h' z => ?_) ⟨[], rfl, rfl, rfl, Nat.zero_le _, fun j x n z => absurd z (Nat.not_lt_zero _)⟩
    · obtain ⟨bs, rfl, rfl, rfl, hi, hb⟩ := z
      obtain ⟨u, v, hu, hv, rfl⟩ := zip_get hx
      unfold ksD at hv
      rw [List.getElem?_map] at hv
      obtain ⟨n, hn, rfl⟩ := Option.map_eq_some_iff.mp hv
      have hi' := (List.getElem?_eq_some_iff.mp hn).1
      have nxt : ∀ b : Bool, (OddG n h' u → b = false) → G (bs.map D.bl ++ [.bl b]) h' := fun b hbb => hG _ _ ⟨bs ++ [b], by rw [List.map_append]; rfl, by rw [List.length_append]; rfl, rfl, by omega, fun j y n' hj hy hn' oy => by
        by_cases c : j < bs.length
        · rw [List.getElem?_append_left c]; exact hb j y n' c hy hn' oy
        · have : j = bs.length := by omega
          subst this
          rw [hu] at hy
          cases hy
          rw [hn] at hn'
          cases hn'
          rw [List.getElem?_concat_length, hbb oy]⟩
      have lt : (bs.map D.bl).length < sizeLine := lt_line (by rw [List.length_map]; omega)
      (((conv => whnf); repeat ((first | with_reducible refine ret_of ?_ | with_reducible refine ix_of at0 ?_ | with_reducible refine ix_of at1 ?_ | with_reducible refine ix_of at2 ?_ | with_reducible refine ix_of at3 ?_ | ((with_reducible apply isi_of); focus rfl) | refine pF ?_ | refine pT ?_ | ((with_reducible refine And.intro (len_le ?_) ?_); (focus (simp; done))) | ((with_reducible refine And.intro ?_ ?_); (focus (first | ((apply mul_b; (focus ((repeat' (first | assumption | apply bd_add | apply bd_sub | apply bd_mul | apply bd_neg | (apply bd_64; decide) | (apply bd_64; omega) | (apply bd_128; decide) | (apply bd_128; omega))); done)); (focus ((repeat' (first | assumption | apply bd_add | apply bd_sub | apply bd_mul | apply bd_neg | (apply bd_64; decide) | (apply bd_64; omega) | (apply bd_128; decide) | (apply bd_128; omega))); done)); (focus decide))) | ((apply div_b; (focus (first | decide | omega)); (focus ((repeat' (first | assumption | apply bd_add | apply bd_sub | apply bd_mul | apply bd_neg | (apply bd_64; decide) | (apply bd_64; omega) | (apply bd_128; decide) | (apply bd_128; omega))); done)); (focus decide))) | decide | (show (_ : Int) ≠ 0; omega))))); (conv => whnf))))
      rcases al _ u n hu hn with ⟨a, rfl, ha⟩ | o
      · refine below_yes h7 h13 ha ?_
        refine ⟨lt, nxt true fun o => ?_⟩
        rcases o with ⟨i, e, ni⟩ | ⟨b, e⟩ | e
        · cases e
          exact absurd ⟨by omega, by omega⟩ ni
        · cases e
        · cases e
      · refine below_no h7 h13 o ?_
        exact ⟨lt, nxt false fun _ => rfl⟩
    · obtain ⟨bs, rfl, lb, rfl, hi, hb⟩ := z
      have hl := (List.getElem?_eq_some_iff.mp e2).1
      have e := hb i0 x0 n0 (by rw [zip_len, kl, l, Nat.min_self]; exact hl) e1 e2 o
      (((conv => whnf); repeat ((first | with_reducible refine ret_of ?_ | with_reducible refine ix_of at0 ?_ | with_reducible refine ix_of at1 ?_ | with_reducible refine ix_of at2 ?_ | with_reducible refine ix_of at3 ?_ | ((with_reducible apply isi_of); focus rfl) | refine pF ?_ | refine pT ?_ | ((with_reducible refine And.intro (len_le ?_) ?_); (focus (simp; done))) | ((with_reducible refine And.intro ?_ ?_); (focus (first | ((apply mul_b; (focus ((repeat' (first | assumption | apply bd_add | apply bd_sub | apply bd_mul | apply bd_neg | (apply bd_64; decide) | (apply bd_64; omega) | (apply bd_128; decide) | (apply bd_128; omega))); done)); (focus ((repeat' (first | assumption | apply bd_add | apply bd_sub | apply bd_mul | apply bd_neg | (apply bd_64; decide) | (apply bd_64; omega) | (apply bd_128; decide) | (apply bd_128; omega))); done)); (focus decide))) | ((apply div_b; (focus (first | decide | omega)); (focus ((repeat' (first | assumption | apply bd_add | apply bd_sub | apply bd_mul | apply bd_neg | (apply bd_64; decide) | (apply bd_64; omega) | (apply bd_128; decide) | (apply bd_128; omega))); done)); (focus decide))) | decide | (show (_ : Int) ≠ 0; omega))))); (conv => whnf))))
      refine ⟨bs, rfl, ?_⟩
      have : bs.all id = false := by
        rw [List.all_eq_false]
        exact ⟨false, List.mem_of_getElem? e, by simp⟩
      rw [this]
      (((conv => whnf); repeat ((first | with_reducible refine ret_of ?_ | with_reducible refine ix_of at0 ?_ | with_reducible refine ix_of at1 ?_ | with_reducible refine ix_of at2 ?_ | with_reducible refine ix_of at3 ?_ | ((with_reducible apply isi_of); focus rfl) | refine pF ?_ | refine pT ?_ | ((with_reducible refine And.intro (len_le ?_) ?_); (focus (simp; done))) | ((with_reducible refine And.intro ?_ ?_); (focus (first | ((apply mul_b; (focus ((repeat' (first | assumption | apply bd_add | apply bd_sub | apply bd_mul | apply bd_neg | (apply bd_64; decide) | (apply bd_64; omega) | (apply bd_128; decide) | (apply bd_128; omega))); done)); (focus ((repeat' (first | assumption | apply bd_add | apply bd_sub | apply bd_mul | apply bd_neg | (apply bd_64; decide) | (apply bd_64; omega) | (apply bd_128; decide) | (apply bd_128; omega))); done)); (focus decide))) | ((apply div_b; (focus (first | decide | omega)); (focus ((repeat' (first | assumption | apply bd_add | apply bd_sub | apply bd_mul | apply bd_neg | (apply bd_64; decide) | (apply bd_64; omega) | (apply bd_128; decide) | (apply bd_128; omega))); done)); (focus decide))) | decide | (show (_ : Int) ≠ 0; omega))))); (conv => whnf))))
      exact q
theorem is_cnt_no (hP : P 7 = some fn_is_whole ∧ P 8 = some fn_is_count) {t w : D} (o : BadCn h t w) (q : Q (.bl false) h) : wpCall P (k + 2) 8 [.tup [t, w]] h X Q := by
  obtain ⟨h7, h8⟩ := hP
  refine call_of h8 rfl ?_
  rcases o with o | ⟨⟨i, rfl⟩, o⟩ | ⟨i, j, rfl, rfl, n⟩
  · (((conv => whnf); repeat ((first | refine cut_in ?_ | (first | with_reducible refine ret_of ?_ | with_reducible refine ix_of at0 ?_ | with_reducible refine ix_of at1 ?_ | with_reducible refine ix_of at2 ?_ | with_reducible refine ix_of at3 ?_ | ((with_reducible apply isi_of); focus rfl) | refine pF ?_ | refine pT ?_ | ((with_reducible refine And.intro (len_le ?_) ?_); (focus (simp; done))) | ((with_reducible refine And.intro ?_ ?_); (focus (first | ((apply mul_b; (focus ((repeat' (first | assumption | apply bd_add | apply bd_sub | apply bd_mul | apply bd_neg | (apply bd_64; decide) | (apply bd_64; omega) | (apply bd_128; decide) | (apply bd_128; omega))); done)); (focus ((repeat' (first | assumption | apply bd_add | apply bd_sub | apply bd_mul | apply bd_neg | (apply bd_64; decide) | (apply bd_64; omega) | (apply bd_128; decide) | (apply bd_128; omega))); done)); (focus decide))) | ((apply div_b; (focus (first | decide | omega)); (focus ((repeat' (first | assumption | apply bd_add | apply bd_sub | apply bd_mul | apply bd_neg | (apply bd_64; decide) | (apply bd_64; omega) | (apply bd_128; decide) | (apply bd_128; omega))); done)); (focus decide))) | decide | (show (_ : Int) ≠ 0; omega)))))); (conv => whnf))))
    refine whole_no h7 o ?_
    (((conv => whnf); repeat ((first | refine cut_in ?_ | (first | with_reducible refine ret_of ?_ | with_reducible refine ix_of at0 ?_ | with_reducible refine ix_of at1 ?_ | with_reducible refine ix_of at2 ?_ | with_reducible refine ix_of at3 ?_ | ((with_reducible apply isi_of); focus rfl) | refine pF ?_ | refine pT ?_ | ((with_reducible refine And.intro (len_le ?_) ?_); (focus (simp; done))) | ((with_reducible refine And.intro ?_ ?_); (focus (first | ((apply mul_b; (focus ((repeat' (first | assumption | apply bd_add | apply bd_sub | apply bd_mul | apply bd_neg | (apply bd_64; decide) | (apply bd_64; omega) | (apply bd_128; decide) | (apply bd_128; omega))); done)); (focus ((repeat' (first | assumption | apply bd_add | apply bd_sub | apply bd_mul | apply bd_neg | (apply bd_64; decide) | (apply bd_64; omega) | (apply bd_128; decide) | (apply bd_128; omega))); done)); (focus decide))) | ((apply div_b; (focus (first | decide | omega)); (focus ((repeat' (first | assumption | apply bd_add | apply bd_sub | apply bd_mul | apply bd_neg | (apply bd_64; decide) | (apply bd_64; omega) | (apply bd_128; decide) | (apply bd_128; omega))); done)); (focus decide))) | decide | (show (_ : Int) ≠ 0; omega)))))); (conv => whnf))))
    exact q
  · (((conv => whnf); repeat ((first | refine cut_in ?_ | (first | with_reducible refine ret_of ?_ | with_reducible refine ix_of at0 ?_ | with_reducible refine ix_of at1 ?_ | with_reducible refine ix_of at2 ?_ | with_reducible refine ix_of at3 ?_ | ((with_reducible apply isi_of); focus rfl) | refine pF ?_ | refine pT ?_ | ((with_reducible refine And.intro (len_le ?_) ?_); (focus (simp; done))) | ((with_reducible refine And.intro ?_ ?_); (focus (first | ((apply mul_b; (focus ((repeat' (first | assumption | apply bd_add | apply bd_sub | apply bd_mul | apply bd_neg | (apply bd_64; decide) | (apply bd_64; omega) | (apply bd_128; decide) | (apply bd_128; omega))); done)); (focus ((repeat' (first | assumption | apply bd_add | apply bd_sub | apply bd_mul | apply bd_neg | (apply bd_64; decide) | (apply bd_64; omega) | (apply bd_128; decide) | (apply bd_128; omega))); done)); (focus decide))) | ((apply div_b; (focus (first | decide | omega)); (focus ((repeat' (first | assumption | apply bd_add | apply bd_sub | apply bd_mul | apply bd_neg | (apply bd_64; decide) | (apply bd_64; omega) | (apply bd_128; decide) | (apply bd_128; omega))); done)); (focus decide))) | decide | (show (_ : Int) ≠ 0; omega)))))); (conv => whnf))))
    refine call_of h7 rfl ?_
    (((conv => whnf); repeat ((first | refine cut_in ?_ | (first | with_reducible refine ret_of ?_ | with_reducible refine ix_of at0 ?_ | with_reducible refine ix_of at1 ?_ | with_reducible refine ix_of at2 ?_ | with_reducible refine ix_of at3 ?_ | ((with_reducible apply isi_of); focus rfl) | refine pF ?_ | refine pT ?_ | ((with_reducible refine And.intro (len_le ?_) ?_); (focus (simp; done))) | ((with_reducible refine And.intro ?_ ?_); (focus (first | ((apply mul_b; (focus ((repeat' (first | assumption | apply bd_add | apply bd_sub | apply bd_mul | apply bd_neg | (apply bd_64; decide) | (apply bd_64; omega) | (apply bd_128; decide) | (apply bd_128; omega))); done)); (focus ((repeat' (first | assumption | apply bd_add | apply bd_sub | apply bd_mul | apply bd_neg | (apply bd_64; decide) | (apply bd_64; omega) | (apply bd_128; decide) | (apply bd_128; omega))); done)); (focus decide))) | ((apply div_b; (focus (first | decide | omega)); (focus ((repeat' (first | assumption | apply bd_add | apply bd_sub | apply bd_mul | apply bd_neg | (apply bd_64; decide) | (apply bd_64; omega) | (apply bd_128; decide) | (apply bd_128; omega))); done)); (focus decide))) | decide | (show (_ : Int) ≠ 0; omega)))))); (conv => whnf))))
    refine whole_no h7 o ?_
    (((conv => whnf); repeat ((first | refine cut_in ?_ | (first | with_reducible refine ret_of ?_ | with_reducible refine ix_of at0 ?_ | with_reducible refine ix_of at1 ?_ | with_reducible refine ix_of at2 ?_ | with_reducible refine ix_of at3 ?_ | ((with_reducible apply isi_of); focus rfl) | refine pF ?_ | refine pT ?_ | ((with_reducible refine And.intro (len_le ?_) ?_); (focus (simp; done))) | ((with_reducible refine And.intro ?_ ?_); (focus (first | ((apply mul_b; (focus ((repeat' (first | assumption | apply bd_add | apply bd_sub | apply bd_mul | apply bd_neg | (apply bd_64; decide) | (apply bd_64; omega) | (apply bd_128; decide) | (apply bd_128; omega))); done)); (focus ((repeat' (first | assumption | apply bd_add | apply bd_sub | apply bd_mul | apply bd_neg | (apply bd_64; decide) | (apply bd_64; omega) | (apply bd_128; decide) | (apply bd_128; omega))); done)); (focus decide))) | ((apply div_b; (focus (first | decide | omega)); (focus ((repeat' (first | assumption | apply bd_add | apply bd_sub | apply bd_mul | apply bd_neg | (apply bd_64; decide) | (apply bd_64; omega) | (apply bd_128; decide) | (apply bd_128; omega))); done)); (focus decide))) | decide | (show (_ : Int) ≠ 0; omega)))))); (conv => whnf))))
    exact q
  · (((conv => whnf); repeat ((first | refine cut_in ?_ | (first | with_reducible refine ret_of ?_ | with_reducible refine ix_of at0 ?_ | with_reducible refine ix_of at1 ?_ | with_reducible refine ix_of at2 ?_ | with_reducible refine ix_of at3 ?_ | ((with_reducible apply isi_of); focus rfl) | refine pF ?_ | refine pT ?_ | ((with_reducible refine And.intro (len_le ?_) ?_); (focus (simp; done))) | ((with_reducible refine And.intro ?_ ?_); (focus (first | ((apply mul_b; (focus ((repeat' (first | assumption | apply bd_add | apply bd_sub | apply bd_mul | apply bd_neg | (apply bd_64; decide) | (apply bd_64; omega) | (apply bd_128; decide) | (apply bd_128; omega))); done)); (focus ((repeat' (first | assumption | apply bd_add | apply bd_sub | apply bd_mul | apply bd_neg | (apply bd_64; decide) | (apply bd_64; omega) | (apply bd_128; decide) | (apply bd_128; omega))); done)); (focus decide))) | ((apply div_b; (focus (first | decide | omega)); (focus ((repeat' (first | assumption | apply bd_add | apply bd_sub | apply bd_mul | apply bd_neg | (apply bd_64; decide) | (apply bd_64; omega) | (apply bd_128; decide) | (apply bd_128; omega))); done)); (focus decide))) | decide | (show (_ : Int) ≠ 0; omega)))))); (conv => whnf))))
    refine call_of h7 rfl ?_
    (((conv => whnf); repeat ((first | refine cut_in ?_ | (first | with_reducible refine ret_of ?_ | with_reducible refine ix_of at0 ?_ | with_reducible refine ix_of at1 ?_ | with_reducible refine ix_of at2 ?_ | with_reducible refine ix_of at3 ?_ | ((with_reducible apply isi_of); focus rfl) | refine pF ?_ | refine pT ?_ | ((with_reducible refine And.intro (len_le ?_) ?_); (focus (simp; done))) | ((with_reducible refine And.intro ?_ ?_); (focus (first | ((apply mul_b; (focus ((repeat' (first | assumption | apply bd_add | apply bd_sub | apply bd_mul | apply bd_neg | (apply bd_64; decide) | (apply bd_64; omega) | (apply bd_128; decide) | (apply bd_128; omega))); done)); (focus ((repeat' (first | assumption | apply bd_add | apply bd_sub | apply bd_mul | apply bd_neg | (apply bd_64; decide) | (apply bd_64; omega) | (apply bd_128; decide) | (apply bd_128; omega))); done)); (focus decide))) | ((apply div_b; (focus (first | decide | omega)); (focus ((repeat' (first | assumption | apply bd_add | apply bd_sub | apply bd_mul | apply bd_neg | (apply bd_64; decide) | (apply bd_64; omega) | (apply bd_128; decide) | (apply bd_128; omega))); done)); (focus decide))) | decide | (show (_ : Int) ≠ 0; omega)))))); (conv => whnf))))
    refine call_of h7 rfl ?_
    (((conv => whnf); repeat ((first | refine cut_in ?_ | (first | with_reducible refine ret_of ?_ | with_reducible refine ix_of at0 ?_ | with_reducible refine ix_of at1 ?_ | with_reducible refine ix_of at2 ?_ | with_reducible refine ix_of at3 ?_ | ((with_reducible apply isi_of); focus rfl) | refine pF ?_ | refine pT ?_ | ((with_reducible refine And.intro (len_le ?_) ?_); (focus (simp; done))) | ((with_reducible refine And.intro ?_ ?_); (focus (first | ((apply mul_b; (focus ((repeat' (first | assumption | apply bd_add | apply bd_sub | apply bd_mul | apply bd_neg | (apply bd_64; decide) | (apply bd_64; omega) | (apply bd_128; decide) | (apply bd_128; omega))); done)); (focus ((repeat' (first | assumption | apply bd_add | apply bd_sub | apply bd_mul | apply bd_neg | (apply bd_64; decide) | (apply bd_64; omega) | (apply bd_128; decide) | (apply bd_128; omega))); done)); (focus decide))) | ((apply div_b; (focus (first | decide | omega)); (focus ((repeat' (first | assumption | apply bd_add | apply bd_sub | apply bd_mul | apply bd_neg | (apply bd_64; decide) | (apply bd_64; omega) | (apply bd_128; decide) | (apply bd_128; omega))); done)); (focus decide))) | decide | (show (_ : Int) ≠ 0; omega)))))); (conv => whnf))))
    by_cases c : (0 : Int) ≤ j
    · rw [decide_eq_true c]
      (((conv => whnf); repeat ((first | refine cut_in ?_ | (first | with_reducible refine ret_of ?_ | with_reducible refine ix_of at0 ?_ | with_reducible refine ix_of at1 ?_ | with_reducible refine ix_of at2 ?_ | with_reducible refine ix_of at3 ?_ | ((with_reducible apply isi_of); focus rfl) | refine pF ?_ | refine pT ?_ | ((with_reducible refine And.intro (len_le ?_) ?_); (focus (simp; done))) | ((with_reducible refine And.intro ?_ ?_); (focus (first | ((apply mul_b; (focus ((repeat' (first | assumption | apply bd_add | apply bd_sub | apply bd_mul | apply bd_neg | (apply bd_64; decide) | (apply bd_64; omega) | (apply bd_128; decide) | (apply bd_128; omega))); done)); (focus ((repeat' (first | assumption | apply bd_add | apply bd_sub | apply bd_mul | apply bd_neg | (apply bd_64; decide) | (apply bd_64; omega) | (apply bd_128; decide) | (apply bd_128; omega))); done)); (focus decide))) | ((apply div_b; (focus (first | decide | omega)); (focus ((repeat' (first | assumption | apply bd_add | apply bd_sub | apply bd_mul | apply bd_neg | (apply bd_64; decide) | (apply bd_64; omega) | (apply bd_128; decide) | (apply bd_128; omega))); done)); (focus decide))) | decide | (show (_ : Int) ≠ 0; omega)))))); (conv => whnf))))
      rw [decide_eq_false (show ¬ j ≤ i by omega)]
      exact q
    · rw [decide_eq_false c]
      (((conv => whnf); repeat ((first | refine cut_in ?_ | (first | with_reducible refine ret_of ?_ | with_reducible refine ix_of at0 ?_ | with_reducible refine ix_of at1 ?_ | with_reducible refine ix_of at2 ?_ | with_reducible refine ix_of at3 ?_ | ((with_reducible apply isi_of); focus rfl) | refine pF ?_ | refine pT ?_ | ((with_reducible refine And.intro (len_le ?_) ?_); (focus (simp; done))) | ((with_reducible refine And.intro ?_ ?_); (focus (first | ((apply mul_b; (focus ((repeat' (first | assumption | apply bd_add | apply bd_sub | apply bd_mul | apply bd_neg | (apply bd_64; decide) | (apply bd_64; omega) | (apply bd_128; decide) | (apply bd_128; omega))); done)); (focus ((repeat' (first | assumption | apply bd_add | apply bd_sub | apply bd_mul | apply bd_neg | (apply bd_64; decide) | (apply bd_64; omega) | (apply bd_128; decide) | (apply bd_128; omega))); done)); (focus decide))) | ((apply div_b; (focus (first | decide | omega)); (focus ((repeat' (first | assumption | apply bd_add | apply bd_sub | apply bd_mul | apply bd_neg | (apply bd_64; decide) | (apply bd_64; omega) | (apply bd_128; decide) | (apply bd_128; omega))); done)); (focus decide))) | decide | (show (_ : Int) ≠ 0; omega)))))); (conv => whnf))))
      exact q
theorem is_row_no (hP : P 7 = some fn_is_whole ∧ P 8 = some fn_is_count ∧ P 13 = some fn_is_below ∧ P 15 = some fn_are_kinds ∧ P 16 = some fn_is_row) {m : Nat} {ks : List Nat} (k5 : ks.length ≤ 5) {d : D} (o : BadRw m ks h d) (q : Q (.bl false) h) : wpCall P (k + 4) 16 [.int (m : Int), .lst (ksD ks), d] h X Q := by
  obtain ⟨h7, h8, h13, h15, h16⟩ := hP
  refine call_of h16 rfl ?_
  cases o with
  | nt e =>
    (((conv => whnf); repeat ((first | refine cut_in ?_ | (first | with_reducible refine ret_of ?_ | with_reducible refine ix_of at0 ?_ | with_reducible refine ix_of at1 ?_ | with_reducible refine ix_of at2 ?_ | with_reducible refine ix_of at3 ?_ | ((with_reducible apply isi_of); focus rfl) | refine pF ?_ | refine pT ?_ | ((with_reducible refine And.intro (len_le ?_) ?_); (focus (simp; done))) | ((with_reducible refine And.intro ?_ ?_); (focus (first | ((apply mul_b; (focus ((repeat' (first | assumption | apply bd_add | apply bd_sub | apply bd_mul | apply bd_neg | (apply bd_64; decide) | (apply bd_64; omega) | (apply bd_128; decide) | (apply bd_128; omega))); done)); (focus ((repeat' (first | assumption | apply bd_add | apply bd_sub | apply bd_mul | apply bd_neg | (apply bd_64; decide) | (apply bd_64; omega) | (apply bd_128; decide) | (apply bd_128; omega))); done)); (focus decide))) | ((apply div_b; (focus (first | decide | omega)); (focus ((repeat' (first | assumption | apply bd_add | apply bd_sub | apply bd_mul | apply bd_neg | (apply bd_64; decide) | (apply bd_64; omega) | (apply bd_128; decide) | (apply bd_128; omega))); done)); (focus decide))) | decide | (show (_ : Int) ≠ 0; omega)))))); (conv => whnf))))
    refine isi_of e ?_
    (((conv => whnf); repeat ((first | refine cut_in ?_ | (first | with_reducible refine ret_of ?_ | with_reducible refine ix_of at0 ?_ | with_reducible refine ix_of at1 ?_ | with_reducible refine ix_of at2 ?_ | with_reducible refine ix_of at3 ?_ | ((with_reducible apply isi_of); focus rfl) | refine pF ?_ | refine pT ?_ | ((with_reducible refine And.intro (len_le ?_) ?_); (focus (simp; done))) | ((with_reducible refine And.intro ?_ ?_); (focus (first | ((apply mul_b; (focus ((repeat' (first | assumption | apply bd_add | apply bd_sub | apply bd_mul | apply bd_neg | (apply bd_64; decide) | (apply bd_64; omega) | (apply bd_128; decide) | (apply bd_128; omega))); done)); (focus ((repeat' (first | assumption | apply bd_add | apply bd_sub | apply bd_mul | apply bd_neg | (apply bd_64; decide) | (apply bd_64; omega) | (apply bd_128; decide) | (apply bd_128; omega))); done)); (focus decide))) | ((apply div_b; (focus (first | decide | omega)); (focus ((repeat' (first | assumption | apply bd_add | apply bd_sub | apply bd_mul | apply bd_neg | (apply bd_64; decide) | (apply bd_64; omega) | (apply bd_128; decide) | (apply bd_128; omega))); done)); (focus decide))) | decide | (show (_ : Int) ≠ 0; omega)))))); (conv => whnf))))
    exact q
  | len e l =>
    rename_i ds
    (((conv => whnf); repeat ((first | refine cut_in ?_ | (first | with_reducible refine ret_of ?_ | with_reducible refine ix_of at0 ?_ | with_reducible refine ix_of at1 ?_ | with_reducible refine ix_of at2 ?_ | with_reducible refine ix_of at3 ?_ | ((with_reducible apply isi_of); focus rfl) | refine pF ?_ | refine pT ?_ | ((with_reducible refine And.intro (len_le ?_) ?_); (focus (simp; done))) | ((with_reducible refine And.intro ?_ ?_); (focus (first | ((apply mul_b; (focus ((repeat' (first | assumption | apply bd_add | apply bd_sub | apply bd_mul | apply bd_neg | (apply bd_64; decide) | (apply bd_64; omega) | (apply bd_128; decide) | (apply bd_128; omega))); done)); (focus ((repeat' (first | assumption | apply bd_add | apply bd_sub | apply bd_mul | apply bd_neg | (apply bd_64; decide) | (apply bd_64; omega) | (apply bd_128; decide) | (apply bd_128; omega))); done)); (focus decide))) | ((apply div_b; (focus (first | decide | omega)); (focus ((repeat' (first | assumption | apply bd_add | apply bd_sub | apply bd_mul | apply bd_neg | (apply bd_64; decide) | (apply bd_64; omega) | (apply bd_128; decide) | (apply bd_128; omega))); done)); (focus decide))) | decide | (show (_ : Int) ≠ 0; omega)))))); (conv => whnf))))
    rw [decide_eq_false (show ¬ (ds.length : Int) = 4 by omega)]
    (((conv => whnf); repeat ((first | refine cut_in ?_ | (first | with_reducible refine ret_of ?_ | with_reducible refine ix_of at0 ?_ | with_reducible refine ix_of at1 ?_ | with_reducible refine ix_of at2 ?_ | with_reducible refine ix_of at3 ?_ | ((with_reducible apply isi_of); focus rfl) | refine pF ?_ | refine pT ?_ | ((with_reducible refine And.intro (len_le ?_) ?_); (focus (simp; done))) | ((with_reducible refine And.intro ?_ ?_); (focus (first | ((apply mul_b; (focus ((repeat' (first | assumption | apply bd_add | apply bd_sub | apply bd_mul | apply bd_neg | (apply bd_64; decide) | (apply bd_64; omega) | (apply bd_128; decide) | (apply bd_128; omega))); done)); (focus ((repeat' (first | assumption | apply bd_add | apply bd_sub | apply bd_mul | apply bd_neg | (apply bd_64; decide) | (apply bd_64; omega) | (apply bd_128; decide) | (apply bd_128; omega))); done)); (focus decide))) | ((apply div_b; (focus (first | decide | omega)); (focus ((repeat' (first | assumption | apply bd_add | apply bd_sub | apply bd_mul | apply bd_neg | (apply bd_64; decide) | (apply bd_64; omega) | (apply bd_128; decide) | (apply bd_128; omega))); done)); (focus decide))) | decide | (show (_ : Int) ≠ 0; omega)))))); (conv => whnf))))
    exact q
  | hs o =>
    (((conv => whnf); repeat ((first | refine cut_in ?_ | (first | with_reducible refine ret_of ?_ | with_reducible refine ix_of at0 ?_ | with_reducible refine ix_of at1 ?_ | with_reducible refine ix_of at2 ?_ | with_reducible refine ix_of at3 ?_ | ((with_reducible apply isi_of); focus rfl) | refine pF ?_ | refine pT ?_ | ((with_reducible refine And.intro (len_le ?_) ?_); (focus (simp; done))) | ((with_reducible refine And.intro ?_ ?_); (focus (first | ((apply mul_b; (focus ((repeat' (first | assumption | apply bd_add | apply bd_sub | apply bd_mul | apply bd_neg | (apply bd_64; decide) | (apply bd_64; omega) | (apply bd_128; decide) | (apply bd_128; omega))); done)); (focus ((repeat' (first | assumption | apply bd_add | apply bd_sub | apply bd_mul | apply bd_neg | (apply bd_64; decide) | (apply bd_64; omega) | (apply bd_128; decide) | (apply bd_128; omega))); done)); (focus decide))) | ((apply div_b; (focus (first | decide | omega)); (focus ((repeat' (first | assumption | apply bd_add | apply bd_sub | apply bd_mul | apply bd_neg | (apply bd_64; decide) | (apply bd_64; omega) | (apply bd_128; decide) | (apply bd_128; omega))); done)); (focus decide))) | decide | (show (_ : Int) ≠ 0; omega)))))); (conv => whnf))))
    refine below_no h7 h13 o ?_
    (((conv => whnf); repeat ((first | refine cut_in ?_ | (first | with_reducible refine ret_of ?_ | with_reducible refine ix_of at0 ?_ | with_reducible refine ix_of at1 ?_ | with_reducible refine ix_of at2 ?_ | with_reducible refine ix_of at3 ?_ | ((with_reducible apply isi_of); focus rfl) | refine pF ?_ | refine pT ?_ | ((with_reducible refine And.intro (len_le ?_) ?_); (focus (simp; done))) | ((with_reducible refine And.intro ?_ ?_); (focus (first | ((apply mul_b; (focus ((repeat' (first | assumption | apply bd_add | apply bd_sub | apply bd_mul | apply bd_neg | (apply bd_64; decide) | (apply bd_64; omega) | (apply bd_128; decide) | (apply bd_128; omega))); done)); (focus ((repeat' (first | assumption | apply bd_add | apply bd_sub | apply bd_mul | apply bd_neg | (apply bd_64; decide) | (apply bd_64; omega) | (apply bd_128; decide) | (apply bd_128; omega))); done)); (focus decide))) | ((apply div_b; (focus (first | decide | omega)); (focus ((repeat' (first | assumption | apply bd_add | apply bd_sub | apply bd_mul | apply bd_neg | (apply bd_64; decide) | (apply bd_64; omega) | (apply bd_128; decide) | (apply bd_128; omega))); done)); (focus decide))) | decide | (show (_ : Int) ≠ 0; omega)))))); (conv => whnf))))
    exact q
  | kd hj o =>
    (((conv => whnf); repeat ((first | refine cut_in ?_ | (first | with_reducible refine ret_of ?_ | with_reducible refine ix_of at0 ?_ | with_reducible refine ix_of at1 ?_ | with_reducible refine ix_of at2 ?_ | with_reducible refine ix_of at3 ?_ | ((with_reducible apply isi_of); focus rfl) | refine pF ?_ | refine pT ?_ | ((with_reducible refine And.intro (len_le ?_) ?_); (focus (simp; done))) | ((with_reducible refine And.intro ?_ ?_); (focus (first | ((apply mul_b; (focus ((repeat' (first | assumption | apply bd_add | apply bd_sub | apply bd_mul | apply bd_neg | (apply bd_64; decide) | (apply bd_64; omega) | (apply bd_128; decide) | (apply bd_128; omega))); done)); (focus ((repeat' (first | assumption | apply bd_add | apply bd_sub | apply bd_mul | apply bd_neg | (apply bd_64; decide) | (apply bd_64; omega) | (apply bd_128; decide) | (apply bd_128; omega))); done)); (focus decide))) | ((apply div_b; (focus (first | decide | omega)); (focus ((repeat' (first | assumption | apply bd_add | apply bd_sub | apply bd_mul | apply bd_neg | (apply bd_64; decide) | (apply bd_64; omega) | (apply bd_128; decide) | (apply bd_128; omega))); done)); (focus decide))) | decide | (show (_ : Int) ≠ 0; omega)))))); (conv => whnf))))
    refine below_yes h7 h13 hj ?_
    (((conv => whnf); repeat ((first | refine cut_in ?_ | (first | with_reducible refine ret_of ?_ | with_reducible refine ix_of at0 ?_ | with_reducible refine ix_of at1 ?_ | with_reducible refine ix_of at2 ?_ | with_reducible refine ix_of at3 ?_ | ((with_reducible apply isi_of); focus rfl) | refine pF ?_ | refine pT ?_ | ((with_reducible refine And.intro (len_le ?_) ?_); (focus (simp; done))) | ((with_reducible refine And.intro ?_ ?_); (focus (first | ((apply mul_b; (focus ((repeat' (first | assumption | apply bd_add | apply bd_sub | apply bd_mul | apply bd_neg | (apply bd_64; decide) | (apply bd_64; omega) | (apply bd_128; decide) | (apply bd_128; omega))); done)); (focus ((repeat' (first | assumption | apply bd_add | apply bd_sub | apply bd_mul | apply bd_neg | (apply bd_64; decide) | (apply bd_64; omega) | (apply bd_128; decide) | (apply bd_128; omega))); done)); (focus decide))) | ((apply div_b; (focus (first | decide | omega)); (focus ((repeat' (first | assumption | apply bd_add | apply bd_sub | apply bd_mul | apply bd_neg | (apply bd_64; decide) | (apply bd_64; omega) | (apply bd_128; decide) | (apply bd_128; omega))); done)); (focus decide))) | decide | (show (_ : Int) ≠ 0; omega)))))); (conv => whnf))))
    refine are_kinds_no ⟨h7, h13, h15⟩ k5 o ?_
    (((conv => whnf); repeat ((first | refine cut_in ?_ | (first | with_reducible refine ret_of ?_ | with_reducible refine ix_of at0 ?_ | with_reducible refine ix_of at1 ?_ | with_reducible refine ix_of at2 ?_ | with_reducible refine ix_of at3 ?_ | ((with_reducible apply isi_of); focus rfl) | refine pF ?_ | refine pT ?_ | ((with_reducible refine And.intro (len_le ?_) ?_); (focus (simp; done))) | ((with_reducible refine And.intro ?_ ?_); (focus (first | ((apply mul_b; (focus ((repeat' (first | assumption | apply bd_add | apply bd_sub | apply bd_mul | apply bd_neg | (apply bd_64; decide) | (apply bd_64; omega) | (apply bd_128; decide) | (apply bd_128; omega))); done)); (focus ((repeat' (first | assumption | apply bd_add | apply bd_sub | apply bd_mul | apply bd_neg | (apply bd_64; decide) | (apply bd_64; omega) | (apply bd_128; decide) | (apply bd_128; omega))); done)); (focus decide))) | ((apply div_b; (focus (first | decide | omega)); (focus ((repeat' (first | assumption | apply bd_add | apply bd_sub | apply bd_mul | apply bd_neg | (apply bd_64; decide) | (apply bd_64; omega) | (apply bd_128; decide) | (apply bd_128; omega))); done)); (focus decide))) | decide | (show (_ : Int) ≠ 0; omega)))))); (conv => whnf))))
    exact q
  | cn hj ky o =>
    (((conv => whnf); repeat ((first | refine cut_in ?_ | (first | with_reducible refine ret_of ?_ | with_reducible refine ix_of at0 ?_ | with_reducible refine ix_of at1 ?_ | with_reducible refine ix_of at2 ?_ | with_reducible refine ix_of at3 ?_ | ((with_reducible apply isi_of); focus rfl) | refine pF ?_ | refine pT ?_ | ((with_reducible refine And.intro (len_le ?_) ?_); (focus (simp; done))) | ((with_reducible refine And.intro ?_ ?_); (focus (first | ((apply mul_b; (focus ((repeat' (first | assumption | apply bd_add | apply bd_sub | apply bd_mul | apply bd_neg | (apply bd_64; decide) | (apply bd_64; omega) | (apply bd_128; decide) | (apply bd_128; omega))); done)); (focus ((repeat' (first | assumption | apply bd_add | apply bd_sub | apply bd_mul | apply bd_neg | (apply bd_64; decide) | (apply bd_64; omega) | (apply bd_128; decide) | (apply bd_128; omega))); done)); (focus decide))) | ((apply div_b; (focus (first | decide | omega)); (focus ((repeat' (first | assumption | apply bd_add | apply bd_sub | apply bd_mul | apply bd_neg | (apply bd_64; decide) | (apply bd_64; omega) | (apply bd_128; decide) | (apply bd_128; omega))); done)); (focus decide))) | decide | (show (_ : Int) ≠ 0; omega)))))); (conv => whnf))))
    refine below_yes h7 h13 hj ?_
    (((conv => whnf); repeat ((first | refine cut_in ?_ | (first | with_reducible refine ret_of ?_ | with_reducible refine ix_of at0 ?_ | with_reducible refine ix_of at1 ?_ | with_reducible refine ix_of at2 ?_ | with_reducible refine ix_of at3 ?_ | ((with_reducible apply isi_of); focus rfl) | refine pF ?_ | refine pT ?_ | ((with_reducible refine And.intro (len_le ?_) ?_); (focus (simp; done))) | ((with_reducible refine And.intro ?_ ?_); (focus (first | ((apply mul_b; (focus ((repeat' (first | assumption | apply bd_add | apply bd_sub | apply bd_mul | apply bd_neg | (apply bd_64; decide) | (apply bd_64; omega) | (apply bd_128; decide) | (apply bd_128; omega))); done)); (focus ((repeat' (first | assumption | apply bd_add | apply bd_sub | apply bd_mul | apply bd_neg | (apply bd_64; decide) | (apply bd_64; omega) | (apply bd_128; decide) | (apply bd_128; omega))); done)); (focus decide))) | ((apply div_b; (focus (first | decide | omega)); (focus ((repeat' (first | assumption | apply bd_add | apply bd_sub | apply bd_mul | apply bd_neg | (apply bd_64; decide) | (apply bd_64; omega) | (apply bd_128; decide) | (apply bd_128; omega))); done)); (focus decide))) | decide | (show (_ : Int) ≠ 0; omega)))))); (conv => whnf))))
    refine are_kinds_ok ⟨h7, h13, h15⟩ (.inr (.inl rfl)) k5 ky ?_
    (((conv => whnf); repeat ((first | refine cut_in ?_ | (first | with_reducible refine ret_of ?_ | with_reducible refine ix_of at0 ?_ | with_reducible refine ix_of at1 ?_ | with_reducible refine ix_of at2 ?_ | with_reducible refine ix_of at3 ?_ | ((with_reducible apply isi_of); focus rfl) | refine pF ?_ | refine pT ?_ | ((with_reducible refine And.intro (len_le ?_) ?_); (focus (simp; done))) | ((with_reducible refine And.intro ?_ ?_); (focus (first | ((apply mul_b; (focus ((repeat' (first | assumption | apply bd_add | apply bd_sub | apply bd_mul | apply bd_neg | (apply bd_64; decide) | (apply bd_64; omega) | (apply bd_128; decide) | (apply bd_128; omega))); done)); (focus ((repeat' (first | assumption | apply bd_add | apply bd_sub | apply bd_mul | apply bd_neg | (apply bd_64; decide) | (apply bd_64; omega) | (apply bd_128; decide) | (apply bd_128; omega))); done)); (focus decide))) | ((apply div_b; (focus (first | decide | omega)); (focus ((repeat' (first | assumption | apply bd_add | apply bd_sub | apply bd_mul | apply bd_neg | (apply bd_64; decide) | (apply bd_64; omega) | (apply bd_128; decide) | (apply bd_128; omega))); done)); (focus decide))) | decide | (show (_ : Int) ≠ 0; omega)))))); (conv => whnf))))
    refine is_cnt_no ⟨h7, h8⟩ o ?_
    (((conv => whnf); repeat ((first | refine cut_in ?_ | (first | with_reducible refine ret_of ?_ | with_reducible refine ix_of at0 ?_ | with_reducible refine ix_of at1 ?_ | with_reducible refine ix_of at2 ?_ | with_reducible refine ix_of at3 ?_ | ((with_reducible apply isi_of); focus rfl) | refine pF ?_ | refine pT ?_ | ((with_reducible refine And.intro (len_le ?_) ?_); (focus (simp; done))) | ((with_reducible refine And.intro ?_ ?_); (focus (first | ((apply mul_b; (focus ((repeat' (first | assumption | apply bd_add | apply bd_sub | apply bd_mul | apply bd_neg | (apply bd_64; decide) | (apply bd_64; omega) | (apply bd_128; decide) | (apply bd_128; omega))); done)); (focus ((repeat' (first | assumption | apply bd_add | apply bd_sub | apply bd_mul | apply bd_neg | (apply bd_64; decide) | (apply bd_64; omega) | (apply bd_128; decide) | (apply bd_128; omega))); done)); (focus decide))) | ((apply div_b; (focus (first | decide | omega)); (focus ((repeat' (first | assumption | apply bd_add | apply bd_sub | apply bd_mul | apply bd_neg | (apply bd_64; decide) | (apply bd_64; omega) | (apply bd_128; decide) | (apply bd_128; omega))); done)); (focus decide))) | decide | (show (_ : Int) ≠ 0; omega)))))); (conv => whnf))))
    exact q
  | big hj ky w0 wt o =>
    (((conv => whnf); repeat ((first | refine cut_in ?_ | (first | with_reducible refine ret_of ?_ | with_reducible refine ix_of at0 ?_ | with_reducible refine ix_of at1 ?_ | with_reducible refine ix_of at2 ?_ | with_reducible refine ix_of at3 ?_ | ((with_reducible apply isi_of); focus rfl) | refine pF ?_ | refine pT ?_ | ((with_reducible refine And.intro (len_le ?_) ?_); (focus (simp; done))) | ((with_reducible refine And.intro ?_ ?_); (focus (first | ((apply mul_b; (focus ((repeat' (first | assumption | apply bd_add | apply bd_sub | apply bd_mul | apply bd_neg | (apply bd_64; decide) | (apply bd_64; omega) | (apply bd_128; decide) | (apply bd_128; omega))); done)); (focus ((repeat' (first | assumption | apply bd_add | apply bd_sub | apply bd_mul | apply bd_neg | (apply bd_64; decide) | (apply bd_64; omega) | (apply bd_128; decide) | (apply bd_128; omega))); done)); (focus decide))) | ((apply div_b; (focus (first | decide | omega)); (focus ((repeat' (first | assumption | apply bd_add | apply bd_sub | apply bd_mul | apply bd_neg | (apply bd_64; decide) | (apply bd_64; omega) | (apply bd_128; decide) | (apply bd_128; omega))); done)); (focus decide))) | decide | (show (_ : Int) ≠ 0; omega)))))); (conv => whnf))))
    refine below_yes h7 h13 hj ?_
    (((conv => whnf); repeat ((first | refine cut_in ?_ | (first | with_reducible refine ret_of ?_ | with_reducible refine ix_of at0 ?_ | with_reducible refine ix_of at1 ?_ | with_reducible refine ix_of at2 ?_ | with_reducible refine ix_of at3 ?_ | ((with_reducible apply isi_of); focus rfl) | refine pF ?_ | refine pT ?_ | ((with_reducible refine And.intro (len_le ?_) ?_); (focus (simp; done))) | ((with_reducible refine And.intro ?_ ?_); (focus (first | ((apply mul_b; (focus ((repeat' (first | assumption | apply bd_add | apply bd_sub | apply bd_mul | apply bd_neg | (apply bd_64; decide) | (apply bd_64; omega) | (apply bd_128; decide) | (apply bd_128; omega))); done)); (focus ((repeat' (first | assumption | apply bd_add | apply bd_sub | apply bd_mul | apply bd_neg | (apply bd_64; decide) | (apply bd_64; omega) | (apply bd_128; decide) | (apply bd_128; omega))); done)); (focus decide))) | ((apply div_b; (focus (first | decide | omega)); (focus ((repeat' (first | assumption | apply bd_add | apply bd_sub | apply bd_mul | apply bd_neg | (apply bd_64; decide) | (apply bd_64; omega) | (apply bd_128; decide) | (apply bd_128; omega))); done)); (focus decide))) | decide | (show (_ : Int) ≠ 0; omega)))))); (conv => whnf))))
    refine are_kinds_ok ⟨h7, h13, h15⟩ (.inr (.inl rfl)) k5 ky ?_
    (((conv => whnf); repeat ((first | refine cut_in ?_ | (first | with_reducible refine ret_of ?_ | with_reducible refine ix_of at0 ?_ | with_reducible refine ix_of at1 ?_ | with_reducible refine ix_of at2 ?_ | with_reducible refine ix_of at3 ?_ | ((with_reducible apply isi_of); focus rfl) | refine pF ?_ | refine pT ?_ | ((with_reducible refine And.intro (len_le ?_) ?_); (focus (simp; done))) | ((with_reducible refine And.intro ?_ ?_); (focus (first | ((apply mul_b; (focus ((repeat' (first | assumption | apply bd_add | apply bd_sub | apply bd_mul | apply bd_neg | (apply bd_64; decide) | (apply bd_64; omega) | (apply bd_128; decide) | (apply bd_128; omega))); done)); (focus ((repeat' (first | assumption | apply bd_add | apply bd_sub | apply bd_mul | apply bd_neg | (apply bd_64; decide) | (apply bd_64; omega) | (apply bd_128; decide) | (apply bd_128; omega))); done)); (focus decide))) | ((apply div_b; (focus (first | decide | omega)); (focus ((repeat' (first | assumption | apply bd_add | apply bd_sub | apply bd_mul | apply bd_neg | (apply bd_64; decide) | (apply bd_64; omega) | (apply bd_128; decide) | (apply bd_128; omega))); done)); (focus decide))) | decide | (show (_ : Int) ≠ 0; omega)))))); (conv => whnf))))
    refine is_cnt_ok ⟨h7, h8⟩ w0 wt ?_
    (((conv => whnf); repeat ((first | refine cut_in ?_ | (first | with_reducible refine ret_of ?_ | with_reducible refine ix_of at0 ?_ | with_reducible refine ix_of at1 ?_ | with_reducible refine ix_of at2 ?_ | with_reducible refine ix_of at3 ?_ | ((with_reducible apply isi_of); focus rfl) | refine pF ?_ | refine pT ?_ | ((with_reducible refine And.intro (len_le ?_) ?_); (focus (simp; done))) | ((with_reducible refine And.intro ?_ ?_); (focus (first | ((apply mul_b; (focus ((repeat' (first | assumption | apply bd_add | apply bd_sub | apply bd_mul | apply bd_neg | (apply bd_64; decide) | (apply bd_64; omega) | (apply bd_128; decide) | (apply bd_128; omega))); done)); (focus ((repeat' (first | assumption | apply bd_add | apply bd_sub | apply bd_mul | apply bd_neg | (apply bd_64; decide) | (apply bd_64; omega) | (apply bd_128; decide) | (apply bd_128; omega))); done)); (focus decide))) | ((apply div_b; (focus (first | decide | omega)); (focus ((repeat' (first | assumption | apply bd_add | apply bd_sub | apply bd_mul | apply bd_neg | (apply bd_64; decide) | (apply bd_64; omega) | (apply bd_128; decide) | (apply bd_128; omega))); done)); (focus decide))) | decide | (show (_ : Int) ≠ 0; omega)))))); (conv => whnf))))
    rw [decide_eq_false (by omega)]
    exact q
inductive BadBk (h : AH) : D → D → D → Prop
  | many {a b c : D} (o : OddN h a ∨ ∃ i : Int, a = .int i ∧ ¬ (2 ≤ i ∧ i ≤ 6)) : BadBk h a b c
  | marks {m : Nat} {b c : D} (m2 : 2 ≤ m) (m6 : m ≤ 6) (o : BadMs h b) : BadBk h (.int (m : Int)) b c
  | rows {m : Nat} {ks : List Nat} {c : D} (m2 : 2 ≤ m) (m6 : m ≤ 6) (k5 : ks.length ≤ 5) (k6 : ∀ k ∈ ks, 1 ≤ k ∧ k ≤ 6) (o : BadL 60 h c) : BadBk h (.int (m : Int)) (.lst (ksD ks)) c
  | row {m : Nat} {ks : List Nat} {R : List Rw} {d : D} {rest : List D} (m2 : 2 ≤ m) (m6 : m ≤ 6) (k5 : ks.length ≤ 5) (k6 : ∀ k ∈ ks, 1 ≤ k ∧ k ≤ 6) (hR : ∀ r ∈ R, RwOk m ks r) (l : (R.map rwT ++ d :: rest).length ≤ 60) (o : ∀ hh, BadRw m ks hh d) : BadBk h (.int (m : Int)) (.lst (ksD ks)) (.lst (R.map rwT ++ d :: rest))
theorem book_of_no (hP : P 7 = some fn_is_whole ∧ P 8 = some fn_is_count ∧ P 9 = some fn_together ∧ P 12 = some fn_is_list ∧ P 13 = some fn_is_below ∧ P 14 = some fn_are_marks ∧ P 15 = some fn_are_kinds ∧ P 16 = some fn_is_row ∧ P 1455 = some fn_put_to_1455 ∧ P 1428 = some fn_book_by_1428 ∧ P 1456 = some fn_book_of_1456) {a b c : D} (o : BadBk h a b c) (qq : ∀ h', Sub h h' → X ⟨2, []⟩ h') : wpCall P (k + 5) 1456 [a, b, c] h X Q := by
  obtain ⟨h7, h8, h9, h12, h13, h14, h15, h16, h55, h28, h56⟩ := hP
  have q := qq h (sub_refl h)
  refine call_of h56 rfl ?_
  cases o with
  | many o =>
    rcases o with o | ⟨i, rfl, n⟩
    · (((conv => whnf); repeat ((first | refine cut_in ?_ | (first | with_reducible refine ret_of ?_ | with_reducible refine ix_of at0 ?_ | with_reducible refine ix_of at1 ?_ | with_reducible refine ix_of at2 ?_ | with_reducible refine ix_of at3 ?_ | ((with_reducible apply isi_of); focus rfl) | refine pF ?_ | refine pT ?_ | ((with_reducible refine And.intro (len_le ?_) ?_); (focus (simp; done))) | ((with_reducible refine And.intro ?_ ?_); (focus (first | ((apply mul_b; (focus ((repeat' (first | assumption | apply bd_add | apply bd_sub | apply bd_mul | apply bd_neg | (apply bd_64; decide) | (apply bd_64; omega) | (apply bd_128; decide) | (apply bd_128; omega))); done)); (focus ((repeat' (first | assumption | apply bd_add | apply bd_sub | apply bd_mul | apply bd_neg | (apply bd_64; decide) | (apply bd_64; omega) | (apply bd_128; decide) | (apply bd_128; omega))); done)); (focus decide))) | ((apply div_b; (focus (first | decide | omega)); (focus ((repeat' (first | assumption | apply bd_add | apply bd_sub | apply bd_mul | apply bd_neg | (apply bd_64; decide) | (apply bd_64; omega) | (apply bd_128; decide) | (apply bd_128; omega))); done)); (focus decide))) | decide | (show (_ : Int) ≠ 0; omega)))))); (conv => whnf))))
      refine whole_no h7 o ?_
      (((conv => whnf); repeat ((first | refine cut_in ?_ | (first | with_reducible refine ret_of ?_ | with_reducible refine ix_of at0 ?_ | with_reducible refine ix_of at1 ?_ | with_reducible refine ix_of at2 ?_ | with_reducible refine ix_of at3 ?_ | ((with_reducible apply isi_of); focus rfl) | refine pF ?_ | refine pT ?_ | ((with_reducible refine And.intro (len_le ?_) ?_); (focus (simp; done))) | ((with_reducible refine And.intro ?_ ?_); (focus (first | ((apply mul_b; (focus ((repeat' (first | assumption | apply bd_add | apply bd_sub | apply bd_mul | apply bd_neg | (apply bd_64; decide) | (apply bd_64; omega) | (apply bd_128; decide) | (apply bd_128; omega))); done)); (focus ((repeat' (first | assumption | apply bd_add | apply bd_sub | apply bd_mul | apply bd_neg | (apply bd_64; decide) | (apply bd_64; omega) | (apply bd_128; decide) | (apply bd_128; omega))); done)); (focus decide))) | ((apply div_b; (focus (first | decide | omega)); (focus ((repeat' (first | assumption | apply bd_add | apply bd_sub | apply bd_mul | apply bd_neg | (apply bd_64; decide) | (apply bd_64; omega) | (apply bd_128; decide) | (apply bd_128; omega))); done)); (focus decide))) | decide | (show (_ : Int) ≠ 0; omega)))))); (conv => whnf))))
      exact q
    · (((conv => whnf); repeat ((first | refine cut_in ?_ | (first | with_reducible refine ret_of ?_ | with_reducible refine ix_of at0 ?_ | with_reducible refine ix_of at1 ?_ | with_reducible refine ix_of at2 ?_ | with_reducible refine ix_of at3 ?_ | ((with_reducible apply isi_of); focus rfl) | refine pF ?_ | refine pT ?_ | ((with_reducible refine And.intro (len_le ?_) ?_); (focus (simp; done))) | ((with_reducible refine And.intro ?_ ?_); (focus (first | ((apply mul_b; (focus ((repeat' (first | assumption | apply bd_add | apply bd_sub | apply bd_mul | apply bd_neg | (apply bd_64; decide) | (apply bd_64; omega) | (apply bd_128; decide) | (apply bd_128; omega))); done)); (focus ((repeat' (first | assumption | apply bd_add | apply bd_sub | apply bd_mul | apply bd_neg | (apply bd_64; decide) | (apply bd_64; omega) | (apply bd_128; decide) | (apply bd_128; omega))); done)); (focus decide))) | ((apply div_b; (focus (first | decide | omega)); (focus ((repeat' (first | assumption | apply bd_add | apply bd_sub | apply bd_mul | apply bd_neg | (apply bd_64; decide) | (apply bd_64; omega) | (apply bd_128; decide) | (apply bd_128; omega))); done)); (focus decide))) | decide | (show (_ : Int) ≠ 0; omega)))))); (conv => whnf))))
      refine call_of h7 rfl ?_
      (((conv => whnf); repeat ((first | refine cut_in ?_ | (first | with_reducible refine ret_of ?_ | with_reducible refine ix_of at0 ?_ | with_reducible refine ix_of at1 ?_ | with_reducible refine ix_of at2 ?_ | with_reducible refine ix_of at3 ?_ | ((with_reducible apply isi_of); focus rfl) | refine pF ?_ | refine pT ?_ | ((with_reducible refine And.intro (len_le ?_) ?_); (focus (simp; done))) | ((with_reducible refine And.intro ?_ ?_); (focus (first | ((apply mul_b; (focus ((repeat' (first | assumption | apply bd_add | apply bd_sub | apply bd_mul | apply bd_neg | (apply bd_64; decide) | (apply bd_64; omega) | (apply bd_128; decide) | (apply bd_128; omega))); done)); (focus ((repeat' (first | assumption | apply bd_add | apply bd_sub | apply bd_mul | apply bd_neg | (apply bd_64; decide) | (apply bd_64; omega) | (apply bd_128; decide) | (apply bd_128; omega))); done)); (focus decide))) | ((apply div_b; (focus (first | decide | omega)); (focus ((repeat' (first | assumption | apply bd_add | apply bd_sub | apply bd_mul | apply bd_neg | (apply bd_64; decide) | (apply bd_64; omega) | (apply bd_128; decide) | (apply bd_128; omega))); done)); (focus decide))) | decide | (show (_ : Int) ≠ 0; omega)))))); (conv => whnf))))
      by_cases c : (2 : Int) ≤ i
      · rw [decide_eq_true c]
        (((conv => whnf); repeat ((first | refine cut_in ?_ | (first | with_reducible refine ret_of ?_ | with_reducible refine ix_of at0 ?_ | with_reducible refine ix_of at1 ?_ | with_reducible refine ix_of at2 ?_ | with_reducible refine ix_of at3 ?_ | ((with_reducible apply isi_of); focus rfl) | refine pF ?_ | refine pT ?_ | ((with_reducible refine And.intro (len_le ?_) ?_); (focus (simp; done))) | ((with_reducible refine And.intro ?_ ?_); (focus (first | ((apply mul_b; (focus ((repeat' (first | assumption | apply bd_add | apply bd_sub | apply bd_mul | apply bd_neg | (apply bd_64; decide) | (apply bd_64; omega) | (apply bd_128; decide) | (apply bd_128; omega))); done)); (focus ((repeat' (first | assumption | apply bd_add | apply bd_sub | apply bd_mul | apply bd_neg | (apply bd_64; decide) | (apply bd_64; omega) | (apply bd_128; decide) | (apply bd_128; omega))); done)); (focus decide))) | ((apply div_b; (focus (first | decide | omega)); (focus ((repeat' (first | assumption | apply bd_add | apply bd_sub | apply bd_mul | apply bd_neg | (apply bd_64; decide) | (apply bd_64; omega) | (apply bd_128; decide) | (apply bd_128; omega))); done)); (focus decide))) | decide | (show (_ : Int) ≠ 0; omega)))))); (conv => whnf))))
        rw [decide_eq_false (show ¬ i ≤ 6 by omega)]
        (((conv => whnf); repeat ((first | refine cut_in ?_ | (first | with_reducible refine ret_of ?_ | with_reducible refine ix_of at0 ?_ | with_reducible refine ix_of at1 ?_ | with_reducible refine ix_of at2 ?_ | with_reducible refine ix_of at3 ?_ | ((with_reducible apply isi_of); focus rfl) | refine pF ?_ | refine pT ?_ | ((with_reducible refine And.intro (len_le ?_) ?_); (focus (simp; done))) | ((with_reducible refine And.intro ?_ ?_); (focus (first | ((apply mul_b; (focus ((repeat' (first | assumption | apply bd_add | apply bd_sub | apply bd_mul | apply bd_neg | (apply bd_64; decide) | (apply bd_64; omega) | (apply bd_128; decide) | (apply bd_128; omega))); done)); (focus ((repeat' (first | assumption | apply bd_add | apply bd_sub | apply bd_mul | apply bd_neg | (apply bd_64; decide) | (apply bd_64; omega) | (apply bd_128; decide) | (apply bd_128; omega))); done)); (focus decide))) | ((apply div_b; (focus (first | decide | omega)); (focus ((repeat' (first | assumption | apply bd_add | apply bd_sub | apply bd_mul | apply bd_neg | (apply bd_64; decide) | (apply bd_64; omega) | (apply bd_128; decide) | (apply bd_128; omega))); done)); (focus decide))) | decide | (show (_ : Int) ≠ 0; omega)))))); (conv => whnf))))
        exact q
      · rw [decide_eq_false c]
        (((conv => whnf); repeat ((first | refine cut_in ?_ | (first | with_reducible refine ret_of ?_ | with_reducible refine ix_of at0 ?_ | with_reducible refine ix_of at1 ?_ | with_reducible refine ix_of at2 ?_ | with_reducible refine ix_of at3 ?_ | ((with_reducible apply isi_of); focus rfl) | refine pF ?_ | refine pT ?_ | ((with_reducible refine And.intro (len_le ?_) ?_); (focus (simp; done))) | ((with_reducible refine And.intro ?_ ?_); (focus (first | ((apply mul_b; (focus ((repeat' (first | assumption | apply bd_add | apply bd_sub | apply bd_mul | apply bd_neg | (apply bd_64; decide) | (apply bd_64; omega) | (apply bd_128; decide) | (apply bd_128; omega))); done)); (focus ((repeat' (first | assumption | apply bd_add | apply bd_sub | apply bd_mul | apply bd_neg | (apply bd_64; decide) | (apply bd_64; omega) | (apply bd_128; decide) | (apply bd_128; omega))); done)); (focus decide))) | ((apply div_b; (focus (first | decide | omega)); (focus ((repeat' (first | assumption | apply bd_add | apply bd_sub | apply bd_mul | apply bd_neg | (apply bd_64; decide) | (apply bd_64; omega) | (apply bd_128; decide) | (apply bd_128; omega))); done)); (focus decide))) | decide | (show (_ : Int) ≠ 0; omega)))))); (conv => whnf))))
        exact q
  | marks m2 m6 o =>
    rename_i m
    (((conv => whnf); repeat ((first | refine cut_in ?_ | (first | with_reducible refine ret_of ?_ | with_reducible refine ix_of at0 ?_ | with_reducible refine ix_of at1 ?_ | with_reducible refine ix_of at2 ?_ | with_reducible refine ix_of at3 ?_ | ((with_reducible apply isi_of); focus rfl) | refine pF ?_ | refine pT ?_ | ((with_reducible refine And.intro (len_le ?_) ?_); (focus (simp; done))) | ((with_reducible refine And.intro ?_ ?_); (focus (first | ((apply mul_b; (focus ((repeat' (first | assumption | apply bd_add | apply bd_sub | apply bd_mul | apply bd_neg | (apply bd_64; decide) | (apply bd_64; omega) | (apply bd_128; decide) | (apply bd_128; omega))); done)); (focus ((repeat' (first | assumption | apply bd_add | apply bd_sub | apply bd_mul | apply bd_neg | (apply bd_64; decide) | (apply bd_64; omega) | (apply bd_128; decide) | (apply bd_128; omega))); done)); (focus decide))) | ((apply div_b; (focus (first | decide | omega)); (focus ((repeat' (first | assumption | apply bd_add | apply bd_sub | apply bd_mul | apply bd_neg | (apply bd_64; decide) | (apply bd_64; omega) | (apply bd_128; decide) | (apply bd_128; omega))); done)); (focus decide))) | decide | (show (_ : Int) ≠ 0; omega)))))); (conv => whnf))))
    refine call_of h7 rfl ?_
    (((conv => whnf); repeat ((first | refine cut_in ?_ | (first | with_reducible refine ret_of ?_ | with_reducible refine ix_of at0 ?_ | with_reducible refine ix_of at1 ?_ | with_reducible refine ix_of at2 ?_ | with_reducible refine ix_of at3 ?_ | ((with_reducible apply isi_of); focus rfl) | refine pF ?_ | refine pT ?_ | ((with_reducible refine And.intro (len_le ?_) ?_); (focus (simp; done))) | ((with_reducible refine And.intro ?_ ?_); (focus (first | ((apply mul_b; (focus ((repeat' (first | assumption | apply bd_add | apply bd_sub | apply bd_mul | apply bd_neg | (apply bd_64; decide) | (apply bd_64; omega) | (apply bd_128; decide) | (apply bd_128; omega))); done)); (focus ((repeat' (first | assumption | apply bd_add | apply bd_sub | apply bd_mul | apply bd_neg | (apply bd_64; decide) | (apply bd_64; omega) | (apply bd_128; decide) | (apply bd_128; omega))); done)); (focus decide))) | ((apply div_b; (focus (first | decide | omega)); (focus ((repeat' (first | assumption | apply bd_add | apply bd_sub | apply bd_mul | apply bd_neg | (apply bd_64; decide) | (apply bd_64; omega) | (apply bd_128; decide) | (apply bd_128; omega))); done)); (focus decide))) | decide | (show (_ : Int) ≠ 0; omega)))))); (conv => whnf))))
    rw [decide_eq_true (show (2 : Int) ≤ m by omega)]
    (((conv => whnf); repeat ((first | refine cut_in ?_ | (first | with_reducible refine ret_of ?_ | with_reducible refine ix_of at0 ?_ | with_reducible refine ix_of at1 ?_ | with_reducible refine ix_of at2 ?_ | with_reducible refine ix_of at3 ?_ | ((with_reducible apply isi_of); focus rfl) | refine pF ?_ | refine pT ?_ | ((with_reducible refine And.intro (len_le ?_) ?_); (focus (simp; done))) | ((with_reducible refine And.intro ?_ ?_); (focus (first | ((apply mul_b; (focus ((repeat' (first | assumption | apply bd_add | apply bd_sub | apply bd_mul | apply bd_neg | (apply bd_64; decide) | (apply bd_64; omega) | (apply bd_128; decide) | (apply bd_128; omega))); done)); (focus ((repeat' (first | assumption | apply bd_add | apply bd_sub | apply bd_mul | apply bd_neg | (apply bd_64; decide) | (apply bd_64; omega) | (apply bd_128; decide) | (apply bd_128; omega))); done)); (focus decide))) | ((apply div_b; (focus (first | decide | omega)); (focus ((repeat' (first | assumption | apply bd_add | apply bd_sub | apply bd_mul | apply bd_neg | (apply bd_64; decide) | (apply bd_64; omega) | (apply bd_128; decide) | (apply bd_128; omega))); done)); (focus decide))) | decide | (show (_ : Int) ≠ 0; omega)))))); (conv => whnf))))
    rw [decide_eq_true (show (m : Int) ≤ 6 by omega)]
    (((conv => whnf); repeat ((first | refine cut_in ?_ | (first | with_reducible refine ret_of ?_ | with_reducible refine ix_of at0 ?_ | with_reducible refine ix_of at1 ?_ | with_reducible refine ix_of at2 ?_ | with_reducible refine ix_of at3 ?_ | ((with_reducible apply isi_of); focus rfl) | refine pF ?_ | refine pT ?_ | ((with_reducible refine And.intro (len_le ?_) ?_); (focus (simp; done))) | ((with_reducible refine And.intro ?_ ?_); (focus (first | ((apply mul_b; (focus ((repeat' (first | assumption | apply bd_add | apply bd_sub | apply bd_mul | apply bd_neg | (apply bd_64; decide) | (apply bd_64; omega) | (apply bd_128; decide) | (apply bd_128; omega))); done)); (focus ((repeat' (first | assumption | apply bd_add | apply bd_sub | apply bd_mul | apply bd_neg | (apply bd_64; decide) | (apply bd_64; omega) | (apply bd_128; decide) | (apply bd_128; omega))); done)); (focus decide))) | ((apply div_b; (focus (first | decide | omega)); (focus ((repeat' (first | assumption | apply bd_add | apply bd_sub | apply bd_mul | apply bd_neg | (apply bd_64; decide) | (apply bd_64; omega) | (apply bd_128; decide) | (apply bd_128; omega))); done)); (focus decide))) | decide | (show (_ : Int) ≠ 0; omega)))))); (conv => whnf))))
    refine are_marks_no ⟨h7, h12, h14⟩ o ?_
    (((conv => whnf); repeat ((first | refine cut_in ?_ | (first | with_reducible refine ret_of ?_ | with_reducible refine ix_of at0 ?_ | with_reducible refine ix_of at1 ?_ | with_reducible refine ix_of at2 ?_ | with_reducible refine ix_of at3 ?_ | ((with_reducible apply isi_of); focus rfl) | refine pF ?_ | refine pT ?_ | ((with_reducible refine And.intro (len_le ?_) ?_); (focus (simp; done))) | ((with_reducible refine And.intro ?_ ?_); (focus (first | ((apply mul_b; (focus ((repeat' (first | assumption | apply bd_add | apply bd_sub | apply bd_mul | apply bd_neg | (apply bd_64; decide) | (apply bd_64; omega) | (apply bd_128; decide) | (apply bd_128; omega))); done)); (focus ((repeat' (first | assumption | apply bd_add | apply bd_sub | apply bd_mul | apply bd_neg | (apply bd_64; decide) | (apply bd_64; omega) | (apply bd_128; decide) | (apply bd_128; omega))); done)); (focus decide))) | ((apply div_b; (focus (first | decide | omega)); (focus ((repeat' (first | assumption | apply bd_add | apply bd_sub | apply bd_mul | apply bd_neg | (apply bd_64; decide) | (apply bd_64; omega) | (apply bd_128; decide) | (apply bd_128; omega))); done)); (focus decide))) | decide | (show (_ : Int) ≠ 0; omega)))))); (conv => whnf))))
    exact q
  | rows m2 m6 k5 k6 o =>
    rename_i m ks
    (((conv => whnf); repeat ((first | refine cut_in ?_ | (first | with_reducible refine ret_of ?_ | with_reducible refine ix_of at0 ?_ | with_reducible refine ix_of at1 ?_ | with_reducible refine ix_of at2 ?_ | with_reducible refine ix_of at3 ?_ | ((with_reducible apply isi_of); focus rfl) | refine pF ?_ | refine pT ?_ | ((with_reducible refine And.intro (len_le ?_) ?_); (focus (simp; done))) | ((with_reducible refine And.intro ?_ ?_); (focus (first | ((apply mul_b; (focus ((repeat' (first | assumption | apply bd_add | apply bd_sub | apply bd_mul | apply bd_neg | (apply bd_64; decide) | (apply bd_64; omega) | (apply bd_128; decide) | (apply bd_128; omega))); done)); (focus ((repeat' (first | assumption | apply bd_add | apply bd_sub | apply bd_mul | apply bd_neg | (apply bd_64; decide) | (apply bd_64; omega) | (apply bd_128; decide) | (apply bd_128; omega))); done)); (focus decide))) | ((apply div_b; (focus (first | decide | omega)); (focus ((repeat' (first | assumption | apply bd_add | apply bd_sub | apply bd_mul | apply bd_neg | (apply bd_64; decide) | (apply bd_64; omega) | (apply bd_128; decide) | (apply bd_128; omega))); done)); (focus decide))) | decide | (show (_ : Int) ≠ 0; omega)))))); (conv => whnf))))
    refine call_of h7 rfl ?_
    (((conv => whnf); repeat ((first | refine cut_in ?_ | (first | with_reducible refine ret_of ?_ | with_reducible refine ix_of at0 ?_ | with_reducible refine ix_of at1 ?_ | with_reducible refine ix_of at2 ?_ | with_reducible refine ix_of at3 ?_ | ((with_reducible apply isi_of); focus rfl) | refine pF ?_ | refine pT ?_ | ((with_reducible refine And.intro (len_le ?_) ?_); (focus (simp; done))) | ((with_reducible refine And.intro ?_ ?_); (focus (first | ((apply mul_b; (focus ((repeat' (first | assumption | apply bd_add | apply bd_sub | apply bd_mul | apply bd_neg | (apply bd_64; decide) | (apply bd_64; omega) | (apply bd_128; decide) | (apply bd_128; omega))); done)); (focus ((repeat' (first | assumption | apply bd_add | apply bd_sub | apply bd_mul | apply bd_neg | (apply bd_64; decide) | (apply bd_64; omega) | (apply bd_128; decide) | (apply bd_128; omega))); done)); (focus decide))) | ((apply div_b; (focus (first | decide | omega)); (focus ((repeat' (first | assumption | apply bd_add | apply bd_sub | apply bd_mul | apply bd_neg | (apply bd_64; decide) | (apply bd_64; omega) | (apply bd_128; decide) | (apply bd_128; omega))); done)); (focus decide))) | decide | (show (_ : Int) ≠ 0; omega)))))); (conv => whnf))))
    rw [decide_eq_true (show (2 : Int) ≤ m by omega)]
    (((conv => whnf); repeat ((first | refine cut_in ?_ | (first | with_reducible refine ret_of ?_ | with_reducible refine ix_of at0 ?_ | with_reducible refine ix_of at1 ?_ | with_reducible refine ix_of at2 ?_ | with_reducible refine ix_of at3 ?_ | ((with_reducible apply isi_of); focus rfl) | refine pF ?_ | refine pT ?_ | ((with_reducible refine And.intro (len_le ?_) ?_); (focus (simp; done))) | ((with_reducible refine And.intro ?_ ?_); (focus (first | ((apply mul_b; (focus ((repeat' (first | assumption | apply bd_add | apply bd_sub | apply bd_mul | apply bd_neg | (apply bd_64; decide) | (apply bd_64; omega) | (apply bd_128; decide) | (apply bd_128; omega))); done)); (focus ((repeat' (first | assumption | apply bd_add | apply bd_sub | apply bd_mul | apply bd_neg | (apply bd_64; decide) | (apply bd_64; omega) | (apply bd_128; decide) | (apply bd_128; omega))); done)); (focus decide))) | ((apply div_b; (focus (first | decide | omega)); (focus ((repeat' (first | assumption | apply bd_add | apply bd_sub | apply bd_mul | apply bd_neg | (apply bd_64; decide) | (apply bd_64; omega) | (apply bd_128; decide) | (apply bd_128; omega))); done)); (focus decide))) | decide | (show (_ : Int) ≠ 0; omega)))))); (conv => whnf))))
    rw [decide_eq_true (show (m : Int) ≤ 6 by omega)]
    (((conv => whnf); repeat ((first | refine cut_in ?_ | (first | with_reducible refine ret_of ?_ | with_reducible refine ix_of at0 ?_ | with_reducible refine ix_of at1 ?_ | with_reducible refine ix_of at2 ?_ | with_reducible refine ix_of at3 ?_ | ((with_reducible apply isi_of); focus rfl) | refine pF ?_ | refine pT ?_ | ((with_reducible refine And.intro (len_le ?_) ?_); (focus (simp; done))) | ((with_reducible refine And.intro ?_ ?_); (focus (first | ((apply mul_b; (focus ((repeat' (first | assumption | apply bd_add | apply bd_sub | apply bd_mul | apply bd_neg | (apply bd_64; decide) | (apply bd_64; omega) | (apply bd_128; decide) | (apply bd_128; omega))); done)); (focus ((repeat' (first | assumption | apply bd_add | apply bd_sub | apply bd_mul | apply bd_neg | (apply bd_64; decide) | (apply bd_64; omega) | (apply bd_128; decide) | (apply bd_128; omega))); done)); (focus decide))) | ((apply div_b; (focus (first | decide | omega)); (focus ((repeat' (first | assumption | apply bd_add | apply bd_sub | apply bd_mul | apply bd_neg | (apply bd_64; decide) | (apply bd_64; omega) | (apply bd_128; decide) | (apply bd_128; omega))); done)); (focus decide))) | decide | (show (_ : Int) ≠ 0; omega)))))); (conv => whnf))))
    refine are_marks_ok ⟨h7, h12, h14⟩ (.inr (.inl rfl)) k5 k6 ?_
    (((conv => whnf); repeat ((first | refine cut_in ?_ | (first | with_reducible refine ret_of ?_ | with_reducible refine ix_of at0 ?_ | with_reducible refine ix_of at1 ?_ | with_reducible refine ix_of at2 ?_ | with_reducible refine ix_of at3 ?_ | ((with_reducible apply isi_of); focus rfl) | refine pF ?_ | refine pT ?_ | ((with_reducible refine And.intro (len_le ?_) ?_); (focus (simp; done))) | ((with_reducible refine And.intro ?_ ?_); (focus (first | ((apply mul_b; (focus ((repeat' (first | assumption | apply bd_add | apply bd_sub | apply bd_mul | apply bd_neg | (apply bd_64; decide) | (apply bd_64; omega) | (apply bd_128; decide) | (apply bd_128; omega))); done)); (focus ((repeat' (first | assumption | apply bd_add | apply bd_sub | apply bd_mul | apply bd_neg | (apply bd_64; decide) | (apply bd_64; omega) | (apply bd_128; decide) | (apply bd_128; omega))); done)); (focus decide))) | ((apply div_b; (focus (first | decide | omega)); (focus ((repeat' (first | assumption | apply bd_add | apply bd_sub | apply bd_mul | apply bd_neg | (apply bd_64; decide) | (apply bd_64; omega) | (apply bd_128; decide) | (apply bd_128; omega))); done)); (focus decide))) | decide | (show (_ : Int) ≠ 0; omega)))))); (conv => whnf))))
    refine is_list_no h12 (n := 60) o ?_
    (((conv => whnf); repeat ((first | refine cut_in ?_ | (first | with_reducible refine ret_of ?_ | with_reducible refine ix_of at0 ?_ | with_reducible refine ix_of at1 ?_ | with_reducible refine ix_of at2 ?_ | with_reducible refine ix_of at3 ?_ | ((with_reducible apply isi_of); focus rfl) | refine pF ?_ | refine pT ?_ | ((with_reducible refine And.intro (len_le ?_) ?_); (focus (simp; done))) | ((with_reducible refine And.intro ?_ ?_); (focus (first | ((apply mul_b; (focus ((repeat' (first | assumption | apply bd_add | apply bd_sub | apply bd_mul | apply bd_neg | (apply bd_64; decide) | (apply bd_64; omega) | (apply bd_128; decide) | (apply bd_128; omega))); done)); (focus ((repeat' (first | assumption | apply bd_add | apply bd_sub | apply bd_mul | apply bd_neg | (apply bd_64; decide) | (apply bd_64; omega) | (apply bd_128; decide) | (apply bd_128; omega))); done)); (focus decide))) | ((apply div_b; (focus (first | decide | omega)); (focus ((repeat' (first | assumption | apply bd_add | apply bd_sub | apply bd_mul | apply bd_neg | (apply bd_64; decide) | (apply bd_64; omega) | (apply bd_128; decide) | (apply bd_128; omega))); done)); (focus decide))) | decide | (show (_ : Int) ≠ 0; omega)))))); (conv => whnf))))
    exact q
  | row m2 m6 k5 k6 hR l o =>
    rename_i m ks R bad rest
    (((conv => whnf); repeat ((first | refine cut_in ?_ | (first | with_reducible refine ret_of ?_ | with_reducible refine ix_of at0 ?_ | with_reducible refine ix_of at1 ?_ | with_reducible refine ix_of at2 ?_ | with_reducible refine ix_of at3 ?_ | ((with_reducible apply isi_of); focus rfl) | refine pF ?_ | refine pT ?_ | ((with_reducible refine And.intro (len_le ?_) ?_); (focus (simp; done))) | ((with_reducible refine And.intro ?_ ?_); (focus (first | ((apply mul_b; (focus ((repeat' (first | assumption | apply bd_add | apply bd_sub | apply bd_mul | apply bd_neg | (apply bd_64; decide) | (apply bd_64; omega) | (apply bd_128; decide) | (apply bd_128; omega))); done)); (focus ((repeat' (first | assumption | apply bd_add | apply bd_sub | apply bd_mul | apply bd_neg | (apply bd_64; decide) | (apply bd_64; omega) | (apply bd_128; decide) | (apply bd_128; omega))); done)); (focus decide))) | ((apply div_b; (focus (first | decide | omega)); (focus ((repeat' (first | assumption | apply bd_add | apply bd_sub | apply bd_mul | apply bd_neg | (apply bd_64; decide) | (apply bd_64; omega) | (apply bd_128; decide) | (apply bd_128; omega))); done)); (focus decide))) | decide | (show (_ : Int) ≠ 0; omega)))))); (conv => whnf))))
    refine call_of h7 rfl ?_
    (((conv => whnf); repeat ((first | refine cut_in ?_ | (first | with_reducible refine ret_of ?_ | with_reducible refine ix_of at0 ?_ | with_reducible refine ix_of at1 ?_ | with_reducible refine ix_of at2 ?_ | with_reducible refine ix_of at3 ?_ | ((with_reducible apply isi_of); focus rfl) | refine pF ?_ | refine pT ?_ | ((with_reducible refine And.intro (len_le ?_) ?_); (focus (simp; done))) | ((with_reducible refine And.intro ?_ ?_); (focus (first | ((apply mul_b; (focus ((repeat' (first | assumption | apply bd_add | apply bd_sub | apply bd_mul | apply bd_neg | (apply bd_64; decide) | (apply bd_64; omega) | (apply bd_128; decide) | (apply bd_128; omega))); done)); (focus ((repeat' (first | assumption | apply bd_add | apply bd_sub | apply bd_mul | apply bd_neg | (apply bd_64; decide) | (apply bd_64; omega) | (apply bd_128; decide) | (apply bd_128; omega))); done)); (focus decide))) | ((apply div_b; (focus (first | decide | omega)); (focus ((repeat' (first | assumption | apply bd_add | apply bd_sub | apply bd_mul | apply bd_neg | (apply bd_64; decide) | (apply bd_64; omega) | (apply bd_128; decide) | (apply bd_128; omega))); done)); (focus decide))) | decide | (show (_ : Int) ≠ 0; omega)))))); (conv => whnf))))
    rw [decide_eq_true (show (2 : Int) ≤ m by omega)]
    (((conv => whnf); repeat ((first | refine cut_in ?_ | (first | with_reducible refine ret_of ?_ | with_reducible refine ix_of at0 ?_ | with_reducible refine ix_of at1 ?_ | with_reducible refine ix_of at2 ?_ | with_reducible refine ix_of at3 ?_ | ((with_reducible apply isi_of); focus rfl) | refine pF ?_ | refine pT ?_ | ((with_reducible refine And.intro (len_le ?_) ?_); (focus (simp; done))) | ((with_reducible refine And.intro ?_ ?_); (focus (first | ((apply mul_b; (focus ((repeat' (first | assumption | apply bd_add | apply bd_sub | apply bd_mul | apply bd_neg | (apply bd_64; decide) | (apply bd_64; omega) | (apply bd_128; decide) | (apply bd_128; omega))); done)); (focus ((repeat' (first | assumption | apply bd_add | apply bd_sub | apply bd_mul | apply bd_neg | (apply bd_64; decide) | (apply bd_64; omega) | (apply bd_128; decide) | (apply bd_128; omega))); done)); (focus decide))) | ((apply div_b; (focus (first | decide | omega)); (focus ((repeat' (first | assumption | apply bd_add | apply bd_sub | apply bd_mul | apply bd_neg | (apply bd_64; decide) | (apply bd_64; omega) | (apply bd_128; decide) | (apply bd_128; omega))); done)); (focus decide))) | decide | (show (_ : Int) ≠ 0; omega)))))); (conv => whnf))))
    rw [decide_eq_true (show (m : Int) ≤ 6 by omega)]
    (((conv => whnf); repeat ((first | refine cut_in ?_ | (first | with_reducible refine ret_of ?_ | with_reducible refine ix_of at0 ?_ | with_reducible refine ix_of at1 ?_ | with_reducible refine ix_of at2 ?_ | with_reducible refine ix_of at3 ?_ | ((with_reducible apply isi_of); focus rfl) | refine pF ?_ | refine pT ?_ | ((with_reducible refine And.intro (len_le ?_) ?_); (focus (simp; done))) | ((with_reducible refine And.intro ?_ ?_); (focus (first | ((apply mul_b; (focus ((repeat' (first | assumption | apply bd_add | apply bd_sub | apply bd_mul | apply bd_neg | (apply bd_64; decide) | (apply bd_64; omega) | (apply bd_128; decide) | (apply bd_128; omega))); done)); (focus ((repeat' (first | assumption | apply bd_add | apply bd_sub | apply bd_mul | apply bd_neg | (apply bd_64; decide) | (apply bd_64; omega) | (apply bd_128; decide) | (apply bd_128; omega))); done)); (focus decide))) | ((apply div_b; (focus (first | decide | omega)); (focus ((repeat' (first | assumption | apply bd_add | apply bd_sub | apply bd_mul | apply bd_neg | (apply bd_64; decide) | (apply bd_64; omega) | (apply bd_128; decide) | (apply bd_128; omega))); done)); (focus decide))) | decide | (show (_ : Int) ≠ 0; omega)))))); (conv => whnf))))
    refine are_marks_ok ⟨h7, h12, h14⟩ (.inr (.inl rfl)) k5 k6 ?_
    (((conv => whnf); repeat ((first | refine cut_in ?_ | (first | with_reducible refine ret_of ?_ | with_reducible refine ix_of at0 ?_ | with_reducible refine ix_of at1 ?_ | with_reducible refine ix_of at2 ?_ | with_reducible refine ix_of at3 ?_ | ((with_reducible apply isi_of); focus rfl) | refine pF ?_ | refine pT ?_ | ((with_reducible refine And.intro (len_le ?_) ?_); (focus (simp; done))) | ((with_reducible refine And.intro ?_ ?_); (focus (first | ((apply mul_b; (focus ((repeat' (first | assumption | apply bd_add | apply bd_sub | apply bd_mul | apply bd_neg | (apply bd_64; decide) | (apply bd_64; omega) | (apply bd_128; decide) | (apply bd_128; omega))); done)); (focus ((repeat' (first | assumption | apply bd_add | apply bd_sub | apply bd_mul | apply bd_neg | (apply bd_64; decide) | (apply bd_64; omega) | (apply bd_128; decide) | (apply bd_128; omega))); done)); (focus decide))) | ((apply div_b; (focus (first | decide | omega)); (focus ((repeat' (first | assumption | apply bd_add | apply bd_sub | apply bd_mul | apply bd_neg | (apply bd_64; decide) | (apply bd_64; omega) | (apply bd_128; decide) | (apply bd_128; omega))); done)); (focus decide))) | decide | (show (_ : Int) ≠ 0; omega)))))); (conv => whnf))))
    refine is_list_ok h12 (.inr (.inl rfl)) (n := 60) l ?_
    (((conv => whnf); repeat ((first | refine cut_in ?_ | (first | with_reducible refine ret_of ?_ | with_reducible refine ix_of at0 ?_ | with_reducible refine ix_of at1 ?_ | with_reducible refine ix_of at2 ?_ | with_reducible refine ix_of at3 ?_ | ((with_reducible apply isi_of); focus rfl) | refine pF ?_ | refine pT ?_ | ((with_reducible refine And.intro (len_le ?_) ?_); (focus (simp; done))) | ((with_reducible refine And.intro ?_ ?_); (focus (first | ((apply mul_b; (focus ((repeat' (first | assumption | apply bd_add | apply bd_sub | apply bd_mul | apply bd_neg | (apply bd_64; decide) | (apply bd_64; omega) | (apply bd_128; decide) | (apply bd_128; omega))); done)); (focus ((repeat' (first | assumption | apply bd_add | apply bd_sub | apply bd_mul | apply bd_neg | (apply bd_64; decide) | (apply bd_64; omega) | (apply bd_128; decide) | (apply bd_128; omega))); done)); (focus decide))) | ((apply div_b; (focus (first | decide | omega)); (focus ((repeat' (first | assumption | apply bd_add | apply bd_sub | apply bd_mul | apply bd_neg | (apply bd_64; decide) | (apply bd_64; omega) | (apply bd_128; decide) | (apply bd_128; omega))); done)); (focus decide))) | decide | (show (_ : Int) ≠ 0; omega)))))); (conv => whnf))))
    intro d hd
    have s0 : Sub h (put h d (.dct [])) := sub_new hd
    have dv0 : DV h (put h d (.dct [])) d [] (fun y => (cntsR m ([] : List Rw) y).map ct) := ⟨put_same, hd, List.nodup_nil, fun y z => (by cases z), fun _ _ _ z => (by cases z), s0⟩
    generalize put h d (.dct []) = h1 at *
    have rl : R.length ≤ 60 := by
      rw [List.length_append, List.length_map] at l
      omega
    (((conv => whnf); repeat ((first | refine cut_in ?_ | (first | with_reducible refine ret_of ?_ | with_reducible refine ix_of at0 ?_ | with_reducible refine ix_of at1 ?_ | with_reducible refine ix_of at2 ?_ | with_reducible refine ix_of at3 ?_ | ((with_reducible apply isi_of); focus rfl) | refine pF ?_ | refine pT ?_ | ((with_reducible refine And.intro (len_le ?_) ?_); (focus (simp; done))) | ((with_reducible refine And.intro ?_ ?_); (focus (first | ((apply mul_b; (focus ((repeat' (first | assumption | apply bd_add | apply bd_sub | apply bd_mul | apply bd_neg | (apply bd_64; decide) | (apply bd_64; omega) | (apply bd_128; decide) | (apply bd_128; omega))); done)); (focus ((repeat' (first | assumption | apply bd_add | apply bd_sub | apply bd_mul | apply bd_neg | (apply bd_64; decide) | (apply bd_64; omega) | (apply bd_128; decide) | (apply bd_128; omega))); done)); (focus decide))) | ((apply div_b; (focus (first | decide | omega)); (focus ((repeat' (first | assumption | apply bd_add | apply bd_sub | apply bd_mul | apply bd_neg | (apply bd_64; decide) | (apply bd_64; omega) | (apply bd_128; decide) | (apply bd_128; omega))); done)); (focus decide))) | decide | (show (_ : Int) ≠ 0; omega)))))); (conv => whnf))))
    refine forW_list (fun i v h' => i ≤ R.length ∧ ∃ (kvs : List (List Int × D)) (u4 u5 u6 u7 u8 : Option D), (∃ rd, v = [some (.int (m : Int)), some (.lst (ksD ks)), some rd, some (.ref d), u4, u5, u6, u7, u8]) ∧ DV h h' d kvs (fun y => (cntsR m (R.take i) y).map ct) ∧ kvs.length ≤ (R.take i).length ∧ ∀ y, y ∈ kvs.map (·.1) ↔ y ∈ (R.take i).map (·.2.1)) (fun i x v h' nx' hx z hn => ?_) (fun v h' z => ?_) ⟨Nat.zero_le _, [], _, _, _, _, _, ⟨_, rfl⟩, dv0, Nat.le_refl 0, fun y => Iff.rfl⟩
    · obtain ⟨hi, kvs, u4, u5, u6, u7, u8, ⟨rd, rfl⟩, dv, kl, km⟩ := z
      by_cases c : i < R.length
      · have hr : R[i]? = some R[i] := List.getElem?_eq_getElem c
        have ex : x = rwT R[i] := by
          rw [List.getElem?_append_left (by rw [List.length_map]; exact c), List.getElem?_map, hr] at hx
          exact (Option.some.inj hx).symm
        subst ex
        have ro := hR _ (List.getElem_mem c)
        have et : R.take (i + 1) = R.take i ++ [R[i]] := by rw [List.take_succ, hr]; rfl
        generalize R[i] = r at *
        (((conv => whnf); repeat ((first | refine cut_in ?_ | (first | with_reducible refine ret_of ?_ | with_reducible refine ix_of at0 ?_ | with_reducible refine ix_of at1 ?_ | with_reducible refine ix_of at2 ?_ | with_reducible refine ix_of at3 ?_ | ((with_reducible apply isi_of); focus rfl) | refine pF ?_ | refine pT ?_ | ((with_reducible refine And.intro (len_le ?_) ?_); (focus (simp; done))) | ((with_reducible refine And.intro ?_ ?_); (focus (first | ((apply mul_b; (focus ((repeat' (first | assumption | apply bd_add | apply bd_sub | apply bd_mul | apply bd_neg | (apply bd_64; decide) | (apply bd_64; omega) | (apply bd_128; decide) | (apply bd_128; omega))); done)); (focus ((repeat' (first | assumption | apply bd_add | apply bd_sub | apply bd_mul | apply bd_neg | (apply bd_64; decide) | (apply bd_64; omega) | (apply bd_128; decide) | (apply bd_128; omega))); done)); (focus decide))) | ((apply div_b; (focus (first | decide | omega)); (focus ((repeat' (first | assumption | apply bd_add | apply bd_sub | apply bd_mul | apply bd_neg | (apply bd_64; decide) | (apply bd_64; omega) | (apply bd_128; decide) | (apply bd_128; omega))); done)); (focus decide))) | decide | (show (_ : Int) ≠ 0; omega)))))); (conv => whnf))))
        refine is_row_ok ⟨h7, h8, h13, h15, h16⟩ (.inr (.inl rfl)) k5 ro ?_
        unfold rwT
        (((conv => whnf); repeat ((first | refine cut_in ?_ | (first | with_reducible refine ret_of ?_ | with_reducible refine ix_of at0 ?_ | with_reducible refine ix_of at1 ?_ | with_reducible refine ix_of at2 ?_ | with_reducible refine ix_of at3 ?_ | ((with_reducible apply isi_of); focus rfl) | refine pF ?_ | refine pT ?_ | ((with_reducible refine And.intro (len_le ?_) ?_); (focus (simp; done))) | ((with_reducible refine And.intro ?_ ?_); (focus (first | ((apply mul_b; (focus ((repeat' (first | assumption | apply bd_add | apply bd_sub | apply bd_mul | apply bd_neg | (apply bd_64; decide) | (apply bd_64; omega) | (apply bd_128; decide) | (apply bd_128; omega))); done)); (focus ((repeat' (first | assumption | apply bd_add | apply bd_sub | apply bd_mul | apply bd_neg | (apply bd_64; decide) | (apply bd_64; omega) | (apply bd_128; decide) | (apply bd_128; omega))); done)); (focus decide))) | ((apply div_b; (focus (first | decide | omega)); (focus ((repeat' (first | assumption | apply bd_add | apply bd_sub | apply bd_mul | apply bd_neg | (apply bd_64; decide) | (apply bd_64; omega) | (apply bd_128; decide) | (apply bd_128; omega))); done)); (focus decide))) | decide | (show (_ : Int) ≠ 0; omega)))))); (conv => whnf))))
        refine put_to_ok ⟨h9, h55⟩ m6 dv kl (by rw [List.length_take]; omega) km ro.hs fun kvs' h2 dv2 kl2 km2 => ?_
        (((conv => whnf); repeat ((first | with_reducible refine ret_of ?_ | with_reducible refine ix_of at0 ?_ | with_reducible refine ix_of at1 ?_ | with_reducible refine ix_of at2 ?_ | with_reducible refine ix_of at3 ?_ | ((with_reducible apply isi_of); focus rfl) | refine pF ?_ | refine pT ?_ | ((with_reducible refine And.intro (len_le ?_) ?_); (focus (simp; done))) | ((with_reducible refine And.intro ?_ ?_); (focus (first | ((apply mul_b; (focus ((repeat' (first | assumption | apply bd_add | apply bd_sub | apply bd_mul | apply bd_neg | (apply bd_64; decide) | (apply bd_64; omega) | (apply bd_128; decide) | (apply bd_128; omega))); done)); (focus ((repeat' (first | assumption | apply bd_add | apply bd_sub | apply bd_mul | apply bd_neg | (apply bd_64; decide) | (apply bd_64; omega) | (apply bd_128; decide) | (apply bd_128; omega))); done)); (focus decide))) | ((apply div_b; (focus (first | decide | omega)); (focus ((repeat' (first | assumption | apply bd_add | apply bd_sub | apply bd_mul | apply bd_neg | (apply bd_64; decide) | (apply bd_64; omega) | (apply bd_128; decide) | (apply bd_128; omega))); done)); (focus decide))) | decide | (show (_ : Int) ≠ 0; omega))))); (conv => whnf))))
        refine hn _ _ ⟨by omega, kvs', _, _, _, _, _, ⟨_, rfl⟩, ?_, ?_, ?_⟩
        · rw [et]; exact dv2
        · rw [et]; exact kl2
        · rw [et]; exact km2
      · have ei : i = R.length := by omega
        subst ei
        have ex : x = bad := by
          rw [List.getElem?_append_right (by rw [List.length_map]; omega), List.length_map, Nat.sub_self] at hx
          exact (Option.some.inj hx).symm
        subst ex
        (((conv => whnf); repeat ((first | refine cut_in ?_ | (first | with_reducible refine ret_of ?_ | with_reducible refine ix_of at0 ?_ | with_reducible refine ix_of at1 ?_ | with_reducible refine ix_of at2 ?_ | with_reducible refine ix_of at3 ?_ | ((with_reducible apply isi_of); focus rfl) | refine pF ?_ | refine pT ?_ | ((with_reducible refine And.intro (len_le ?_) ?_); (focus (simp; done))) | ((with_reducible refine And.intro ?_ ?_); (focus (first | ((apply mul_b; (focus ((repeat' (first | assumption | apply bd_add | apply bd_sub | apply bd_mul | apply bd_neg | (apply bd_64; decide) | (apply bd_64; omega) | (apply bd_128; decide) | (apply bd_128; omega))); done)); (focus ((repeat' (first | assumption | apply bd_add | apply bd_sub | apply bd_mul | apply bd_neg | (apply bd_64; decide) | (apply bd_64; omega) | (apply bd_128; decide) | (apply bd_128; omega))); done)); (focus decide))) | ((apply div_b; (focus (first | decide | omega)); (focus ((repeat' (first | assumption | apply bd_add | apply bd_sub | apply bd_mul | apply bd_neg | (apply bd_64; decide) | (apply bd_64; omega) | (apply bd_128; decide) | (apply bd_128; omega))); done)); (focus decide))) | decide | (show (_ : Int) ≠ 0; omega)))))); (conv => whnf))))
        refine is_row_no ⟨h7, h8, h13, h15, h16⟩ k5 (o _) ?_
        (((conv => whnf); repeat ((first | refine cut_in ?_ | (first | with_reducible refine ret_of ?_ | with_reducible refine ix_of at0 ?_ | with_reducible refine ix_of at1 ?_ | with_reducible refine ix_of at2 ?_ | with_reducible refine ix_of at3 ?_ | ((with_reducible apply isi_of); focus rfl) | refine pF ?_ | refine pT ?_ | ((with_reducible refine And.intro (len_le ?_) ?_); (focus (simp; done))) | ((with_reducible refine And.intro ?_ ?_); (focus (first | ((apply mul_b; (focus ((repeat' (first | assumption | apply bd_add | apply bd_sub | apply bd_mul | apply bd_neg | (apply bd_64; decide) | (apply bd_64; omega) | (apply bd_128; decide) | (apply bd_128; omega))); done)); (focus ((repeat' (first | assumption | apply bd_add | apply bd_sub | apply bd_mul | apply bd_neg | (apply bd_64; decide) | (apply bd_64; omega) | (apply bd_128; decide) | (apply bd_128; omega))); done)); (focus decide))) | ((apply div_b; (focus (first | decide | omega)); (focus ((repeat' (first | assumption | apply bd_add | apply bd_sub | apply bd_mul | apply bd_neg | (apply bd_64; decide) | (apply bd_64; omega) | (apply bd_128; decide) | (apply bd_128; omega))); done)); (focus decide))) | decide | (show (_ : Int) ≠ 0; omega)))))); (conv => whnf))))
        exact qq _ dv.sub
    · obtain ⟨hi, _⟩ := z
      rw [List.length_append, List.length_map, List.length_cons] at hi
      omega
end
end Ab
namespace Ab
open PySem PySem.Spec PyProof.Rows L2
def fn_pen : Fn := { name := "_law_pen", ps := ["_law_script"], N := ["_law_script"], body :=
  (.cons (.ret (.lst false (.cons (.var 0) (.cons (.int 0) (.cons (.int 0) .nil)))))
  .nil) }
def fn_next : Fn := { name := "_law_next", ps := ["_law_pen_here", "_law_many"], N := ["_law_pen_here", "_law_many", "_law_script", "_law_turn", "_law_left", "_law_cell", "_law_number"], body :=
  (.cons (.asg (.tup [(.var 2), (.var 3), (.var 4)]) (.var 0))
  (.cut (.cons (.ife (.cmp .eq (.var 4) (.int 0)) (.cons (.sub (.var 0) (.int 1) (.bin .add (.var 3) (.int 1)))
  (.cut (.cons (.ife (.or (.cons (.cmp .ge (.var 3) (.blt .len (.cons (.var 2) .nil))) (.cons (.cmp .lt (.ix (.var 2) (.var 3)) (.bin .pow (.int 10) (.int 18))) .nil))) (.cons (.asg (.var 5) (.int 17))
  (.cut (.cons (.ife (.cmp .gt (.blt .len (.cons (.var 2) .nil)) (.int 0)) (.cons (.asg (.var 5) (.bin .mod (.ix (.var 2) (.bin .mod (.var 3) (.blt .len (.cons (.var 2) .nil)))) (.int 2147483629)))
  .nil) .nil)
  (.cons (.asg (.var 6) (.bin .mod (.bin .mul (.bin .add (.bin .add (.var 5) (.bin .mul (.int 104395301) (.var 3))) (.int 29)) (.int 69621)) (.int 2147483647)))
  (.cons (.asg (.var 6) (.bin .mod (.bin .add (.bin .add (.bin .mul (.var 6) (.var 6)) (.bin .mul (.int 2003) (.var 3))) (.int 13)) (.int 2147483587)))
  (.cons (.ret (.bin .mod (.bin .fdiv (.bin .mod (.bin .mul (.var 6) (.bin .add (.var 6) (.int 16807))) (.int 2147483563)) (.int 19)) (.var 1)))
  .nil)))))) .nil)
  (.cons (.asg (.var 4) (.ix (.var 2) (.var 3)))
  .nil)))) .nil)
  (.cons (.sub (.var 0) (.int 2) (.bin .fdiv (.var 4) (.var 1)))
  (.cons (.ret (.bin .mod (.var 4) (.var 1)))
  .nil))))) }
def fn_law : Fn := { name := "law", ps := ["_law_script"], N := ["_law_script", "_law_pen_here", "_law_many", "_law_marks", "_law_rows_here", "_law_book", "_law_k"], body :=
  (.cons (.asg (.var 1) (.call 901 (.cons (.var 0) .nil)))
  (.cons (.asg (.var 2) (.bin .add (.int 2) (.call 900 (.cons (.var 1) (.cons (.int 5) .nil)))))
  (.cons (.asg (.var 3) (.comp true [6] (.var 6) .rng1 (.cons (.call 900 (.cons (.var 1) (.cons (.int 6) .nil))) .nil) .omit (.bin .add (.int 1) (.call 900 (.cons (.var 1) (.cons (.int 6) .nil))))))
  (.cons (.asg (.var 4) (.call 1025 (.cons (.var 1) (.cons (.var 2) (.cons (.var 3) .nil)))))
  (.cons (.asg (.var 5) (.call 1456 (.cons (.var 2) (.cons (.var 3) (.cons (.var 4) .nil)))))
  (.cut (.cons (.for (.var 6) .rng1 (.cons (.int 8) .nil) (.cons (.ife (.not (.call 1457 (.cons (.call 1517 (.cons (.var 1) (.cons (.lst true (.cons (.var 2) (.cons (.var 3) (.cons (.var 4) .nil)))) .nil))) .nil))) (.cons (.ret (.bl false))
  .nil) .nil)
  (.cons (.ife (.cmp .ne (.call 1456 (.cons (.var 2) (.cons (.var 3) (.cons (.var 4) .nil)))) (.var 5)) (.cons (.ret (.bl false))
  .nil) .nil)
  .nil)))
  (.cons (.ret (.bl true))
  .nil)))))))) }
-- is_whole=7 is_count=8 together=9 is_list=12 is_below=13 are_marks=14 are_kinds=15 is_row=16 put_to=1455 book_by=1428 book_of=1456 ~pen=901 ~next=900 ~rows=1025 ~bad_row=1516 ~spoilt=1517 ~refused=1457 law=999
def P0 : Nat → Option Fn := fun i => match i with
  | 7 => some fn_is_whole
  | 8 => some fn_is_count
  | 9 => some fn_together
  | 12 => some fn_is_list
  | 13 => some fn_is_below
  | 14 => some fn_are_marks
  | 15 => some fn_are_kinds
  | 16 => some fn_is_row
  | 1455 => some fn_put_to_1455
  | 1428 => some fn_book_by_1428
  | 1456 => some fn_book_of_1456
  | 901 => some fn_pen
  | 900 => some fn_next
  | 1025 => some lf_rows_1025
  | 1516 => some lf_bad_row_1516
  | 1517 => some lf_spoilt_1517
  | 1457 => some lf_refused_1457
  | 999 => some fn_law
  | _ => none
def clsL : List (Nat × Str) := [(0, "SumError"), (1, "NoRatio"), (2, "NoBook"), (3, "NoMark"), (4, "NoHouse"), (5, "NoShare"), (6, "NoTable"), (7, "NoWeights"), (8, "NoLead"), (9, "TooGreat"), (10, "NoText"), (11, "NoRow"), (12, "NoName"), (13, "NoBack")]
def G0 : Gbl := { fns := P0, cls := fun i => clsL.lookup i, pl := [0, 1, 2, 3, 4, 6, 7, 8, 9, 11, 12, 13], csts := [("MOST_HOUSES", c_MOST_HOUSES), ("MOST_MARKS", c_MOST_MARKS), ("MOST_KINDS", c_MOST_KINDS), ("MOST_ROWS", c_MOST_ROWS), ("MOST_TRIED", c_MOST_TRIED)], fl := [(5, ["part", "house"]), (10, ["line"])], lams := [], lmN := [], kt := false }
theorem nx : NxOk P0 := fun pen hB hm hm2 q => next_ok (P := P0) (i := 900) (fn := fn_next) (c0 := 17) (c1 := 104395301) (c2 := 29) (c3 := 69621) (c4 := 2003) (c5 := 13) (c6 := 16807) (c7 := 19) rfl rfl rfl rfl (by unfold NextC; decide) pen hB hm hm2 q
theorem pn : PnOk P0 := fun q => pen_ok (P := P0) (i := 901) (fn := fn_pen) rfl rfl rfl rfl q
end Ab
namespace Ab
open PySem PySem.Spec PyProof.Rows L2
theorem cutD_le (ds : List D) (lo hi : Option Int) : (cutD ds lo hi).length ≤ ds.length := by
  unfold cutD
  rw [List.length_take, List.length_drop]
  omega
theorem cutD_mem {ds : List D} {lo hi : Option Int} {x : D} (h : x ∈ cutD ds lo hi) : x ∈ ds := by
  unfold cutD at h
  exact List.mem_of_mem_drop (List.mem_of_mem_take h)
def zr (ks : List Nat) : List Int := ks.map fun _ => 0
theorem zr_ok {ks : List Nat} (k6 : ∀ k ∈ ks, 1 ≤ k ∧ k ≤ 6) : KOk ks (zr ks) := ⟨by unfold zr; rw [List.length_map], fun i x n e1 e2 => by
  unfold zr at e1
  rw [List.getElem?_map, e2] at e1
  cases e1
  have := k6 n (List.mem_of_getElem? e2)
  exact ⟨Int.le_refl 0, by show (0 : Int) < n; omega⟩⟩
theorem zr_D (ks : List Nat) : (ks.map fun _ => D.int 0) = (zr ks).map D.int := by
  unfold zr
  rw [List.map_map]; rfl
section
variable {k : Nat} {h : AH} {X : PX} {Q : PQ}
theorem rows25_ok {a : Addr} {ns : List Int} {B : Int} (pen : PenAt h a ns B) (hB : B < 2 ^ 80) {m : Nat} (m2 : 2 ≤ m) (m6 : m ≤ 6) {ks : List Nat} (k5 : ks.length ≤ 5) (k6 : ∀ k ∈ ks, 1 ≤ k ∧ k ≤ 6) (q : ∀ (R : List Rw) h', (∀ r ∈ R, RwOk m ks r) → R.length ≤ 9 → PenAt h' a ns (B + 1000) → Q (.lst (R.map rwT)) h') : wpCall P0 (k + 3) 1025 [.ref a, .int (m : Int), .lst (ksD ks)] h X Q := by
  refine call_of (fn := lf_rows_1025) rfl rfl ?_
  (((conv => whnf); repeat ((first | with_reducible refine ret_of ?_ | with_reducible refine ix_of at0 ?_ | with_reducible refine ix_of at1 ?_ | with_reducible refine ix_of at2 ?_ | with_reducible refine ix_of at3 ?_ | ((with_reducible apply isi_of); focus rfl) | refine pF ?_ | refine pT ?_ | ((with_reducible refine And.intro (len_le ?_) ?_); (focus (simp; done))) | ((with_reducible refine And.intro ?_ ?_); (focus (first | ((apply mul_b; (focus ((repeat' (first | assumption | apply bd_add | apply bd_sub | apply bd_mul | apply bd_neg | (apply bd_64; decide) | (apply bd_64; omega) | (apply bd_128; decide) | (apply bd_128; omega))); done)); (focus ((repeat' (first | assumption | apply bd_add | apply bd_sub | apply bd_mul | apply bd_neg | (apply bd_64; decide) | (apply bd_64; omega) | (apply bd_128; decide) | (apply bd_128; omega))); done)); (focus decide))) | ((apply div_b; (focus (first | decide | omega)); (focus ((repeat' (first | assumption | apply bd_add | apply bd_sub | apply bd_mul | apply bd_neg | (apply bd_64; decide) | (apply bd_64; omega) | (apply bd_128; decide) | (apply bd_128; omega))); done)); (focus decide))) | decide | (show (_ : Int) ≠ 0; omega))))); (conv => whnf))))
  intro f hf
  have fne := pen.ne hf
  have pen := pen.put (c := .lst []) fne
  have ef : put h f (.lst []) f = some (.lst (([] : List Rw).map rwT)) := put_same
  generalize put h f (.lst []) = h0 at *
  (((conv => whnf); repeat ((first | refine cut_in ?_ | (first | with_reducible refine ret_of ?_ | with_reducible refine ix_of at0 ?_ | with_reducible refine ix_of at1 ?_ | with_reducible refine ix_of at2 ?_ | with_reducible refine ix_of at3 ?_ | ((with_reducible apply isi_of); focus rfl) | refine pF ?_ | refine pT ?_ | ((with_reducible refine And.intro (len_le ?_) ?_); (focus (simp; done))) | ((with_reducible refine And.intro ?_ ?_); (focus (first | ((apply mul_b; (focus ((repeat' (first | assumption | apply bd_add | apply bd_sub | apply bd_mul | apply bd_neg | (apply bd_64; decide) | (apply bd_64; omega) | (apply bd_128; decide) | (apply bd_128; omega))); done)); (focus ((repeat' (first | assumption | apply bd_add | apply bd_sub | apply bd_mul | apply bd_neg | (apply bd_64; decide) | (apply bd_64; omega) | (apply bd_128; decide) | (apply bd_128; omega))); done)); (focus decide))) | ((apply div_b; (focus (first | decide | omega)); (focus ((repeat' (first | assumption | apply bd_add | apply bd_sub | apply bd_mul | apply bd_neg | (apply bd_64; decide) | (apply bd_64; omega) | (apply bd_128; decide) | (apply bd_128; omega))); done)); (focus decide))) | decide | (show (_ : Int) ≠ 0; omega)))))); (conv => whnf))))
  refine nx pen (by omega) (by decide) (by decide) fun x2 h3 a2 b2 pen o2 => ?_
  obtain ⟨n, rfl⟩ : ∃ n' : Nat, x2 = (n' : Int) := ⟨x2.toNat, by omega⟩
  have ef : h3 f = _ := (o2 f fne.symm).trans ef
  (((conv => whnf); repeat ((first | with_reducible refine ret_of ?_ | with_reducible refine ix_of at0 ?_ | with_reducible refine ix_of at1 ?_ | with_reducible refine ix_of at2 ?_ | with_reducible refine ix_of at3 ?_ | ((with_reducible apply isi_of); focus rfl) | refine pF ?_ | refine pT ?_ | ((with_reducible refine And.intro (len_le ?_) ?_); (focus (simp; done))) | ((with_reducible refine And.intro ?_ ?_); (focus (first | ((apply mul_b; (focus ((repeat' (first | assumption | apply bd_add | apply bd_sub | apply bd_mul | apply bd_neg | (apply bd_64; decide) | (apply bd_64; omega) | (apply bd_128; decide) | (apply bd_128; omega))); done)); (focus ((repeat' (first | assumption | apply bd_add | apply bd_sub | apply bd_mul | apply bd_neg | (apply bd_64; decide) | (apply bd_64; omega) | (apply bd_128; decide) | (apply bd_128; omega))); done)); (focus decide))) | ((apply div_b; (focus (first | decide | omega)); (focus ((repeat' (first | assumption | apply bd_add | apply bd_sub | apply bd_mul | apply bd_neg | (apply bd_64; decide) | (apply bd_64; omega) | (apply bd_128; decide) | (apply bd_128; omega))); done)); (focus decide))) | decide | (show (_ : Int) ≠ 0; omega))))); (conv => whnf))))
  refine ⟨⟨by omega, by omega⟩, ?_⟩
  rw [Int.toNat_natCast]
  refine forW_r (fun i v h' => ∃ (R : List Rw) (u4 u5 u6 : Option D), v = [some (.ref a), some (.int (m : Int)), some (.lst (ksD ks)), some (.ref f), u4, u5, u6] ∧ h' f = some (.lst (R.map rwT)) ∧ R.length = i ∧ (∀ r ∈ R, RwOk m ks r) ∧ PenAt h' a ns (B + 2 + 50 * i)) ?_ ?_ ⟨[], _, _, _, rfl, ef, rfl, fun _ z => (nomatch z), pen.mono (by omega)⟩
  · rintro i v h4 nx' hi ⟨R, u4, u5, u6, rfl, ef, lR, hR, pen⟩ hn
    unfold ksD
    (((conv => whnf); repeat ((first | with_reducible refine ret_of ?_ | with_reducible refine ix_of at0 ?_ | with_reducible refine ix_of at1 ?_ | with_reducible refine ix_of at2 ?_ | with_reducible refine ix_of at3 ?_ | ((with_reducible apply isi_of); focus rfl) | refine pF ?_ | refine pT ?_ | ((with_reducible refine And.intro (len_le ?_) ?_); (focus (simp; done))) | ((with_reducible refine And.intro ?_ ?_); (focus (first | ((apply mul_b; (focus ((repeat' (first | assumption | apply bd_add | apply bd_sub | apply bd_mul | apply bd_neg | (apply bd_64; decide) | (apply bd_64; omega) | (apply bd_128; decide) | (apply bd_128; omega))); done)); (focus ((repeat' (first | assumption | apply bd_add | apply bd_sub | apply bd_mul | apply bd_neg | (apply bd_64; decide) | (apply bd_64; omega) | (apply bd_128; decide) | (apply bd_128; omega))); done)); (focus decide))) | ((apply div_b; (focus (first | decide | omega)); (focus ((repeat' (first | assumption | apply bd_add | apply bd_sub | apply bd_mul | apply bd_neg | (apply bd_64; decide) | (apply bd_64; omega) | (apply bd_128; decide) | (apply bd_128; omega))); done)); (focus decide))) | decide | (show (_ : Int) ≠ 0; omega))))); (conv => whnf))))
    refine compW_drawK (fun (k : Nat) => D.int (k : Int)) D.int (fun k x => 0 ≤ x ∧ x < (k : Int)) 1 (by omega) pen (fun j b h8 acc G hj off pen hG => ?_) fun ys h8 ly hy pen off => ?_
    · (((conv => whnf); repeat ((first | with_reducible refine ret_of ?_ | with_reducible refine ix_of at0 ?_ | with_reducible refine ix_of at1 ?_ | with_reducible refine ix_of at2 ?_ | with_reducible refine ix_of at3 ?_ | ((with_reducible apply isi_of); focus rfl) | refine pF ?_ | refine pT ?_ | ((with_reducible refine And.intro (len_le ?_) ?_); (focus (simp; done))) | ((with_reducible refine And.intro ?_ ?_); (focus (first | ((apply mul_b; (focus ((repeat' (first | assumption | apply bd_add | apply bd_sub | apply bd_mul | apply bd_neg | (apply bd_64; decide) | (apply bd_64; omega) | (apply bd_128; decide) | (apply bd_128; omega))); done)); (focus ((repeat' (first | assumption | apply bd_add | apply bd_sub | apply bd_mul | apply bd_neg | (apply bd_64; decide) | (apply bd_64; omega) | (apply bd_128; decide) | (apply bd_128; omega))); done)); (focus decide))) | ((apply div_b; (focus (first | decide | omega)); (focus ((repeat' (first | assumption | apply bd_add | apply bd_sub | apply bd_mul | apply bd_neg | (apply bd_64; decide) | (apply bd_64; omega) | (apply bd_128; decide) | (apply bd_128; omega))); done)); (focus decide))) | decide | (show (_ : Int) ≠ 0; omega))))); (conv => whnf))))
      have := k6 b (List.mem_of_getElem? hj)
      have := (List.getElem?_eq_some_iff.mp hj).1
      refine nx pen (by omega) (by omega) (by omega) fun x8 h9 a9 b9 pen o9 => ?_
      exact hG x8 h9 ⟨a9, b9⟩ (pen.mono (by omega)) o9
    have ky : KOk ks ys := ⟨ly, fun i x n e1 e2 => hy i n x e2 e1⟩
    have ef : h8 f = _ := (off f fne.symm).trans ef
    (((conv => whnf); repeat ((first | with_reducible refine ret_of ?_ | with_reducible refine ix_of at0 ?_ | with_reducible refine ix_of at1 ?_ | with_reducible refine ix_of at2 ?_ | with_reducible refine ix_of at3 ?_ | ((with_reducible apply isi_of); focus rfl) | refine pF ?_ | refine pT ?_ | ((with_reducible refine And.intro (len_le ?_) ?_); (focus (simp; done))) | ((with_reducible refine And.intro ?_ ?_); (focus (first | ((apply mul_b; (focus ((repeat' (first | assumption | apply bd_add | apply bd_sub | apply bd_mul | apply bd_neg | (apply bd_64; decide) | (apply bd_64; omega) | (apply bd_128; decide) | (apply bd_128; omega))); done)); (focus ((repeat' (first | assumption | apply bd_add | apply bd_sub | apply bd_mul | apply bd_neg | (apply bd_64; decide) | (apply bd_64; omega) | (apply bd_128; decide) | (apply bd_128; omega))); done)); (focus decide))) | ((apply div_b; (focus (first | decide | omega)); (focus ((repeat' (first | assumption | apply bd_add | apply bd_sub | apply bd_mul | apply bd_neg | (apply bd_64; decide) | (apply bd_64; omega) | (apply bd_128; decide) | (apply bd_128; omega))); done)); (focus decide))) | decide | (show (_ : Int) ≠ 0; omega))))); (conv => whnf))))
    refine nx pen (by omega) (by decide) (by decide) fun y1 h9 a9 b9 pen o9 => ?_
    have ef : h9 f = _ := (o9 f fne.symm).trans ef
    (((conv => whnf); repeat ((first | with_reducible refine ret_of ?_ | with_reducible refine ix_of at0 ?_ | with_reducible refine ix_of at1 ?_ | with_reducible refine ix_of at2 ?_ | with_reducible refine ix_of at3 ?_ | ((with_reducible apply isi_of); focus rfl) | refine pF ?_ | refine pT ?_ | ((with_reducible refine And.intro (len_le ?_) ?_); (focus (simp; done))) | ((with_reducible refine And.intro ?_ ?_); (focus (first | ((apply mul_b; (focus ((repeat' (first | assumption | apply bd_add | apply bd_sub | apply bd_mul | apply bd_neg | (apply bd_64; decide) | (apply bd_64; omega) | (apply bd_128; decide) | (apply bd_128; omega))); done)); (focus ((repeat' (first | assumption | apply bd_add | apply bd_sub | apply bd_mul | apply bd_neg | (apply bd_64; decide) | (apply bd_64; omega) | (apply bd_128; decide) | (apply bd_128; omega))); done)); (focus decide))) | ((apply div_b; (focus (first | decide | omega)); (focus ((repeat' (first | assumption | apply bd_add | apply bd_sub | apply bd_mul | apply bd_neg | (apply bd_64; decide) | (apply bd_64; omega) | (apply bd_128; decide) | (apply bd_128; omega))); done)); (focus decide))) | decide | (show (_ : Int) ≠ 0; omega))))); (conv => whnf))))
    refine ⟨⟨_, ef⟩, ?_⟩
    (((conv => whnf); repeat ((first | with_reducible refine ret_of ?_ | with_reducible refine ix_of at0 ?_ | with_reducible refine ix_of at1 ?_ | with_reducible refine ix_of at2 ?_ | with_reducible refine ix_of at3 ?_ | ((with_reducible apply isi_of); focus rfl) | refine pF ?_ | refine pT ?_ | ((with_reducible refine And.intro (len_le ?_) ?_); (focus (simp; done))) | ((with_reducible refine And.intro ?_ ?_); (focus (first | ((apply mul_b; (focus ((repeat' (first | assumption | apply bd_add | apply bd_sub | apply bd_mul | apply bd_neg | (apply bd_64; decide) | (apply bd_64; omega) | (apply bd_128; decide) | (apply bd_128; omega))); done)); (focus ((repeat' (first | assumption | apply bd_add | apply bd_sub | apply bd_mul | apply bd_neg | (apply bd_64; decide) | (apply bd_64; omega) | (apply bd_128; decide) | (apply bd_128; omega))); done)); (focus decide))) | ((apply div_b; (focus (first | decide | omega)); (focus ((repeat' (first | assumption | apply bd_add | apply bd_sub | apply bd_mul | apply bd_neg | (apply bd_64; decide) | (apply bd_64; omega) | (apply bd_128; decide) | (apply bd_128; omega))); done)); (focus decide))) | decide | (show (_ : Int) ≠ 0; omega))))); (conv => whnf))))
    refine nx pen (by omega) (by omega) (by omega) fun y4 h12 a12 b12 pen o12 => ?_
    obtain ⟨j, rfl⟩ : ∃ n' : Nat, y4 = (n' : Int) := ⟨y4.toNat, by omega⟩
    (((conv => whnf); repeat ((first | with_reducible refine ret_of ?_ | with_reducible refine ix_of at0 ?_ | with_reducible refine ix_of at1 ?_ | with_reducible refine ix_of at2 ?_ | with_reducible refine ix_of at3 ?_ | ((with_reducible apply isi_of); focus rfl) | refine pF ?_ | refine pT ?_ | ((with_reducible refine And.intro (len_le ?_) ?_); (focus (simp; done))) | ((with_reducible refine And.intro ?_ ?_); (focus (first | ((apply mul_b; (focus ((repeat' (first | assumption | apply bd_add | apply bd_sub | apply bd_mul | apply bd_neg | (apply bd_64; decide) | (apply bd_64; omega) | (apply bd_128; decide) | (apply bd_128; omega))); done)); (focus ((repeat' (first | assumption | apply bd_add | apply bd_sub | apply bd_mul | apply bd_neg | (apply bd_64; decide) | (apply bd_64; omega) | (apply bd_128; decide) | (apply bd_128; omega))); done)); (focus decide))) | ((apply div_b; (focus (first | decide | omega)); (focus ((repeat' (first | assumption | apply bd_add | apply bd_sub | apply bd_mul | apply bd_neg | (apply bd_64; decide) | (apply bd_64; omega) | (apply bd_128; decide) | (apply bd_128; omega))); done)); (focus decide))) | decide | (show (_ : Int) ≠ 0; omega))))); (conv => whnf))))
    refine nx pen (by omega) (by omega) (by omega) fun y5 h13 a13 b13 pen o13 => ?_
    have ef : h13 f = _ := (o13 f fne.symm).trans ((o12 f fne.symm).trans ef)
    (((conv => whnf); repeat ((first | with_reducible refine ret_of ?_ | with_reducible refine ix_of at0 ?_ | with_reducible refine ix_of at1 ?_ | with_reducible refine ix_of at2 ?_ | with_reducible refine ix_of at3 ?_ | ((with_reducible apply isi_of); focus rfl) | refine pF ?_ | refine pT ?_ | ((with_reducible refine And.intro (len_le ?_) ?_); (focus (simp; done))) | ((with_reducible refine And.intro ?_ ?_); (focus (first | ((apply mul_b; (focus ((repeat' (first | assumption | apply bd_add | apply bd_sub | apply bd_mul | apply bd_neg | (apply bd_64; decide) | (apply bd_64; omega) | (apply bd_128; decide) | (apply bd_128; omega))); done)); (focus ((repeat' (first | assumption | apply bd_add | apply bd_sub | apply bd_mul | apply bd_neg | (apply bd_64; decide) | (apply bd_64; omega) | (apply bd_128; decide) | (apply bd_128; omega))); done)); (focus decide))) | ((apply div_b; (focus (first | decide | omega)); (focus ((repeat' (first | assumption | apply bd_add | apply bd_sub | apply bd_mul | apply bd_neg | (apply bd_64; decide) | (apply bd_64; omega) | (apply bd_128; decide) | (apply bd_128; omega))); done)); (focus decide))) | decide | (show (_ : Int) ≠ 0; omega))))); (conv => whnf))))
    refine ⟨_, ef, lt_line (by rw [List.length_map]; omega), ?_⟩
    (((conv => whnf); repeat ((first | with_reducible refine ret_of ?_ | with_reducible refine ix_of at0 ?_ | with_reducible refine ix_of at1 ?_ | with_reducible refine ix_of at2 ?_ | with_reducible refine ix_of at3 ?_ | ((with_reducible apply isi_of); focus rfl) | refine pF ?_ | refine pT ?_ | ((with_reducible refine And.intro (len_le ?_) ?_); (focus (simp; done))) | ((with_reducible refine And.intro ?_ ?_); (focus (first | ((apply mul_b; (focus ((repeat' (first | assumption | apply bd_add | apply bd_sub | apply bd_mul | apply bd_neg | (apply bd_64; decide) | (apply bd_64; omega) | (apply bd_128; decide) | (apply bd_128; omega))); done)); (focus ((repeat' (first | assumption | apply bd_add | apply bd_sub | apply bd_mul | apply bd_neg | (apply bd_64; decide) | (apply bd_64; omega) | (apply bd_128; decide) | (apply bd_128; omega))); done)); (focus decide))) | ((apply div_b; (focus (first | decide | omega)); (focus ((repeat' (first | assumption | apply bd_add | apply bd_sub | apply bd_mul | apply bd_neg | (apply bd_64; decide) | (apply bd_64; omega) | (apply bd_128; decide) | (apply bd_128; omega))); done)); (focus decide))) | decide | (show (_ : Int) ≠ 0; omega))))); (conv => whnf))))
    refine hn _ _ ⟨R ++ [(j, ys, y1, y5)], _, _, _, rfl, ?_, by rw [List.length_append, lR]; rfl, fun r hr => ?_, (pen.put fne).mono (by omega)⟩
    · rw [put_same, List.map_append]; rfl
    · rcases List.mem_append.mp hr with z | z
      · exact hR r z
      · rw [List.mem_singleton.mp z]
        exact ⟨by show j < m; omega, ky, a13, by show y5 ≤ y1; omega, by show y1 ≤ _; omega⟩
  · rintro v h4 ⟨R, u4, u5, u6, rfl, ef, lR, hR, pen⟩
    conv => whnf
    refine ⟨_, ef, ?_⟩
    conv => whnf
    exact ⟨_, sub_refl _, q R _ hR (by omega) (by
      refine (pen.cut fne).mono (by omega))⟩
abbrev Bad (m : Nat) (ks : List Nat) (d : D) : Prop := ∀ hh, BadRw m ks hh d
theorem bad_set {m : Nat} (m2 : 2 ≤ m) {ks : List Nat} (k6 : ∀ k ∈ ks, 1 ≤ k ∧ k ≤ 6) {t : Nat} {n : Nat} (ht : ks[t]? = some n) {x : D} (o : ∀ hh, OddG n hh x) : Bad m ks (.tup [.int 0, .tup (((zr ks).map D.int).set t x), .int 1, .int 1]) := fun hh => by
  have tl := (List.getElem?_eq_some_iff.mp ht).1
  have zl : ((zr ks).map D.int).length = ks.length := by rw [List.length_map, (zr_ok k6).1]
  refine .kd (j := 0) (by omega) (.inr ⟨_, rfl, .inr ⟨by rw [List.length_set, zl], fun i y n' e1 e2 => ?_, t, x, n, by rw [List.getElem?_set, if_pos rfl, if_pos (by omega)], ht, o hh⟩⟩)
  rw [List.getElem?_set] at e1
  by_cases c : t = i
  · rw [if_pos c, if_pos (by omega)] at e1
    cases e1
    subst c
    rw [ht] at e2
    cases e2
    exact .inr (o hh)
  · rw [if_neg c] at e1
    unfold zr at e1
    rw [List.getElem?_map, List.getElem?_map, e2] at e1
    cases e1
    have := k6 n' (List.mem_of_getElem? e2)
    exact .inl ⟨0, rfl, by omega⟩
theorem bad_len {m : Nat} (m2 : 2 ≤ m) {ks : List Nat} {ds : List D} {c d : D} (l : ds.length ≠ ks.length) : Bad m ks (.tup [.int 0, .tup ds, c, d]) := fun hh => .kd (j := 0) (by omega) (.inr ⟨_, rfl, .inl l⟩)
theorem bad_row_ok {a : Addr} {ns : List Int} {B : Int} (pen : PenAt h a ns B) (hB : B < 2 ^ 80) {m : Nat} (m2 : 2 ≤ m) (m6 : m ≤ 6) {ks : List Nat} (k5 : ks.length ≤ 5) (k6 : ∀ k ∈ ks, 1 ≤ k ∧ k ≤ 6) (q : ∀ d h', Bad m ks d → PenAt h' a ns (B + 10) → Q d h') : wpCall P0 (k + 2) 1516 [.ref a, .int (m : Int), .lst (ksD ks)] h X Q := by
  have e12 : (10 : Int) ^ Int.toNat 12 = 1000000000000 := by decide
  have e29 : (10 : Int) ^ Int.toNat 29 = 100000000000000000000000000000 := by decide
  have kz := zr_ok k6
  have zl : (zr ks).length = ks.length := kz.1
  have cnb : ∀ {c d : D}, (∀ hh, BadCn hh c d) → Bad m ks (.tup [.int 0, .tup ((zr ks).map D.int), c, d]) := fun o hh => .cn (j := 0) (by omega) kz (o hh)
  have hsb : ∀ {x b c d : D}, (∀ hh, OddG m hh x) → Bad m ks (.tup [x, b, c, d]) := fun o hh => .hs (o hh)
  refine call_of (fn := lf_bad_row_1516) rfl rfl ?_
  unfold ksD
  (((conv => whnf); repeat ((first | with_reducible refine ret_of ?_ | with_reducible refine ix_of at0 ?_ | with_reducible refine ix_of at1 ?_ | with_reducible refine ix_of at2 ?_ | with_reducible refine ix_of at3 ?_ | ((with_reducible apply isi_of); focus rfl) | refine pF ?_ | refine pT ?_ | ((with_reducible refine And.intro (len_le ?_) ?_); (focus (simp; done))) | ((with_reducible refine And.intro ?_ ?_); (focus (first | ((apply mul_b; (focus ((repeat' (first | assumption | apply bd_add | apply bd_sub | apply bd_mul | apply bd_neg | (apply bd_64; decide) | (apply bd_64; omega) | (apply bd_128; decide) | (apply bd_128; omega))); done)); (focus ((repeat' (first | assumption | apply bd_add | apply bd_sub | apply bd_mul | apply bd_neg | (apply bd_64; decide) | (apply bd_64; omega) | (apply bd_128; decide) | (apply bd_128; omega))); done)); (focus decide))) | ((apply div_b; (focus (first | decide | omega)); (focus ((repeat' (first | assumption | apply bd_add | apply bd_sub | apply bd_mul | apply bd_neg | (apply bd_64; decide) | (apply bd_64; omega) | (apply bd_128; decide) | (apply bd_128; omega))); done)); (focus decide))) | decide | (show (_ : Int) ≠ 0; omega))))); (conv => whnf))))
  refine compW_map (fun (k : Nat) => D.int (k : Int)) (fun _ => D.int 0) (len_le (by omega)) (fun x hx acc G hG => ?_) ?_
  · (((conv => whnf); repeat ((first | with_reducible refine ret_of ?_ | with_reducible refine ix_of at0 ?_ | with_reducible refine ix_of at1 ?_ | with_reducible refine ix_of at2 ?_ | with_reducible refine ix_of at3 ?_ | ((with_reducible apply isi_of); focus rfl) | refine pF ?_ | refine pT ?_ | ((with_reducible refine And.intro (len_le ?_) ?_); (focus (simp; done))) | ((with_reducible refine And.intro ?_ ?_); (focus (first | ((apply mul_b; (focus ((repeat' (first | assumption | apply bd_add | apply bd_sub | apply bd_mul | apply bd_neg | (apply bd_64; decide) | (apply bd_64; omega) | (apply bd_128; decide) | (apply bd_128; omega))); done)); (focus ((repeat' (first | assumption | apply bd_add | apply bd_sub | apply bd_mul | apply bd_neg | (apply bd_64; decide) | (apply bd_64; omega) | (apply bd_128; decide) | (apply bd_128; omega))); done)); (focus decide))) | ((apply div_b; (focus (first | decide | omega)); (focus ((repeat' (first | assumption | apply bd_add | apply bd_sub | apply bd_mul | apply bd_neg | (apply bd_64; decide) | (apply bd_64; omega) | (apply bd_128; decide) | (apply bd_128; omega))); done)); (focus decide))) | decide | (show (_ : Int) ≠ 0; omega))))); (conv => whnf))))
    exact hG
  rw [zr_D]
  have A1 : ∀ d ∈ [D.tup [.int (m : Int), .tup ((zr ks).map D.int), .int 1, .int 1], .tup [.int (-1), .tup ((zr ks).map D.int), .int 1, .int 1], .tup [.bl true, .tup ((zr ks).map D.int), .int 1, .int 1], .tup [.non, .tup ((zr ks).map D.int), .int 1, .int 1], .tup [.int 0, .tup ((zr ks).map D.int ++ [D.int 0]), .int 1, .int 1]], Bad m ks d := by
    refine List.forall_mem_cons.mpr ⟨hsb fun _ => .inl ⟨_, rfl, by omega⟩, ?_⟩
    refine List.forall_mem_cons.mpr ⟨hsb fun _ => .inl ⟨_, rfl, by omega⟩, ?_⟩
    refine List.forall_mem_cons.mpr ⟨hsb fun _ => .inr (.inl ⟨_, rfl⟩), ?_⟩
    refine List.forall_mem_cons.mpr ⟨hsb fun _ => .inr (.inr rfl), ?_⟩
    exact List.forall_mem_cons.mpr ⟨bad_len m2 (by rw [List.length_append, List.length_map, zl]; show _ + 1 ≠ _; omega), fun _ z => nomatch z⟩
  have A2 : ∀ d ∈ [D.tup [.int 0, .lst ((zr ks).map D.int), .int 1, .int 1], .tup [.int 0, .non, .int 1, .int 1], .tup [.int 0, .tup ((zr ks).map D.int), .int (10 ^ Int.toNat 12 + 1), .int 1], .tup [.int 0, .tup ((zr ks).map D.int), .int 1, .int 2]], Bad m ks d := by
    refine List.forall_mem_cons.mpr ⟨fun hh => .kd (j := 0) (by omega) (.inl rfl), ?_⟩
    refine List.forall_mem_cons.mpr ⟨fun hh => .kd (j := 0) (by omega) (.inl rfl), ?_⟩
    refine List.forall_mem_cons.mpr ⟨fun hh => .big (j := 0) (by omega) kz (by omega) (by omega) (by omega), ?_⟩
    exact List.forall_mem_cons.mpr ⟨cnb fun _ => .inr (.inr ⟨1, 2, rfl, rfl, by omega⟩), fun _ z => nomatch z⟩
  have A3 : ∀ d ∈ [D.tup [.int 0, .tup ((zr ks).map D.int), .int 1, .int (-1)], .tup [.int 0, .tup ((zr ks).map D.int), .bl true, .int 0], .tup [.int 0, .tup ((zr ks).map D.int), .int 1, .bl true], .tup [.int 0, .tup ((zr ks).map D.int), .non, .int 0], .tup [.int 0, .tup ((zr ks).map D.int), .str "1", .int 0]], Bad m ks d := by
    refine List.forall_mem_cons.mpr ⟨cnb fun _ => .inr (.inr ⟨1, -1, rfl, rfl, by omega⟩), ?_⟩
    refine List.forall_mem_cons.mpr ⟨cnb fun _ => .inl (.inl ⟨_, rfl⟩), ?_⟩
    refine List.forall_mem_cons.mpr ⟨cnb fun _ => .inr (.inl ⟨⟨1, rfl⟩, .inl ⟨_, rfl⟩⟩), ?_⟩
    refine List.forall_mem_cons.mpr ⟨cnb fun _ => .inl (.inr rfl), ?_⟩
    exact List.forall_mem_cons.mpr ⟨cnb fun _ => .inl (.inr rfl), fun _ z => nomatch z⟩
  have A4 : ∀ d ∈ [D.lst [.int 0, .tup ((zr ks).map D.int), .int 1, .int 1]], Bad m ks d := List.forall_mem_cons.mpr ⟨fun hh => .nt rfl, fun _ z => nomatch z⟩
  have A5 : ∀ d ∈ [D.tup [.int 0, .tup ((zr ks).map D.int), .int 1], .tup [.int 0, .tup ((zr ks).map D.int), .int 1, .int 1, .int 1], .tup [], .non, .int 7, .str "row", .tup [.int 0, .tup ((zr ks).map D.int), .int (-1), .int (-1)], .tup [.int (10 ^ Int.toNat 29), .tup ((zr ks).map D.int), .int 1, .int 1]], Bad m ks d := by
    refine List.forall_mem_cons.mpr ⟨fun hh => .len (by show 3 ≠ 4; decide) (by show 3 ≤ 100; decide), ?_⟩
    refine List.forall_mem_cons.mpr ⟨fun hh => .len (by show 5 ≠ 4; decide) (by show 5 ≤ 100; decide), ?_⟩
    refine List.forall_mem_cons.mpr ⟨fun hh => .len (by show 0 ≠ 4; decide) (by show 0 ≤ 100; decide), ?_⟩
    refine List.forall_mem_cons.mpr ⟨fun hh => .nt rfl, ?_⟩
    refine List.forall_mem_cons.mpr ⟨fun hh => .nt rfl, ?_⟩
    refine List.forall_mem_cons.mpr ⟨fun hh => .nt rfl, ?_⟩
    refine List.forall_mem_cons.mpr ⟨cnb fun _ => .inr (.inr ⟨-1, -1, rfl, rfl, by omega⟩), ?_⟩
    exact List.forall_mem_cons.mpr ⟨hsb fun _ => .inl ⟨_, rfl, by omega⟩, fun _ z => nomatch z⟩
  (((conv => whnf); repeat ((first | with_reducible refine ret_of ?_ | with_reducible refine ix_of at0 ?_ | with_reducible refine ix_of at1 ?_ | with_reducible refine ix_of at2 ?_ | with_reducible refine ix_of at3 ?_ | ((with_reducible apply isi_of); focus rfl) | refine pF ?_ | refine pT ?_ | ((with_reducible refine And.intro (len_le ?_) ?_); (focus (simp; done))) | ((with_reducible refine And.intro ?_ ?_); (focus (first | ((apply mul_b; (focus ((repeat' (first | assumption | apply bd_add | apply bd_sub | apply bd_mul | apply bd_neg | (apply bd_64; decide) | (apply bd_64; omega) | (apply bd_128; decide) | (apply bd_128; omega))); done)); (focus ((repeat' (first | assumption | apply bd_add | apply bd_sub | apply bd_mul | apply bd_neg | (apply bd_64; decide) | (apply bd_64; omega) | (apply bd_128; decide) | (apply bd_128; omega))); done)); (focus decide))) | ((apply div_b; (focus (first | decide | omega)); (focus ((repeat' (first | assumption | apply bd_add | apply bd_sub | apply bd_mul | apply bd_neg | (apply bd_64; decide) | (apply bd_64; omega) | (apply bd_128; decide) | (apply bd_128; omega))); done)); (focus decide))) | decide | (show (_ : Int) ≠ 0; omega))))); (conv => whnf))))
  refine ⟨len_le (by rw [List.length_map]; show _ + 1 ≤ 1000; omega), ?_⟩
  (((conv => whnf); repeat ((first | with_reducible refine ret_of ?_ | with_reducible refine ix_of at0 ?_ | with_reducible refine ix_of at1 ?_ | with_reducible refine ix_of at2 ?_ | with_reducible refine ix_of at3 ?_ | ((with_reducible apply isi_of); focus rfl) | refine pF ?_ | refine pT ?_ | ((with_reducible refine And.intro (len_le ?_) ?_); (focus (simp; done))) | ((with_reducible refine And.intro ?_ ?_); (focus (first | ((apply mul_b; (focus ((repeat' (first | assumption | apply bd_add | apply bd_sub | apply bd_mul | apply bd_neg | (apply bd_64; decide) | (apply bd_64; omega) | (apply bd_128; decide) | (apply bd_128; omega))); done)); (focus ((repeat' (first | assumption | apply bd_add | apply bd_sub | apply bd_mul | apply bd_neg | (apply bd_64; decide) | (apply bd_64; omega) | (apply bd_128; decide) | (apply bd_128; omega))); done)); (focus decide))) | ((apply div_b; (focus (first | decide | omega)); (focus ((repeat' (first | assumption | apply bd_add | apply bd_sub | apply bd_mul | apply bd_neg | (apply bd_64; decide) | (apply bd_64; omega) | (apply bd_128; decide) | (apply bd_128; omega))); done)); (focus decide))) | decide | (show (_ : Int) ≠ 0; omega))))); (conv => whnf))))
  intro p0 hp0
  have p0ne := pen.ne hp0
  have pen := pen.put (c := .lst [D.tup [.int (m : Int), .tup ((zr ks).map D.int), .int 1, .int 1], .tup [.int (-1), .tup ((zr ks).map D.int), .int 1, .int 1], .tup [.bl true, .tup ((zr ks).map D.int), .int 1, .int 1], .tup [.non, .tup ((zr ks).map D.int), .int 1, .int 1], .tup [.int 0, .tup ((zr ks).map D.int ++ [D.int 0]), .int 1, .int 1]]) p0ne
  have ep0 : put h p0 (.lst [D.tup [.int (m : Int), .tup ((zr ks).map D.int), .int 1, .int 1], .tup [.int (-1), .tup ((zr ks).map D.int), .int 1, .int 1], .tup [.bl true, .tup ((zr ks).map D.int), .int 1, .int 1], .tup [.non, .tup ((zr ks).map D.int), .int 1, .int 1], .tup [.int 0, .tup ((zr ks).map D.int ++ [D.int 0]), .int 1, .int 1]]) p0 = some (.lst [D.tup [.int (m : Int), .tup ((zr ks).map D.int), .int 1, .int 1], .tup [.int (-1), .tup ((zr ks).map D.int), .int 1, .int 1], .tup [.bl true, .tup ((zr ks).map D.int), .int 1, .int 1], .tup [.non, .tup ((zr ks).map D.int), .int 1, .int 1], .tup [.int 0, .tup ((zr ks).map D.int ++ [D.int 0]), .int 1, .int 1]]) := put_same
  generalize put h p0 (.lst [D.tup [.int (m : Int), .tup ((zr ks).map D.int), .int 1, .int 1], .tup [.int (-1), .tup ((zr ks).map D.int), .int 1, .int 1], .tup [.bl true, .tup ((zr ks).map D.int), .int 1, .int 1], .tup [.non, .tup ((zr ks).map D.int), .int 1, .int 1], .tup [.int 0, .tup ((zr ks).map D.int ++ [D.int 0]), .int 1, .int 1]]) = h1 at *
  have l1 : [D.tup [.int (m : Int), .tup ((zr ks).map D.int), .int 1, .int 1], .tup [.int (-1), .tup ((zr ks).map D.int), .int 1, .int 1], .tup [.bl true, .tup ((zr ks).map D.int), .int 1, .int 1], .tup [.non, .tup ((zr ks).map D.int), .int 1, .int 1], .tup [.int 0, .tup ((zr ks).map D.int ++ [D.int 0]), .int 1, .int 1]].length = 5 := rfl
  generalize [D.tup [.int (m : Int), .tup ((zr ks).map D.int), .int 1, .int 1], .tup [.int (-1), .tup ((zr ks).map D.int), .int 1, .int 1], .tup [.bl true, .tup ((zr ks).map D.int), .int 1, .int 1], .tup [.non, .tup ((zr ks).map D.int), .int 1, .int 1], .tup [.int 0, .tup ((zr ks).map D.int ++ [D.int 0]), .int 1, .int 1]] = L1 at *
  (((conv => whnf); repeat ((first | with_reducible refine ret_of ?_ | with_reducible refine ix_of at0 ?_ | with_reducible refine ix_of at1 ?_ | with_reducible refine ix_of at2 ?_ | with_reducible refine ix_of at3 ?_ | ((with_reducible apply isi_of); focus rfl) | refine pF ?_ | refine pT ?_ | ((with_reducible refine And.intro (len_le ?_) ?_); (focus (simp; done))) | ((with_reducible refine And.intro ?_ ?_); (focus (first | ((apply mul_b; (focus ((repeat' (first | assumption | apply bd_add | apply bd_sub | apply bd_mul | apply bd_neg | (apply bd_64; decide) | (apply bd_64; omega) | (apply bd_128; decide) | (apply bd_128; omega))); done)); (focus ((repeat' (first | assumption | apply bd_add | apply bd_sub | apply bd_mul | apply bd_neg | (apply bd_64; decide) | (apply bd_64; omega) | (apply bd_128; decide) | (apply bd_128; omega))); done)); (focus decide))) | ((apply div_b; (focus (first | decide | omega)); (focus ((repeat' (first | assumption | apply bd_add | apply bd_sub | apply bd_mul | apply bd_neg | (apply bd_64; decide) | (apply bd_64; omega) | (apply bd_128; decide) | (apply bd_128; omega))); done)); (focus decide))) | decide | (show (_ : Int) ≠ 0; omega))))); (conv => whnf))))
  refine ⟨len_le (show _ ≤ 1000 by rw [List.length_map]; omega), ?_⟩
  (((conv => whnf); repeat ((first | with_reducible refine ret_of ?_ | with_reducible refine ix_of at0 ?_ | with_reducible refine ix_of at1 ?_ | with_reducible refine ix_of at2 ?_ | with_reducible refine ix_of at3 ?_ | ((with_reducible apply isi_of); focus rfl) | refine pF ?_ | refine pT ?_ | ((with_reducible refine And.intro (len_le ?_) ?_); (focus (simp; done))) | ((with_reducible refine And.intro ?_ ?_); (focus (first | ((apply mul_b; (focus ((repeat' (first | assumption | apply bd_add | apply bd_sub | apply bd_mul | apply bd_neg | (apply bd_64; decide) | (apply bd_64; omega) | (apply bd_128; decide) | (apply bd_128; omega))); done)); (focus ((repeat' (first | assumption | apply bd_add | apply bd_sub | apply bd_mul | apply bd_neg | (apply bd_64; decide) | (apply bd_64; omega) | (apply bd_128; decide) | (apply bd_128; omega))); done)); (focus decide))) | ((apply div_b; (focus (first | decide | omega)); (focus ((repeat' (first | assumption | apply bd_add | apply bd_sub | apply bd_mul | apply bd_neg | (apply bd_64; decide) | (apply bd_64; omega) | (apply bd_128; decide) | (apply bd_128; omega))); done)); (focus decide))) | decide | (show (_ : Int) ≠ 0; omega))))); (conv => whnf))))
  refine ⟨_, ep0, len_le (show _ ≤ 1000 by rw [l1]; exact Nat.le_of_ble_eq_true rfl), ?_⟩
  have B2 : ∀ d ∈ L1 ++ [D.tup [.int 0, .lst ((zr ks).map D.int), .int 1, .int 1], .tup [.int 0, .non, .int 1, .int 1], .tup [.int 0, .tup ((zr ks).map D.int), .int (10 ^ Int.toNat 12 + 1), .int 1], .tup [.int 0, .tup ((zr ks).map D.int), .int 1, .int 2]], Bad m ks d := fun d hd => (List.mem_append.mp hd).elim (A1 d) (A2 d)
  have l2 : (L1 ++ [D.tup [.int 0, .lst ((zr ks).map D.int), .int 1, .int 1], .tup [.int 0, .non, .int 1, .int 1], .tup [.int 0, .tup ((zr ks).map D.int), .int (10 ^ Int.toNat 12 + 1), .int 1], .tup [.int 0, .tup ((zr ks).map D.int), .int 1, .int 2]]).length = 9 := by rw [List.length_append, l1]; rfl
  clear A1 A2
  generalize L1 ++ [D.tup [.int 0, .lst ((zr ks).map D.int), .int 1, .int 1], .tup [.int 0, .non, .int 1, .int 1], .tup [.int 0, .tup ((zr ks).map D.int), .int (10 ^ Int.toNat 12 + 1), .int 1], .tup [.int 0, .tup ((zr ks).map D.int), .int 1, .int 2]] = L2 at *
  (((conv => whnf); repeat ((first | with_reducible refine ret_of ?_ | with_reducible refine ix_of at0 ?_ | with_reducible refine ix_of at1 ?_ | with_reducible refine ix_of at2 ?_ | with_reducible refine ix_of at3 ?_ | ((with_reducible apply isi_of); focus rfl) | refine pF ?_ | refine pT ?_ | ((with_reducible refine And.intro (len_le ?_) ?_); (focus (simp; done))) | ((with_reducible refine And.intro ?_ ?_); (focus (first | ((apply mul_b; (focus ((repeat' (first | assumption | apply bd_add | apply bd_sub | apply bd_mul | apply bd_neg | (apply bd_64; decide) | (apply bd_64; omega) | (apply bd_128; decide) | (apply bd_128; omega))); done)); (focus ((repeat' (first | assumption | apply bd_add | apply bd_sub | apply bd_mul | apply bd_neg | (apply bd_64; decide) | (apply bd_64; omega) | (apply bd_128; decide) | (apply bd_128; omega))); done)); (focus decide))) | ((apply div_b; (focus (first | decide | omega)); (focus ((repeat' (first | assumption | apply bd_add | apply bd_sub | apply bd_mul | apply bd_neg | (apply bd_64; decide) | (apply bd_64; omega) | (apply bd_128; decide) | (apply bd_128; omega))); done)); (focus decide))) | decide | (show (_ : Int) ≠ 0; omega))))); (conv => whnf))))
  refine ⟨len_le (show _ ≤ 1000 by rw [l2]; exact Nat.le_of_ble_eq_true rfl), ?_⟩
  have B3 : ∀ d ∈ L2 ++ [D.tup [.int 0, .tup ((zr ks).map D.int), .int 1, .int (-1)], .tup [.int 0, .tup ((zr ks).map D.int), .bl true, .int 0], .tup [.int 0, .tup ((zr ks).map D.int), .int 1, .bl true], .tup [.int 0, .tup ((zr ks).map D.int), .non, .int 0], .tup [.int 0, .tup ((zr ks).map D.int), .str "1", .int 0]], Bad m ks d := fun d hd => (List.mem_append.mp hd).elim (B2 d) (A3 d)
  have l3 : (L2 ++ [D.tup [.int 0, .tup ((zr ks).map D.int), .int 1, .int (-1)], .tup [.int 0, .tup ((zr ks).map D.int), .bl true, .int 0], .tup [.int 0, .tup ((zr ks).map D.int), .int 1, .bl true], .tup [.int 0, .tup ((zr ks).map D.int), .non, .int 0], .tup [.int 0, .tup ((zr ks).map D.int), .str "1", .int 0]]).length = 14 := by rw [List.length_append, l2]; rfl
  clear B2 A3
  generalize L2 ++ [D.tup [.int 0, .tup ((zr ks).map D.int), .int 1, .int (-1)], .tup [.int 0, .tup ((zr ks).map D.int), .bl true, .int 0], .tup [.int 0, .tup ((zr ks).map D.int), .int 1, .bl true], .tup [.int 0, .tup ((zr ks).map D.int), .non, .int 0], .tup [.int 0, .tup ((zr ks).map D.int), .str "1", .int 0]] = L3 at *
  (((conv => whnf); repeat ((first | with_reducible refine ret_of ?_ | with_reducible refine ix_of at0 ?_ | with_reducible refine ix_of at1 ?_ | with_reducible refine ix_of at2 ?_ | with_reducible refine ix_of at3 ?_ | ((with_reducible apply isi_of); focus rfl) | refine pF ?_ | refine pT ?_ | ((with_reducible refine And.intro (len_le ?_) ?_); (focus (simp; done))) | ((with_reducible refine And.intro ?_ ?_); (focus (first | ((apply mul_b; (focus ((repeat' (first | assumption | apply bd_add | apply bd_sub | apply bd_mul | apply bd_neg | (apply bd_64; decide) | (apply bd_64; omega) | (apply bd_128; decide) | (apply bd_128; omega))); done)); (focus ((repeat' (first | assumption | apply bd_add | apply bd_sub | apply bd_mul | apply bd_neg | (apply bd_64; decide) | (apply bd_64; omega) | (apply bd_128; decide) | (apply bd_128; omega))); done)); (focus decide))) | ((apply div_b; (focus (first | decide | omega)); (focus ((repeat' (first | assumption | apply bd_add | apply bd_sub | apply bd_mul | apply bd_neg | (apply bd_64; decide) | (apply bd_64; omega) | (apply bd_128; decide) | (apply bd_128; omega))); done)); (focus decide))) | decide | (show (_ : Int) ≠ 0; omega))))); (conv => whnf))))
  refine ⟨len_le (show _ ≤ 1000 by rw [l3]; exact Nat.le_of_ble_eq_true rfl), ?_⟩
  have B4 : ∀ d ∈ L3 ++ [D.lst [.int 0, .tup ((zr ks).map D.int), .int 1, .int 1]], Bad m ks d := fun d hd => (List.mem_append.mp hd).elim (B3 d) (A4 d)
  have l4 : (L3 ++ [D.lst [.int 0, .tup ((zr ks).map D.int), .int 1, .int 1]]).length = 15 := by rw [List.length_append, l3]; rfl
  clear B3 A4
  generalize L3 ++ [D.lst [.int 0, .tup ((zr ks).map D.int), .int 1, .int 1]] = L4 at *
  (((conv => whnf); repeat ((first | with_reducible refine ret_of ?_ | with_reducible refine ix_of at0 ?_ | with_reducible refine ix_of at1 ?_ | with_reducible refine ix_of at2 ?_ | with_reducible refine ix_of at3 ?_ | ((with_reducible apply isi_of); focus rfl) | refine pF ?_ | refine pT ?_ | ((with_reducible refine And.intro (len_le ?_) ?_); (focus (simp; done))) | ((with_reducible refine And.intro ?_ ?_); (focus (first | ((apply mul_b; (focus ((repeat' (first | assumption | apply bd_add | apply bd_sub | apply bd_mul | apply bd_neg | (apply bd_64; decide) | (apply bd_64; omega) | (apply bd_128; decide) | (apply bd_128; omega))); done)); (focus ((repeat' (first | assumption | apply bd_add | apply bd_sub | apply bd_mul | apply bd_neg | (apply bd_64; decide) | (apply bd_64; omega) | (apply bd_128; decide) | (apply bd_128; omega))); done)); (focus decide))) | ((apply div_b; (focus (first | decide | omega)); (focus ((repeat' (first | assumption | apply bd_add | apply bd_sub | apply bd_mul | apply bd_neg | (apply bd_64; decide) | (apply bd_64; omega) | (apply bd_128; decide) | (apply bd_128; omega))); done)); (focus decide))) | decide | (show (_ : Int) ≠ 0; omega))))); (conv => whnf))))
  refine ⟨len_le (show _ ≤ 1000 by rw [l4]; exact Nat.le_of_ble_eq_true rfl), ?_⟩
  have B5 : ∀ d ∈ L4 ++ [D.tup [.int 0, .tup ((zr ks).map D.int), .int 1], .tup [.int 0, .tup ((zr ks).map D.int), .int 1, .int 1, .int 1], .tup [], .non, .int 7, .str "row", .tup [.int 0, .tup ((zr ks).map D.int), .int (-1), .int (-1)], .tup [.int (10 ^ Int.toNat 29), .tup ((zr ks).map D.int), .int 1, .int 1]], Bad m ks d := fun d hd => (List.mem_append.mp hd).elim (B4 d) (A5 d)
  have l5 : (L4 ++ [D.tup [.int 0, .tup ((zr ks).map D.int), .int 1], .tup [.int 0, .tup ((zr ks).map D.int), .int 1, .int 1, .int 1], .tup [], .non, .int 7, .str "row", .tup [.int 0, .tup ((zr ks).map D.int), .int (-1), .int (-1)], .tup [.int (10 ^ Int.toNat 29), .tup ((zr ks).map D.int), .int 1, .int 1]]).length = 23 := by rw [List.length_append, l4]; rfl
  clear B4 A5
  generalize L4 ++ [D.tup [.int 0, .tup ((zr ks).map D.int), .int 1], .tup [.int 0, .tup ((zr ks).map D.int), .int 1, .int 1, .int 1], .tup [], .non, .int 7, .str "row", .tup [.int 0, .tup ((zr ks).map D.int), .int (-1), .int (-1)], .tup [.int (10 ^ Int.toNat 29), .tup ((zr ks).map D.int), .int 1, .int 1]] = L5 at *
  intro f hf
  have fne := pen.ne hf
  have pen := pen.put (c := .lst L5) fne
  have ef : put h1 f (.lst L5) f = some (.lst L5) := put_same
  generalize put h1 f (.lst L5) = h2 at *
  (((conv => whnf); repeat ((first | with_reducible refine ret_of ?_ | with_reducible refine ix_of at0 ?_ | with_reducible refine ix_of at1 ?_ | with_reducible refine ix_of at2 ?_ | with_reducible refine ix_of at3 ?_ | ((with_reducible apply isi_of); focus rfl) | refine pF ?_ | refine pT ?_ | ((with_reducible refine And.intro (len_le ?_) ?_); (focus (simp; done))) | ((with_reducible refine And.intro ?_ ?_); (focus (first | ((apply mul_b; (focus ((repeat' (first | assumption | apply bd_add | apply bd_sub | apply bd_mul | apply bd_neg | (apply bd_64; decide) | (apply bd_64; omega) | (apply bd_128; decide) | (apply bd_128; omega))); done)); (focus ((repeat' (first | assumption | apply bd_add | apply bd_sub | apply bd_mul | apply bd_neg | (apply bd_64; decide) | (apply bd_64; omega) | (apply bd_128; decide) | (apply bd_128; omega))); done)); (focus decide))) | ((apply div_b; (focus (first | decide | omega)); (focus ((repeat' (first | assumption | apply bd_add | apply bd_sub | apply bd_mul | apply bd_neg | (apply bd_64; decide) | (apply bd_64; omega) | (apply bd_128; decide) | (apply bd_128; omega))); done)); (focus decide))) | decide | (show (_ : Int) ≠ 0; omega))))); (conv => whnf))))
  have kll : (ks.map fun k : Nat => D.int (k : Int)).length = ks.length := List.length_map _
  refine cutM (mon_call _) (fun v h' => ∃ (L : List D) (u5 u6 u7 : Option D), v = [some (.ref a), some (.int (m : Int)), some (.lst (ksD ks)), some (.tup ((zr ks).map D.int)), some (.ref f), u5, u6, u7] ∧ h' f = some (.lst L) ∧ (∀ d ∈ L, Bad m ks d) ∧ 1 ≤ L.length ∧ L.length ≤ 40 ∧ PenAt h' a ns (B + 3)) ?_ ?_
  · (((conv => whnf); repeat ((first | with_reducible refine ret_of ?_ | with_reducible refine ix_of at0 ?_ | with_reducible refine ix_of at1 ?_ | with_reducible refine ix_of at2 ?_ | with_reducible refine ix_of at3 ?_ | ((with_reducible apply isi_of); focus rfl) | refine pF ?_ | refine pT ?_ | ((with_reducible refine And.intro (len_le ?_) ?_); (focus (simp; done))) | ((with_reducible refine And.intro ?_ ?_); (focus (first | ((apply mul_b; (focus ((repeat' (first | assumption | apply bd_add | apply bd_sub | apply bd_mul | apply bd_neg | (apply bd_64; decide) | (apply bd_64; omega) | (apply bd_128; decide) | (apply bd_128; omega))); done)); (focus ((repeat' (first | assumption | apply bd_add | apply bd_sub | apply bd_mul | apply bd_neg | (apply bd_64; decide) | (apply bd_64; omega) | (apply bd_128; decide) | (apply bd_128; omega))); done)); (focus decide))) | ((apply div_b; (focus (first | decide | omega)); (focus ((repeat' (first | assumption | apply bd_add | apply bd_sub | apply bd_mul | apply bd_neg | (apply bd_64; decide) | (apply bd_64; omega) | (apply bd_128; decide) | (apply bd_128; omega))); done)); (focus decide))) | decide | (show (_ : Int) ≠ 0; omega))))); (conv => whnf))))
    rw [kll]
    refine ⟨fun e => ?_, fun e => ?_⟩
    · have e := of_decide_eq_true e
      (((conv => whnf); repeat ((first | with_reducible refine ret_of ?_ | with_reducible refine ix_of at0 ?_ | with_reducible refine ix_of at1 ?_ | with_reducible refine ix_of at2 ?_ | with_reducible refine ix_of at3 ?_ | ((with_reducible apply isi_of); focus rfl) | refine pF ?_ | refine pT ?_ | ((with_reducible refine And.intro (len_le ?_) ?_); (focus (simp; done))) | ((with_reducible refine And.intro ?_ ?_); (focus (first | ((apply mul_b; (focus ((repeat' (first | assumption | apply bd_add | apply bd_sub | apply bd_mul | apply bd_neg | (apply bd_64; decide) | (apply bd_64; omega) | (apply bd_128; decide) | (apply bd_128; omega))); done)); (focus ((repeat' (first | assumption | apply bd_add | apply bd_sub | apply bd_mul | apply bd_neg | (apply bd_64; decide) | (apply bd_64; omega) | (apply bd_128; decide) | (apply bd_128; omega))); done)); (focus decide))) | ((apply div_b; (focus (first | decide | omega)); (focus ((repeat' (first | assumption | apply bd_add | apply bd_sub | apply bd_mul | apply bd_neg | (apply bd_64; decide) | (apply bd_64; omega) | (apply bd_128; decide) | (apply bd_128; omega))); done)); (focus decide))) | decide | (show (_ : Int) ≠ 0; omega))))); (conv => whnf))))
      rw [kll]
      refine nx pen (by omega) (by omega) (by omega) fun x h3 a3 b3 pen o3 => ?_
      have ef : h3 f = _ := (o3 f fne.symm).trans ef
      obtain ⟨t, rfl⟩ : ∃ n' : Nat, x = (n' : Int) := ⟨x.toNat, by omega⟩
      obtain ⟨n, hn⟩ : ∃ n, ks[t]? = some n := ⟨_, List.getElem?_eq_getElem (by omega)⟩
      have n16 := k6 n (List.mem_of_getElem? hn)
      have hn2 : (ks.map fun k : Nat => D.int (k : Int))[t]? = some (.int (n : Int)) := by rw [List.getElem?_map, hn]; rfl
      (((conv => whnf); repeat ((first | refine cut_in ?_ | (first | with_reducible refine ret_of ?_ | with_reducible refine ix_of at0 ?_ | with_reducible refine ix_of at1 ?_ | with_reducible refine ix_of at2 ?_ | with_reducible refine ix_of at3 ?_ | ((with_reducible apply isi_of); focus rfl) | refine pF ?_ | refine pT ?_ | ((with_reducible refine And.intro (len_le ?_) ?_); (focus (simp; done))) | ((with_reducible refine And.intro ?_ ?_); (focus (first | ((apply mul_b; (focus ((repeat' (first | assumption | apply bd_add | apply bd_sub | apply bd_mul | apply bd_neg | (apply bd_64; decide) | (apply bd_64; omega) | (apply bd_128; decide) | (apply bd_128; omega))); done)); (focus ((repeat' (first | assumption | apply bd_add | apply bd_sub | apply bd_mul | apply bd_neg | (apply bd_64; decide) | (apply bd_64; omega) | (apply bd_128; decide) | (apply bd_128; omega))); done)); (focus decide))) | ((apply div_b; (focus (first | decide | omega)); (focus ((repeat' (first | assumption | apply bd_add | apply bd_sub | apply bd_mul | apply bd_neg | (apply bd_64; decide) | (apply bd_64; omega) | (apply bd_128; decide) | (apply bd_128; omega))); done)); (focus decide))) | decide | (show (_ : Int) ≠ 0; omega)))))); (conv => whnf))))
      refine ix_of (at_list hn2) ?_
      conv => whnf
      refine ⟨len_le (show 1 ≤ 1000 by decide), ?_⟩
      conv => whnf
      refine ⟨⟨by decide, by decide, by decide⟩, ?_⟩
      conv => whnf
      refine ⟨len_le (show 7 ≤ 1000 by decide), ?_⟩
      refine forW_abs fun ys hys => ?_
      have yl : ys.length = 7 := by rw [hys]; rfl
      have yo : ∀ y ∈ ys, ∀ hh, OddG n hh y := by
        rw [hys]
        refine List.forall_mem_cons.mpr ⟨fun _ => .inl ⟨_, rfl, by omega⟩, ?_⟩
        refine List.forall_mem_cons.mpr ⟨fun _ => .inl ⟨_, rfl, by omega⟩, ?_⟩
        refine List.forall_mem_cons.mpr ⟨fun _ => .inr (.inl ⟨_, rfl⟩), ?_⟩
        refine List.forall_mem_cons.mpr ⟨fun _ => .inr (.inr rfl), ?_⟩
        refine List.forall_mem_cons.mpr ⟨fun _ => .inr (.inr rfl), ?_⟩
        refine List.forall_mem_cons.mpr ⟨fun _ => .inr (.inr rfl), ?_⟩
        exact List.forall_mem_cons.mpr ⟨fun _ => .inl ⟨_, rfl, by omega⟩, fun _ z => nomatch z⟩
      clear hys
      have hys : ys = ys.map id := (List.map_id _).symm
      rw [hys]
      refine forW_map id (fun i v h' => ∃ (L : List D) (u6 u7 : Option D), v = [some (.ref a), some (.int (m : Int)), some (.lst (ksD ks)), some (.tup ((zr ks).map D.int)), some (.ref f), some (.int (t : Int)), u6, u7] ∧ h' f = some (.lst L) ∧ (∀ d ∈ L, Bad m ks d) ∧ L.length = 23 + i ∧ PenAt h' a ns (B + 1)) ?_ ?_ ⟨L5, _, _, rfl, ef, B5, l5, pen⟩
      · rintro i y v h4 nx' hi ⟨L, u6, u7, rfl, ef, hL, lL, pen⟩ hnx
        have oy := yo y (List.mem_of_getElem? hi)
        have li := (List.getElem?_eq_some_iff.mp hi).1
        have zt : t < ((zr ks).map D.int).length := by rw [List.length_map, zl]; omega
        have l1 := cutD_le ((zr ks).map D.int) none (some (t : Int))
        have l2 := cutD_le ((zr ks).map D.int) (some ((t : Int) + 1)) none
        rw [List.length_map, zl] at l1 l2
        (((conv => whnf); repeat ((first | with_reducible refine ret_of ?_ | with_reducible refine ix_of at0 ?_ | with_reducible refine ix_of at1 ?_ | with_reducible refine ix_of at2 ?_ | with_reducible refine ix_of at3 ?_ | ((with_reducible apply isi_of); focus rfl) | refine pF ?_ | refine pT ?_ | ((with_reducible refine And.intro (len_le ?_) ?_); (focus (simp; done))) | ((with_reducible refine And.intro ?_ ?_); (focus (first | ((apply mul_b; (focus ((repeat' (first | assumption | apply bd_add | apply bd_sub | apply bd_mul | apply bd_neg | (apply bd_64; decide) | (apply bd_64; omega) | (apply bd_128; decide) | (apply bd_128; omega))); done)); (focus ((repeat' (first | assumption | apply bd_add | apply bd_sub | apply bd_mul | apply bd_neg | (apply bd_64; decide) | (apply bd_64; omega) | (apply bd_128; decide) | (apply bd_128; omega))); done)); (focus decide))) | ((apply div_b; (focus (first | decide | omega)); (focus ((repeat' (first | assumption | apply bd_add | apply bd_sub | apply bd_mul | apply bd_neg | (apply bd_64; decide) | (apply bd_64; omega) | (apply bd_128; decide) | (apply bd_128; omega))); done)); (focus decide))) | decide | (show (_ : Int) ≠ 0; omega))))); (conv => whnf))))
        refine ⟨⟨_, ef⟩, ?_⟩
        (((conv => whnf); repeat ((first | with_reducible refine ret_of ?_ | with_reducible refine ix_of at0 ?_ | with_reducible refine ix_of at1 ?_ | with_reducible refine ix_of at2 ?_ | with_reducible refine ix_of at3 ?_ | ((with_reducible apply isi_of); focus rfl) | refine pF ?_ | refine pT ?_ | ((with_reducible refine And.intro (len_le ?_) ?_); (focus (simp; done))) | ((with_reducible refine And.intro ?_ ?_); (focus (first | ((apply mul_b; (focus ((repeat' (first | assumption | apply bd_add | apply bd_sub | apply bd_mul | apply bd_neg | (apply bd_64; decide) | (apply bd_64; omega) | (apply bd_128; decide) | (apply bd_128; omega))); done)); (focus ((repeat' (first | assumption | apply bd_add | apply bd_sub | apply bd_mul | apply bd_neg | (apply bd_64; decide) | (apply bd_64; omega) | (apply bd_128; decide) | (apply bd_128; omega))); done)); (focus decide))) | ((apply div_b; (focus (first | decide | omega)); (focus ((repeat' (first | assumption | apply bd_add | apply bd_sub | apply bd_mul | apply bd_neg | (apply bd_64; decide) | (apply bd_64; omega) | (apply bd_128; decide) | (apply bd_128; omega))); done)); (focus decide))) | decide | (show (_ : Int) ≠ 0; omega))))); (conv => whnf))))
        refine ⟨len_le (show _ + 1 ≤ 1000 by omega), ?_⟩
        (((conv => whnf); repeat ((first | with_reducible refine ret_of ?_ | with_reducible refine ix_of at0 ?_ | with_reducible refine ix_of at1 ?_ | with_reducible refine ix_of at2 ?_ | with_reducible refine ix_of at3 ?_ | ((with_reducible apply isi_of); focus rfl) | refine pF ?_ | refine pT ?_ | ((with_reducible refine And.intro (len_le ?_) ?_); (focus (simp; done))) | ((with_reducible refine And.intro ?_ ?_); (focus (first | ((apply mul_b; (focus ((repeat' (first | assumption | apply bd_add | apply bd_sub | apply bd_mul | apply bd_neg | (apply bd_64; decide) | (apply bd_64; omega) | (apply bd_128; decide) | (apply bd_128; omega))); done)); (focus ((repeat' (first | assumption | apply bd_add | apply bd_sub | apply bd_mul | apply bd_neg | (apply bd_64; decide) | (apply bd_64; omega) | (apply bd_128; decide) | (apply bd_128; omega))); done)); (focus decide))) | ((apply div_b; (focus (first | decide | omega)); (focus ((repeat' (first | assumption | apply bd_add | apply bd_sub | apply bd_mul | apply bd_neg | (apply bd_64; decide) | (apply bd_64; omega) | (apply bd_128; decide) | (apply bd_128; omega))); done)); (focus decide))) | decide | (show (_ : Int) ≠ 0; omega))))); (conv => whnf))))
        refine ⟨len_le (show _ ≤ 1000 by rw [List.length_append]; show _ + 1 + _ ≤ 1000; omega), ?_⟩
        (((conv => whnf); repeat ((first | with_reducible refine ret_of ?_ | with_reducible refine ix_of at0 ?_ | with_reducible refine ix_of at1 ?_ | with_reducible refine ix_of at2 ?_ | with_reducible refine ix_of at3 ?_ | ((with_reducible apply isi_of); focus rfl) | refine pF ?_ | refine pT ?_ | ((with_reducible refine And.intro (len_le ?_) ?_); (focus (simp; done))) | ((with_reducible refine And.intro ?_ ?_); (focus (first | ((apply mul_b; (focus ((repeat' (first | assumption | apply bd_add | apply bd_sub | apply bd_mul | apply bd_neg | (apply bd_64; decide) | (apply bd_64; omega) | (apply bd_128; decide) | (apply bd_128; omega))); done)); (focus ((repeat' (first | assumption | apply bd_add | apply bd_sub | apply bd_mul | apply bd_neg | (apply bd_64; decide) | (apply bd_64; omega) | (apply bd_128; decide) | (apply bd_128; omega))); done)); (focus decide))) | ((apply div_b; (focus (first | decide | omega)); (focus ((repeat' (first | assumption | apply bd_add | apply bd_sub | apply bd_mul | apply bd_neg | (apply bd_64; decide) | (apply bd_64; omega) | (apply bd_128; decide) | (apply bd_128; omega))); done)); (focus decide))) | decide | (show (_ : Int) ≠ 0; omega))))); (conv => whnf))))
        refine ⟨_, ef, lt_line (by omega), ?_⟩
        (((conv => whnf); repeat ((first | with_reducible refine ret_of ?_ | with_reducible refine ix_of at0 ?_ | with_reducible refine ix_of at1 ?_ | with_reducible refine ix_of at2 ?_ | with_reducible refine ix_of at3 ?_ | ((with_reducible apply isi_of); focus rfl) | refine pF ?_ | refine pT ?_ | ((with_reducible refine And.intro (len_le ?_) ?_); (focus (simp; done))) | ((with_reducible refine And.intro ?_ ?_); (focus (first | ((apply mul_b; (focus ((repeat' (first | assumption | apply bd_add | apply bd_sub | apply bd_mul | apply bd_neg | (apply bd_64; decide) | (apply bd_64; omega) | (apply bd_128; decide) | (apply bd_128; omega))); done)); (focus ((repeat' (first | assumption | apply bd_add | apply bd_sub | apply bd_mul | apply bd_neg | (apply bd_64; decide) | (apply bd_64; omega) | (apply bd_128; decide) | (apply bd_128; omega))); done)); (focus decide))) | ((apply div_b; (focus (first | decide | omega)); (focus ((repeat' (first | assumption | apply bd_add | apply bd_sub | apply bd_mul | apply bd_neg | (apply bd_64; decide) | (apply bd_64; omega) | (apply bd_128; decide) | (apply bd_128; omega))); done)); (focus decide))) | decide | (show (_ : Int) ≠ 0; omega))))); (conv => whnf))))
        rw [show id y = y from rfl, cut_set zt]
        refine hnx _ _ ⟨L ++ [.tup [.int 0, .tup (((zr ks).map D.int).set t y), .int 1, .int 1]], _, _, rfl, put_same, fun d hd => ?_, by rw [List.length_append, lL]; rfl, pen.put fne⟩
        rcases List.mem_append.mp hd with z | z
        · exact hL d z
        · rw [List.mem_singleton.mp z]
          exact bad_set m2 k6 hn oy
      · rintro v h4 ⟨L, u6, u7, rfl, ef, hL, lL, pen⟩
        (((conv => whnf); repeat ((first | with_reducible refine ret_of ?_ | with_reducible refine ix_of at0 ?_ | with_reducible refine ix_of at1 ?_ | with_reducible refine ix_of at2 ?_ | with_reducible refine ix_of at3 ?_ | ((with_reducible apply isi_of); focus rfl) | refine pF ?_ | refine pT ?_ | ((with_reducible refine And.intro (len_le ?_) ?_); (focus (simp; done))) | ((with_reducible refine And.intro ?_ ?_); (focus (first | ((apply mul_b; (focus ((repeat' (first | assumption | apply bd_add | apply bd_sub | apply bd_mul | apply bd_neg | (apply bd_64; decide) | (apply bd_64; omega) | (apply bd_128; decide) | (apply bd_128; omega))); done)); (focus ((repeat' (first | assumption | apply bd_add | apply bd_sub | apply bd_mul | apply bd_neg | (apply bd_64; decide) | (apply bd_64; omega) | (apply bd_128; decide) | (apply bd_128; omega))); done)); (focus decide))) | ((apply div_b; (focus (first | decide | omega)); (focus ((repeat' (first | assumption | apply bd_add | apply bd_sub | apply bd_mul | apply bd_neg | (apply bd_64; decide) | (apply bd_64; omega) | (apply bd_128; decide) | (apply bd_128; omega))); done)); (focus decide))) | decide | (show (_ : Int) ≠ 0; omega))))); (conv => whnf))))
        refine ⟨⟨_, ef⟩, ?_⟩
        (((conv => whnf); repeat ((first | with_reducible refine ret_of ?_ | with_reducible refine ix_of at0 ?_ | with_reducible refine ix_of at1 ?_ | with_reducible refine ix_of at2 ?_ | with_reducible refine ix_of at3 ?_ | ((with_reducible apply isi_of); focus rfl) | refine pF ?_ | refine pT ?_ | ((with_reducible refine And.intro (len_le ?_) ?_); (focus (simp; done))) | ((with_reducible refine And.intro ?_ ?_); (focus (first | ((apply mul_b; (focus ((repeat' (first | assumption | apply bd_add | apply bd_sub | apply bd_mul | apply bd_neg | (apply bd_64; decide) | (apply bd_64; omega) | (apply bd_128; decide) | (apply bd_128; omega))); done)); (focus ((repeat' (first | assumption | apply bd_add | apply bd_sub | apply bd_mul | apply bd_neg | (apply bd_64; decide) | (apply bd_64; omega) | (apply bd_128; decide) | (apply bd_128; omega))); done)); (focus decide))) | ((apply div_b; (focus (first | decide | omega)); (focus ((repeat' (first | assumption | apply bd_add | apply bd_sub | apply bd_mul | apply bd_neg | (apply bd_64; decide) | (apply bd_64; omega) | (apply bd_128; decide) | (apply bd_128; omega))); done)); (focus decide))) | decide | (show (_ : Int) ≠ 0; omega))))); (conv => whnf))))
        refine ⟨_, ef, lt_line (by omega), ?_⟩
        (((conv => whnf); repeat ((first | with_reducible refine ret_of ?_ | with_reducible refine ix_of at0 ?_ | with_reducible refine ix_of at1 ?_ | with_reducible refine ix_of at2 ?_ | with_reducible refine ix_of at3 ?_ | ((with_reducible apply isi_of); focus rfl) | refine pF ?_ | refine pT ?_ | ((with_reducible refine And.intro (len_le ?_) ?_); (focus (simp; done))) | ((with_reducible refine And.intro ?_ ?_); (focus (first | ((apply mul_b; (focus ((repeat' (first | assumption | apply bd_add | apply bd_sub | apply bd_mul | apply bd_neg | (apply bd_64; decide) | (apply bd_64; omega) | (apply bd_128; decide) | (apply bd_128; omega))); done)); (focus ((repeat' (first | assumption | apply bd_add | apply bd_sub | apply bd_mul | apply bd_neg | (apply bd_64; decide) | (apply bd_64; omega) | (apply bd_128; decide) | (apply bd_128; omega))); done)); (focus decide))) | ((apply div_b; (focus (first | decide | omega)); (focus ((repeat' (first | assumption | apply bd_add | apply bd_sub | apply bd_mul | apply bd_neg | (apply bd_64; decide) | (apply bd_64; omega) | (apply bd_128; decide) | (apply bd_128; omega))); done)); (focus decide))) | decide | (show (_ : Int) ≠ 0; omega))))); (conv => whnf))))
        rw [cut_last]
        refine ⟨L ++ [.tup [.int 0, .tup ((zr ks).map D.int).dropLast, .int 1, .int 1]], _, _, _, rfl, put_same, fun d hd => ?_, by rw [List.length_append]; exact Nat.le_add_left _ _, by rw [List.length_append]; show _ + 1 ≤ _; omega, (pen.put fne).mono (by omega)⟩
        rcases List.mem_append.mp hd with z | z
        · exact hL d z
        · rw [List.mem_singleton.mp z]
          exact bad_len m2 (by rw [List.length_dropLast, List.length_map, zl]; omega)
    · (((conv => whnf); repeat ((first | with_reducible refine ret_of ?_ | with_reducible refine ix_of at0 ?_ | with_reducible refine ix_of at1 ?_ | with_reducible refine ix_of at2 ?_ | with_reducible refine ix_of at3 ?_ | ((with_reducible apply isi_of); focus rfl) | refine pF ?_ | refine pT ?_ | ((with_reducible refine And.intro (len_le ?_) ?_); (focus (simp; done))) | ((with_reducible refine And.intro ?_ ?_); (focus (first | ((apply mul_b; (focus ((repeat' (first | assumption | apply bd_add | apply bd_sub | apply bd_mul | apply bd_neg | (apply bd_64; decide) | (apply bd_64; omega) | (apply bd_128; decide) | (apply bd_128; omega))); done)); (focus ((repeat' (first | assumption | apply bd_add | apply bd_sub | apply bd_mul | apply bd_neg | (apply bd_64; decide) | (apply bd_64; omega) | (apply bd_128; decide) | (apply bd_128; omega))); done)); (focus decide))) | ((apply div_b; (focus (first | decide | omega)); (focus ((repeat' (first | assumption | apply bd_add | apply bd_sub | apply bd_mul | apply bd_neg | (apply bd_64; decide) | (apply bd_64; omega) | (apply bd_128; decide) | (apply bd_128; omega))); done)); (focus decide))) | decide | (show (_ : Int) ≠ 0; omega))))); (conv => whnf))))
      exact ⟨L5, _, _, _, rfl, ef, B5, by omega, by omega, pen.mono (by omega)⟩
  rintro v h3 ⟨L, u5, u6, u7, rfl, ef, hL, l1, l40, pen⟩
  (((conv => whnf); repeat ((first | with_reducible refine ret_of ?_ | with_reducible refine ix_of at0 ?_ | with_reducible refine ix_of at1 ?_ | with_reducible refine ix_of at2 ?_ | with_reducible refine ix_of at3 ?_ | ((with_reducible apply isi_of); focus rfl) | refine pF ?_ | refine pT ?_ | ((with_reducible refine And.intro (len_le ?_) ?_); (focus (simp; done))) | ((with_reducible refine And.intro ?_ ?_); (focus (first | ((apply mul_b; (focus ((repeat' (first | assumption | apply bd_add | apply bd_sub | apply bd_mul | apply bd_neg | (apply bd_64; decide) | (apply bd_64; omega) | (apply bd_128; decide) | (apply bd_128; omega))); done)); (focus ((repeat' (first | assumption | apply bd_add | apply bd_sub | apply bd_mul | apply bd_neg | (apply bd_64; decide) | (apply bd_64; omega) | (apply bd_128; decide) | (apply bd_128; omega))); done)); (focus decide))) | ((apply div_b; (focus (first | decide | omega)); (focus ((repeat' (first | assumption | apply bd_add | apply bd_sub | apply bd_mul | apply bd_neg | (apply bd_64; decide) | (apply bd_64; omega) | (apply bd_128; decide) | (apply bd_128; omega))); done)); (focus decide))) | decide | (show (_ : Int) ≠ 0; omega))))); (conv => whnf))))
  refine ⟨_, ef, ?_⟩
  (((conv => whnf); repeat ((first | with_reducible refine ret_of ?_ | with_reducible refine ix_of at0 ?_ | with_reducible refine ix_of at1 ?_ | with_reducible refine ix_of at2 ?_ | with_reducible refine ix_of at3 ?_ | ((with_reducible apply isi_of); focus rfl) | refine pF ?_ | refine pT ?_ | ((with_reducible refine And.intro (len_le ?_) ?_); (focus (simp; done))) | ((with_reducible refine And.intro ?_ ?_); (focus (first | ((apply mul_b; (focus ((repeat' (first | assumption | apply bd_add | apply bd_sub | apply bd_mul | apply bd_neg | (apply bd_64; decide) | (apply bd_64; omega) | (apply bd_128; decide) | (apply bd_128; omega))); done)); (focus ((repeat' (first | assumption | apply bd_add | apply bd_sub | apply bd_mul | apply bd_neg | (apply bd_64; decide) | (apply bd_64; omega) | (apply bd_128; decide) | (apply bd_128; omega))); done)); (focus decide))) | ((apply div_b; (focus (first | decide | omega)); (focus ((repeat' (first | assumption | apply bd_add | apply bd_sub | apply bd_mul | apply bd_neg | (apply bd_64; decide) | (apply bd_64; omega) | (apply bd_128; decide) | (apply bd_128; omega))); done)); (focus decide))) | decide | (show (_ : Int) ≠ 0; omega))))); (conv => whnf))))
  refine nx pen (by omega) (by omega) (by omega) fun x h4 a4 b4 pen o4 => ?_
  have ef : h4 f = _ := (o4 f fne.symm).trans ef
  obtain ⟨t, rfl⟩ : ∃ n' : Nat, x = (n' : Int) := ⟨x.toNat, by omega⟩
  obtain ⟨d, hd⟩ : ∃ d, L[t]? = some d := ⟨_, List.getElem?_eq_getElem (by omega)⟩
  (((conv => whnf); repeat ((first | with_reducible refine ret_of ?_ | with_reducible refine ix_of at0 ?_ | with_reducible refine ix_of at1 ?_ | with_reducible refine ix_of at2 ?_ | with_reducible refine ix_of at3 ?_ | ((with_reducible apply isi_of); focus rfl) | refine pF ?_ | refine pT ?_ | ((with_reducible refine And.intro (len_le ?_) ?_); (focus (simp; done))) | ((with_reducible refine And.intro ?_ ?_); (focus (first | ((apply mul_b; (focus ((repeat' (first | assumption | apply bd_add | apply bd_sub | apply bd_mul | apply bd_neg | (apply bd_64; decide) | (apply bd_64; omega) | (apply bd_128; decide) | (apply bd_128; omega))); done)); (focus ((repeat' (first | assumption | apply bd_add | apply bd_sub | apply bd_mul | apply bd_neg | (apply bd_64; decide) | (apply bd_64; omega) | (apply bd_128; decide) | (apply bd_128; omega))); done)); (focus decide))) | ((apply div_b; (focus (first | decide | omega)); (focus ((repeat' (first | assumption | apply bd_add | apply bd_sub | apply bd_mul | apply bd_neg | (apply bd_64; decide) | (apply bd_64; omega) | (apply bd_128; decide) | (apply bd_128; omega))); done)); (focus decide))) | decide | (show (_ : Int) ≠ 0; omega))))); (conv => whnf))))
  refine ⟨_, ef, ?_⟩
  refine ix_of (at_list hd) ?_
  (((conv => whnf); repeat ((first | with_reducible refine ret_of ?_ | with_reducible refine ix_of at0 ?_ | with_reducible refine ix_of at1 ?_ | with_reducible refine ix_of at2 ?_ | with_reducible refine ix_of at3 ?_ | ((with_reducible apply isi_of); focus rfl) | refine pF ?_ | refine pT ?_ | ((with_reducible refine And.intro (len_le ?_) ?_); (focus (simp; done))) | ((with_reducible refine And.intro ?_ ?_); (focus (first | ((apply mul_b; (focus ((repeat' (first | assumption | apply bd_add | apply bd_sub | apply bd_mul | apply bd_neg | (apply bd_64; decide) | (apply bd_64; omega) | (apply bd_128; decide) | (apply bd_128; omega))); done)); (focus ((repeat' (first | assumption | apply bd_add | apply bd_sub | apply bd_mul | apply bd_neg | (apply bd_64; decide) | (apply bd_64; omega) | (apply bd_128; decide) | (apply bd_128; omega))); done)); (focus decide))) | ((apply div_b; (focus (first | decide | omega)); (focus ((repeat' (first | assumption | apply bd_add | apply bd_sub | apply bd_mul | apply bd_neg | (apply bd_64; decide) | (apply bd_64; omega) | (apply bd_128; decide) | (apply bd_128; omega))); done)); (focus decide))) | decide | (show (_ : Int) ≠ 0; omega))))); (conv => whnf))))
  exact q _ _ (hL d (List.mem_of_getElem? hd)) (pen.mono (by omega))
theorem refused_ok {a b c : D} (o : BadBk h a b c) (q : ∀ h', Sub h h' → Q (.bl true) h') : wpCall P0 (k + 6) 1457 [.lst [a, b, c]] h X Q := by
  refine call_of (fn := lf_refused_1457) rfl rfl ?_
  (((conv => whnf); repeat ((first | refine cut_in ?_ | (first | with_reducible refine ret_of ?_ | with_reducible refine ix_of at0 ?_ | with_reducible refine ix_of at1 ?_ | with_reducible refine ix_of at2 ?_ | with_reducible refine ix_of at3 ?_ | ((with_reducible apply isi_of); focus rfl) | refine pF ?_ | refine pT ?_ | ((with_reducible refine And.intro (len_le ?_) ?_); (focus (simp; done))) | ((with_reducible refine And.intro ?_ ?_); (focus (first | ((apply mul_b; (focus ((repeat' (first | assumption | apply bd_add | apply bd_sub | apply bd_mul | apply bd_neg | (apply bd_64; decide) | (apply bd_64; omega) | (apply bd_128; decide) | (apply bd_128; omega))); done)); (focus ((repeat' (first | assumption | apply bd_add | apply bd_sub | apply bd_mul | apply bd_neg | (apply bd_64; decide) | (apply bd_64; omega) | (apply bd_128; decide) | (apply bd_128; omega))); done)); (focus decide))) | ((apply div_b; (focus (first | decide | omega)); (focus ((repeat' (first | assumption | apply bd_add | apply bd_sub | apply bd_mul | apply bd_neg | (apply bd_64; decide) | (apply bd_64; omega) | (apply bd_128; decide) | (apply bd_128; omega))); done)); (focus decide))) | decide | (show (_ : Int) ≠ 0; omega)))))); (conv => whnf))))
  refine book_of_no (by ((first | assumption | (repeat' (first | assumption | rfl | apply And.intro))))) o fun h' sb => ?_
  (((conv => whnf); repeat ((first | refine cut_in ?_ | (first | with_reducible refine ret_of ?_ | with_reducible refine ix_of at0 ?_ | with_reducible refine ix_of at1 ?_ | with_reducible refine ix_of at2 ?_ | with_reducible refine ix_of at3 ?_ | ((with_reducible apply isi_of); focus rfl) | refine pF ?_ | refine pT ?_ | ((with_reducible refine And.intro (len_le ?_) ?_); (focus (simp; done))) | ((with_reducible refine And.intro ?_ ?_); (focus (first | ((apply mul_b; (focus ((repeat' (first | assumption | apply bd_add | apply bd_sub | apply bd_mul | apply bd_neg | (apply bd_64; decide) | (apply bd_64; omega) | (apply bd_128; decide) | (apply bd_128; omega))); done)); (focus ((repeat' (first | assumption | apply bd_add | apply bd_sub | apply bd_mul | apply bd_neg | (apply bd_64; decide) | (apply bd_64; omega) | (apply bd_128; decide) | (apply bd_128; omega))); done)); (focus decide))) | ((apply div_b; (focus (first | decide | omega)); (focus ((repeat' (first | assumption | apply bd_add | apply bd_sub | apply bd_mul | apply bd_neg | (apply bd_64; decide) | (apply bd_64; omega) | (apply bd_128; decide) | (apply bd_128; omega))); done)); (focus decide))) | decide | (show (_ : Int) ≠ 0; omega)))))); (conv => whnf))))
  exact q h' sb
theorem spoilt_ok {p : Addr} {ns : List Int} {B : Int} (pen : PenAt h p ns B) (hB : B < 2 ^ 79) {m : Nat} (m2 : 2 ≤ m) (m6 : m ≤ 6) {ks : List Nat} (k5 : ks.length ≤ 5) (k6 : ∀ k ∈ ks, 1 ≤ k ∧ k ≤ 6) {R : List Rw} (hR : ∀ r ∈ R, RwOk m ks r) (rl : R.length ≤ 9) (q : ∀ a b c h', BadBk h' a b c → PenAt h' p ns (B + 20) → Q (.lst [a, b, c]) h') : wpCall P0 (k + 3) 1517 [.ref p, .lst [.int (m : Int), .lst (ksD ks), .lst (R.map rwT)]] h X Q := by
  have e29 : (10 : Int) ^ Int.toNat 29 = 100000000000000000000000000000 := by decide
  have kl : (ksD ks).length = ks.length := by unfold ksD; rw [List.length_map]
  have rll : (R.map rwT).length = R.length := List.length_map _
  have gk : ∀ x ∈ ksD ks, ∃ k : Nat, x = .int (k : Int) ∧ 1 ≤ k ∧ k ≤ 6 := fun x hx => by
    obtain ⟨k, hk, rfl⟩ := List.mem_map.mp hx
    exact ⟨k, rfl, k6 k hk⟩
  refine call_of (fn := lf_spoilt_1517) rfl rfl ?_
  (((conv => whnf); repeat ((first | with_reducible refine ret_of ?_ | with_reducible refine ix_of at0 ?_ | with_reducible refine ix_of at1 ?_ | with_reducible refine ix_of at2 ?_ | with_reducible refine ix_of at3 ?_ | ((with_reducible apply isi_of); focus rfl) | refine pF ?_ | refine pT ?_ | ((with_reducible refine And.intro (len_le ?_) ?_); (focus (simp; done))) | ((with_reducible refine And.intro ?_ ?_); (focus (first | ((apply mul_b; (focus ((repeat' (first | assumption | apply bd_add | apply bd_sub | apply bd_mul | apply bd_neg | (apply bd_64; decide) | (apply bd_64; omega) | (apply bd_128; decide) | (apply bd_128; omega))); done)); (focus ((repeat' (first | assumption | apply bd_add | apply bd_sub | apply bd_mul | apply bd_neg | (apply bd_64; decide) | (apply bd_64; omega) | (apply bd_128; decide) | (apply bd_128; omega))); done)); (focus decide))) | ((apply div_b; (focus (first | decide | omega)); (focus ((repeat' (first | assumption | apply bd_add | apply bd_sub | apply bd_mul | apply bd_neg | (apply bd_64; decide) | (apply bd_64; omega) | (apply bd_128; decide) | (apply bd_128; omega))); done)); (focus decide))) | decide | (show (_ : Int) ≠ 0; omega))))); (conv => whnf))))
  refine nx pen (by omega) (by decide) (by decide) fun way h1 a1 b1 pen o1 => ?_
  (((conv => whnf); repeat ((first | with_reducible refine ret_of ?_ | with_reducible refine ix_of at0 ?_ | with_reducible refine ix_of at1 ?_ | with_reducible refine ix_of at2 ?_ | with_reducible refine ix_of at3 ?_ | ((with_reducible apply isi_of); focus rfl) | refine pF ?_ | refine pT ?_ | ((with_reducible refine And.intro (len_le ?_) ?_); (focus (simp; done))) | ((with_reducible refine And.intro ?_ ?_); (focus (first | ((apply mul_b; (focus ((repeat' (first | assumption | apply bd_add | apply bd_sub | apply bd_mul | apply bd_neg | (apply bd_64; decide) | (apply bd_64; omega) | (apply bd_128; decide) | (apply bd_128; omega))); done)); (focus ((repeat' (first | assumption | apply bd_add | apply bd_sub | apply bd_mul | apply bd_neg | (apply bd_64; decide) | (apply bd_64; omega) | (apply bd_128; decide) | (apply bd_128; omega))); done)); (focus decide))) | ((apply div_b; (focus (first | decide | omega)); (focus ((repeat' (first | assumption | apply bd_add | apply bd_sub | apply bd_mul | apply bd_neg | (apply bd_64; decide) | (apply bd_64; omega) | (apply bd_128; decide) | (apply bd_128; omega))); done)); (focus decide))) | decide | (show (_ : Int) ≠ 0; omega))))); (conv => whnf))))
  refine ⟨fun e => ?_, fun e0 => ?_⟩
  · clear e
    (((conv => whnf); repeat ((first | with_reducible refine ret_of ?_ | with_reducible refine ix_of at0 ?_ | with_reducible refine ix_of at1 ?_ | with_reducible refine ix_of at2 ?_ | with_reducible refine ix_of at3 ?_ | ((with_reducible apply isi_of); focus rfl) | refine pF ?_ | refine pT ?_ | ((with_reducible refine And.intro (len_le ?_) ?_); (focus (simp; done))) | ((with_reducible refine And.intro ?_ ?_); (focus (first | ((apply mul_b; (focus ((repeat' (first | assumption | apply bd_add | apply bd_sub | apply bd_mul | apply bd_neg | (apply bd_64; decide) | (apply bd_64; omega) | (apply bd_128; decide) | (apply bd_128; omega))); done)); (focus ((repeat' (first | assumption | apply bd_add | apply bd_sub | apply bd_mul | apply bd_neg | (apply bd_64; decide) | (apply bd_64; omega) | (apply bd_128; decide) | (apply bd_128; omega))); done)); (focus decide))) | ((apply div_b; (focus (first | decide | omega)); (focus ((repeat' (first | assumption | apply bd_add | apply bd_sub | apply bd_mul | apply bd_neg | (apply bd_64; decide) | (apply bd_64; omega) | (apply bd_128; decide) | (apply bd_128; omega))); done)); (focus decide))) | decide | (show (_ : Int) ≠ 0; omega))))); (conv => whnf))))
    refine nx pen (by omega) (by decide) (by decide) fun x h2 a2 b2 pen o2 => ?_
    have key : ∃ d, atI [D.int 1, .int 7, .int 0, .int (-3), .int (10 ^ Int.toNat 29), .bl true, .non, .str "2", .tup [.int 2]] x = some d ∧ (OddN h2 d ∨ ∃ i : Int, d = .int i ∧ ¬ (2 ≤ i ∧ i ≤ 6)) := by
      rcases (show x = 0 ∨ x = 1 ∨ x = 2 ∨ x = 3 ∨ x = 4 ∨ x = 5 ∨ x = 6 ∨ x = 7 ∨ x = 8 by omega) with rfl | rfl | rfl | rfl | rfl | rfl | rfl | rfl | rfl
      · exact ⟨_, rfl, .inr ⟨_, rfl, by omega⟩⟩
      · exact ⟨_, rfl, .inr ⟨_, rfl, by omega⟩⟩
      · exact ⟨_, rfl, .inr ⟨_, rfl, by omega⟩⟩
      · exact ⟨_, rfl, .inr ⟨_, rfl, by omega⟩⟩
      · exact ⟨_, rfl, .inr ⟨_, rfl, by omega⟩⟩
      · exact ⟨_, rfl, .inl (.inl ⟨_, rfl⟩)⟩
      · exact ⟨_, rfl, .inl (.inr rfl)⟩
      · exact ⟨_, rfl, .inl (.inr rfl)⟩
      · exact ⟨_, rfl, .inl (.inr rfl)⟩
    obtain ⟨d, ed, od⟩ := key
    refine ix_of ed ?_
    (((conv => whnf); repeat ((first | with_reducible refine ret_of ?_ | with_reducible refine ix_of at0 ?_ | with_reducible refine ix_of at1 ?_ | with_reducible refine ix_of at2 ?_ | with_reducible refine ix_of at3 ?_ | ((with_reducible apply isi_of); focus rfl) | refine pF ?_ | refine pT ?_ | ((with_reducible refine And.intro (len_le ?_) ?_); (focus (simp; done))) | ((with_reducible refine And.intro ?_ ?_); (focus (first | ((apply mul_b; (focus ((repeat' (first | assumption | apply bd_add | apply bd_sub | apply bd_mul | apply bd_neg | (apply bd_64; decide) | (apply bd_64; omega) | (apply bd_128; decide) | (apply bd_128; omega))); done)); (focus ((repeat' (first | assumption | apply bd_add | apply bd_sub | apply bd_mul | apply bd_neg | (apply bd_64; decide) | (apply bd_64; omega) | (apply bd_128; decide) | (apply bd_128; omega))); done)); (focus decide))) | ((apply div_b; (focus (first | decide | omega)); (focus ((repeat' (first | assumption | apply bd_add | apply bd_sub | apply bd_mul | apply bd_neg | (apply bd_64; decide) | (apply bd_64; omega) | (apply bd_128; decide) | (apply bd_128; omega))); done)); (focus decide))) | decide | (show (_ : Int) ≠ 0; omega))))); (conv => whnf))))
    exact q _ _ _ _ (.many od) (pen.mono (by omega))
  clear e0
  (((conv => whnf); repeat ((first | with_reducible refine ret_of ?_ | with_reducible refine ix_of at0 ?_ | with_reducible refine ix_of at1 ?_ | with_reducible refine ix_of at2 ?_ | with_reducible refine ix_of at3 ?_ | ((with_reducible apply isi_of); focus rfl) | refine pF ?_ | refine pT ?_ | ((with_reducible refine And.intro (len_le ?_) ?_); (focus (simp; done))) | ((with_reducible refine And.intro ?_ ?_); (focus (first | ((apply mul_b; (focus ((repeat' (first | assumption | apply bd_add | apply bd_sub | apply bd_mul | apply bd_neg | (apply bd_64; decide) | (apply bd_64; omega) | (apply bd_128; decide) | (apply bd_128; omega))); done)); (focus ((repeat' (first | assumption | apply bd_add | apply bd_sub | apply bd_mul | apply bd_neg | (apply bd_64; decide) | (apply bd_64; omega) | (apply bd_128; decide) | (apply bd_128; omega))); done)); (focus decide))) | ((apply div_b; (focus (first | decide | omega)); (focus ((repeat' (first | assumption | apply bd_add | apply bd_sub | apply bd_mul | apply bd_neg | (apply bd_64; decide) | (apply bd_64; omega) | (apply bd_128; decide) | (apply bd_128; omega))); done)); (focus decide))) | decide | (show (_ : Int) ≠ 0; omega))))); (conv => whnf))))
  refine ⟨fun e => ?_, fun e0 => ?_⟩
  · clear e
    (((conv => whnf); repeat ((first | with_reducible refine ret_of ?_ | with_reducible refine ix_of at0 ?_ | with_reducible refine ix_of at1 ?_ | with_reducible refine ix_of at2 ?_ | with_reducible refine ix_of at3 ?_ | ((with_reducible apply isi_of); focus rfl) | refine pF ?_ | refine pT ?_ | ((with_reducible refine And.intro (len_le ?_) ?_); (focus (simp; done))) | ((with_reducible refine And.intro ?_ ?_); (focus (first | ((apply mul_b; (focus ((repeat' (first | assumption | apply bd_add | apply bd_sub | apply bd_mul | apply bd_neg | (apply bd_64; decide) | (apply bd_64; omega) | (apply bd_128; decide) | (apply bd_128; omega))); done)); (focus ((repeat' (first | assumption | apply bd_add | apply bd_sub | apply bd_mul | apply bd_neg | (apply bd_64; decide) | (apply bd_64; omega) | (apply bd_128; decide) | (apply bd_128; omega))); done)); (focus decide))) | ((apply div_b; (focus (first | decide | omega)); (focus ((repeat' (first | assumption | apply bd_add | apply bd_sub | apply bd_mul | apply bd_neg | (apply bd_64; decide) | (apply bd_64; omega) | (apply bd_128; decide) | (apply bd_128; omega))); done)); (focus decide))) | decide | (show (_ : Int) ≠ 0; omega))))); (conv => whnf))))
    refine nx pen (by omega) (by decide) (by decide) fun x h2 a2 b2 pen o2 => ?_
    have key : ∃ d, atI [D.int 0, .int 7, .int (-1), .bl true, .non, .lst [.int 2], .str "2", .int (10 ^ Int.toNat 29)] x = some d ∧ ∀ hh, BadMn hh d := by
      rcases (show x = 0 ∨ x = 1 ∨ x = 2 ∨ x = 3 ∨ x = 4 ∨ x = 5 ∨ x = 6 ∨ x = 7 by omega) with rfl | rfl | rfl | rfl | rfl | rfl | rfl | rfl
      · exact ⟨_, rfl, fun _ => .inr ⟨_, rfl, by omega⟩⟩
      · exact ⟨_, rfl, fun _ => .inr ⟨_, rfl, by omega⟩⟩
      · exact ⟨_, rfl, fun _ => .inr ⟨_, rfl, by omega⟩⟩
      · exact ⟨_, rfl, fun _ => .inl (.inl ⟨_, rfl⟩)⟩
      · exact ⟨_, rfl, fun _ => .inl (.inr rfl)⟩
      · exact ⟨_, rfl, fun _ => .inl (.inr rfl)⟩
      · exact ⟨_, rfl, fun _ => .inl (.inr rfl)⟩
      · exact ⟨_, rfl, fun _ => .inr ⟨_, rfl, by omega⟩⟩
    obtain ⟨d, ed, od⟩ := key
    refine ix_of ed ?_
    (((conv => whnf); repeat ((first | with_reducible refine ret_of ?_ | with_reducible refine ix_of at0 ?_ | with_reducible refine ix_of at1 ?_ | with_reducible refine ix_of at2 ?_ | with_reducible refine ix_of at3 ?_ | ((with_reducible apply isi_of); focus rfl) | refine pF ?_ | refine pT ?_ | ((with_reducible refine And.intro (len_le ?_) ?_); (focus (simp; done))) | ((with_reducible refine And.intro ?_ ?_); (focus (first | ((apply mul_b; (focus ((repeat' (first | assumption | apply bd_add | apply bd_sub | apply bd_mul | apply bd_neg | (apply bd_64; decide) | (apply bd_64; omega) | (apply bd_128; decide) | (apply bd_128; omega))); done)); (focus ((repeat' (first | assumption | apply bd_add | apply bd_sub | apply bd_mul | apply bd_neg | (apply bd_64; decide) | (apply bd_64; omega) | (apply bd_128; decide) | (apply bd_128; omega))); done)); (focus decide))) | ((apply div_b; (focus (first | decide | omega)); (focus ((repeat' (first | assumption | apply bd_add | apply bd_sub | apply bd_mul | apply bd_neg | (apply bd_64; decide) | (apply bd_64; omega) | (apply bd_128; decide) | (apply bd_128; omega))); done)); (focus decide))) | decide | (show (_ : Int) ≠ 0; omega))))); (conv => whnf))))
    rw [kl]
    refine nx pen (by omega) (by omega) (by omega) fun t h3 a3 b3 pen o3 => ?_
    have l1 := cutD_le (ksD ks) none (some t)
    have l2 := cutD_le (ksD ks) (some (t + 1)) none
    rw [kl] at l1 l2
    (((conv => whnf); repeat ((first | with_reducible refine ret_of ?_ | with_reducible refine ix_of at0 ?_ | with_reducible refine ix_of at1 ?_ | with_reducible refine ix_of at2 ?_ | with_reducible refine ix_of at3 ?_ | ((with_reducible apply isi_of); focus rfl) | refine pF ?_ | refine pT ?_ | ((with_reducible refine And.intro (len_le ?_) ?_); (focus (simp; done))) | ((with_reducible refine And.intro ?_ ?_); (focus (first | ((apply mul_b; (focus ((repeat' (first | assumption | apply bd_add | apply bd_sub | apply bd_mul | apply bd_neg | (apply bd_64; decide) | (apply bd_64; omega) | (apply bd_128; decide) | (apply bd_128; omega))); done)); (focus ((repeat' (first | assumption | apply bd_add | apply bd_sub | apply bd_mul | apply bd_neg | (apply bd_64; decide) | (apply bd_64; omega) | (apply bd_128; decide) | (apply bd_128; omega))); done)); (focus decide))) | ((apply div_b; (focus (first | decide | omega)); (focus ((repeat' (first | assumption | apply bd_add | apply bd_sub | apply bd_mul | apply bd_neg | (apply bd_64; decide) | (apply bd_64; omega) | (apply bd_128; decide) | (apply bd_128; omega))); done)); (focus decide))) | decide | (show (_ : Int) ≠ 0; omega))))); (conv => whnf))))
    refine ⟨len_le (show _ ≤ 1000 by omega), ?_⟩
    (((conv => whnf); repeat ((first | with_reducible refine ret_of ?_ | with_reducible refine ix_of at0 ?_ | with_reducible refine ix_of at1 ?_ | with_reducible refine ix_of at2 ?_ | with_reducible refine ix_of at3 ?_ | ((with_reducible apply isi_of); focus rfl) | refine pF ?_ | refine pT ?_ | ((with_reducible refine And.intro (len_le ?_) ?_); (focus (simp; done))) | ((with_reducible refine And.intro ?_ ?_); (focus (first | ((apply mul_b; (focus ((repeat' (first | assumption | apply bd_add | apply bd_sub | apply bd_mul | apply bd_neg | (apply bd_64; decide) | (apply bd_64; omega) | (apply bd_128; decide) | (apply bd_128; omega))); done)); (focus ((repeat' (first | assumption | apply bd_add | apply bd_sub | apply bd_mul | apply bd_neg | (apply bd_64; decide) | (apply bd_64; omega) | (apply bd_128; decide) | (apply bd_128; omega))); done)); (focus decide))) | ((apply div_b; (focus (first | decide | omega)); (focus ((repeat' (first | assumption | apply bd_add | apply bd_sub | apply bd_mul | apply bd_neg | (apply bd_64; decide) | (apply bd_64; omega) | (apply bd_128; decide) | (apply bd_128; omega))); done)); (focus decide))) | decide | (show (_ : Int) ≠ 0; omega))))); (conv => whnf))))
    refine ⟨len_le (show _ + 1 ≤ 1000 by omega), ?_⟩
    (((conv => whnf); repeat ((first | with_reducible refine ret_of ?_ | with_reducible refine ix_of at0 ?_ | with_reducible refine ix_of at1 ?_ | with_reducible refine ix_of at2 ?_ | with_reducible refine ix_of at3 ?_ | ((with_reducible apply isi_of); focus rfl) | refine pF ?_ | refine pT ?_ | ((with_reducible refine And.intro (len_le ?_) ?_); (focus (simp; done))) | ((with_reducible refine And.intro ?_ ?_); (focus (first | ((apply mul_b; (focus ((repeat' (first | assumption | apply bd_add | apply bd_sub | apply bd_mul | apply bd_neg | (apply bd_64; decide) | (apply bd_64; omega) | (apply bd_128; decide) | (apply bd_128; omega))); done)); (focus ((repeat' (first | assumption | apply bd_add | apply bd_sub | apply bd_mul | apply bd_neg | (apply bd_64; decide) | (apply bd_64; omega) | (apply bd_128; decide) | (apply bd_128; omega))); done)); (focus decide))) | ((apply div_b; (focus (first | decide | omega)); (focus ((repeat' (first | assumption | apply bd_add | apply bd_sub | apply bd_mul | apply bd_neg | (apply bd_64; decide) | (apply bd_64; omega) | (apply bd_128; decide) | (apply bd_128; omega))); done)); (focus decide))) | decide | (show (_ : Int) ≠ 0; omega))))); (conv => whnf))))
    refine ⟨len_le (show _ ≤ 1000 by omega), ?_⟩
    (((conv => whnf); repeat ((first | with_reducible refine ret_of ?_ | with_reducible refine ix_of at0 ?_ | with_reducible refine ix_of at1 ?_ | with_reducible refine ix_of at2 ?_ | with_reducible refine ix_of at3 ?_ | ((with_reducible apply isi_of); focus rfl) | refine pF ?_ | refine pT ?_ | ((with_reducible refine And.intro (len_le ?_) ?_); (focus (simp; done))) | ((with_reducible refine And.intro ?_ ?_); (focus (first | ((apply mul_b; (focus ((repeat' (first | assumption | apply bd_add | apply bd_sub | apply bd_mul | apply bd_neg | (apply bd_64; decide) | (apply bd_64; omega) | (apply bd_128; decide) | (apply bd_128; omega))); done)); (focus ((repeat' (first | assumption | apply bd_add | apply bd_sub | apply bd_mul | apply bd_neg | (apply bd_64; decide) | (apply bd_64; omega) | (apply bd_128; decide) | (apply bd_128; omega))); done)); (focus decide))) | ((apply div_b; (focus (first | decide | omega)); (focus ((repeat' (first | assumption | apply bd_add | apply bd_sub | apply bd_mul | apply bd_neg | (apply bd_64; decide) | (apply bd_64; omega) | (apply bd_128; decide) | (apply bd_128; omega))); done)); (focus decide))) | decide | (show (_ : Int) ≠ 0; omega))))); (conv => whnf))))
    refine ⟨len_le (show _ ≤ 1000 by rw [List.length_append]; show _ + 1 + _ ≤ 1000; omega), ?_⟩
    (((conv => whnf); repeat ((first | with_reducible refine ret_of ?_ | with_reducible refine ix_of at0 ?_ | with_reducible refine ix_of at1 ?_ | with_reducible refine ix_of at2 ?_ | with_reducible refine ix_of at3 ?_ | ((with_reducible apply isi_of); focus rfl) | refine pF ?_ | refine pT ?_ | ((with_reducible refine And.intro (len_le ?_) ?_); (focus (simp; done))) | ((with_reducible refine And.intro ?_ ?_); (focus (first | ((apply mul_b; (focus ((repeat' (first | assumption | apply bd_add | apply bd_sub | apply bd_mul | apply bd_neg | (apply bd_64; decide) | (apply bd_64; omega) | (apply bd_128; decide) | (apply bd_128; omega))); done)); (focus ((repeat' (first | assumption | apply bd_add | apply bd_sub | apply bd_mul | apply bd_neg | (apply bd_64; decide) | (apply bd_64; omega) | (apply bd_128; decide) | (apply bd_128; omega))); done)); (focus decide))) | ((apply div_b; (focus (first | decide | omega)); (focus ((repeat' (first | assumption | apply bd_add | apply bd_sub | apply bd_mul | apply bd_neg | (apply bd_64; decide) | (apply bd_64; omega) | (apply bd_128; decide) | (apply bd_128; omega))); done)); (focus decide))) | decide | (show (_ : Int) ≠ 0; omega))))); (conv => whnf))))
    refine q _ _ _ _ (.marks m2 m6 ?_) (pen.mono (by omega))
    by_cases c : (cutD (ksD ks) none (some t) ++ [d] ++ cutD (ksD ks) (some (t + 1)) none).length ≤ 5
    · refine .inr ⟨_, rfl, c, fun x hx => ?_, d, by simp, od _⟩
      rcases List.mem_append.mp hx with z | z
      · rcases List.mem_append.mp z with z | z
        · exact .inl (gk x (cutD_mem z))
        · rw [List.mem_singleton.mp z]; exact .inr (od _)
      · exact .inl (gk x (cutD_mem z))
    · exact .inl (.inr ⟨_, rfl, by omega⟩)
  clear e0
  (((conv => whnf); repeat ((first | with_reducible refine ret_of ?_ | with_reducible refine ix_of at0 ?_ | with_reducible refine ix_of at1 ?_ | with_reducible refine ix_of at2 ?_ | with_reducible refine ix_of at3 ?_ | ((with_reducible apply isi_of); focus rfl) | refine pF ?_ | refine pT ?_ | ((with_reducible refine And.intro (len_le ?_) ?_); (focus (simp; done))) | ((with_reducible refine And.intro ?_ ?_); (focus (first | ((apply mul_b; (focus ((repeat' (first | assumption | apply bd_add | apply bd_sub | apply bd_mul | apply bd_neg | (apply bd_64; decide) | (apply bd_64; omega) | (apply bd_128; decide) | (apply bd_128; omega))); done)); (focus ((repeat' (first | assumption | apply bd_add | apply bd_sub | apply bd_mul | apply bd_neg | (apply bd_64; decide) | (apply bd_64; omega) | (apply bd_128; decide) | (apply bd_128; omega))); done)); (focus decide))) | ((apply div_b; (focus (first | decide | omega)); (focus ((repeat' (first | assumption | apply bd_add | apply bd_sub | apply bd_mul | apply bd_neg | (apply bd_64; decide) | (apply bd_64; omega) | (apply bd_128; decide) | (apply bd_128; omega))); done)); (focus decide))) | decide | (show (_ : Int) ≠ 0; omega))))); (conv => whnf))))
  refine ⟨fun e => ?_, fun e0 => ?_⟩
  · clear e
    (((conv => whnf); repeat ((first | with_reducible refine ret_of ?_ | with_reducible refine ix_of at0 ?_ | with_reducible refine ix_of at1 ?_ | with_reducible refine ix_of at2 ?_ | with_reducible refine ix_of at3 ?_ | ((with_reducible apply isi_of); focus rfl) | refine pF ?_ | refine pT ?_ | ((with_reducible refine And.intro (len_le ?_) ?_); (focus (simp; done))) | ((with_reducible refine And.intro ?_ ?_); (focus (first | ((apply mul_b; (focus ((repeat' (first | assumption | apply bd_add | apply bd_sub | apply bd_mul | apply bd_neg | (apply bd_64; decide) | (apply bd_64; omega) | (apply bd_128; decide) | (apply bd_128; omega))); done)); (focus ((repeat' (first | assumption | apply bd_add | apply bd_sub | apply bd_mul | apply bd_neg | (apply bd_64; decide) | (apply bd_64; omega) | (apply bd_128; decide) | (apply bd_128; omega))); done)); (focus decide))) | ((apply div_b; (focus (first | decide | omega)); (focus ((repeat' (first | assumption | apply bd_add | apply bd_sub | apply bd_mul | apply bd_neg | (apply bd_64; decide) | (apply bd_64; omega) | (apply bd_128; decide) | (apply bd_128; omega))); done)); (focus decide))) | decide | (show (_ : Int) ≠ 0; omega))))); (conv => whnf))))
    intro f hf
    have fne := pen.ne hf
    have pen := pen.put (c := .dct []) fne
    have ef : put h1 f (.dct []) f = some (.dct []) := put_same
    generalize put h1 f (.dct []) = h2 at *
    (((conv => whnf); repeat ((first | with_reducible refine ret_of ?_ | with_reducible refine ix_of at0 ?_ | with_reducible refine ix_of at1 ?_ | with_reducible refine ix_of at2 ?_ | with_reducible refine ix_of at3 ?_ | ((with_reducible apply isi_of); focus rfl) | refine pF ?_ | refine pT ?_ | ((with_reducible refine And.intro (len_le ?_) ?_); (focus (simp; done))) | ((with_reducible refine And.intro ?_ ?_); (focus (first | ((apply mul_b; (focus ((repeat' (first | assumption | apply bd_add | apply bd_sub | apply bd_mul | apply bd_neg | (apply bd_64; decide) | (apply bd_64; omega) | (apply bd_128; decide) | (apply bd_128; omega))); done)); (focus ((repeat' (first | assumption | apply bd_add | apply bd_sub | apply bd_mul | apply bd_neg | (apply bd_64; decide) | (apply bd_64; omega) | (apply bd_128; decide) | (apply bd_128; omega))); done)); (focus decide))) | ((apply div_b; (focus (first | decide | omega)); (focus ((repeat' (first | assumption | apply bd_add | apply bd_sub | apply bd_mul | apply bd_neg | (apply bd_64; decide) | (apply bd_64; omega) | (apply bd_128; decide) | (apply bd_128; omega))); done)); (focus decide))) | decide | (show (_ : Int) ≠ 0; omega))))); (conv => whnf))))
    refine nx pen (by omega) (by decide) (by decide) fun x h3 a3 b3 pen o3 => ?_
    have ef : h3 f = _ := (o3 f fne.symm).trans ef
    have key : ∃ d, atI [D.lst [.int 1, .int 1, .int 1, .int 1, .int 1, .int 1], .non, .int 3, .bl true, .str "12", .ref f] x = some d ∧ BadL 5 h3 d := by
      rcases (show x = 0 ∨ x = 1 ∨ x = 2 ∨ x = 3 ∨ x = 4 ∨ x = 5 by omega) with rfl | rfl | rfl | rfl | rfl | rfl
      · exact ⟨_, rfl, .inr ⟨_, rfl, by show 5 < 6; decide⟩⟩
      · exact ⟨_, rfl, .inl rfl⟩
      · exact ⟨_, rfl, .inl rfl⟩
      · exact ⟨_, rfl, .inl rfl⟩
      · exact ⟨_, rfl, .inl rfl⟩
      · refine ⟨_, rfl, .inl ?_⟩
        simp only [isiAny, isiOne]
        rw [ef]
    obtain ⟨d, ed, od⟩ := key
    refine ix_of ed ?_
    (((conv => whnf); repeat ((first | with_reducible refine ret_of ?_ | with_reducible refine ix_of at0 ?_ | with_reducible refine ix_of at1 ?_ | with_reducible refine ix_of at2 ?_ | with_reducible refine ix_of at3 ?_ | ((with_reducible apply isi_of); focus rfl) | refine pF ?_ | refine pT ?_ | ((with_reducible refine And.intro (len_le ?_) ?_); (focus (simp; done))) | ((with_reducible refine And.intro ?_ ?_); (focus (first | ((apply mul_b; (focus ((repeat' (first | assumption | apply bd_add | apply bd_sub | apply bd_mul | apply bd_neg | (apply bd_64; decide) | (apply bd_64; omega) | (apply bd_128; decide) | (apply bd_128; omega))); done)); (focus ((repeat' (first | assumption | apply bd_add | apply bd_sub | apply bd_mul | apply bd_neg | (apply bd_64; decide) | (apply bd_64; omega) | (apply bd_128; decide) | (apply bd_128; omega))); done)); (focus decide))) | ((apply div_b; (focus (first | decide | omega)); (focus ((repeat' (first | assumption | apply bd_add | apply bd_sub | apply bd_mul | apply bd_neg | (apply bd_64; decide) | (apply bd_64; omega) | (apply bd_128; decide) | (apply bd_128; omega))); done)); (focus decide))) | decide | (show (_ : Int) ≠ 0; omega))))); (conv => whnf))))
    exact q _ _ _ _ (.marks m2 m6 (.inl od)) (pen.mono (by omega))
  clear e0
  (((conv => whnf); repeat ((first | with_reducible refine ret_of ?_ | with_reducible refine ix_of at0 ?_ | with_reducible refine ix_of at1 ?_ | with_reducible refine ix_of at2 ?_ | with_reducible refine ix_of at3 ?_ | ((with_reducible apply isi_of); focus rfl) | refine pF ?_ | refine pT ?_ | ((with_reducible refine And.intro (len_le ?_) ?_); (focus (simp; done))) | ((with_reducible refine And.intro ?_ ?_); (focus (first | ((apply mul_b; (focus ((repeat' (first | assumption | apply bd_add | apply bd_sub | apply bd_mul | apply bd_neg | (apply bd_64; decide) | (apply bd_64; omega) | (apply bd_128; decide) | (apply bd_128; omega))); done)); (focus ((repeat' (first | assumption | apply bd_add | apply bd_sub | apply bd_mul | apply bd_neg | (apply bd_64; decide) | (apply bd_64; omega) | (apply bd_128; decide) | (apply bd_128; omega))); done)); (focus decide))) | ((apply div_b; (focus (first | decide | omega)); (focus ((repeat' (first | assumption | apply bd_add | apply bd_sub | apply bd_mul | apply bd_neg | (apply bd_64; decide) | (apply bd_64; omega) | (apply bd_128; decide) | (apply bd_128; omega))); done)); (focus decide))) | decide | (show (_ : Int) ≠ 0; omega))))); (conv => whnf))))
  refine ⟨fun e => ?_, fun e0 => ?_⟩
  · clear e
    unfold ksD
    (((conv => whnf); repeat ((first | with_reducible refine ret_of ?_ | with_reducible refine ix_of at0 ?_ | with_reducible refine ix_of at1 ?_ | with_reducible refine ix_of at2 ?_ | with_reducible refine ix_of at3 ?_ | ((with_reducible apply isi_of); focus rfl) | refine pF ?_ | refine pT ?_ | ((with_reducible refine And.intro (len_le ?_) ?_); (focus (simp; done))) | ((with_reducible refine And.intro ?_ ?_); (focus (first | ((apply mul_b; (focus ((repeat' (first | assumption | apply bd_add | apply bd_sub | apply bd_mul | apply bd_neg | (apply bd_64; decide) | (apply bd_64; omega) | (apply bd_128; decide) | (apply bd_128; omega))); done)); (focus ((repeat' (first | assumption | apply bd_add | apply bd_sub | apply bd_mul | apply bd_neg | (apply bd_64; decide) | (apply bd_64; omega) | (apply bd_128; decide) | (apply bd_128; omega))); done)); (focus decide))) | ((apply div_b; (focus (first | decide | omega)); (focus ((repeat' (first | assumption | apply bd_add | apply bd_sub | apply bd_mul | apply bd_neg | (apply bd_64; decide) | (apply bd_64; omega) | (apply bd_128; decide) | (apply bd_128; omega))); done)); (focus decide))) | decide | (show (_ : Int) ≠ 0; omega))))); (conv => whnf))))
    refine compW_map (fun (k : Nat) => D.int (k : Int)) (fun _ => D.int 0) (len_le (by omega)) (fun x hx acc G hG => ?_) ?_
    · (((conv => whnf); repeat ((first | with_reducible refine ret_of ?_ | with_reducible refine ix_of at0 ?_ | with_reducible refine ix_of at1 ?_ | with_reducible refine ix_of at2 ?_ | with_reducible refine ix_of at3 ?_ | ((with_reducible apply isi_of); focus rfl) | refine pF ?_ | refine pT ?_ | ((with_reducible refine And.intro (len_le ?_) ?_); (focus (simp; done))) | ((with_reducible refine And.intro ?_ ?_); (focus (first | ((apply mul_b; (focus ((repeat' (first | assumption | apply bd_add | apply bd_sub | apply bd_mul | apply bd_neg | (apply bd_64; decide) | (apply bd_64; omega) | (apply bd_128; decide) | (apply bd_128; omega))); done)); (focus ((repeat' (first | assumption | apply bd_add | apply bd_sub | apply bd_mul | apply bd_neg | (apply bd_64; decide) | (apply bd_64; omega) | (apply bd_128; decide) | (apply bd_128; omega))); done)); (focus decide))) | ((apply div_b; (focus (first | decide | omega)); (focus ((repeat' (first | assumption | apply bd_add | apply bd_sub | apply bd_mul | apply bd_neg | (apply bd_64; decide) | (apply bd_64; omega) | (apply bd_128; decide) | (apply bd_128; omega))); done)); (focus decide))) | decide | (show (_ : Int) ≠ 0; omega))))); (conv => whnf))))
      exact hG
    (((conv => whnf); repeat ((first | with_reducible refine ret_of ?_ | with_reducible refine ix_of at0 ?_ | with_reducible refine ix_of at1 ?_ | with_reducible refine ix_of at2 ?_ | with_reducible refine ix_of at3 ?_ | ((with_reducible apply isi_of); focus rfl) | refine pF ?_ | refine pT ?_ | ((with_reducible refine And.intro (len_le ?_) ?_); (focus (simp; done))) | ((with_reducible refine And.intro ?_ ?_); (focus (first | ((apply mul_b; (focus ((repeat' (first | assumption | apply bd_add | apply bd_sub | apply bd_mul | apply bd_neg | (apply bd_64; decide) | (apply bd_64; omega) | (apply bd_128; decide) | (apply bd_128; omega))); done)); (focus ((repeat' (first | assumption | apply bd_add | apply bd_sub | apply bd_mul | apply bd_neg | (apply bd_64; decide) | (apply bd_64; omega) | (apply bd_128; decide) | (apply bd_128; omega))); done)); (focus decide))) | ((apply div_b; (focus (first | decide | omega)); (focus ((repeat' (first | assumption | apply bd_add | apply bd_sub | apply bd_mul | apply bd_neg | (apply bd_64; decide) | (apply bd_64; omega) | (apply bd_128; decide) | (apply bd_128; omega))); done)); (focus decide))) | decide | (show (_ : Int) ≠ 0; omega))))); (conv => whnf))))
    refine compW_rng (n := 61) (fun _ => D.tup [.int 0, .tup (ks.map fun _ => D.int 0), .int 1, .int 1]) (len_le (by omega)) (fun j hj acc G hG => ?_) ?_
    · (((conv => whnf); repeat ((first | with_reducible refine ret_of ?_ | with_reducible refine ix_of at0 ?_ | with_reducible refine ix_of at1 ?_ | with_reducible refine ix_of at2 ?_ | with_reducible refine ix_of at3 ?_ | ((with_reducible apply isi_of); focus rfl) | refine pF ?_ | refine pT ?_ | ((with_reducible refine And.intro (len_le ?_) ?_); (focus (simp; done))) | ((with_reducible refine And.intro ?_ ?_); (focus (first | ((apply mul_b; (focus ((repeat' (first | assumption | apply bd_add | apply bd_sub | apply bd_mul | apply bd_neg | (apply bd_64; decide) | (apply bd_64; omega) | (apply bd_128; decide) | (apply bd_128; omega))); done)); (focus ((repeat' (first | assumption | apply bd_add | apply bd_sub | apply bd_mul | apply bd_neg | (apply bd_64; decide) | (apply bd_64; omega) | (apply bd_128; decide) | (apply bd_128; omega))); done)); (focus decide))) | ((apply div_b; (focus (first | decide | omega)); (focus ((repeat' (first | assumption | apply bd_add | apply bd_sub | apply bd_mul | apply bd_neg | (apply bd_64; decide) | (apply bd_64; omega) | (apply bd_128; decide) | (apply bd_128; omega))); done)); (focus decide))) | decide | (show (_ : Int) ≠ 0; omega))))); (conv => whnf))))
      exact hG
    have l61 : ((List.range 61).map fun _ => D.tup [.int 0, .tup (ks.map fun _ => D.int 0), .int 1, .int 1]).length = 61 := by rw [List.length_map, List.length_range]
    generalize ((List.range 61).map fun _ => D.tup [.int 0, .tup (ks.map fun _ => D.int 0), .int 1, .int 1]) = G61 at *
    (((conv => whnf); repeat ((first | with_reducible refine ret_of ?_ | with_reducible refine ix_of at0 ?_ | with_reducible refine ix_of at1 ?_ | with_reducible refine ix_of at2 ?_ | with_reducible refine ix_of at3 ?_ | ((with_reducible apply isi_of); focus rfl) | refine pF ?_ | refine pT ?_ | ((with_reducible refine And.intro (len_le ?_) ?_); (focus (simp; done))) | ((with_reducible refine And.intro ?_ ?_); (focus (first | ((apply mul_b; (focus ((repeat' (first | assumption | apply bd_add | apply bd_sub | apply bd_mul | apply bd_neg | (apply bd_64; decide) | (apply bd_64; omega) | (apply bd_128; decide) | (apply bd_128; omega))); done)); (focus ((repeat' (first | assumption | apply bd_add | apply bd_sub | apply bd_mul | apply bd_neg | (apply bd_64; decide) | (apply bd_64; omega) | (apply bd_128; decide) | (apply bd_128; omega))); done)); (focus decide))) | ((apply div_b; (focus (first | decide | omega)); (focus ((repeat' (first | assumption | apply bd_add | apply bd_sub | apply bd_mul | apply bd_neg | (apply bd_64; decide) | (apply bd_64; omega) | (apply bd_128; decide) | (apply bd_128; omega))); done)); (focus decide))) | decide | (show (_ : Int) ≠ 0; omega))))); (conv => whnf))))
    intro f hf
    have fne := pen.ne hf
    have pen := pen.put (c := .dct []) fne
    have ef : put h1 f (.dct []) f = some (.dct []) := put_same
    generalize put h1 f (.dct []) = h2 at *
    (((conv => whnf); repeat ((first | with_reducible refine ret_of ?_ | with_reducible refine ix_of at0 ?_ | with_reducible refine ix_of at1 ?_ | with_reducible refine ix_of at2 ?_ | with_reducible refine ix_of at3 ?_ | ((with_reducible apply isi_of); focus rfl) | refine pF ?_ | refine pT ?_ | ((with_reducible refine And.intro (len_le ?_) ?_); (focus (simp; done))) | ((with_reducible refine And.intro ?_ ?_); (focus (first | ((apply mul_b; (focus ((repeat' (first | assumption | apply bd_add | apply bd_sub | apply bd_mul | apply bd_neg | (apply bd_64; decide) | (apply bd_64; omega) | (apply bd_128; decide) | (apply bd_128; omega))); done)); (focus ((repeat' (first | assumption | apply bd_add | apply bd_sub | apply bd_mul | apply bd_neg | (apply bd_64; decide) | (apply bd_64; omega) | (apply bd_128; decide) | (apply bd_128; omega))); done)); (focus decide))) | ((apply div_b; (focus (first | decide | omega)); (focus ((repeat' (first | assumption | apply bd_add | apply bd_sub | apply bd_mul | apply bd_neg | (apply bd_64; decide) | (apply bd_64; omega) | (apply bd_128; decide) | (apply bd_128; omega))); done)); (focus decide))) | decide | (show (_ : Int) ≠ 0; omega))))); (conv => whnf))))
    refine nx pen (by omega) (by decide) (by decide) fun x h3 a3 b3 pen o3 => ?_
    have ef : h3 f = _ := (o3 f fne.symm).trans ef
    have key : ∃ d, atI [D.lst G61, .non, .int 5, .bl false, .str "rows", .ref f] x = some d ∧ BadL 60 h3 d := by
      rcases (show x = 0 ∨ x = 1 ∨ x = 2 ∨ x = 3 ∨ x = 4 ∨ x = 5 by omega) with rfl | rfl | rfl | rfl | rfl | rfl
      · exact ⟨_, rfl, .inr ⟨_, rfl, by omega⟩⟩
      · exact ⟨_, rfl, .inl rfl⟩
      · exact ⟨_, rfl, .inl rfl⟩
      · exact ⟨_, rfl, .inl rfl⟩
      · exact ⟨_, rfl, .inl rfl⟩
      · refine ⟨_, rfl, .inl ?_⟩
        simp only [isiAny, isiOne]
        rw [ef]
    obtain ⟨d, ed, od⟩ := key
    refine ix_of ed ?_
    (((conv => whnf); repeat ((first | with_reducible refine ret_of ?_ | with_reducible refine ix_of at0 ?_ | with_reducible refine ix_of at1 ?_ | with_reducible refine ix_of at2 ?_ | with_reducible refine ix_of at3 ?_ | ((with_reducible apply isi_of); focus rfl) | refine pF ?_ | refine pT ?_ | ((with_reducible refine And.intro (len_le ?_) ?_); (focus (simp; done))) | ((with_reducible refine And.intro ?_ ?_); (focus (first | ((apply mul_b; (focus ((repeat' (first | assumption | apply bd_add | apply bd_sub | apply bd_mul | apply bd_neg | (apply bd_64; decide) | (apply bd_64; omega) | (apply bd_128; decide) | (apply bd_128; omega))); done)); (focus ((repeat' (first | assumption | apply bd_add | apply bd_sub | apply bd_mul | apply bd_neg | (apply bd_64; decide) | (apply bd_64; omega) | (apply bd_128; decide) | (apply bd_128; omega))); done)); (focus decide))) | ((apply div_b; (focus (first | decide | omega)); (focus ((repeat' (first | assumption | apply bd_add | apply bd_sub | apply bd_mul | apply bd_neg | (apply bd_64; decide) | (apply bd_64; omega) | (apply bd_128; decide) | (apply bd_128; omega))); done)); (focus decide))) | decide | (show (_ : Int) ≠ 0; omega))))); (conv => whnf))))
    exact q _ _ _ _ (.rows m2 m6 k5 k6 od) (pen.mono (by omega))
  clear e0
  (((conv => whnf); repeat ((first | with_reducible refine ret_of ?_ | with_reducible refine ix_of at0 ?_ | with_reducible refine ix_of at1 ?_ | with_reducible refine ix_of at2 ?_ | with_reducible refine ix_of at3 ?_ | ((with_reducible apply isi_of); focus rfl) | refine pF ?_ | refine pT ?_ | ((with_reducible refine And.intro (len_le ?_) ?_); (focus (simp; done))) | ((with_reducible refine And.intro ?_ ?_); (focus (first | ((apply mul_b; (focus ((repeat' (first | assumption | apply bd_add | apply bd_sub | apply bd_mul | apply bd_neg | (apply bd_64; decide) | (apply bd_64; omega) | (apply bd_128; decide) | (apply bd_128; omega))); done)); (focus ((repeat' (first | assumption | apply bd_add | apply bd_sub | apply bd_mul | apply bd_neg | (apply bd_64; decide) | (apply bd_64; omega) | (apply bd_128; decide) | (apply bd_128; omega))); done)); (focus decide))) | ((apply div_b; (focus (first | decide | omega)); (focus ((repeat' (first | assumption | apply bd_add | apply bd_sub | apply bd_mul | apply bd_neg | (apply bd_64; decide) | (apply bd_64; omega) | (apply bd_128; decide) | (apply bd_128; omega))); done)); (focus decide))) | decide | (show (_ : Int) ≠ 0; omega))))); (conv => whnf))))
  rw [rll]
  refine nx pen (by omega) (by omega) (by omega) fun t h3 a3 b3 pen o3 => ?_
  obtain ⟨t, rfl⟩ : ∃ n' : Nat, t = (n' : Int) := ⟨t.toNat, by omega⟩
  have et : cutD (R.map rwT) none (some (t : Int)) = (R.take t).map rwT := by rw [cut_to, List.map_take]
  have l1 := cutD_le (R.map rwT) none (some (t : Int))
  rw [rll] at l1
  (((conv => whnf); repeat ((first | with_reducible refine ret_of ?_ | with_reducible refine ix_of at0 ?_ | with_reducible refine ix_of at1 ?_ | with_reducible refine ix_of at2 ?_ | with_reducible refine ix_of at3 ?_ | ((with_reducible apply isi_of); focus rfl) | refine pF ?_ | refine pT ?_ | ((with_reducible refine And.intro (len_le ?_) ?_); (focus (simp; done))) | ((with_reducible refine And.intro ?_ ?_); (focus (first | ((apply mul_b; (focus ((repeat' (first | assumption | apply bd_add | apply bd_sub | apply bd_mul | apply bd_neg | (apply bd_64; decide) | (apply bd_64; omega) | (apply bd_128; decide) | (apply bd_128; omega))); done)); (focus ((repeat' (first | assumption | apply bd_add | apply bd_sub | apply bd_mul | apply bd_neg | (apply bd_64; decide) | (apply bd_64; omega) | (apply bd_128; decide) | (apply bd_128; omega))); done)); (focus decide))) | ((apply div_b; (focus (first | decide | omega)); (focus ((repeat' (first | assumption | apply bd_add | apply bd_sub | apply bd_mul | apply bd_neg | (apply bd_64; decide) | (apply bd_64; omega) | (apply bd_128; decide) | (apply bd_128; omega))); done)); (focus decide))) | decide | (show (_ : Int) ≠ 0; omega))))); (conv => whnf))))
  refine ⟨len_le (show _ ≤ 1000 by omega), ?_⟩
  (((conv => whnf); repeat ((first | with_reducible refine ret_of ?_ | with_reducible refine ix_of at0 ?_ | with_reducible refine ix_of at1 ?_ | with_reducible refine ix_of at2 ?_ | with_reducible refine ix_of at3 ?_ | ((with_reducible apply isi_of); focus rfl) | refine pF ?_ | refine pT ?_ | ((with_reducible refine And.intro (len_le ?_) ?_); (focus (simp; done))) | ((with_reducible refine And.intro ?_ ?_); (focus (first | ((apply mul_b; (focus ((repeat' (first | assumption | apply bd_add | apply bd_sub | apply bd_mul | apply bd_neg | (apply bd_64; decide) | (apply bd_64; omega) | (apply bd_128; decide) | (apply bd_128; omega))); done)); (focus ((repeat' (first | assumption | apply bd_add | apply bd_sub | apply bd_mul | apply bd_neg | (apply bd_64; decide) | (apply bd_64; omega) | (apply bd_128; decide) | (apply bd_128; omega))); done)); (focus decide))) | ((apply div_b; (focus (first | decide | omega)); (focus ((repeat' (first | assumption | apply bd_add | apply bd_sub | apply bd_mul | apply bd_neg | (apply bd_64; decide) | (apply bd_64; omega) | (apply bd_128; decide) | (apply bd_128; omega))); done)); (focus decide))) | decide | (show (_ : Int) ≠ 0; omega))))); (conv => whnf))))
  refine bad_row_ok pen (by omega) m2 m6 k5 k6 fun d h4 bd pen => ?_
  (((conv => whnf); repeat ((first | with_reducible refine ret_of ?_ | with_reducible refine ix_of at0 ?_ | with_reducible refine ix_of at1 ?_ | with_reducible refine ix_of at2 ?_ | with_reducible refine ix_of at3 ?_ | ((with_reducible apply isi_of); focus rfl) | refine pF ?_ | refine pT ?_ | ((with_reducible refine And.intro (len_le ?_) ?_); (focus (simp; done))) | ((with_reducible refine And.intro ?_ ?_); (focus (first | ((apply mul_b; (focus ((repeat' (first | assumption | apply bd_add | apply bd_sub | apply bd_mul | apply bd_neg | (apply bd_64; decide) | (apply bd_64; omega) | (apply bd_128; decide) | (apply bd_128; omega))); done)); (focus ((repeat' (first | assumption | apply bd_add | apply bd_sub | apply bd_mul | apply bd_neg | (apply bd_64; decide) | (apply bd_64; omega) | (apply bd_128; decide) | (apply bd_128; omega))); done)); (focus decide))) | ((apply div_b; (focus (first | decide | omega)); (focus ((repeat' (first | assumption | apply bd_add | apply bd_sub | apply bd_mul | apply bd_neg | (apply bd_64; decide) | (apply bd_64; omega) | (apply bd_128; decide) | (apply bd_128; omega))); done)); (focus decide))) | decide | (show (_ : Int) ≠ 0; omega))))); (conv => whnf))))
  refine ⟨len_le (show _ + 1 ≤ 1000 by omega), ?_⟩
  (((conv => whnf); repeat ((first | with_reducible refine ret_of ?_ | with_reducible refine ix_of at0 ?_ | with_reducible refine ix_of at1 ?_ | with_reducible refine ix_of at2 ?_ | with_reducible refine ix_of at3 ?_ | ((with_reducible apply isi_of); focus rfl) | refine pF ?_ | refine pT ?_ | ((with_reducible refine And.intro (len_le ?_) ?_); (focus (simp; done))) | ((with_reducible refine And.intro ?_ ?_); (focus (first | ((apply mul_b; (focus ((repeat' (first | assumption | apply bd_add | apply bd_sub | apply bd_mul | apply bd_neg | (apply bd_64; decide) | (apply bd_64; omega) | (apply bd_128; decide) | (apply bd_128; omega))); done)); (focus ((repeat' (first | assumption | apply bd_add | apply bd_sub | apply bd_mul | apply bd_neg | (apply bd_64; decide) | (apply bd_64; omega) | (apply bd_128; decide) | (apply bd_128; omega))); done)); (focus decide))) | ((apply div_b; (focus (first | decide | omega)); (focus ((repeat' (first | assumption | apply bd_add | apply bd_sub | apply bd_mul | apply bd_neg | (apply bd_64; decide) | (apply bd_64; omega) | (apply bd_128; decide) | (apply bd_128; omega))); done)); (focus decide))) | decide | (show (_ : Int) ≠ 0; omega))))); (conv => whnf))))
  refine nx pen (by omega) (by decide) (by decide) fun x h5 a5 b5 pen o5 => ?_
  have l2 := cutD_le (R.map rwT) (some ((t : Int) + x)) none
  rw [rll] at l2
  (((conv => whnf); repeat ((first | with_reducible refine ret_of ?_ | with_reducible refine ix_of at0 ?_ | with_reducible refine ix_of at1 ?_ | with_reducible refine ix_of at2 ?_ | with_reducible refine ix_of at3 ?_ | ((with_reducible apply isi_of); focus rfl) | refine pF ?_ | refine pT ?_ | ((with_reducible refine And.intro (len_le ?_) ?_); (focus (simp; done))) | ((with_reducible refine And.intro ?_ ?_); (focus (first | ((apply mul_b; (focus ((repeat' (first | assumption | apply bd_add | apply bd_sub | apply bd_mul | apply bd_neg | (apply bd_64; decide) | (apply bd_64; omega) | (apply bd_128; decide) | (apply bd_128; omega))); done)); (focus ((repeat' (first | assumption | apply bd_add | apply bd_sub | apply bd_mul | apply bd_neg | (apply bd_64; decide) | (apply bd_64; omega) | (apply bd_128; decide) | (apply bd_128; omega))); done)); (focus decide))) | ((apply div_b; (focus (first | decide | omega)); (focus ((repeat' (first | assumption | apply bd_add | apply bd_sub | apply bd_mul | apply bd_neg | (apply bd_64; decide) | (apply bd_64; omega) | (apply bd_128; decide) | (apply bd_128; omega))); done)); (focus decide))) | decide | (show (_ : Int) ≠ 0; omega))))); (conv => whnf))))
  refine ⟨len_le (show _ ≤ 1000 by omega), ?_⟩
  (((conv => whnf); repeat ((first | with_reducible refine ret_of ?_ | with_reducible refine ix_of at0 ?_ | with_reducible refine ix_of at1 ?_ | with_reducible refine ix_of at2 ?_ | with_reducible refine ix_of at3 ?_ | ((with_reducible apply isi_of); focus rfl) | refine pF ?_ | refine pT ?_ | ((with_reducible refine And.intro (len_le ?_) ?_); (focus (simp; done))) | ((with_reducible refine And.intro ?_ ?_); (focus (first | ((apply mul_b; (focus ((repeat' (first | assumption | apply bd_add | apply bd_sub | apply bd_mul | apply bd_neg | (apply bd_64; decide) | (apply bd_64; omega) | (apply bd_128; decide) | (apply bd_128; omega))); done)); (focus ((repeat' (first | assumption | apply bd_add | apply bd_sub | apply bd_mul | apply bd_neg | (apply bd_64; decide) | (apply bd_64; omega) | (apply bd_128; decide) | (apply bd_128; omega))); done)); (focus decide))) | ((apply div_b; (focus (first | decide | omega)); (focus ((repeat' (first | assumption | apply bd_add | apply bd_sub | apply bd_mul | apply bd_neg | (apply bd_64; decide) | (apply bd_64; omega) | (apply bd_128; decide) | (apply bd_128; omega))); done)); (focus decide))) | decide | (show (_ : Int) ≠ 0; omega))))); (conv => whnf))))
  refine ⟨len_le (show _ ≤ 1000 by rw [List.length_append]; show _ + 1 + _ ≤ 1000; omega), ?_⟩
  (((conv => whnf); repeat ((first | with_reducible refine ret_of ?_ | with_reducible refine ix_of at0 ?_ | with_reducible refine ix_of at1 ?_ | with_reducible refine ix_of at2 ?_ | with_reducible refine ix_of at3 ?_ | ((with_reducible apply isi_of); focus rfl) | refine pF ?_ | refine pT ?_ | ((with_reducible refine And.intro (len_le ?_) ?_); (focus (simp; done))) | ((with_reducible refine And.intro ?_ ?_); (focus (first | ((apply mul_b; (focus ((repeat' (first | assumption | apply bd_add | apply bd_sub | apply bd_mul | apply bd_neg | (apply bd_64; decide) | (apply bd_64; omega) | (apply bd_128; decide) | (apply bd_128; omega))); done)); (focus ((repeat' (first | assumption | apply bd_add | apply bd_sub | apply bd_mul | apply bd_neg | (apply bd_64; decide) | (apply bd_64; omega) | (apply bd_128; decide) | (apply bd_128; omega))); done)); (focus decide))) | ((apply div_b; (focus (first | decide | omega)); (focus ((repeat' (first | assumption | apply bd_add | apply bd_sub | apply bd_mul | apply bd_neg | (apply bd_64; decide) | (apply bd_64; omega) | (apply bd_128; decide) | (apply bd_128; omega))); done)); (focus decide))) | decide | (show (_ : Int) ≠ 0; omega))))); (conv => whnf))))
  rw [et, List.append_assoc]
  refine q _ _ _ _ (.row (rest := cutD (R.map rwT) (some ((t : Int) + x)) none) m2 m6 k5 k6 (fun r hr => hR r (List.mem_of_mem_take hr)) ?_ bd) (pen.mono (by omega))
  rw [List.length_append, List.length_map, List.length_take, List.length_cons]
  omega
end
theorem law_true (ns : List Int) (hl : ns.length ≤ 63) : wpCall P0 14 999 [.scr (ns.map D.int)] (fun _ => none) (fun _ _ => False) fun d _ => d = .bl true := by
  refine call_of (fn := fn_law) rfl rfl ?_
  (((conv => whnf); repeat ((first | with_reducible refine ret_of ?_ | with_reducible refine ix_of at0 ?_ | with_reducible refine ix_of at1 ?_ | with_reducible refine ix_of at2 ?_ | with_reducible refine ix_of at3 ?_ | ((with_reducible apply isi_of); focus rfl) | refine pF ?_ | refine pT ?_ | ((with_reducible refine And.intro (len_le ?_) ?_); (focus (simp; done))) | ((with_reducible refine And.intro ?_ ?_); (focus (first | ((apply mul_b; (focus ((repeat' (first | assumption | apply bd_add | apply bd_sub | apply bd_mul | apply bd_neg | (apply bd_64; decide) | (apply bd_64; omega) | (apply bd_128; decide) | (apply bd_128; omega))); done)); (focus ((repeat' (first | assumption | apply bd_add | apply bd_sub | apply bd_mul | apply bd_neg | (apply bd_64; decide) | (apply bd_64; omega) | (apply bd_128; decide) | (apply bd_128; omega))); done)); (focus decide))) | ((apply div_b; (focus (first | decide | omega)); (focus ((repeat' (first | assumption | apply bd_add | apply bd_sub | apply bd_mul | apply bd_neg | (apply bd_64; decide) | (apply bd_64; omega) | (apply bd_128; decide) | (apply bd_128; omega))); done)); (focus decide))) | decide | (show (_ : Int) ≠ 0; omega))))); (conv => whnf))))
  refine pn fun p h' hp pen off => ?_
  (((conv => whnf); repeat ((first | with_reducible refine ret_of ?_ | with_reducible refine ix_of at0 ?_ | with_reducible refine ix_of at1 ?_ | with_reducible refine ix_of at2 ?_ | with_reducible refine ix_of at3 ?_ | ((with_reducible apply isi_of); focus rfl) | refine pF ?_ | refine pT ?_ | ((with_reducible refine And.intro (len_le ?_) ?_); (focus (simp; done))) | ((with_reducible refine And.intro ?_ ?_); (focus (first | ((apply mul_b; (focus ((repeat' (first | assumption | apply bd_add | apply bd_sub | apply bd_mul | apply bd_neg | (apply bd_64; decide) | (apply bd_64; omega) | (apply bd_128; decide) | (apply bd_128; omega))); done)); (focus ((repeat' (first | assumption | apply bd_add | apply bd_sub | apply bd_mul | apply bd_neg | (apply bd_64; decide) | (apply bd_64; omega) | (apply bd_128; decide) | (apply bd_128; omega))); done)); (focus decide))) | ((apply div_b; (focus (first | decide | omega)); (focus ((repeat' (first | assumption | apply bd_add | apply bd_sub | apply bd_mul | apply bd_neg | (apply bd_64; decide) | (apply bd_64; omega) | (apply bd_128; decide) | (apply bd_128; omega))); done)); (focus decide))) | decide | (show (_ : Int) ≠ 0; omega))))); (conv => whnf))))
  refine nx pen (by omega) (by decide) (by decide) fun x h1 a1 b1 pen o1 => ?_
  obtain ⟨m, m2, m6, em⟩ : ∃ m : Nat, 2 ≤ m ∧ m ≤ 6 ∧ 2 + x = (m : Int) := ⟨(2 + x).toNat, by omega, by omega, by omega⟩
  (((conv => whnf); repeat ((first | with_reducible refine ret_of ?_ | with_reducible refine ix_of at0 ?_ | with_reducible refine ix_of at1 ?_ | with_reducible refine ix_of at2 ?_ | with_reducible refine ix_of at3 ?_ | ((with_reducible apply isi_of); focus rfl) | refine pF ?_ | refine pT ?_ | ((with_reducible refine And.intro (len_le ?_) ?_); (focus (simp; done))) | ((with_reducible refine And.intro ?_ ?_); (focus (first | ((apply mul_b; (focus ((repeat' (first | assumption | apply bd_add | apply bd_sub | apply bd_mul | apply bd_neg | (apply bd_64; decide) | (apply bd_64; omega) | (apply bd_128; decide) | (apply bd_128; omega))); done)); (focus ((repeat' (first | assumption | apply bd_add | apply bd_sub | apply bd_mul | apply bd_neg | (apply bd_64; decide) | (apply bd_64; omega) | (apply bd_128; decide) | (apply bd_128; omega))); done)); (focus decide))) | ((apply div_b; (focus (first | decide | omega)); (focus ((repeat' (first | assumption | apply bd_add | apply bd_sub | apply bd_mul | apply bd_neg | (apply bd_64; decide) | (apply bd_64; omega) | (apply bd_128; decide) | (apply bd_128; omega))); done)); (focus decide))) | decide | (show (_ : Int) ≠ 0; omega))))); (conv => whnf))))
  rw [em]
  refine nx pen (by omega) (by decide) (by decide) fun n h2 a2 b2 pen o2 => ?_
  obtain ⟨n, rfl⟩ : ∃ n' : Nat, n = (n' : Int) := ⟨n.toNat, by omega⟩
  (((conv => whnf); repeat ((first | with_reducible refine ret_of ?_ | with_reducible refine ix_of at0 ?_ | with_reducible refine ix_of at1 ?_ | with_reducible refine ix_of at2 ?_ | with_reducible refine ix_of at3 ?_ | ((with_reducible apply isi_of); focus rfl) | refine pF ?_ | refine pT ?_ | ((with_reducible refine And.intro (len_le ?_) ?_); (focus (simp; done))) | ((with_reducible refine And.intro ?_ ?_); (focus (first | ((apply mul_b; (focus ((repeat' (first | assumption | apply bd_add | apply bd_sub | apply bd_mul | apply bd_neg | (apply bd_64; decide) | (apply bd_64; omega) | (apply bd_128; decide) | (apply bd_128; omega))); done)); (focus ((repeat' (first | assumption | apply bd_add | apply bd_sub | apply bd_mul | apply bd_neg | (apply bd_64; decide) | (apply bd_64; omega) | (apply bd_128; decide) | (apply bd_128; omega))); done)); (focus decide))) | ((apply div_b; (focus (first | decide | omega)); (focus ((repeat' (first | assumption | apply bd_add | apply bd_sub | apply bd_mul | apply bd_neg | (apply bd_64; decide) | (apply bd_64; omega) | (apply bd_128; decide) | (apply bd_128; omega))); done)); (focus decide))) | decide | (show (_ : Int) ≠ 0; omega))))); (conv => whnf))))
  refine ⟨⟨by omega, by omega⟩, ?_⟩
  rw [Int.toNat_natCast]
  refine compW_draw (fun (k : Nat) => D.int (k : Int)) (fun k => 1 ≤ k ∧ k ≤ 6) 1 (by omega) pen (fun i h4 acc G hi off pen hG => ?_) fun ks h4 lk k6 pen off => ?_
  · (((conv => whnf); repeat ((first | with_reducible refine ret_of ?_ | with_reducible refine ix_of at0 ?_ | with_reducible refine ix_of at1 ?_ | with_reducible refine ix_of at2 ?_ | with_reducible refine ix_of at3 ?_ | ((with_reducible apply isi_of); focus rfl) | refine pF ?_ | refine pT ?_ | ((with_reducible refine And.intro (len_le ?_) ?_); (focus (simp; done))) | ((with_reducible refine And.intro ?_ ?_); (focus (first | ((apply mul_b; (focus ((repeat' (first | assumption | apply bd_add | apply bd_sub | apply bd_mul | apply bd_neg | (apply bd_64; decide) | (apply bd_64; omega) | (apply bd_128; decide) | (apply bd_128; omega))); done)); (focus ((repeat' (first | assumption | apply bd_add | apply bd_sub | apply bd_mul | apply bd_neg | (apply bd_64; decide) | (apply bd_64; omega) | (apply bd_128; decide) | (apply bd_128; omega))); done)); (focus decide))) | ((apply div_b; (focus (first | decide | omega)); (focus ((repeat' (first | assumption | apply bd_add | apply bd_sub | apply bd_mul | apply bd_neg | (apply bd_64; decide) | (apply bd_64; omega) | (apply bd_128; decide) | (apply bd_128; omega))); done)); (focus decide))) | decide | (show (_ : Int) ≠ 0; omega))))); (conv => whnf))))
    refine nx pen (by omega) (by decide) (by decide) fun w5 h6 a6 b6 pen o6 => ?_
    obtain ⟨w5, rfl⟩ : ∃ n' : Nat, w5 = (n' : Int) := ⟨w5.toNat, by omega⟩
    (((conv => whnf); repeat ((first | with_reducible refine ret_of ?_ | with_reducible refine ix_of at0 ?_ | with_reducible refine ix_of at1 ?_ | with_reducible refine ix_of at2 ?_ | with_reducible refine ix_of at3 ?_ | ((with_reducible apply isi_of); focus rfl) | refine pF ?_ | refine pT ?_ | ((with_reducible refine And.intro (len_le ?_) ?_); (focus (simp; done))) | ((with_reducible refine And.intro ?_ ?_); (focus (first | ((apply mul_b; (focus ((repeat' (first | assumption | apply bd_add | apply bd_sub | apply bd_mul | apply bd_neg | (apply bd_64; decide) | (apply bd_64; omega) | (apply bd_128; decide) | (apply bd_128; omega))); done)); (focus ((repeat' (first | assumption | apply bd_add | apply bd_sub | apply bd_mul | apply bd_neg | (apply bd_64; decide) | (apply bd_64; omega) | (apply bd_128; decide) | (apply bd_128; omega))); done)); (focus decide))) | ((apply div_b; (focus (first | decide | omega)); (focus ((repeat' (first | assumption | apply bd_add | apply bd_sub | apply bd_mul | apply bd_neg | (apply bd_64; decide) | (apply bd_64; omega) | (apply bd_128; decide) | (apply bd_128; omega))); done)); (focus decide))) | decide | (show (_ : Int) ≠ 0; omega))))); (conv => whnf))))
    have := hG (1 + w5) h6 (by omega) (pen.mono (by omega)) o6
    rw [show ((1 + w5 : Nat) : Int) = 1 + (w5 : Int) by omega] at this
    exact this
  have k5 : ks.length ≤ 5 := by omega
  (((conv => whnf); repeat ((first | with_reducible refine ret_of ?_ | with_reducible refine ix_of at0 ?_ | with_reducible refine ix_of at1 ?_ | with_reducible refine ix_of at2 ?_ | with_reducible refine ix_of at3 ?_ | ((with_reducible apply isi_of); focus rfl) | refine pF ?_ | refine pT ?_ | ((with_reducible refine And.intro (len_le ?_) ?_); (focus (simp; done))) | ((with_reducible refine And.intro ?_ ?_); (focus (first | ((apply mul_b; (focus ((repeat' (first | assumption | apply bd_add | apply bd_sub | apply bd_mul | apply bd_neg | (apply bd_64; decide) | (apply bd_64; omega) | (apply bd_128; decide) | (apply bd_128; omega))); done)); (focus ((repeat' (first | assumption | apply bd_add | apply bd_sub | apply bd_mul | apply bd_neg | (apply bd_64; decide) | (apply bd_64; omega) | (apply bd_128; decide) | (apply bd_128; omega))); done)); (focus decide))) | ((apply div_b; (focus (first | decide | omega)); (focus ((repeat' (first | assumption | apply bd_add | apply bd_sub | apply bd_mul | apply bd_neg | (apply bd_64; decide) | (apply bd_64; omega) | (apply bd_128; decide) | (apply bd_128; omega))); done)); (focus decide))) | decide | (show (_ : Int) ≠ 0; omega))))); (conv => whnf))))
  refine rows25_ok pen (by omega) m2 m6 k5 k6 fun R h5 hR r9 pen => ?_
  have rl : R.length ≤ 60 := by omega
  (((conv => whnf); repeat ((first | with_reducible refine ret_of ?_ | with_reducible refine ix_of at0 ?_ | with_reducible refine ix_of at1 ?_ | with_reducible refine ix_of at2 ?_ | with_reducible refine ix_of at3 ?_ | ((with_reducible apply isi_of); focus rfl) | refine pF ?_ | refine pT ?_ | ((with_reducible refine And.intro (len_le ?_) ?_); (focus (simp; done))) | ((with_reducible refine And.intro ?_ ?_); (focus (first | ((apply mul_b; (focus ((repeat' (first | assumption | apply bd_add | apply bd_sub | apply bd_mul | apply bd_neg | (apply bd_64; decide) | (apply bd_64; omega) | (apply bd_128; decide) | (apply bd_128; omega))); done)); (focus ((repeat' (first | assumption | apply bd_add | apply bd_sub | apply bd_mul | apply bd_neg | (apply bd_64; decide) | (apply bd_64; omega) | (apply bd_128; decide) | (apply bd_128; omega))); done)); (focus decide))) | ((apply div_b; (focus (first | decide | omega)); (focus ((repeat' (first | assumption | apply bd_add | apply bd_sub | apply bd_mul | apply bd_neg | (apply bd_64; decide) | (apply bd_64; omega) | (apply bd_128; decide) | (apply bd_128; omega))); done)); (focus decide))) | decide | (show (_ : Int) ≠ 0; omega))))); (conv => whnf))))
  refine book_of_ok (by ((first | assumption | (repeat' (first | assumption | rfl | apply And.intro))))) m2 m6 k5 k6 hR rl (.inr (.inl rfl)) (.inr (.inl rfl)) ?_
  have sB := sh_book m ks (bookC m R)
  (((conv => whnf); repeat ((first | refine cut_in ?_ | (first | with_reducible refine ret_of ?_ | with_reducible refine ix_of at0 ?_ | with_reducible refine ix_of at1 ?_ | with_reducible refine ix_of at2 ?_ | with_reducible refine ix_of at3 ?_ | ((with_reducible apply isi_of); focus rfl) | refine pF ?_ | refine pT ?_ | ((with_reducible refine And.intro (len_le ?_) ?_); (focus (simp; done))) | ((with_reducible refine And.intro ?_ ?_); (focus (first | ((apply mul_b; (focus ((repeat' (first | assumption | apply bd_add | apply bd_sub | apply bd_mul | apply bd_neg | (apply bd_64; decide) | (apply bd_64; omega) | (apply bd_128; decide) | (apply bd_128; omega))); done)); (focus ((repeat' (first | assumption | apply bd_add | apply bd_sub | apply bd_mul | apply bd_neg | (apply bd_64; decide) | (apply bd_64; omega) | (apply bd_128; decide) | (apply bd_128; omega))); done)); (focus decide))) | ((apply div_b; (focus (first | decide | omega)); (focus ((repeat' (first | assumption | apply bd_add | apply bd_sub | apply bd_mul | apply bd_neg | (apply bd_64; decide) | (apply bd_64; omega) | (apply bd_128; decide) | (apply bd_128; omega))); done)); (focus decide))) | decide | (show (_ : Int) ≠ 0; omega)))))); (conv => whnf))))
  refine forW_r (fun i v h' => ∃ u6, v = [some (.scr (ns.map D.int)), some (.ref p), some (.int (m : Int)), some (.lst (ksD ks)), some (.lst (R.map rwT)), some (bookD m ks (bookC m R)), u6] ∧ PenAt h' p ns (2000 + 20 * i)) ?_ ?_ ⟨_, rfl, pen.mono (by omega)⟩
  · rintro i v h7 nx' hi ⟨u6, rfl, pen⟩ hn
    have hi : i < 8 := hi
    (((conv => whnf); repeat ((first | with_reducible refine ret_of ?_ | with_reducible refine ix_of at0 ?_ | with_reducible refine ix_of at1 ?_ | with_reducible refine ix_of at2 ?_ | with_reducible refine ix_of at3 ?_ | ((with_reducible apply isi_of); focus rfl) | refine pF ?_ | refine pT ?_ | ((with_reducible refine And.intro (len_le ?_) ?_); (focus (simp; done))) | ((with_reducible refine And.intro ?_ ?_); (focus (first | ((apply mul_b; (focus ((repeat' (first | assumption | apply bd_add | apply bd_sub | apply bd_mul | apply bd_neg | (apply bd_64; decide) | (apply bd_64; omega) | (apply bd_128; decide) | (apply bd_128; omega))); done)); (focus ((repeat' (first | assumption | apply bd_add | apply bd_sub | apply bd_mul | apply bd_neg | (apply bd_64; decide) | (apply bd_64; omega) | (apply bd_128; decide) | (apply bd_128; omega))); done)); (focus decide))) | ((apply div_b; (focus (first | decide | omega)); (focus ((repeat' (first | assumption | apply bd_add | apply bd_sub | apply bd_mul | apply bd_neg | (apply bd_64; decide) | (apply bd_64; omega) | (apply bd_128; decide) | (apply bd_128; omega))); done)); (focus decide))) | decide | (show (_ : Int) ≠ 0; omega))))); (conv => whnf))))
    refine spoilt_ok pen (by omega) m2 m6 k5 k6 hR r9 fun a b c h8 bk pen => ?_
    (((conv => whnf); repeat ((first | with_reducible refine ret_of ?_ | with_reducible refine ix_of at0 ?_ | with_reducible refine ix_of at1 ?_ | with_reducible refine ix_of at2 ?_ | with_reducible refine ix_of at3 ?_ | ((with_reducible apply isi_of); focus rfl) | refine pF ?_ | refine pT ?_ | ((with_reducible refine And.intro (len_le ?_) ?_); (focus (simp; done))) | ((with_reducible refine And.intro ?_ ?_); (focus (first | ((apply mul_b; (focus ((repeat' (first | assumption | apply bd_add | apply bd_sub | apply bd_mul | apply bd_neg | (apply bd_64; decide) | (apply bd_64; omega) | (apply bd_128; decide) | (apply bd_128; omega))); done)); (focus ((repeat' (first | assumption | apply bd_add | apply bd_sub | apply bd_mul | apply bd_neg | (apply bd_64; decide) | (apply bd_64; omega) | (apply bd_128; decide) | (apply bd_128; omega))); done)); (focus decide))) | ((apply div_b; (focus (first | decide | omega)); (focus ((repeat' (first | assumption | apply bd_add | apply bd_sub | apply bd_mul | apply bd_neg | (apply bd_64; decide) | (apply bd_64; omega) | (apply bd_128; decide) | (apply bd_128; omega))); done)); (focus decide))) | decide | (show (_ : Int) ≠ 0; omega))))); (conv => whnf))))
    refine refused_ok bk fun h9 sb => ?_
    have pen := pen.sub sb
    (((conv => whnf); repeat ((first | with_reducible refine ret_of ?_ | with_reducible refine ix_of at0 ?_ | with_reducible refine ix_of at1 ?_ | with_reducible refine ix_of at2 ?_ | with_reducible refine ix_of at3 ?_ | ((with_reducible apply isi_of); focus rfl) | refine pF ?_ | refine pT ?_ | ((with_reducible refine And.intro (len_le ?_) ?_); (focus (simp; done))) | ((with_reducible refine And.intro ?_ ?_); (focus (first | ((apply mul_b; (focus ((repeat' (first | assumption | apply bd_add | apply bd_sub | apply bd_mul | apply bd_neg | (apply bd_64; decide) | (apply bd_64; omega) | (apply bd_128; decide) | (apply bd_128; omega))); done)); (focus ((repeat' (first | assumption | apply bd_add | apply bd_sub | apply bd_mul | apply bd_neg | (apply bd_64; decide) | (apply bd_64; omega) | (apply bd_128; decide) | (apply bd_128; omega))); done)); (focus decide))) | ((apply div_b; (focus (first | decide | omega)); (focus ((repeat' (first | assumption | apply bd_add | apply bd_sub | apply bd_mul | apply bd_neg | (apply bd_64; decide) | (apply bd_64; omega) | (apply bd_128; decide) | (apply bd_128; omega))); done)); (focus decide))) | decide | (show (_ : Int) ≠ 0; omega))))); (conv => whnf))))
    refine book_of_ok (by ((first | assumption | (repeat' (first | assumption | rfl | apply And.intro))))) m2 m6 k5 k6 hR rl (.inr (.inl rfl)) (.inr (.inl rfl)) ?_
    (((conv => whnf); repeat ((first | with_reducible refine ret_of ?_ | with_reducible refine ix_of at0 ?_ | with_reducible refine ix_of at1 ?_ | with_reducible refine ix_of at2 ?_ | with_reducible refine ix_of at3 ?_ | ((with_reducible apply isi_of); focus rfl) | refine pF ?_ | refine pT ?_ | ((with_reducible refine And.intro (len_le ?_) ?_); (focus (simp; done))) | ((with_reducible refine And.intro ?_ ?_); (focus (first | ((apply mul_b; (focus ((repeat' (first | assumption | apply bd_add | apply bd_sub | apply bd_mul | apply bd_neg | (apply bd_64; decide) | (apply bd_64; omega) | (apply bd_128; decide) | (apply bd_128; omega))); done)); (focus ((repeat' (first | assumption | apply bd_add | apply bd_sub | apply bd_mul | apply bd_neg | (apply bd_64; decide) | (apply bd_64; omega) | (apply bd_128; decide) | (apply bd_128; omega))); done)); (focus decide))) | ((apply div_b; (focus (first | decide | omega)); (focus ((repeat' (first | assumption | apply bd_add | apply bd_sub | apply bd_mul | apply bd_neg | (apply bd_64; decide) | (apply bd_64; omega) | (apply bd_128; decide) | (apply bd_128; omega))); done)); (focus decide))) | decide | (show (_ : Int) ≠ 0; omega))))); (conv => whnf))))
    refine ⟨bookD m ks (bookC m R), bookD m ks (bookC m R), .id sB.1, .id sB.1, sh_shp sB (by decide), sh_shp sB (by decide), ?_⟩
    rw [eqD_refl sB.1]
    (((conv => whnf); repeat ((first | with_reducible refine ret_of ?_ | with_reducible refine ix_of at0 ?_ | with_reducible refine ix_of at1 ?_ | with_reducible refine ix_of at2 ?_ | with_reducible refine ix_of at3 ?_ | ((with_reducible apply isi_of); focus rfl) | refine pF ?_ | refine pT ?_ | ((with_reducible refine And.intro (len_le ?_) ?_); (focus (simp; done))) | ((with_reducible refine And.intro ?_ ?_); (focus (first | ((apply mul_b; (focus ((repeat' (first | assumption | apply bd_add | apply bd_sub | apply bd_mul | apply bd_neg | (apply bd_64; decide) | (apply bd_64; omega) | (apply bd_128; decide) | (apply bd_128; omega))); done)); (focus ((repeat' (first | assumption | apply bd_add | apply bd_sub | apply bd_mul | apply bd_neg | (apply bd_64; decide) | (apply bd_64; omega) | (apply bd_128; decide) | (apply bd_128; omega))); done)); (focus decide))) | ((apply div_b; (focus (first | decide | omega)); (focus ((repeat' (first | assumption | apply bd_add | apply bd_sub | apply bd_mul | apply bd_neg | (apply bd_64; decide) | (apply bd_64; omega) | (apply bd_128; decide) | (apply bd_128; omega))); done)); (focus decide))) | decide | (show (_ : Int) ≠ 0; omega))))); (conv => whnf))))
    exact hn _ _ ⟨_, rfl, pen.mono (by omega)⟩
  · rintro v h7 ⟨u6, rfl, pen⟩
    (((conv => whnf); repeat ((first | with_reducible refine ret_of ?_ | with_reducible refine ix_of at0 ?_ | with_reducible refine ix_of at1 ?_ | with_reducible refine ix_of at2 ?_ | with_reducible refine ix_of at3 ?_ | ((with_reducible apply isi_of); focus rfl) | refine pF ?_ | refine pT ?_ | ((with_reducible refine And.intro (len_le ?_) ?_); (focus (simp; done))) | ((with_reducible refine And.intro ?_ ?_); (focus (first | ((apply mul_b; (focus ((repeat' (first | assumption | apply bd_add | apply bd_sub | apply bd_mul | apply bd_neg | (apply bd_64; decide) | (apply bd_64; omega) | (apply bd_128; decide) | (apply bd_128; omega))); done)); (focus ((repeat' (first | assumption | apply bd_add | apply bd_sub | apply bd_mul | apply bd_neg | (apply bd_64; decide) | (apply bd_64; omega) | (apply bd_128; decide) | (apply bd_128; omega))); done)); (focus decide))) | ((apply div_b; (focus (first | decide | omega)); (focus ((repeat' (first | assumption | apply bd_add | apply bd_sub | apply bd_mul | apply bd_neg | (apply bd_64; decide) | (apply bd_64; omega) | (apply bd_128; decide) | (apply bd_128; omega))); done)); (focus decide))) | decide | (show (_ : Int) ≠ 0; omega))))); (conv => whnf))))
end Ab

namespace Ab
open PySem PySem.Spec PyProof.Rows L2
def topS (i : Nat) : Stmt := PySem.Challenge.pw_othersum_k07_no_books.main.body.getD i (.Pass ⟨0, 0, 0, 0⟩)
theorem sc_0 : FnScope fn_is_whole.N fn_is_whole.ps (defScope (topS 16)) := ⟨rfl, rfl, rfl, by decide +kernel, rfl, by decide +kernel, by decide +kernel⟩
theorem ms_0 : mSs G0 fn_is_whole.N (defScope (topS 16)) fn_is_whole.body (defBody (topS 16)) = true := by decide +kernel
theorem sc_1 : FnScope fn_is_count.N fn_is_count.ps (defScope (topS 17)) := ⟨rfl, rfl, rfl, by decide +kernel, rfl, by decide +kernel, by decide +kernel⟩
theorem ms_1 : mSs G0 fn_is_count.N (defScope (topS 17)) fn_is_count.body (defBody (topS 17)) = true := by decide +kernel
theorem sc_2 : FnScope fn_together.N fn_together.ps (defScope (topS 18)) := ⟨rfl, rfl, rfl, by decide +kernel, rfl, by decide +kernel, by decide +kernel⟩
theorem ms_2 : mSs G0 fn_together.N (defScope (topS 18)) fn_together.body (defBody (topS 18)) = true := by decide +kernel
theorem sc_3 : FnScope fn_is_list.N fn_is_list.ps (defScope (topS 25)) := ⟨rfl, rfl, rfl, by decide +kernel, rfl, by decide +kernel, by decide +kernel⟩
theorem ms_3 : mSs G0 fn_is_list.N (defScope (topS 25)) fn_is_list.body (defBody (topS 25)) = true := by decide +kernel
theorem sc_4 : FnScope fn_is_below.N fn_is_below.ps (defScope (topS 26)) := ⟨rfl, rfl, rfl, by decide +kernel, rfl, by decide +kernel, by decide +kernel⟩
theorem ms_4 : mSs G0 fn_is_below.N (defScope (topS 26)) fn_is_below.body (defBody (topS 26)) = true := by decide +kernel
theorem sc_5 : FnScope fn_are_marks.N fn_are_marks.ps (defScope (topS 27)) := ⟨rfl, rfl, rfl, by decide +kernel, rfl, by decide +kernel, by decide +kernel⟩
theorem ms_5 : mSs G0 fn_are_marks.N (defScope (topS 27)) fn_are_marks.body (defBody (topS 27)) = true := by decide +kernel
theorem sc_6 : FnScope fn_are_kinds.N fn_are_kinds.ps (defScope (topS 28)) := ⟨rfl, rfl, rfl, by decide +kernel, rfl, by decide +kernel, by decide +kernel⟩
theorem ms_6 : mSs G0 fn_are_kinds.N (defScope (topS 28)) fn_are_kinds.body (defBody (topS 28)) = true := by decide +kernel
theorem sc_7 : FnScope fn_is_row.N fn_is_row.ps (defScope (topS 29)) := ⟨rfl, rfl, rfl, by decide +kernel, rfl, by decide +kernel, by decide +kernel⟩
theorem ms_7 : mSs G0 fn_is_row.N (defScope (topS 29)) fn_is_row.body (defBody (topS 29)) = true := by decide +kernel
theorem sc_8 : FnScope fn_put_to_1455.N fn_put_to_1455.ps (defScope (topS 30)) := ⟨rfl, rfl, rfl, by decide +kernel, rfl, by decide +kernel, by decide +kernel⟩
theorem ms_8 : mSs G0 fn_put_to_1455.N (defScope (topS 30)) fn_put_to_1455.body (defBody (topS 30)) = true := by decide +kernel
theorem sc_9 : FnScope fn_book_by_1428.N fn_book_by_1428.ps (defScope (topS 31)) := ⟨rfl, rfl, rfl, by decide +kernel, rfl, by decide +kernel, by decide +kernel⟩
theorem ms_9 : mSs G0 fn_book_by_1428.N (defScope (topS 31)) fn_book_by_1428.body (defBody (topS 31)) = true := by decide +kernel
theorem sc_10 : FnScope fn_book_of_1456.N fn_book_of_1456.ps (defScope (topS 32)) := ⟨rfl, rfl, rfl, by decide +kernel, rfl, by decide +kernel, by decide +kernel⟩
theorem ms_10 : mSs G0 fn_book_of_1456.N (defScope (topS 32)) fn_book_of_1456.body (defBody (topS 32)) = true := by decide +kernel
theorem sc_11 : FnScope fn_pen.N fn_pen.ps (defScope (topS 34)) := ⟨rfl, rfl, rfl, by decide +kernel, rfl, by decide +kernel, by decide +kernel⟩
theorem ms_11 : mSs G0 fn_pen.N (defScope (topS 34)) fn_pen.body (defBody (topS 34)) = true := by decide +kernel
theorem sc_12 : FnScope fn_next.N fn_next.ps (defScope (topS 35)) := ⟨rfl, rfl, rfl, by decide +kernel, rfl, by decide +kernel, by decide +kernel⟩
theorem ms_12 : mSs G0 fn_next.N (defScope (topS 35)) fn_next.body (defBody (topS 35)) = true := by decide +kernel
theorem sc_13 : FnScope lf_rows_1025.N lf_rows_1025.ps (defScope (topS 36)) := ⟨rfl, rfl, rfl, by decide +kernel, rfl, by decide +kernel, by decide +kernel⟩
theorem ms_13 : mSs G0 lf_rows_1025.N (defScope (topS 36)) lf_rows_1025.body (defBody (topS 36)) = true := by decide +kernel
theorem sc_14 : FnScope lf_bad_row_1516.N lf_bad_row_1516.ps (defScope (topS 37)) := ⟨rfl, rfl, rfl, by decide +kernel, rfl, by decide +kernel, by decide +kernel⟩
theorem ms_14 : mSs G0 lf_bad_row_1516.N (defScope (topS 37)) lf_bad_row_1516.body (defBody (topS 37)) = true := by decide +kernel
theorem sc_15 : FnScope lf_spoilt_1517.N lf_spoilt_1517.ps (defScope (topS 38)) := ⟨rfl, rfl, rfl, by decide +kernel, rfl, by decide +kernel, by decide +kernel⟩
theorem ms_15 : mSs G0 lf_spoilt_1517.N (defScope (topS 38)) lf_spoilt_1517.body (defBody (topS 38)) = true := by decide +kernel
theorem sc_16 : FnScope lf_refused_1457.N lf_refused_1457.ps (defScope (topS 39)) := ⟨rfl, rfl, rfl, by decide +kernel, rfl, by decide +kernel, by decide +kernel⟩
theorem ms_16 : mSs G0 lf_refused_1457.N (defScope (topS 39)) lf_refused_1457.body (defBody (topS 39)) = true := by decide +kernel
theorem sc_17 : FnScope fn_law.N fn_law.ps (defScope (topS 40)) := ⟨rfl, rfl, rfl, by decide +kernel, rfl, by decide +kernel, by decide +kernel⟩
theorem ms_17 : mSs G0 fn_law.N (defScope (topS 40)) fn_law.body (defBody (topS 40)) = true := by decide +kernel
theorem ini_5 {P : Program} {w : World} {K : PySem.W.Frag} {mg : Str → Option Value} {base : Heap} {C C0 I : Addr} {od an : Option Addr} {sl : Array (Option Value)} {oc kV dc pm cd ct : Value} (T : OexC K C) (iC : PySem.W.findIn K (.ref C) "__init__" = some (some (.ref I))) (tI : PySem.W.typeIn K (.ref I) = some (.type "function"))
    (lI : K.lookup I = some ⟨oc, od, .func (PySem.W.fnOf "__init__" "NoShare.__init__" (defArgs (initOf (topS 6))) (defBody (initOf (topS 6))) (defScope (initOf (topS 6))) .none kV dc pm an cd ct), sl⟩) (cI : PySem.W.codeIn K cd "NoShare.__init__" = true) (kI : PySem.W.keepIn K (.ref I) = true) (o0 : PySem.W.findIn K (.ref C) "part" = some none) (o1 : PySem.W.findIn K (.ref C) "house" = some none)
    (m0 : mg "SumError" = some (.ref C0)) (rb : PySem.W.readsIn K C0 (.type "type") = true) (sb : PySem.W.specialIn K (.ref C0) "__getattribute__" = some (some (.builtin "type.__getattribute__"))) (fb : PySem.W.findCls K (.ref C0) (.type "type") "__init__" = some (.val (.builtin "ValueError.__init__"))) : FldOk K P w mg base C ["part", "house"] := by
  have F := fun_mk (st := (initOf (topS 6))) lI cI kI
  have sc : FnScope ["self", "part", "house"] ["self", "part", "house"] (defScope (initOf (topS 6))) := ⟨rfl, rfl, rfl, by decide +kernel, rfl, by decide +kernel, by decide +kernel⟩
  refine ⟨⟨I, _, ["self", "part", "house"], T, iC, tI, F.binds (ps := ["self", "part", "house"]) fun _ _ _ _ _ _ us hl => match us, hl with | [_, _, _], _ => rfl, ?_⟩, fun f hf => ?_, by decide⟩
  · refine F.okX (k := 0) sc (fun vs H Q E h => h.1) fun cdv A outer s H vs Q E hr h => ?_
    obtain ⟨hl, a, xs, rfl, T2, out2, ea, q⟩ := h
    match xs, hl, q with
    | [x0, x1], _, q =>
      refine ⟨_, pss_cons (ps_expr (pe_baseinit (C0 := C0) (show (defScope (initOf (topS 6))).names.lookup ("SumError" : Str) = some NameKind.globalImplicit by decide +kernel) m0 rb sb fb (pa_cons (pv 0) (pa_cons pe_str pa_nil)))) (pss_cons (ps_ost (pv 0) (pv 1)) (pss_one (ps_ost (pv 0) (pv 2)))), ?_⟩
      refine ⟨_, rfl, a, C, [.str _], rfl, by decide, T, ea, ?_⟩
      refine ⟨_, rfl, _, rfl, a, C, rfl, T, o0, .inl ⟨ea, fun dx nd ne => ?_⟩⟩
      refine ⟨_, rfl, _, rfl, a, C, rfl, T, o1, .inr ⟨dx, [("part", x0)], upd_same, by rw [upd_ne ne, upd_same], (show ([("part", x0)] : List (Str × V)).length ≤ 900 from (by decide : (1 : Nat) ≤ 900)), ?_⟩⟩
      rw [upd_swap ne]
      exact q dx nd ne
  · simp only [List.mem_cons, List.not_mem_nil, or_false] at hf
    rcases hf with rfl | rfl; exact o0; exact o1
theorem ini_10 {P : Program} {w : World} {K : PySem.W.Frag} {mg : Str → Option Value} {base : Heap} {C C0 I : Addr} {od an : Option Addr} {sl : Array (Option Value)} {oc kV dc pm cd ct : Value} (T : OexC K C) (iC : PySem.W.findIn K (.ref C) "__init__" = some (some (.ref I))) (tI : PySem.W.typeIn K (.ref I) = some (.type "function"))
    (lI : K.lookup I = some ⟨oc, od, .func (PySem.W.fnOf "__init__" "NoText.__init__" (defArgs (initOf (topS 11))) (defBody (initOf (topS 11))) (defScope (initOf (topS 11))) .none kV dc pm an cd ct), sl⟩) (cI : PySem.W.codeIn K cd "NoText.__init__" = true) (kI : PySem.W.keepIn K (.ref I) = true) (o0 : PySem.W.findIn K (.ref C) "line" = some none)
    (m0 : mg "SumError" = some (.ref C0)) (rb : PySem.W.readsIn K C0 (.type "type") = true) (sb : PySem.W.specialIn K (.ref C0) "__getattribute__" = some (some (.builtin "type.__getattribute__"))) (fb : PySem.W.findCls K (.ref C0) (.type "type") "__init__" = some (.val (.builtin "ValueError.__init__"))) : FldOk K P w mg base C ["line"] := by
  have F := fun_mk (st := (initOf (topS 11))) lI cI kI
  have sc : FnScope ["self", "line"] ["self", "line"] (defScope (initOf (topS 11))) := ⟨rfl, rfl, rfl, by decide +kernel, rfl, by decide +kernel, by decide +kernel⟩
  refine ⟨⟨I, _, ["self", "line"], T, iC, tI, F.binds (ps := ["self", "line"]) fun _ _ _ _ _ _ us hl => match us, hl with | [_, _], _ => rfl, ?_⟩, fun f hf => ?_, by decide⟩
  · refine F.okX (k := 0) sc (fun vs H Q E h => h.1) fun cdv A outer s H vs Q E hr h => ?_
    obtain ⟨hl, a, xs, rfl, T2, out2, ea, q⟩ := h
    match xs, hl, q with
    | [x0], _, q =>
      refine ⟨_, pss_cons (ps_expr (pe_baseinit (C0 := C0) (show (defScope (initOf (topS 11))).names.lookup ("SumError" : Str) = some NameKind.globalImplicit by decide +kernel) m0 rb sb fb (pa_cons (pv 0) (pa_cons pe_str pa_nil)))) (pss_one (ps_ost (pv 0) (pv 1))), ?_⟩
      refine ⟨_, rfl, a, C, [.str _], rfl, by decide, T, ea, ?_⟩
      exact ⟨_, rfl, _, rfl, a, C, rfl, T, o0, .inl ⟨ea, fun dx nd ne => q dx nd ne⟩⟩
  · simp only [List.mem_cons, List.not_mem_nil, or_false] at hf
    rw [hf]; exact o0
theorem all_mk {l : PySem.W.OpenLaw} {w : World} {K : PySem.W.Frag} {h : Heap} {mg : Str → Option Value} {fa f0 f1 f2 f3 f4 f5 f6 f7 f8 f9 f10 f11 f12 f13 f14 f15 f16 f17 : Addr} {C0 C1 C2 C3 C4 C5 C6 C7 C8 C9 C10 C11 C12 C13 : Addr} (X : K.In h) (G : h.Ns mainGlobals mg) (hfa : mg "law" = some (.ref fa))
    {od0 an0 od1 an1 od2 an2 od3 an3 od4 an4 od5 an5 od6 an6 od7 an7 od8 an8 od9 an9 od10 an10 od11 an11 od12 an12 od13 an13 od14 an14 od15 an15 od16 an16 od17 an17 : Option Addr} {sl0 sl1 sl2 sl3 sl4 sl5 sl6 sl7 sl8 sl9 sl10 sl11 sl12 sl13 sl14 sl15 sl16 sl17 : Array (Option Value)} {oc0 kV0 dc0 pm0 cd0 ct0 oc1 kV1 dc1 pm1 cd1 ct1 oc2 kV2 dc2 pm2 cd2 ct2 oc3 kV3 dc3 pm3 cd3 ct3 oc4 kV4 dc4 pm4 cd4 ct4 oc5 kV5 dc5 pm5 cd5 ct5 oc6 kV6 dc6 pm6 cd6 ct6 oc7 kV7 dc7 pm7 cd7 ct7 oc8 kV8 dc8 pm8 cd8 ct8 oc9 kV9 dc9 pm9 cd9 ct9 oc10 kV10 dc10 pm10 cd10 ct10 oc11 kV11 dc11 pm11 cd11 ct11 oc12 kV12 dc12 pm12 cd12 ct12 oc13 kV13 dc13 pm13 cd13 ct13 oc14 kV14 dc14 pm14 cd14 ct14 oc15 kV15 dc15 pm15 cd15 ct15 oc16 kV16 dc16 pm16 cd16 ct16 oc17 kV17 dc17 pm17 cd17 ct17 : Value}
    (a0 : PySem.W.nsIn K mainGlobals "is_whole" = some (some (.ref f0))) (l0 : K.lookup f0 = some ⟨oc0, od0, .func (PySem.W.fnOf "is_whole" "is_whole" (defArgs (topS 16)) (defBody (topS 16)) (defScope (topS 16)) .none kV0 dc0 pm0 an0 cd0 ct0), sl0⟩) (c0 : PySem.W.codeIn K cd0 "is_whole" = true) (k0 : PySem.W.keepIn K (.ref f0) = true)
    (a1 : PySem.W.nsIn K mainGlobals "is_count" = some (some (.ref f1))) (l1 : K.lookup f1 = some ⟨oc1, od1, .func (PySem.W.fnOf "is_count" "is_count" (defArgs (topS 17)) (defBody (topS 17)) (defScope (topS 17)) .none kV1 dc1 pm1 an1 cd1 ct1), sl1⟩) (c1 : PySem.W.codeIn K cd1 "is_count" = true) (k1 : PySem.W.keepIn K (.ref f1) = true)
    (a2 : PySem.W.nsIn K mainGlobals "together" = some (some (.ref f2))) (l2 : K.lookup f2 = some ⟨oc2, od2, .func (PySem.W.fnOf "together" "together" (defArgs (topS 18)) (defBody (topS 18)) (defScope (topS 18)) .none kV2 dc2 pm2 an2 cd2 ct2), sl2⟩) (c2 : PySem.W.codeIn K cd2 "together" = true) (k2 : PySem.W.keepIn K (.ref f2) = true)
    (a3 : PySem.W.nsIn K mainGlobals "is_list" = some (some (.ref f3))) (l3 : K.lookup f3 = some ⟨oc3, od3, .func (PySem.W.fnOf "is_list" "is_list" (defArgs (topS 25)) (defBody (topS 25)) (defScope (topS 25)) .none kV3 dc3 pm3 an3 cd3 ct3), sl3⟩) (c3 : PySem.W.codeIn K cd3 "is_list" = true) (k3 : PySem.W.keepIn K (.ref f3) = true)
    (a4 : PySem.W.nsIn K mainGlobals "is_below" = some (some (.ref f4))) (l4 : K.lookup f4 = some ⟨oc4, od4, .func (PySem.W.fnOf "is_below" "is_below" (defArgs (topS 26)) (defBody (topS 26)) (defScope (topS 26)) .none kV4 dc4 pm4 an4 cd4 ct4), sl4⟩) (c4 : PySem.W.codeIn K cd4 "is_below" = true) (k4 : PySem.W.keepIn K (.ref f4) = true)
    (a5 : PySem.W.nsIn K mainGlobals "are_marks" = some (some (.ref f5))) (l5 : K.lookup f5 = some ⟨oc5, od5, .func (PySem.W.fnOf "are_marks" "are_marks" (defArgs (topS 27)) (defBody (topS 27)) (defScope (topS 27)) .none kV5 dc5 pm5 an5 cd5 ct5), sl5⟩) (c5 : PySem.W.codeIn K cd5 "are_marks" = true) (k5 : PySem.W.keepIn K (.ref f5) = true)
    (a6 : PySem.W.nsIn K mainGlobals "are_kinds" = some (some (.ref f6))) (l6 : K.lookup f6 = some ⟨oc6, od6, .func (PySem.W.fnOf "are_kinds" "are_kinds" (defArgs (topS 28)) (defBody (topS 28)) (defScope (topS 28)) .none kV6 dc6 pm6 an6 cd6 ct6), sl6⟩) (c6 : PySem.W.codeIn K cd6 "are_kinds" = true) (k6 : PySem.W.keepIn K (.ref f6) = true)
    (a7 : PySem.W.nsIn K mainGlobals "is_row" = some (some (.ref f7))) (l7 : K.lookup f7 = some ⟨oc7, od7, .func (PySem.W.fnOf "is_row" "is_row" (defArgs (topS 29)) (defBody (topS 29)) (defScope (topS 29)) .none kV7 dc7 pm7 an7 cd7 ct7), sl7⟩) (c7 : PySem.W.codeIn K cd7 "is_row" = true) (k7 : PySem.W.keepIn K (.ref f7) = true)
    (a8 : PySem.W.nsIn K mainGlobals "put_to" = some (some (.ref f8))) (l8 : K.lookup f8 = some ⟨oc8, od8, .func (PySem.W.fnOf "put_to" "put_to" (defArgs (topS 30)) (defBody (topS 30)) (defScope (topS 30)) .none kV8 dc8 pm8 an8 cd8 ct8), sl8⟩) (c8 : PySem.W.codeIn K cd8 "put_to" = true) (k8 : PySem.W.keepIn K (.ref f8) = true)
    (a9 : PySem.W.nsIn K mainGlobals "book_by" = some (some (.ref f9))) (l9 : K.lookup f9 = some ⟨oc9, od9, .func (PySem.W.fnOf "book_by" "book_by" (defArgs (topS 31)) (defBody (topS 31)) (defScope (topS 31)) .none kV9 dc9 pm9 an9 cd9 ct9), sl9⟩) (c9 : PySem.W.codeIn K cd9 "book_by" = true) (k9 : PySem.W.keepIn K (.ref f9) = true)
    (a10 : PySem.W.nsIn K mainGlobals "book_of" = some (some (.ref f10))) (l10 : K.lookup f10 = some ⟨oc10, od10, .func (PySem.W.fnOf "book_of" "book_of" (defArgs (topS 32)) (defBody (topS 32)) (defScope (topS 32)) .none kV10 dc10 pm10 an10 cd10 ct10), sl10⟩) (c10 : PySem.W.codeIn K cd10 "book_of" = true) (k10 : PySem.W.keepIn K (.ref f10) = true)
    (a11 : PySem.W.nsIn K mainGlobals "_law_pen" = some (some (.ref f11))) (l11 : K.lookup f11 = some ⟨oc11, od11, .func (PySem.W.fnOf "_law_pen" "_law_pen" (defArgs (topS 34)) (defBody (topS 34)) (defScope (topS 34)) .none kV11 dc11 pm11 an11 cd11 ct11), sl11⟩) (c11 : PySem.W.codeIn K cd11 "_law_pen" = true) (k11 : PySem.W.keepIn K (.ref f11) = true)
    (a12 : PySem.W.nsIn K mainGlobals "_law_next" = some (some (.ref f12))) (l12 : K.lookup f12 = some ⟨oc12, od12, .func (PySem.W.fnOf "_law_next" "_law_next" (defArgs (topS 35)) (defBody (topS 35)) (defScope (topS 35)) .none kV12 dc12 pm12 an12 cd12 ct12), sl12⟩) (c12 : PySem.W.codeIn K cd12 "_law_next" = true) (k12 : PySem.W.keepIn K (.ref f12) = true)
    (a13 : PySem.W.nsIn K mainGlobals "_law_rows" = some (some (.ref f13))) (l13 : K.lookup f13 = some ⟨oc13, od13, .func (PySem.W.fnOf "_law_rows" "_law_rows" (defArgs (topS 36)) (defBody (topS 36)) (defScope (topS 36)) .none kV13 dc13 pm13 an13 cd13 ct13), sl13⟩) (c13 : PySem.W.codeIn K cd13 "_law_rows" = true) (k13 : PySem.W.keepIn K (.ref f13) = true)
    (a14 : PySem.W.nsIn K mainGlobals "_law_bad_row" = some (some (.ref f14))) (l14 : K.lookup f14 = some ⟨oc14, od14, .func (PySem.W.fnOf "_law_bad_row" "_law_bad_row" (defArgs (topS 37)) (defBody (topS 37)) (defScope (topS 37)) .none kV14 dc14 pm14 an14 cd14 ct14), sl14⟩) (c14 : PySem.W.codeIn K cd14 "_law_bad_row" = true) (k14 : PySem.W.keepIn K (.ref f14) = true)
    (a15 : PySem.W.nsIn K mainGlobals "_law_spoilt" = some (some (.ref f15))) (l15 : K.lookup f15 = some ⟨oc15, od15, .func (PySem.W.fnOf "_law_spoilt" "_law_spoilt" (defArgs (topS 38)) (defBody (topS 38)) (defScope (topS 38)) .none kV15 dc15 pm15 an15 cd15 ct15), sl15⟩) (c15 : PySem.W.codeIn K cd15 "_law_spoilt" = true) (k15 : PySem.W.keepIn K (.ref f15) = true)
    (a16 : PySem.W.nsIn K mainGlobals "_law_refused" = some (some (.ref f16))) (l16 : K.lookup f16 = some ⟨oc16, od16, .func (PySem.W.fnOf "_law_refused" "_law_refused" (defArgs (topS 39)) (defBody (topS 39)) (defScope (topS 39)) .none kV16 dc16 pm16 an16 cd16 ct16), sl16⟩) (c16 : PySem.W.codeIn K cd16 "_law_refused" = true) (k16 : PySem.W.keepIn K (.ref f16) = true)
    (a17 : PySem.W.nsIn K mainGlobals "law" = some (some (.ref f17))) (l17 : K.lookup f17 = some ⟨oc17, od17, .func (PySem.W.fnOf "law" "law" (defArgs (topS 40)) (defBody (topS 40)) (defScope (topS 40)) .none kV17 dc17 pm17 an17 cd17 ct17), sl17⟩) (c17 : PySem.W.codeIn K cd17 "law" = true) (k17 : PySem.W.keepIn K (.ref f17) = true)
    (e0 : PySem.W.nsIn K mainGlobals "SumError" = some (some (.ref C0)))
    (e1 : PySem.W.nsIn K mainGlobals "NoRatio" = some (some (.ref C1)))
    (e2 : PySem.W.nsIn K mainGlobals "NoBook" = some (some (.ref C2)))
    (e3 : PySem.W.nsIn K mainGlobals "NoMark" = some (some (.ref C3)))
    (e4 : PySem.W.nsIn K mainGlobals "NoHouse" = some (some (.ref C4)))
    (e5 : PySem.W.nsIn K mainGlobals "NoShare" = some (some (.ref C5)))
    (e6 : PySem.W.nsIn K mainGlobals "NoTable" = some (some (.ref C6)))
    (e7 : PySem.W.nsIn K mainGlobals "NoWeights" = some (some (.ref C7)))
    (e8 : PySem.W.nsIn K mainGlobals "NoLead" = some (some (.ref C8)))
    (e9 : PySem.W.nsIn K mainGlobals "TooGreat" = some (some (.ref C9)))
    (e10 : PySem.W.nsIn K mainGlobals "NoText" = some (some (.ref C10)))
    (e11 : PySem.W.nsIn K mainGlobals "NoRow" = some (some (.ref C11)))
    (e12 : PySem.W.nsIn K mainGlobals "NoName" = some (some (.ref C12)))
    (e13 : PySem.W.nsIn K mainGlobals "NoBack" = some (some (.ref C13)))
    (hc : clsB K [(0, C0), (1, C1), (2, C2), (3, C3), (4, C4), (5, C5), (6, C6), (7, C7), (8, C8), (9, C9), (10, C10), (11, C11), (12, C12), (13, C13)] = true) (hb : bltB K = true) (hp : plB K [(0, C0), (1, C1), (2, C2), (3, C3), (4, C4), (5, C5), (6, C6), (7, C7), (8, C8), (9, C9), (10, C10), (11, C11), (12, C12), (13, C13)] G0.pl = true) (hn : nmsB K clsL [(0, C0), (1, C1), (2, C2), (3, C3), (4, C4), (5, C5), (6, C6), (7, C7), (8, C8), (9, C9), (10, C10), (11, C11), (12, C12), (13, C13)] = true)
    {I5 : Addr} {iod5 ian5 : Option Addr} {isl5 : Array (Option Value)} {ioc5 ikV5 idc5 ipm5 icd5 ict5 : Value} (n5 : PySem.W.findIn K (.ref C5) "__init__" = some (some (.ref I5))) (t5 : PySem.W.typeIn K (.ref I5) = some (.type "function")) (LQ5 : K.lookup I5 = some ⟨ioc5, iod5, .func (PySem.W.fnOf "__init__" "NoShare.__init__" (defArgs (initOf (topS 6))) (defBody (initOf (topS 6))) (defScope (initOf (topS 6))) .none ikV5 idc5 ipm5 ian5 icd5 ict5), isl5⟩) (D5 : PySem.W.codeIn K icd5 "NoShare.__init__" = true) (kI5 : PySem.W.keepIn K (.ref I5) = true) (x5 : oexB K C5 = true) (o5_0 : PySem.W.findIn K (.ref C5) "part" = some none) (o5_1 : PySem.W.findIn K (.ref C5) "house" = some none)
    {I10 : Addr} {iod10 ian10 : Option Addr} {isl10 : Array (Option Value)} {ioc10 ikV10 idc10 ipm10 icd10 ict10 : Value} (n10 : PySem.W.findIn K (.ref C10) "__init__" = some (some (.ref I10))) (t10 : PySem.W.typeIn K (.ref I10) = some (.type "function")) (LQ10 : K.lookup I10 = some ⟨ioc10, iod10, .func (PySem.W.fnOf "__init__" "NoText.__init__" (defArgs (initOf (topS 11))) (defBody (initOf (topS 11))) (defScope (initOf (topS 11))) .none ikV10 idc10 ipm10 ian10 icd10 ict10), isl10⟩) (D10 : PySem.W.codeIn K icd10 "NoText.__init__" = true) (kI10 : PySem.W.keepIn K (.ref I10) = true) (x10 : oexB K C10 = true) (o10_0 : PySem.W.findIn K (.ref C10) "line" = some none)
    (rb : PySem.W.readsIn K C0 (.type "type") = true) (sb : PySem.W.specialIn K (.ref C0) "__getattribute__" = some (some (.builtin "type.__getattribute__"))) (fb : PySem.W.findCls K (.ref C0) (.type "type") "__init__" = some (.val (.builtin "ValueError.__init__")))
    (hk : cstB K G0.csts = true) (hB : tabB K [] = true) (kk : Nat) :
    tabB K [] = true ∧ ∃ fd : FuncData, (∀ (s : Shared) (v : Value), BindsTo s fd ⟨[v], []⟩ [("_law_script", v)]) ∧ ∀ base : Heap, K.In base → base.Ns mainGlobals mg → (∀ p ∈ tabsOf K [], LamX.TabB base mg p.1 p.2) → FnOk l.prog w K mg base (L2.CX l.prog w) (5 * (kk + 1)) fa fd ["_law_script"] (spLaw G0.fns (kk + 1) 999 K (tabNs K [])) := by
  have e := hfa.symm.trans (PySem.W.mg_of X G a17)
  cases e
  have F0 := fun_mk (st := (topS 16)) l0 c0 k0
  have b0 := F0.binds (ps := fn_is_whole.ps) fun _ _ _ _ _ _ us hl => match us, hl with | [_], _ => rfl
  have F1 := fun_mk (st := (topS 17)) l1 c1 k1
  have b1 := F1.binds (ps := fn_is_count.ps) fun _ _ _ _ _ _ us hl => match us, hl with | [_], _ => rfl
  have F2 := fun_mk (st := (topS 18)) l2 c2 k2
  have b2 := F2.binds (ps := fn_together.ps) fun _ _ _ _ _ _ us hl => match us, hl with | [_], _ => rfl
  have F3 := fun_mk (st := (topS 25)) l3 c3 k3
  have b3 := F3.binds (ps := fn_is_list.ps) fun _ _ _ _ _ _ us hl => match us, hl with | [_, _], _ => rfl
  have F4 := fun_mk (st := (topS 26)) l4 c4 k4
  have b4 := F4.binds (ps := fn_is_below.ps) fun _ _ _ _ _ _ us hl => match us, hl with | [_, _], _ => rfl
  have F5 := fun_mk (st := (topS 27)) l5 c5 k5
  have b5 := F5.binds (ps := fn_are_marks.ps) fun _ _ _ _ _ _ us hl => match us, hl with | [_], _ => rfl
  have F6 := fun_mk (st := (topS 28)) l6 c6 k6
  have b6 := F6.binds (ps := fn_are_kinds.ps) fun _ _ _ _ _ _ us hl => match us, hl with | [_, _], _ => rfl
  have F7 := fun_mk (st := (topS 29)) l7 c7 k7
  have b7 := F7.binds (ps := fn_is_row.ps) fun _ _ _ _ _ _ us hl => match us, hl with | [_, _, _], _ => rfl
  have F8 := fun_mk (st := (topS 30)) l8 c8 k8
  have b8 := F8.binds (ps := fn_put_to_1455.ps) fun _ _ _ _ _ _ us hl => match us, hl with | [_, _, _, _, _], _ => rfl
  have F9 := fun_mk (st := (topS 31)) l9 c9 k9
  have b9 := F9.binds (ps := fn_book_by_1428.ps) fun _ _ _ _ _ _ us hl => match us, hl with | [_, _, _], _ => rfl
  have F10 := fun_mk (st := (topS 32)) l10 c10 k10
  have b10 := F10.binds (ps := fn_book_of_1456.ps) fun _ _ _ _ _ _ us hl => match us, hl with | [_, _, _], _ => rfl
  have F11 := fun_mk (st := (topS 34)) l11 c11 k11
  have b11 := F11.binds (ps := fn_pen.ps) fun _ _ _ _ _ _ us hl => match us, hl with | [_], _ => rfl
  have F12 := fun_mk (st := (topS 35)) l12 c12 k12
  have b12 := F12.binds (ps := fn_next.ps) fun _ _ _ _ _ _ us hl => match us, hl with | [_, _], _ => rfl
  have F13 := fun_mk (st := (topS 36)) l13 c13 k13
  have b13 := F13.binds (ps := lf_rows_1025.ps) fun _ _ _ _ _ _ us hl => match us, hl with | [_, _, _], _ => rfl
  have F14 := fun_mk (st := (topS 37)) l14 c14 k14
  have b14 := F14.binds (ps := lf_bad_row_1516.ps) fun _ _ _ _ _ _ us hl => match us, hl with | [_, _, _], _ => rfl
  have F15 := fun_mk (st := (topS 38)) l15 c15 k15
  have b15 := F15.binds (ps := lf_spoilt_1517.ps) fun _ _ _ _ _ _ us hl => match us, hl with | [_, _], _ => rfl
  have F16 := fun_mk (st := (topS 39)) l16 c16 k16
  have b16 := F16.binds (ps := lf_refused_1457.ps) fun _ _ _ _ _ _ us hl => match us, hl with | [_], _ => rfl
  have F17 := fun_mk (st := (topS 40)) l17 c17 k17
  have b17 := F17.binds (ps := fn_law.ps) fun _ _ _ _ _ _ us hl => match us, hl with | [_], _ => rfl
  refine ⟨hB, PySem.W.fnOf "law" "law" (defArgs (topS 40)) (defBody (topS 40)) (defScope (topS 40)) .none kV17 dc17 pm17 an17 cd17 ct17, fun s v => .of_eq rfl, fun base _ _ hTB => ?_⟩
  have hfn : ∀ (i : Nat) fn, G0.fns i = some fn → FnSt K (⟨fun i => List.lookup i [(0, C0), (1, C1), (2, C2), (3, C3), (4, C4), (5, C5), (6, C6), (7, C7), (8, C8), (9, C9), (10, C10), (11, C11), (12, C12), (13, C13)], tabNs K [], false⟩ : CAT) mg base G0 fn := fun i fn e => by
    have e : P0 i = some fn := e
    unfold P0 at e
    split at e
    · cases e; exact ⟨_, _, _, PySem.W.mg_of X G a0, k0, b0, F0, sc_0, ms_0, fun z => absurd z (by decide +kernel)⟩
    · cases e; exact ⟨_, _, _, PySem.W.mg_of X G a1, k1, b1, F1, sc_1, ms_1, fun z => absurd z (by decide +kernel)⟩
    · cases e; exact ⟨_, _, _, PySem.W.mg_of X G a2, k2, b2, F2, sc_2, ms_2, fun z => absurd z (by decide +kernel)⟩
    · cases e; exact ⟨_, _, _, PySem.W.mg_of X G a3, k3, b3, F3, sc_3, ms_3, fun z => absurd z (by decide +kernel)⟩
    · cases e; exact ⟨_, _, _, PySem.W.mg_of X G a4, k4, b4, F4, sc_4, ms_4, fun z => absurd z (by decide +kernel)⟩
    · cases e; exact ⟨_, _, _, PySem.W.mg_of X G a5, k5, b5, F5, sc_5, ms_5, fun z => absurd z (by decide +kernel)⟩
    · cases e; exact ⟨_, _, _, PySem.W.mg_of X G a6, k6, b6, F6, sc_6, ms_6, fun z => absurd z (by decide +kernel)⟩
    · cases e; exact ⟨_, _, _, PySem.W.mg_of X G a7, k7, b7, F7, sc_7, ms_7, fun z => absurd z (by decide +kernel)⟩
    · cases e; exact ⟨_, _, _, PySem.W.mg_of X G a8, k8, b8, F8, sc_8, ms_8, fun z => absurd z (by decide +kernel)⟩
    · cases e; exact ⟨_, _, _, PySem.W.mg_of X G a9, k9, b9, F9, sc_9, ms_9, fun z => absurd z (by decide +kernel)⟩
    · cases e; exact ⟨_, _, _, PySem.W.mg_of X G a10, k10, b10, F10, sc_10, ms_10, fun z => absurd z (by decide +kernel)⟩
    · cases e; exact ⟨_, _, _, PySem.W.mg_of X G a11, k11, b11, F11, sc_11, ms_11, fun z => absurd z (by decide +kernel)⟩
    · cases e; exact ⟨_, _, _, PySem.W.mg_of X G a12, k12, b12, F12, sc_12, ms_12, fun z => absurd z (by decide +kernel)⟩
    · cases e; exact ⟨_, _, _, PySem.W.mg_of X G a13, k13, b13, F13, sc_13, ms_13, fun z => absurd z (by decide +kernel)⟩
    · cases e; exact ⟨_, _, _, PySem.W.mg_of X G a14, k14, b14, F14, sc_14, ms_14, fun z => absurd z (by decide +kernel)⟩
    · cases e; exact ⟨_, _, _, PySem.W.mg_of X G a15, k15, b15, F15, sc_15, ms_15, fun z => absurd z (by decide +kernel)⟩
    · cases e; exact ⟨_, _, _, PySem.W.mg_of X G a16, k16, b16, F16, sc_16, ms_16, fun z => absurd z (by decide +kernel)⟩
    · cases e; exact ⟨_, _, _, PySem.W.mg_of X G a17, k17, b17, F17, sc_17, ms_17, fun z => absurd z (by decide +kernel)⟩
    · cases e
  have hfl : ∀ (i : Nat) fs C, G0.fl.lookup i = some fs → (⟨fun i => List.lookup i [(0, C0), (1, C1), (2, C2), (3, C3), (4, C4), (5, C5), (6, C6), (7, C7), (8, C8), (9, C9), (10, C10), (11, C11), (12, C12), (13, C13)], tabNs K [], false⟩ : CAT) i = some C → FldOk K l.prog w mg base C fs := fun i fs C e e2 => by
    have m := look_nat e
    have e2 : List.lookup i [(0, C0), (1, C1), (2, C2), (3, C3), (4, C4), (5, C5), (6, C6), (7, C7), (8, C8), (9, C9), (10, C10), (11, C11), (12, C12), (13, C13)] = some C := e2
    simp only [G0, List.mem_cons, List.not_mem_nil, or_false, Prod.mk.injEq] at m
    rcases m with ⟨rfl, rfl⟩ | ⟨rfl, rfl⟩
    · cases (show some C5 = some C from e2); exact ini_5 (oexB_ok x5) n5 t5 LQ5 D5 kI5 o5_0 o5_1 (PySem.W.mg_of X G e0) rb sb fb
    · cases (show some C10 = some C from e2); exact ini_10 (oexB_ok x10) n10 t10 LQ10 D10 kI10 o10_0 (PySem.W.mg_of X G e0) rb sb fb
  have hak : ∀ (i : Nat) fn, G0.lams.contains i = true → G0.fns i = some fn → AskOk K (⟨fun i => List.lookup i [(0, C0), (1, C1), (2, C2), (3, C3), (4, C4), (5, C5), (6, C6), (7, C7), (8, C8), (9, C9), (10, C10), (11, C11), (12, C12), (13, C13)], tabNs K [], false⟩ : CAT) mg fn.name := fun i fn e e2 => by
    cases e
  have g := gok (G := G0) (CA := (⟨fun i => List.lookup i [(0, C0), (1, C1), (2, C2), (3, C3), (4, C4), (5, C5), (6, C6), (7, C7), (8, C8), (9, C9), (10, C10), (11, C11), (12, C12), (13, C13)], tabNs K [], false⟩ : CAT)) (P := l.prog) (w := w) (K := K) (mg := mg) (base := base) hfn (blt_of X G hb) (nms_of X G hn) (cls_of hc) (pl_of hp) (cst_of (.inr (by decide)) X G hk) hfl hak (fun z => rfl) kk
  exact (body_ok (i := 999) (fn := fn_law) rfl g F17 sc_17 ms_17 (fun z => absurd z (by decide +kernel))).imp fun vs H Q E h => h _ rfl
end Ab
open PySem PySem.W PyProof.Rows
theorem PySem.Challenge.cw_othersum_k07_no_books_holds : PySem.Challenge.rw_othersum_k07_no_books.Holds := by
  w_on; o_law; k_head; (case hw => w_witness2)
  k_fill
  refine Ab.walk_tab (l := PySem.Challenge.rw_othersum_k07_no_books) (n := 63) (k := 5 * 14) (x := "_law_script") (Fs := Ab.G0.fns) (i := 14) [] rfl (by decide) rfl ⟨rfl, by decide, by decide⟩ (fun w h Y => PySem.W.kIn_of Y) (by kernel_rfl) ?F (fun ns hl => Ab.law_true ns hl)
  case F =>
    intro w mg fa h KX G hmg
    refine' Ab.all_mk KX G hmg ?a0 ?l0 ?c0 ?k0 ?a1 ?l1 ?c1 ?k1 ?a2 ?l2 ?c2 ?k2 ?a3 ?l3 ?c3 ?k3 ?a4 ?l4 ?c4 ?k4 ?a5 ?l5 ?c5 ?k5 ?a6 ?l6 ?c6 ?k6 ?a7 ?l7 ?c7 ?k7 ?a8 ?l8 ?c8 ?k8 ?a9 ?l9 ?c9 ?k9 ?a10 ?l10 ?c10 ?k10 ?a11 ?l11 ?c11 ?k11 ?a12 ?l12 ?c12 ?k12 ?a13 ?l13 ?c13 ?k13 ?a14 ?l14 ?c14 ?k14 ?a15 ?l15 ?c15 ?k15 ?a16 ?l16 ?c16 ?k16 ?a17 ?l17 ?c17 ?k17 ?e0 ?e1 ?e2 ?e3 ?e4 ?e5 ?e6 ?e7 ?e8 ?e9 ?e10 ?e11 ?e12 ?e13 ?gcls ?gblt ?gpl ?gnm ?n5 ?t5 ?LQ5 ?D5 ?kI5 ?x5 ?o5_0 ?o5_1 ?n10 ?t10 ?LQ10 ?D10 ?kI10 ?x10 ?o10_0 ?rb ?sb ?fb ?gcst ?gtab 13
    (case a0 => k_is); (case l0 => k_is); (case c0 => k_is); (case k0 => k_is)
    (case a1 => k_is); (case l1 => k_is); (case c1 => k_is); (case k1 => k_is)
    (case a2 => k_is); (case l2 => k_is); (case c2 => k_is); (case k2 => k_is)
    (case a3 => k_is); (case l3 => k_is); (case c3 => k_is); (case k3 => k_is)
    (case a4 => k_is); (case l4 => k_is); (case c4 => k_is); (case k4 => k_is)
    (case a5 => k_is); (case l5 => k_is); (case c5 => k_is); (case k5 => k_is)
    (case a6 => k_is); (case l6 => k_is); (case c6 => k_is); (case k6 => k_is)
    (case a7 => k_is); (case l7 => k_is); (case c7 => k_is); (case k7 => k_is)
    (case a8 => k_is); (case l8 => k_is); (case c8 => k_is); (case k8 => k_is)
    (case a9 => k_is); (case l9 => k_is); (case c9 => k_is); (case k9 => k_is)
    (case a10 => k_is); (case l10 => k_is); (case c10 => k_is); (case k10 => k_is)
    (case a11 => k_is); (case l11 => k_is); (case c11 => k_is); (case k11 => k_is)
    (case a12 => k_is); (case l12 => k_is); (case c12 => k_is); (case k12 => k_is)
    (case a13 => k_is); (case l13 => k_is); (case c13 => k_is); (case k13 => k_is)
    (case a14 => k_is); (case l14 => k_is); (case c14 => k_is); (case k14 => k_is)
    (case a15 => k_is); (case l15 => k_is); (case c15 => k_is); (case k15 => k_is)
    (case a16 => k_is); (case l16 => k_is); (case c16 => k_is); (case k16 => k_is)
    (case a17 => k_is); (case l17 => k_is); (case c17 => k_is); (case k17 => k_is)
    (case e0 => k_is); (case e1 => k_is); (case e2 => k_is); (case e3 => k_is); (case e4 => k_is); (case e5 => k_is); (case e6 => k_is); (case e7 => k_is); (case e8 => k_is); (case e9 => k_is); (case e10 => k_is); (case e11 => k_is); (case e12 => k_is); (case e13 => k_is)
    (case n5 => k_is); (case t5 => k_is); (case LQ5 => k_is); (case D5 => k_is); (case kI5 => k_is); (case x5 => kernel_rfl); (case o5_0 => k_is); (case o5_1 => k_is)
    (case n10 => k_is); (case t10 => k_is); (case LQ10 => k_is); (case D10 => k_is); (case kI10 => k_is); (case x10 => kernel_rfl); (case o10_0 => k_is)
    (case rb => k_is); (case sb => k_is); (case fb => k_is)
    (case gcls => kernel_rfl); (case gblt => kernel_rfl); (case gpl => kernel_rfl); (case gnm => kernel_rfl)
    (case gcst => kernel_rfl); (case gtab => kernel_rfl)
