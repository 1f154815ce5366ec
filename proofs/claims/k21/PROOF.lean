import PyProof.Rows.All
import Wide.All
import OpenK.AllK
import Wide.FinOn
import HandS.ForMost
import HandS.Zip
import HandS.Rev
import KE.GoesEnum
import KE.KDictZip
import HandS.SetFor
import HandS.TupMul
import HandS.TupLe
import HandS.Style
import HandS.NoneIn
import HandS.WideBits
import HandS.Iter
import HandS.TupAny
import HandS.IsInst
import HandS.SortInts
import HandS.Flow
import HandS.Conv
import HandS.Deep
import HandS.Wide
import KE.KTupSum
import KE.GoesEnumKw
import HandS.Words
import HandS.Defaults
import PySem.Challenge.RW_bandlinks_k21_band_table
set_option Elab.async false
set_option linter.all false
set_option maxRecDepth 100000
set_option maxHeartbeats 4000000
section
set_option autoImplicit false
/-! DLu: enumerate(zip(t, u)) of two tuples. -/
namespace DL
open PySem L2
abbrev IsZ (h : Heap) (z TI TO : Addr) (f0 : Value) (f1 : Bool) : Prop :=
  h.get? z = some { cls := .type "zip", dict := none, data := .fields #[f0, .bool f1, .bool false, .ref TI, .ref TO], slots := #[] }
def OkF (f0 : Value) : Prop := f0 = .none ∨ ∃ T : Nat, f0 = rawInt (T : Int)
section
variable {prog : Program} {w : World} {A : Around} {E : Value → Shared → Prop} {s : Shared} {z TI TO i1 i2 l1 l2 e : Addr} {k1 k2 : Nat} {xs ys : Array Value} {x y a b f0 : Value} {f1 : Bool}
theorem load_any {a : Addr} {Q : Option Obj → Shared → Prop} (h : Q (s.heap.get? a) s) : wpAny (model prog w) A (loadIfAlive a) Q E s := fun _ _ _ => h
theorem zipZ_free {Q : Bool → Shared → Prop} (hz : IsZ s.heap z TI TO f0 f1) (hf : OkF f0) (h : ∀ b h' f1', IsZ h' z TI TO f0 f1' → Heap.SameBut z s.heap h' → Q b { s with heap := h' }) : wpAny (model prog w) A (Builtin.SmallTypes.ownedTupleIsFree (.ref z)) Q E s := by
  unfold Builtin.SmallTypes.ownedTupleIsFree
  rcases hf with rfl | ⟨T, rfl⟩
  · exact wpAny_bind (wpAny_field hz rfl (x := .none) rfl (wpAny_pure (h true s.heap f1 hz (Heap.SameBut.refl _ _))))
  · refine wpAny_bind (wpAny_field hz rfl (x := rawInt T) rfl ?_)
    show wpAny _ _ (loadIfAlive ((T : Int).toNat) >>= _) _ _ _
    rw [Int.toNat_natCast]
    refine wpAny_bind (load_any ?_)
    cases s.heap.get? T with
    | none =>
      simp only [Option.isNone_none, if_true]
      exact wpAny_pure (h true s.heap f1 hz (Heap.SameBut.refl _ _))
    | some oT =>
      simp only [Option.isNone_some, Bool.false_eq_true, if_false]
      refine wpAny_bind (wpAny_field hz rfl (x := .bool f1) rfl ?_)
      cases f1 with
      | true =>
        rw [if_neg (show ¬ ((Value.bool true != Value.bool true) = true) from Bool.false_ne_true)]
        exact wpAny_pure (h false s.heap true hz (Heap.SameBut.refl _ _))
      | false =>
        rw [if_pos (show (Value.bool false != Value.bool true) = true from rfl)]
        exact wpAny_bind (wpAny_setField_rec hz (by simp) fun h₁ hz₁ hs₁ => wpAny_pure (h false h₁ true hz₁ hs₁))
theorem zipZ_item {Q : Value → Shared → Prop} (D : ZipApart z TI TO i1 i2 l1 l2)
    (hz : IsZ s.heap z TI TO f0 f1) (hf : OkF f0) (hTI : IsPair s.heap TI (.ref i1) (.ref i2)) (hTO : IsPair s.heap TO a b)
    (h1 : s.heap.IsTupleIter i1 l1 k1) (h2 : s.heap.IsTupleIter i2 l2 k2) (hl1 : s.heap.IsTuple l1 xs) (hl2 : s.heap.IsTuple l2 ys) (hx : xs[k1]? = some x) (hy : ys[k2]? = some y)
    (hQ : ∀ h' g0 g1 a' b', IsZ h' z TI TO g0 g1 → OkF g0 → IsPair h' TI (.ref i1) (.ref i2) → IsPair h' TO a' b' → h'.IsTupleIter i1 l1 (k1 + 1) → h'.IsTupleIter i2 l2 (k2 + 1) → IsPair h' s.heap.objs.size x y → h'.objs.size = s.heap.objs.size + 1 →
      (∀ c o, c ≠ z → c ≠ TO → c ≠ i1 → c ≠ i2 → s.heap.get? c = some o → h'.get? c = some o) → Q (.ref s.heap.objs.size) { s with heap := h' }) :
    wpAny (model prog w) A (Builtin.«zip.__next__» ⟨[.ref z], []⟩) (fun fin s' => ∃ v, fin = .done (.ret v) ∧ Q v s') E s := by
  show wpAny _ _ (field (.ref z) 2 >>= _) _ _ _
  refine wpAny_bind (wpAny_field hz rfl (x := .bool false) rfl ?_)
  show wpAny _ _ (field (.ref z) 3 >>= _) _ _ _
  refine wpAny_bind (wpAny_field hz rfl (x := .ref TI) rfl ?_)
  refine wpAny_bind (wpAny_seqItems hTI rfl ?_)
  show wpAny _ _ (Builtin.SmallTypes.ownedTupleIsFree (.ref z) >>= _) _ _ _
  refine wpAny_bind (zipZ_free hz hf fun bb h₀ g1 hz₀ hs₀ => ?_)
  have hTI₀ : IsPair h₀ TI (.ref i1) (.ref i2) := hs₀.extBut _ _ D.TIz hTI
  have hTO₀ : IsPair h₀ TO a b := hs₀.extBut _ _ D.TOz hTO
  have h1₀ := h1.extBut hs₀.extBut D.i1z
  have h2₀ := h2.extBut hs₀.extBut D.i2z
  have hl1₀ := hl1.extBut hs₀.extBut D.l1z
  have hl2₀ := hl2.extBut hs₀.extBut D.l2z
  cases bb with
  | true =>
    simp only [if_true]
    refine wpAny_bind (wpAny_rule ?_)
    refine wpAny_bind (wpAny_field (s := { s with heap := h₀ }) hz₀ rfl (x := .ref TO) rfl ?_)
    refine wpAny_bind (wpAny_setField_rec (s := { s with heap := h₀ }) hz₀ (by simp) fun h₁ hz₁ hs₁ => ?_)
    replace hz₁ : IsZ h₁ z TI TO .ellipsis g1 := hz₁
    replace hs₁ : Heap.SameBut z h₀ h₁ := hs₁
    refine wpAny_bind ?_
    simp only [List.zipIdx_cons, List.zipIdx_nil, List.forIn_cons, List.forIn_nil]
    refine wpAny_bind (wpAny_bind (wpAny_onRaise ?_))
    show wpAny _ _ (Builtin.SmallTypes.nextOf (.ref i1) >>= _) _ _ _
    refine wpAny_bind (RZ.nextOf_tuple_item (s := { s with heap := h₁ }) (h1₀.extBut hs₁.extBut D.i1z) (hl1₀.extBut hs₁.extBut D.l1z) hx fun h₂ h1₂ hs₂ => wpAny_pure ?_)
    replace hs₂ : Heap.SameBut i1 h₁ h₂ := hs₂
    have hTO₂ : IsPair h₂ TO a b := hs₂.extBut _ _ D.TOi1 (hs₁.extBut _ _ D.TOz hTO₀)
    refine wpAny_bind (wpAny_seqItems (s := { s with heap := h₂ }) hTO₂ rfl ?_)
    refine wpAny_bind (wpAny_updateSeq_pair (s := { s with heap := h₂ }) hTO₂ fun h₃ hTO₃ hs₃ => ?_)
    replace hTO₃ : IsPair h₃ TO x b := hTO₃
    replace hs₃ : Heap.SameBut TO h₂ h₃ := hs₃
    refine wpAny_bind (wpAny_letGo (wpAny_pure ?_))
    refine wpAny_bind (wpAny_bind (wpAny_onRaise ?_))
    show wpAny _ _ (Builtin.SmallTypes.nextOf (.ref i2) >>= _) _ _ _
    refine wpAny_bind (RZ.nextOf_tuple_item (s := { s with heap := h₃ }) (((h2₀.extBut hs₁.extBut D.i2z).extBut hs₂.extBut D.i12.symm).extBut hs₃.extBut D.TOi2.symm)
      (((hl2₀.extBut hs₁.extBut D.l2z).extBut hs₂.extBut D.l2i1).extBut hs₃.extBut D.l2TO) hy fun h₄ h2₄ hs₄ => wpAny_pure ?_)
    replace hs₄ : Heap.SameBut i2 h₃ h₄ := hs₄
    have hTO₄ : IsPair h₄ TO x b := hs₄.extBut _ _ D.TOi2 hTO₃
    refine wpAny_bind (wpAny_seqItems (s := { s with heap := h₄ }) hTO₄ rfl ?_)
    refine wpAny_bind (wpAny_updateSeq_pair (s := { s with heap := h₄ }) hTO₄ fun h₅ hTO₅ hs₅ => ?_)
    replace hTO₅ : IsPair h₅ TO x y := hTO₅
    replace hs₅ : Heap.SameBut TO h₄ h₅ := hs₅
    refine wpAny_bind (wpAny_letGo (wpAny_pure (wpAny_pure ?_)))
    refine wpAny_bind (wpAny_seqItems (s := { s with heap := h₅ }) hTO₅ rfl ?_)
    refine wpAny_bind (wpAny_newTuple ?_)
    have hsz : h₅.objs.size = s.heap.objs.size := by rw [hs₅.1, hs₄.1, hs₃.1, hs₂.1, hs₁.1, hs₀.1]
    have hz₅ : IsZ h₅ z TI TO .ellipsis g1 := hs₅.extBut _ _ D.TOz.symm (hs₄.extBut _ _ D.i2z.symm (hs₃.extBut _ _ D.TOz.symm (hs₂.extBut _ _ D.i1z.symm hz₁)))
    have hk₅ : ∀ c o, c ≠ z → c ≠ TO → c ≠ i1 → c ≠ i2 → s.heap.get? c = some o → h₅.get? c = some o := fun c o c1 c2 c3 c4 e =>
      hs₅.extBut _ _ c2 (hs₄.extBut _ _ c4 (hs₃.extBut _ _ c2 (hs₂.extBut _ _ c3 (hs₁.extBut _ _ c1 (hs₀.extBut _ _ c1 e)))))
    have h1₅ : h₅.IsTupleIter i1 l1 (k1 + 1) := ((h1₂.extBut hs₃.extBut D.TOi1.symm).extBut hs₄.extBut D.i12).extBut hs₅.extBut D.TOi1.symm
    have h2₅ : h₅.IsTupleIter i2 l2 (k2 + 1) := h2₄.extBut hs₅.extBut D.TOi2.symm
    have hzlt : z < h₅.objs.size := Heap.lt_size hz₅
    have hTOlt : TO < h₅.objs.size := Heap.lt_size hTO₅
    show wpAny _ _ (Builtin.SmallTypes.ownedTupleHandOut (.ref z) (.ref h₅.objs.size) >>= _) _ _ _
    refine wpAny_bind ?_
    unfold Builtin.SmallTypes.ownedTupleHandOut
    have hz₆ : IsZ (h₅.push { cls := .type "tuple", data := .seq #[x, y] }) z TI TO .ellipsis g1 := Heap.get?_push_of_some _ hz₅
    refine wpAny_bind (wpAny_setField_rec (s := { s with heap := h₅.push { cls := .type "tuple", data := .seq #[x, y] } }) hz₆ (by simp) fun h₇ hz₇ hs₇ => ?_)
    replace hz₇ : IsZ h₇ z TI TO (rawInt h₅.objs.size) g1 := hz₇
    replace hs₇ : Heap.SameBut z (h₅.push { cls := .type "tuple", data := .seq #[x, y] }) h₇ := hs₇
    refine wpAny_setField_rec (s := { s with heap := h₇ }) hz₇ (by simp) fun h₈ hz₈ hs₈ => ?_
    replace hz₈ : IsZ h₈ z TI TO (rawInt h₅.objs.size) false := hz₈
    replace hs₈ : Heap.SameBut z h₇ h₈ := hs₈
    have up : ∀ c o, c ≠ z → h₅.get? c = some o → h₈.get? c = some o := fun c o c1 e => hs₈.extBut _ _ c1 (hs₇.extBut _ _ c1 (Heap.get?_push_of_some _ e))
    have hT₈ : IsPair h₈ h₅.objs.size x y := hs₈.extBut _ _ (Nat.ne_of_gt hzlt) (hs₇.extBut _ _ (Nat.ne_of_gt hzlt) (Heap.get?_push_size _ rfl))
    have hz8 : h₈.objs.size = h₅.objs.size + 1 := by rw [hs₈.1, hs₇.1, Heap.size_push]
    rw [hsz] at hz₈ hT₈ hz8
    refine wpAny_pure ⟨_, rfl, ?_⟩
    show Q (.ref h₅.objs.size) _
    rw [hsz]
    exact hQ h₈ _ _ _ _ hz₈ (.inr ⟨_, rfl⟩) (up _ _ D.TIz (hk₅ _ _ D.TIz D.TITO D.TIi1 D.TIi2 hTI)) (up _ _ D.TOz hTO₅) (h1₅.at fun o e => up _ o D.i1z e) (h2₅.at fun o e => up _ o D.i2z e) hT₈ hz8 fun c o c1 c2 c3 c4 e => up c o c1 (hk₅ c o c1 c2 c3 c4 e)
  | false =>
    simp only [Bool.false_eq_true, if_false]
    refine wpAny_bind ?_
    rw [← Array.forIn_toList]
    simp only [List.forIn_cons, List.forIn_nil]
    refine wpAny_bind (wpAny_bind (wpAny_holding ?_))
    show wpAny _ _ (Builtin.SmallTypes.nextOf (.ref i1) >>= _) _ _ _
    refine wpAny_bind (RZ.nextOf_tuple_item (s := { s with heap := h₀ }) h1₀ hl1₀ hx fun h₂ h1₂ hs₂ => wpAny_pure ?_)
    replace hs₂ : Heap.SameBut i1 h₀ h₂ := hs₂
    refine wpAny_pure ?_
    refine wpAny_bind (wpAny_bind (wpAny_holding ?_))
    show wpAny _ _ (Builtin.SmallTypes.nextOf (.ref i2) >>= _) _ _ _
    refine wpAny_bind (RZ.nextOf_tuple_item (s := { s with heap := h₂ }) (h2₀.extBut hs₂.extBut D.i12.symm) (hl2₀.extBut hs₂.extBut D.l2i1) hy fun h₃ h2₃ hs₃ => wpAny_pure ?_)
    replace hs₃ : Heap.SameBut i2 h₂ h₃ := hs₃
    refine wpAny_pure (wpAny_pure ?_)
    show wpAny _ _ (newTuple [x, y] >>= _) _ _ _
    refine wpAny_bind (wpAny_newTuple ?_)
    have hsz : h₃.objs.size = s.heap.objs.size := by rw [hs₃.1, hs₂.1, hs₀.1]
    have hk : ∀ c o, c ≠ z → c ≠ i1 → c ≠ i2 → s.heap.get? c = some o → h₃.get? c = some o := fun c o c1 c2 c3 e => hs₃.extBut _ _ c3 (hs₂.extBut _ _ c2 (hs₀.extBut _ _ c1 e))
    have hz₃ : IsZ h₃ z TI TO f0 g1 := hs₃.extBut _ _ D.i2z.symm (hs₂.extBut _ _ D.i1z.symm hz₀)
    have h1₃ : h₃.IsTupleIter i1 l1 (k1 + 1) := h1₂.extBut hs₃.extBut D.i12
    have hTI₃ := hk _ _ D.TIz D.TIi1 D.TIi2 hTI
    have hTO₃ := hk _ _ D.TOz D.TOi1 D.TOi2 hTO
    refine wpAny_pure ⟨_, rfl, ?_⟩
    show Q (.ref h₃.objs.size) _
    have hp : IsPair (h₃.push { cls := .type "tuple", data := .seq #[x, y] }) h₃.objs.size x y := Heap.get?_push_size _ rfl
    have hz4 : (h₃.push { cls := .type "tuple", data := .seq #[x, y] }).objs.size = h₃.objs.size + 1 := Heap.size_push ..
    rw [hsz] at hp hz4 ⊢
    exact hQ _ _ _ _ _ (Heap.get?_push_of_some _ hz₃) hf (Heap.get?_push_of_some _ hTI₃) (Heap.get?_push_of_some _ hTO₃) (h1₃.at fun o e => Heap.get?_push_of_some _ e) (h2₃.at fun o e => Heap.get?_push_of_some _ e) hp hz4 fun c o c1 c2 c3 c4 e => Heap.get?_push_of_some _ (hk c o c1 c3 c4 e)
theorem zipZ_end {Q : Fin → Shared → Prop} (hh : A.handled = none) (D : ZipApart z TI TO i1 i2 l1 l2)
    (hz : IsZ s.heap z TI TO f0 f1) (hf : OkF f0) (hTI : IsPair s.heap TI (.ref i1) (.ref i2)) (hTO : IsPair s.heap TO a b)
    (h1 : s.heap.IsTupleIter i1 l1 k1) (h2 : s.heap.IsTupleIter i2 l2 k2) (hl1 : s.heap.IsTuple l1 xs) (hl2 : s.heap.IsTuple l2 ys) (hend : xs[k1]? = none ∨ ys[k2]? = none)
    (hE : ∀ h' e, (∀ c o, c ≠ z → c ≠ TO → c ≠ i1 → c ≠ i2 → s.heap.get? c = some o → h'.get? c = some o) → (∃ o, h'.get? e = some o ∧ o.cls = .type "StopIteration") → E (.ref e) { s with heap := h' }) :
    wpAny (model prog w) A (Builtin.«zip.__next__» ⟨[.ref z], []⟩) Q E s := by
  show wpAny _ _ (field (.ref z) 2 >>= _) _ _ _
  refine wpAny_bind (wpAny_field hz rfl (x := .bool false) rfl ?_)
  show wpAny _ _ (field (.ref z) 3 >>= _) _ _ _
  refine wpAny_bind (wpAny_field hz rfl (x := .ref TI) rfl ?_)
  refine wpAny_bind (wpAny_seqItems hTI rfl ?_)
  show wpAny _ _ (Builtin.SmallTypes.ownedTupleIsFree (.ref z) >>= _) _ _ _
  refine wpAny_bind (zipZ_free hz hf fun bb h₀ g1 hz₀ hs₀ => ?_)
  have hTI₀ : IsPair h₀ TI (.ref i1) (.ref i2) := hs₀.extBut _ _ D.TIz hTI
  have hTO₀ : IsPair h₀ TO a b := hs₀.extBut _ _ D.TOz hTO
  have h1₀ := h1.extBut hs₀.extBut D.i1z
  have h2₀ := h2.extBut hs₀.extBut D.i2z
  have hl1₀ := hl1.extBut hs₀.extBut D.l1z
  have hl2₀ := hl2.extBut hs₀.extBut D.l2z
  cases bb with
  | true =>
    simp only [if_true]
    refine wpAny_bind (wpAny_rule ?_)
    refine wpAny_bind (wpAny_field (s := { s with heap := h₀ }) hz₀ rfl (x := .ref TO) rfl ?_)
    refine wpAny_bind (wpAny_setField_rec (s := { s with heap := h₀ }) hz₀ (by simp) fun h₁ hz₁ hs₁ => ?_)
    replace hz₁ : IsZ h₁ z TI TO .ellipsis g1 := hz₁
    replace hs₁ : Heap.SameBut z h₀ h₁ := hs₁
    refine wpAny_bind ?_
    simp only [List.zipIdx_cons, List.zipIdx_nil, List.forIn_cons, List.forIn_nil]
    refine wpAny_bind (wpAny_bind (wpAny_onRaise ?_))
    show wpAny _ _ (Builtin.SmallTypes.nextOf (.ref i1) >>= _) _ _ _
    cases hx : xs[k1]? with
    | none =>
      refine wpAny_bind (RZ.nextOf_tuple_end (s := { s with heap := h₁ }) hh (h1₀.extBut hs₁.extBut D.i1z) (hl1₀.extBut hs₁.extBut D.l1z) hx fun h₂ e hs₂ he => ?_)
      obtain ⟨oe, hoe, hce⟩ := he
      replace hs₂ : Heap.ExtBut i1 h₁ h₂ := hs₂
      have hz₂ : IsZ h₂ z TI TO .ellipsis g1 := hs₂ _ _ D.i1z.symm hz₁
      have hez : e ≠ z := fun x => by subst x; rw [hz₂] at hoe; cases hoe; simp at hce
      refine wpAny_setField_rec (s := { s with heap := h₂ }) hz₂ (by simp) fun h₃ _ hs₃ => hE h₃ e (fun c o c1 _ c3 _ x => hs₃.extBut _ _ c1 (hs₂ _ _ c3 (hs₁.extBut _ _ c1 (hs₀.extBut _ _ c1 x)))) ⟨oe, hs₃.extBut _ _ hez hoe, hce⟩
    | some x =>
      have hy : ys[k2]? = none := by rcases hend with h | h; rw [hx] at h; cases h; exact h
      refine wpAny_bind (RZ.nextOf_tuple_item (s := { s with heap := h₁ }) (h1₀.extBut hs₁.extBut D.i1z) (hl1₀.extBut hs₁.extBut D.l1z) hx fun h₂ h1₂ hs₂ => wpAny_pure ?_)
      replace hs₂ : Heap.SameBut i1 h₁ h₂ := hs₂
      have hTO₂ : IsPair h₂ TO a b := hs₂.extBut _ _ D.TOi1 (hs₁.extBut _ _ D.TOz hTO₀)
      refine wpAny_bind (wpAny_seqItems (s := { s with heap := h₂ }) hTO₂ rfl ?_)
      refine wpAny_bind (wpAny_updateSeq_pair (s := { s with heap := h₂ }) hTO₂ fun h₃ hTO₃ hs₃ => ?_)
      replace hs₃ : Heap.SameBut TO h₂ h₃ := hs₃
      refine wpAny_bind (wpAny_letGo (wpAny_pure ?_))
      refine wpAny_bind (wpAny_bind (wpAny_onRaise ?_))
      show wpAny _ _ (Builtin.SmallTypes.nextOf (.ref i2) >>= _) _ _ _
      refine wpAny_bind (RZ.nextOf_tuple_end (s := { s with heap := h₃ }) hh (((h2₀.extBut hs₁.extBut D.i2z).extBut hs₂.extBut D.i12.symm).extBut hs₃.extBut D.TOi2.symm)
        (((hl2₀.extBut hs₁.extBut D.l2z).extBut hs₂.extBut D.l2i1).extBut hs₃.extBut D.l2TO) hy fun h₄ e hs₄ he => ?_)
      obtain ⟨oe, hoe, hce⟩ := he
      replace hs₄ : Heap.ExtBut i2 h₃ h₄ := hs₄
      have hz₄ : IsZ h₄ z TI TO .ellipsis g1 := hs₄ _ _ D.i2z.symm (hs₃.extBut _ _ D.TOz.symm (hs₂.extBut _ _ D.i1z.symm hz₁))
      have hez : e ≠ z := fun x => by subst x; rw [hz₄] at hoe; cases hoe; simp at hce
      refine wpAny_setField_rec (s := { s with heap := h₄ }) hz₄ (by simp) fun h₅ _ hs₅ => hE h₅ e (fun c o c1 c2 c3 c4 x => hs₅.extBut _ _ c1 (hs₄ _ _ c4 (hs₃.extBut _ _ c2 (hs₂.extBut _ _ c3 (hs₁.extBut _ _ c1 (hs₀.extBut _ _ c1 x)))))) ⟨oe, hs₅.extBut _ _ hez hoe, hce⟩
  | false =>
    simp only [Bool.false_eq_true, if_false]
    refine wpAny_bind ?_
    rw [← Array.forIn_toList]
    simp only [List.forIn_cons, List.forIn_nil]
    refine wpAny_bind (wpAny_bind (wpAny_holding ?_))
    show wpAny _ _ (Builtin.SmallTypes.nextOf (.ref i1) >>= _) _ _ _
    cases hx : xs[k1]? with
    | none =>
      refine wpAny_bind (RZ.nextOf_tuple_end (s := { s with heap := h₀ }) hh h1₀ hl1₀ hx fun h₂ e hs₂ he => ?_)
      exact hE h₂ e (fun c o c1 _ c3 _ x => hs₂ _ _ c3 (hs₀.extBut _ _ c1 x)) he
    | some x =>
      have hy : ys[k2]? = none := by rcases hend with h | h; rw [hx] at h; cases h; exact h
      refine wpAny_bind (RZ.nextOf_tuple_item (s := { s with heap := h₀ }) h1₀ hl1₀ hx fun h₂ h1₂ hs₂ => wpAny_pure ?_)
      replace hs₂ : Heap.SameBut i1 h₀ h₂ := hs₂
      refine wpAny_pure ?_
      refine wpAny_bind (wpAny_bind (wpAny_holding ?_))
      show wpAny _ _ (Builtin.SmallTypes.nextOf (.ref i2) >>= _) _ _ _
      refine wpAny_bind (RZ.nextOf_tuple_end (s := { s with heap := h₂ }) hh (h2₀.extBut hs₂.extBut D.i12.symm) (hl2₀.extBut hs₂.extBut D.l2i1) hy fun h₃ e hs₃ he => ?_)
      exact hE h₃ e (fun c o c1 _ c3 c4 x => hs₃ _ _ c4 (hs₂.extBut _ _ c3 (hs₀.extBut _ _ c1 x))) he
/-- next of an enumerate over a zip -/
theorem enumZ_item {c : Int} {old : Value} {Q : Option Value → Shared → Prop} (D : ZipApart z TI TO i1 i2 l1 l2) (he : IsEnum s.heap e z c old) (n1 : e ≠ z) (n2 : e ≠ TO) (n3 : e ≠ i1) (n4 : e ≠ i2) (n5 : e ≠ TI)
    (hz : IsZ s.heap z TI TO f0 f1) (hf : OkF f0) (hTI : IsPair s.heap TI (.ref i1) (.ref i2)) (hTO : IsPair s.heap TO a b)
    (h1 : s.heap.IsTupleIter i1 l1 k1) (h2 : s.heap.IsTupleIter i2 l2 k2) (hl1 : s.heap.IsTuple l1 xs) (hl2 : s.heap.IsTuple l2 ys) (hx : xs[k1]? = some x) (hy : ys[k2]? = some y)
    (hQ : ∀ h' g0 g1 a' b' tk, IsEnumOut h' e z (c + 1) (.ref s.heap.objs.size) (s.heap.objs.size + 1) → IsZ h' z TI TO g0 g1 → OkF g0 → IsPair h' TI (.ref i1) (.ref i2) → IsPair h' TO a' b' → h'.IsTupleIter i1 l1 (k1 + 1) → h'.IsTupleIter i2 l2 (k2 + 1) →
      IsPair h' s.heap.objs.size x y → IsPair h' (s.heap.objs.size + 1) (.int c tk) (.ref s.heap.objs.size) →
      (∀ d o, d ≠ e → d ≠ z → d ≠ TO → d ≠ i1 → d ≠ i2 → s.heap.get? d = some o → h'.get? d = some o) → Q (some (.ref (s.heap.objs.size + 1))) { s with heap := h', toks := tk + 1 }) :
    wpAny (model prog w) A (pyNext (.ref e)) Q E s := by
  have hT : s.TypeIs (.ref e) "enumerate" := ⟨_, he, rfl⟩
  unfold pyNext
  refine wpAny_bind (wpAny_attempt (wpAny_callSpecial?_slot (name := Str.ofString "__next__") hT F.slot_enumerate_next
    (wpAny_call_entry F.slot_enumerate_next hT F.entry_enumerate_next ?_ (F.args_enumerate_next_1 _))))
  obtain ⟨hp, g, d, tk, os⟩ := s
  show wpAny _ _ (field (.ref e) 2 >>= _) _ _ _
  refine wpAny_bind (wpAny_field he rfl (x := .ref z) rfl ?_)
  have hTz : Shared.TypeIs ⟨hp, g, d, tk, os⟩ (.ref z) "zip" := ⟨_, hz, rfl⟩
  refine wpAny_bind ?_
  unfold Builtin.SmallTypes.nextOf
  refine wpAny_bind (wpAny_callSpecial?_slot (name := Str.ofString "__next__") hTz F.slot_zip_next
    (wpAny_call_entry F.slot_zip_next hTz F.entry_zip_next ?_ (F.args_zip_next_1 _)))
  refine zipZ_item D hz hf hTI hTO h1 h2 hl1 hl2 hx hy fun h₁ g0 g1 a' b' hz₁ ok hTI₁ hTO₁ h1₁ h2₁ hP₁ sz₁ hk₁ => wpAny_pure ?_
  replace hz₁ : IsZ h₁ z TI TO g0 g1 := hz₁
  have he₁ : IsEnum h₁ e z c old := hk₁ _ _ n1 n2 n3 n4 he
  show wpAny _ _ (field (.ref e) 3 >>= _) _ _ ⟨h₁, g, d, tk, os⟩
  refine wpAny_bind (wpAny_field he₁ rfl (x := rawInt c) rfl ?_)
  show wpAny _ _ (field (.ref e) 4 >>= _) _ _ ⟨h₁, g, d, tk, os⟩
  refine wpAny_bind (wpAny_field he₁ rfl (x := .none) rfl ?_)
  show wpAny _ _ (mkInt c >>= _) _ _ ⟨h₁, g, d, tk, os⟩
  refine wpAny_bind (wpAny_mkInt ?_)
  show wpAny _ _ (setField (.ref e) 3 (rawInt (c + 1)) >>= _) _ _ ⟨h₁, g, d, tk + 1, os⟩
  refine wpAny_bind (wpAny_setField_rec he₁ (by simp) fun h₂ he₂ hs₂ => ?_)
  replace hs₂ : Heap.SameBut e h₁ h₂ := hs₂
  replace he₂ : IsEnum h₂ e z (c + 1) old := he₂
  show wpAny _ _ (setField (.ref e) 4 .none >>= _) _ _ ⟨h₂, g, d, tk + 1, os⟩
  refine wpAny_bind (wpAny_setField_rec he₂ (by simp) fun h₃ he₃ hs₃ => ?_)
  replace hs₃ : Heap.SameBut e h₂ h₃ := hs₃
  replace he₃ : IsEnum h₃ e z (c + 1) old := he₃
  show wpAny _ _ (newTuple [.int c tk, .ref hp.objs.size] >>= _) _ _ ⟨h₃, g, d, tk + 1, os⟩
  refine wpAny_bind (wpAny_newTuple ?_)
  have he₄ : IsEnum (h₃.push { cls := .type "tuple", data := .seq #[.int c tk, .ref hp.objs.size] }) e z (c + 1) old := Heap.get?_push_of_some _ he₃
  generalize hh₄ : h₃.push { cls := .type "tuple", data := .seq #[.int c tk, .ref hp.objs.size] } = h₄ at he₄
  have hsz : h₃.objs.size = hp.objs.size + 1 := by rw [hs₃.1, hs₂.1]; exact sz₁
  have hel : e < hp.objs.size := Heap.lt_size he
  have ht₄ : IsPair h₄ (hp.objs.size + 1) (.int c tk) (.ref hp.objs.size) := by rw [← hh₄, ← hsz]; exact Heap.get?_push_size _ rfl
  have up₄ : ∀ b o, b ≠ e → h₁.get? b = some o → h₄.get? b = some o := fun b o hbe hb => by
    rw [← hh₄]; exact Heap.get?_push_of_some _ (hs₃.extBut b o hbe (hs₂.extBut b o hbe hb))
  show wpAny _ _ (Builtin.SmallTypes.ownedTupleIsFree (.ref e) >>= _) _ _ ⟨h₄, g, d, tk + 1, os⟩
  rw [hsz]
  clear hh₄ he₃ hs₃ he₂ hs₂ he₁ hsz h₃ h₂
  refine wpAny_bind ?_
  · unfold Builtin.SmallTypes.ownedTupleIsFree
    refine wpAny_bind (wpAny_field he₄ rfl (x := .none) rfl (wpAny_pure ?_))
    simp only [if_true]
    refine wpAny_bind (wpAny_rule ?_)
    refine wpAny_bind (wpAny_field he₄ rfl (x := old) rfl ?_)
    refine wpAny_bind (wpAny_setField_rec he₄ (by simp) fun h₅ he₅ hs₅ => ?_)
    replace hs₅ : Heap.SameBut e h₄ h₅ := hs₅
    replace he₅ : IsEnum h₅ e z (c + 1) (.ref hp.objs.size) := he₅
    show wpAny _ _ (Builtin.SmallTypes.ownedTupleHandOut (.ref e) (.ref (hp.objs.size + 1)) >>= _) _ _ ⟨h₅, g, d, tk + 1, os⟩
    refine wpAny_bind ?_
    · unfold Builtin.SmallTypes.ownedTupleHandOut
      refine wpAny_bind (wpAny_setField_rec he₅ (by simp) fun h₆ he₆ hs₆ => ?_)
      replace hs₆ : Heap.SameBut e h₅ h₆ := hs₆
      replace he₆ : IsEnumOut h₆ e z (c + 1) (.ref hp.objs.size) (hp.objs.size + 1) := he₆
      refine wpAny_setField_rec he₆ (by simp) fun h₇ he₇ hs₇ => ?_
      replace hs₇ : Heap.SameBut e h₆ h₇ := hs₇
      replace he₇ : IsEnumOut h₇ e z (c + 1) (.ref hp.objs.size) (hp.objs.size + 1) := he₇
      have up : ∀ b o, b ≠ e → h₁.get? b = some o → h₇.get? b = some o := fun b o hbe hb => hs₇.extBut b o hbe (hs₆.extBut b o hbe (hs₅.extBut b o hbe (up₄ b o hbe hb)))
      refine wpAny_bind (wpAny_letGo (wpAny_pure ⟨_, rfl, wpAny_pure (hQ h₇ _ _ _ _ tk he₇ (up _ _ (Ne.symm n1) hz₁) ok (up _ _ (Ne.symm n5) hTI₁) (up _ _ (Ne.symm n2) hTO₁) (h1₁.at fun o q => up _ o (Ne.symm n3) q) (h2₁.at fun o q => up _ o (Ne.symm n4) q) (up _ _ (Nat.ne_of_gt hel) hP₁) ?_ ?_)⟩))
      · have n : hp.objs.size + 1 ≠ e := Nat.ne_of_gt (Nat.lt_succ_of_lt hel)
        exact hs₇.extBut _ _ n (hs₆.extBut _ _ n (hs₅.extBut _ _ n ht₄))
      · exact fun d o d1 d2 d3 d4 d5 q => up d o d1 (hk₁ d o d2 d3 d4 d5 q)
theorem enumZ_end {c : Int} {old : Value} {Q : Option Value → Shared → Prop} (hh : A.handled = none) (D : ZipApart z TI TO i1 i2 l1 l2) (he : IsEnum s.heap e z c old)
    (hz : IsZ s.heap z TI TO f0 f1) (hf : OkF f0) (hTI : IsPair s.heap TI (.ref i1) (.ref i2)) (hTO : IsPair s.heap TO a b)
    (h1 : s.heap.IsTupleIter i1 l1 k1) (h2 : s.heap.IsTupleIter i2 l2 k2) (hl1 : s.heap.IsTuple l1 xs) (hl2 : s.heap.IsTuple l2 ys) (hend : xs[k1]? = none ∨ ys[k2]? = none)
    (hQ : ∀ h', (∀ d o, d ≠ z → d ≠ TO → d ≠ i1 → d ≠ i2 → s.heap.get? d = some o → h'.get? d = some o) → Q none { s with heap := h' }) :
    wpAny (model prog w) A (pyNext (.ref e)) Q E s := by
  have hT : s.TypeIs (.ref e) "enumerate" := ⟨_, he, rfl⟩
  unfold pyNext
  refine wpAny_bind (wpAny_attempt (wpAny_callSpecial?_slot (name := Str.ofString "__next__") hT F.slot_enumerate_next
    (wpAny_call_entry F.slot_enumerate_next hT F.entry_enumerate_next ?_ (F.args_enumerate_next_1 _))))
  show wpAny _ _ (field (.ref e) 2 >>= _) _ _ _
  refine wpAny_bind (wpAny_field he rfl (x := .ref z) rfl ?_)
  have hTz : s.TypeIs (.ref z) "zip" := ⟨_, hz, rfl⟩
  refine wpAny_bind ?_
  unfold Builtin.SmallTypes.nextOf
  refine wpAny_bind (wpAny_callSpecial?_slot (name := Str.ofString "__next__") hTz F.slot_zip_next
    (wpAny_call_entry F.slot_zip_next hTz F.entry_zip_next ?_ (F.args_zip_next_1 _)))
  refine zipZ_end hh D hz hf hTI hTO h1 h2 hl1 hl2 hend fun h' x hk hx' => ?_
  obtain ⟨o, ho, hc⟩ := hx'
  refine wpAny_bind (wpAny_isInstance (T := "StopIteration") (b := true) ⟨o, ho, hc⟩ isSubtype_stop ?_)
  exact wpAny_pure (hQ _ hk)
end
end DL

end

section
set_option autoImplicit false
/-! DLu2: enumerate(zip(t, u)): the walk. -/
namespace DL
open PySem L2
theorem Inv.turnedNew2 {X : Cx} {pins : List (Addr × Obj)} {σ : St} {H : Hp} {s : Shared} {h' : Heap} {t' : Nat} {ch : List Addr} {P T : Addr} {o1 o2 : HO} (I : L2.Inv X pins σ H s) (k : ∀ b o, b ∉ ch → s.heap.get? b = some o → h'.get? b = some o) (hf : ∀ b ∈ ch, FpOk X pins H b)
    (hP : s.heap.objs.size ≤ P) (hT : s.heap.objs.size ≤ T) (ne : P ≠ T)
    (new1 : ObjOk X.prog X.w (upd (upd H P o1) T o2) h' P o1) (new2 : ObjOk X.prog X.w (upd (upd H P o1) T o2) h' T o2) : L2.Inv X pins σ (upd (upd H P o1) T o2) { s with heap := h', toks := t' } := by
  have hnP : H P = none := I.hok.fresh hP
  have hnT : H T = none := I.hok.fresh hT
  have up : ∀ b u, H b = some u → upd (upd H P o1) T o2 b = some u := fun b u e => by
    rw [upd_ne (ne_of_none e hnT), upd_ne (ne_of_none e hnP)]; exact e
  have nit : ∀ b u, H b = some u → b ∉ ch := fun b u e z => by
    have q := (hf b z).1
    rw [q] at e; cases e
  refine I.step (g' := s.gens) (d' := s.drawn) (ch := ch) (fun b hb => ⟨(hf b hb).2.2.2.1, (hf b hb).2.1, (hf b hb).2.2.2.2.1, (hf b hb).2.2.2.2.2⟩) (fun b o _ _ hc e _ => k b o hc e) (fun b o _ _ hc e _ => ⟨o.slots, k b o hc e⟩)
    (fun b o _ e n => ?_) (fun b o hc e => ⟨o, k b o hc e⟩) (fun b xs e => up b _ e) (fun b o u e => up b _ e) (fun b ps e => ⟨#[], ?_⟩) (fun m hm => ?_) (fun b u e => ?_) I.bare
  · rw [upd_ne (Nat.ne_of_lt (Nat.lt_of_lt_of_le (Heap.lt_size e) hT)), upd_ne (Nat.ne_of_lt (Nat.lt_of_lt_of_le (Heap.lt_size e) hP))]; exact n
  · rw [up b _ e]; simp
  · obtain ⟨o, es, ep, ho, r⟩ := hm
    exact ⟨o, es, ep, k _ o (fun z => (hf _ z).2.1 rfl) ho, r⟩
  · by_cases hb : b = T
    · subst hb
      rw [upd_same] at e
      cases e
      exact new2
    · rw [upd_ne hb] at e
      by_cases hb1 : b = P
      · subst hb1
        rw [upd_same] at e
        cases e
        exact new1
      · rw [upd_ne hb1] at e
        refine (I.hok b u e).stay (fun c v hc q => k c v ?_ q) (fun c q => up c _ q) fun c xs q => up c _ q
        rcases hc with z | z
        · rw [z]; exact nit b u e
        · exact nit c _ z
def IteZ (K : PySem.W.Frag) (a b : Addr) : L2.It :=
  ⟨fun i H => ∃ (xs ys : List V) (x y : V), SqT K H a xs ∧ SqT K H b ys ∧ xs[i]? = some x ∧ ys[i]? = some y,
    fun i H v H' => ∃ P T x y, v = .ref T ∧ P ≠ T ∧ H P = none ∧ H T = none ∧ H' = upd (upd H P (.tup [x, y])) T (.tup [.int ((i : Nat) : Int), .ref P]) ∧ (∀ xs, SqT K H a xs → xs[i]? = some x) ∧ ∀ ys, SqT K H b ys → ys[i]? = some y,
    fun i H => ∃ xs ys : List V, SqT K H a xs ∧ SqT K H b ys ∧ (xs.length ≤ i ∨ ys.length ≤ i)⟩
structure EnApart (e z TI TO i1 i2 : Addr) : Prop where
  n1 : e ≠ z
  n2 : e ≠ TO
  n3 : e ≠ i1
  n4 : e ≠ i2
  n5 : e ≠ TI
theorem turn_enumZ {P : Program} {w : World} {K : PySem.W.Frag} {elts : List Expr} {kk : Nat} {tpos : Pos} {a b e z TI TO i1 i2 : Addr} (D : ZipApart z TI TO i1 i2 a b) (N : EnApart e z TI TO i1 i2) :
    Turn P w K (.Tuple elts kk tpos) (IteZ K a b) [e, z, TI, TO, i1, i2] e (fun i h => (∃ old, IsEnum h e z ((i : Nat) : Int) old) ∧ (∃ f0 f1, IsZ h z TI TO f0 f1 ∧ OkF f0) ∧ IsPair h TI (.ref i1) (.ref i2) ∧ (∃ x y, IsPair h TO x y) ∧ h.IsTupleIter i1 a i ∧ h.IsTupleIter i2 b i) where
  mem := by simp
  obj := fun i h st c hc => by
    obtain ⟨⟨old, he⟩, ⟨f0, f1, hz, _⟩, hTI, ⟨x, y, hTO⟩, ⟨o1, e1, _, d1⟩, ⟨o2, e2, _, d2⟩⟩ := st
    have e' : c = e ∨ c = z ∨ c = TI ∨ c = TO ∨ c = i1 ∨ c = i2 := by simpa using hc
    rcases e' with q | q | q | q | q | q
    · rw [q]; exact ⟨_, he, fun v q => nomatch q⟩
    · rw [q]; exact ⟨_, hz, fun v q => nomatch q⟩
    · rw [q]; exact ⟨_, hTI, fun v q => nomatch q⟩
    · rw [q]; exact ⟨_, hTO, fun v q => nomatch q⟩
    · rw [q]; exact ⟨o1, e1, fun v q => by rw [d1] at q; cases q⟩
    · rw [q]; exact ⟨o2, e2, fun v q => by rw [d2] at q; cases q⟩
  keep := fun i h h' st k => by
    obtain ⟨⟨old, he⟩, ⟨f0, f1, hz, ok⟩, hTI, ⟨x, y, hTO⟩, h1, h2⟩ := st
    exact ⟨⟨old, k e (by simp) _ he⟩, ⟨f0, f1, k z (by simp) _ hz, ok⟩, k TI (by simp) _ hTI, ⟨x, y, k TO (by simp) _ hTO⟩, h1.at fun o q => k i1 (by simp) o q, h2.at fun o q => k i2 (by simp) o q⟩
  item := by
    intro X hP hw hK hc i pins s σ H E I hf st hg
    subst hP hw hK
    obtain ⟨⟨old, he⟩, ⟨f0, f1, hz, ok⟩, hTI, ⟨x0, y0, hTO⟩, h1, h2⟩ := st
    obtain ⟨xs, ys, x, y, hqx, hqy, hx, hy⟩ := hg
    obtain ⟨its, rv, p, _⟩ := I.tuple hqx
    obtain ⟨its2, rv2, p2, _⟩ := I.tuple hqy
    obtain ⟨u, hu, ru⟩ := rv.get hx
    obtain ⟨u2, hu2, ru2⟩ := rv2.get hy
    have hel : e < s.heap.objs.size := Heap.lt_size he
    have hzl : z < s.heap.objs.size := Heap.lt_size hz
    refine enumZ_item D he N.n1 N.n2 N.n3 N.n4 N.n5 hz ok hTI hTO h1 h2 p p2 (x := u) (y := u2) (by simpa using hu) (by simpa using hu2) fun h' g0 g1 a' b' tk he' hz' ok' hTI' hTO' h1' h2' hP' hT' hk => ?_
    refine ⟨_, rfl, wpAny_letOwnedTupleGo_enum (s := { s with heap := h', toks := tk + 1 }) he' fun h'' he'' sb => ?_⟩
    have up : ∀ c o, c ≠ e → h'.get? c = some o → h''.get? c = some o := fun c o n q => (sb.2 c n).trans q
    have nP : s.heap.objs.size ≠ e := Nat.ne_of_gt hel
    have nT : s.heap.objs.size + 1 ≠ e := Nat.ne_of_gt (Nat.lt_succ_of_lt hel)
    have nPT : s.heap.objs.size ≠ s.heap.objs.size + 1 := (Nat.succ_ne_self _).symm
    have new1 : ObjOk X.prog X.w (upd (upd H s.heap.objs.size (.tup [x, y])) (s.heap.objs.size + 1) (.tup [.int ((i : Nat) : Int), .ref s.heap.objs.size])) h'' s.heap.objs.size (.tup [x, y]) :=
      ⟨by show 2 ≤ sizeLine; decide, [u, u2], .cons ru (.cons ru2 .nil), ⟨_, up _ _ nP hP', rfl, _, rfl⟩⟩
    have new2 : ObjOk X.prog X.w (upd (upd H s.heap.objs.size (.tup [x, y])) (s.heap.objs.size + 1) (.tup [.int ((i : Nat) : Int), .ref s.heap.objs.size])) h'' (s.heap.objs.size + 1) (.tup [.int ((i : Nat) : Int), .ref s.heap.objs.size]) :=
      ⟨by show 2 ≤ sizeLine; decide, [.int ((i : Nat) : Int) tk, .ref s.heap.objs.size], .cons ⟨_, rfl⟩ (.cons rfl .nil), ⟨_, up _ _ nT hT', rfl, _, rfl⟩⟩
    have I1 : L2.Inv X pins σ (upd (upd H s.heap.objs.size (.tup [x, y])) (s.heap.objs.size + 1) (.tup [.int ((i : Nat) : Int), .ref s.heap.objs.size])) { s with heap := h'', toks := tk + 1 } :=
      Inv.turnedNew2 (ch := [e, z, TI, TO, i1, i2]) I (fun c o hb q => up c o (fun q' => hb (by simp [q'])) (hk c o (fun q' => hb (by simp [q'])) (fun q' => hb (by simp [q'])) (fun q' => hb (by simp [q'])) (fun q' => hb (by simp [q'])) (fun q' => hb (by simp [q'])) q)) hf (Nat.le_refl _) (Nat.le_succ _) nPT new1 new2
    refine ⟨.ref (s.heap.objs.size + 1), _, I1, rfl, ⟨_, _, x, y, rfl, nPT, I.hok.fresh (Nat.le_refl _), I.hok.fresh (Nat.le_succ _), rfl, fun l hl => by rw [I.tuple_inj hl hqx]; exact hx, fun l hl => by rw [I.tuple_inj hl hqy]; exact hy⟩, ⟨⟨Value.ref s.heap.objs.size, ?_⟩, ⟨_, _, up _ _ (Ne.symm N.n1) hz', ok'⟩, up _ _ (Ne.symm N.n5) hTI', ⟨_, _, up _ _ (Ne.symm N.n2) hTO'⟩, h1'.at fun o q => up _ o (Ne.symm N.n3) q, h2'.at fun o q => up _ o (Ne.symm N.n4) q⟩, fun c hcm => ?_⟩
    · exact he''
    · have hlt : c < s.heap.objs.size := by
        have e' : c = e ∨ c = z ∨ c = TI ∨ c = TO ∨ c = i1 ∨ c = i2 := by simpa using hcm
        rcases e' with q | q | q | q | q | q
        · rw [q]; exact hel
        · rw [q]; exact hzl
        · rw [q]; exact Heap.lt_size hTI
        · rw [q]; exact Heap.lt_size hTO
        · rw [q]; obtain ⟨_, e1, _⟩ := h1; exact Heap.lt_size e1
        · rw [q]; obtain ⟨_, e2, _⟩ := h2; exact Heap.lt_size e2
      rw [upd_ne (Nat.ne_of_lt (Nat.lt_succ_of_lt hlt)), upd_ne (Nat.ne_of_lt hlt)]
      exact (hf c hcm).1
  done := by
    intro X hP hw hK hc i pins s σ H E I hf st hg
    subst hP hw hK
    obtain ⟨⟨old, he⟩, ⟨f0, f1, hz, ok⟩, hTI, ⟨x0, y0, hTO⟩, h1, h2⟩ := st
    obtain ⟨xs, ys, hqx, hqy, hend⟩ := hg
    obtain ⟨its, rv, p, _⟩ := I.tuple hqx
    obtain ⟨its2, rv2, p2, _⟩ := I.tuple hqy
    have l1 := rv.length
    have l2 := rv2.length
    have he' : its.toArray[i]? = none ∨ its2.toArray[i]? = none := by
      rcases hend with q | q
      · exact .inl (by simp; omega)
      · exact .inr (by simp; omega)
    exact enumZ_end (I.ok.hd hc) D he hz ok hTI hTO h1 h2 p p2 he' fun h' hk => ⟨rfl, I.turnedL (t' := s.toks) (ch := [e, z, TI, TO, i1, i2]) (fun c o hb q =>
      hk c o (fun q' => hb (by simp [q'])) (fun q' => hb (by simp [q'])) (fun q' => hb (by simp [q'])) (fun q' => hb (by simp [q'])) q) hf⟩
  self := fun A i s Q E st h => let ⟨⟨_, he⟩, _⟩ := st; wpAny_pyIter_enum he h
/-- enumerate(z) of a zip -/
theorem meets_enumZ {z TI TO : Addr} :
    Meets (Builtin.«enumerate.__new__» ⟨[.type "enumerate", .ref z], []⟩) (fun _ R s => IsZip s.heap z TI TO .none ∧
      R (.ok (.ret (.ref s.heap.objs.size))) { s with heap := s.heap.push { cls := .type "enumerate", data := .fields #[.none, .bool false, .ref z, rawInt 0, .none, .none] } }) :=
  Meets.of_wp fun prog w A R s hh => by
    obtain ⟨hp, g, d, tk, os⟩ := s
    obtain ⟨h1, h⟩ := hh
    have hsub := sub_enumerate
    have q1 : ∀ {A' : Around} {E : Value → Shared → Prop} {Q : Value → Shared → Prop}, Q (.ref z) ⟨hp, g, d, tk, os⟩ → wpAny (model prog w) A' (pyIter (.ref z)) Q E ⟨hp, g, d, tk, os⟩ := fun q =>
      wpAny_pyIter_zip h1 q
    wp_walk using q1
    refine wpAny_stack_any fun st => wpAny_pure ?_
    split
    · rename_i c _ _ _ _ _
      cases (c == Value.type "enumerate") <;> (wp_walk using q1; exact ⟨_, rfl, h⟩)
    · (wp_walk using q1; exact ⟨_, rfl, h⟩)
theorem enumZ_begins {prog : Program} {w : World} {A : Around} {E : Value → Shared → Prop} {s : Shared} {z TI TO : Addr} {Q : Value → Shared → Prop} (h1 : IsZip s.heap z TI TO .none)
    (h : ∀ h', IsEnum h' s.heap.objs.size z 0 .none → (∀ c o', s.heap.get? c = some o' → h'.get? c = some o') → Q (.ref s.heap.objs.size) { s with heap := h' }) :
    wpAny (model prog w) A (call (.type "enumerate") [.ref z]) Q E s := by
  refine callType_new F.called_enumerate (by decide) (F.typeCall_enumerate_1 _) (F.newCall_enumerate_1 _) (fun obj => F.args_object_init_2 obj _) F.entry_enumerate_new (meets_enumZ (z := z) (TI := TI) (TO := TO)) ⟨h1, ?_⟩
  have he : IsEnum (s.heap.push { cls := .type "enumerate", data := .fields #[.none, .bool false, .ref z, rawInt 0, .none, .none] }) s.heap.objs.size z 0 .none := Heap.get?_push_size _ rfl
  exact ⟨⟨_, he, rfl⟩, h _ he fun c o' x => Heap.get?_push_of_some _ x⟩
def iEnumZ (K : PySem.W.Frag) (ta : TA) : TI := fun σ H R => ta σ H fun vs H1 => ∃ a b xs ys, vs = [.ref a, .ref b] ∧ SqT K H1 a xs ∧ SqT K H1 b ys ∧ R (IteZ K a b) H1
section
variable {X : Cx}
theorem pi_enumZ {e e2 : Expr} {ta : TA} {p pos p2 pos2 tpos : Pos} {elts : List Expr} {kk : Nat} (hg : Gl X "enumerate") (hm : X.mg "enumerate" = none) (hg2 : Gl X "zip") (hm2 : X.mg "zip" = none) (ha : PA X [e, e2] ta)
    (hs : starEach [.Call (.Name "zip" p2) [e, e2] [] pos2] X.env = [(false, eval (.Call (.Name "zip" p2) [e, e2] [] pos2) X.env)] := by rfl)
    (hs2 : starEach [e, e2] X.env = (false, eval e X.env) :: starEach [e2] X.env := by rfl) (hpl : (PySem.backTo pos2 (starEach [e2] X.env)).any (·.1) = false := by rfl) :
    PI X (.Tuple elts kk tpos) (.Call (.Name "enumerate" p) [.Call (.Name "zip" p2) [e, e2] [] pos2] [] pos) (iEnumZ X.K ta) := ⟨fun pins s σ H R I h => by
  refine PyProof.Rows.Call_ (ld_blt I hg hm PyProof.Rows.boot_enumerate (PyProof.Rows.callWith_type1 ?_ hs rfl))
  rw [hs]
  refine Calls.spliced_cons ?_
  refine PyProof.Rows.Call_ (ld_blt I hg2 hm2 PyProof.Rows.boot_zip (PyProof.Rows.callWith_type1 (thn (ha.run _ pins s σ H _ I h) fun us s1 ⟨vs, H1, I1, r1, q1⟩ => ?_) hs2 hpl))
  obtain ⟨a, b, xs, ys, ex, hqx, hqy, q⟩ := q1
  subst ex
  cases r1 with
  | cons r rr =>
    cases rr with
    | cons r' rr =>
      cases rr
      cases r
      cases r'
      obtain ⟨its, rv, p1, _⟩ := I1.tuple hqx
      obtain ⟨its2, rv2, p2, _⟩ := I1.tuple hqy
      obtain ⟨o1, ho1, _⟩ := id p1
      obtain ⟨o2, ho2, _⟩ := id p2
      refine RZ.call_zipT (show s1.heap.IsTuple a its.toArray from p1) (show s1.heap.IsTuple b its2.toArray from p2) fun h' hz hTI hTO h1 h2 hsz hk => ?_
      have I2 : L2.Inv X pins σ H1 { s1 with heap := h' } := I1.kept (t' := s1.toks) hk
      refine Calls.spliced_nil ?_
      refine enumZ_begins (s := { s1 with heap := h' }) hz fun h'' he hk2 => wpAny_pyIter_enum he ?_
      have I3 : L2.Inv X pins σ H1 { s1 with heap := h'' } := I2.kept (t' := s1.toks) hk2
      have hsz : h'.objs.size = s1.heap.objs.size + 5 := hsz
      have fr : ∀ c, s1.heap.objs.size ≤ c → FpOk X pins H1 c := fun c hle => I1.fpOk hle (I1.hok.fresh hle)
      refine ⟨h'.objs.size, [h'.objs.size, s1.heap.objs.size + 4, s1.heap.objs.size + 2, s1.heap.objs.size + 3, s1.heap.objs.size, s1.heap.objs.size + 1], _, _, H1, rfl, I3, turn_enumZ (PySem.W.ktu_apart s1.heap.objs.size a b (Heap.lt_size ho1) (Heap.lt_size ho2)) ?_, ?_, fun c hcm => ?_, q⟩
      · rw [hsz]; constructor <;> simp
      · exact ⟨⟨_, he⟩, ⟨_, _, hk2 _ _ hz, .inl rfl⟩, hk2 _ _ hTI, ⟨_, _, hk2 _ _ hTO⟩, h1.at fun o e => hk2 _ o e, h2.at fun o e => hk2 _ o e⟩
      · rw [hsz] at hcm
        have e' : c = s1.heap.objs.size + 5 ∨ c = s1.heap.objs.size + 4 ∨ c = s1.heap.objs.size + 2 ∨ c = s1.heap.objs.size + 3 ∨ c = s1.heap.objs.size ∨ c = s1.heap.objs.size + 1 := by simpa using hcm
        refine fr c ?_
        rcases e' with z | z | z | z | z | z
        · rw [z]; exact Nat.le_add_right _ _
        · rw [z]; exact Nat.le_add_right _ _
        · rw [z]; exact Nat.le_add_right _ _
        · rw [z]; exact Nat.le_add_right _ _
        · rw [z]; exact Nat.le_refl _
        · rw [z]; exact Nat.le_add_right _ _⟩
end
end DL

end

section
set_option autoImplicit false
/-! DLv: set of a list of ints, sorted. -/
namespace DL
open PySem L2 PySem.Spec PyProof.Rows
section
variable {P : Program} {w : World} {A : Around} {E : Value → Shared → Prop} {s : Shared}
theorem call_set_lstI {l : Addr} {items : Array Value} (ns : List Int) {Q : Value → Shared → Prop} (hh : A.handled = none) (hl : s.heap.IsList l items) (hit : IntsAre items.toList ns) (hb : ns.length + 1 < scanBound)
    (h : ∀ (h' : Heap) (tk c : Nat), SetR w h' s.heap.objs.size (fun j => decide (j ∈ ns)) c → c ≤ ns.length → (∀ b o, s.heap.get? b = some o → h'.get? b = some o) → Q (.ref s.heap.objs.size) { s with heap := h', toks := tk }) :
    wpAny (model P w) A (call (.type "set") [.ref l]) Q E s := by
  have hisz : items.size = ns.length := by
    have q := IntsAre.length hit
    rw [Array.length_toList] at q
    exact q
  obtain ⟨c, tl, hmro⟩ := F.called_set.mro
  have hmade := F.called_set.made
  have hsub := F.called_set.sub
  refine wpAny_call (codeAny_of_tree ?_)
  show wpAny _ _ (callAny (.type "set") _) _ _ _
  refine wpAny_pure ⟨Code.quiet_builtin _ (by decide +kernel), codeAny_builtin F.entry_type_call ?_⟩
  rw [Around.under_plain (weight_type_call_type "set" [.ref l] []) rfl]
  have h1 := F.called_set.notType
  have h2 := F.called_set.canCreate
  have hct := F.typeCall_set_1 (.ref l)
  repeat (any_goals (first | assumption | wp_step))

  refine codeAny_mono (code_set_led1 (.ref l) (E := E) (Q₁ := fun obj s₁ => obj = .ref s.heap.objs.size ∧ s₁ = { s with heap := s.heap.push { cls := .type "set", dict := none, data := .set #[] 0 (.fresh 0 0 (!w.params.followText "set-order")) } }) ⟨rfl, rfl⟩) fun r s₁ hr => ?_
  cases r with
  | error e => exact hr
  | ok fl =>
    cases fl with
    | ret obj =>
      obtain ⟨rfl, rfl⟩ := hr
      have hS : (s.heap.push { cls := .type "set", dict := none, data := .set #[] 0 (.fresh 0 0 (!w.params.followText "set-order")) }).get? s.heap.objs.size = some { cls := .type "set", dict := none, data := .set #[] 0 (.fresh 0 0 (!w.params.followText "set-order")) } := Heap.get?_push_size _ rfl
      have hT : Shared.TypeIs { s with heap := s.heap.push { cls := .type "set", dict := none, data := .set #[] 0 (.fresh 0 0 (!w.params.followText "set-order")) } } (.ref s.heap.objs.size) "set" := ⟨_, hS, rfl⟩
      have hli := F.called_set.init.lookup
      have hbi := F.called_set.init.bind (.ref s.heap.objs.size)
      repeat (any_goals (first | assumption | wp_step))

      refine codeAny_mono (codeAny_call_builtin (R := wants (fun r s₂ => r = .none ∧ ∃ h' tk c, s₂ = { s with heap := h', toks := tk } ∧ SetR w h' s.heap.objs.size (fun j => decide (j ∈ ns)) c ∧ c ≤ ns.length ∧
          (∀ b o, s.heap.get? b = some o → h'.get? b = some o)) E) F.called_set.init.plain F.entry_set_init (check_set_init_1 hT ?_)) fun r₂ s₂ hr₂ => ?_
      · obtain ⟨ol, hol, hcl, nl, hdl⟩ := hl
        obtain ⟨ocls, odict, odata, oslots⟩ := ol
        simp only at hcl hdl
        subst hcl; subst hdl
        have hol' : (s.heap.push { cls := .type "set", dict := none, data := .set #[] 0 (.fresh 0 0 (!w.params.followText "set-order")) }).get? l = some { cls := .type "list", dict := odict, data := .seq items nl, slots := oslots } := Heap.get?_push_of_some _ hol
        have hsls := F.sub_list_set
        have hslf := F.sub_list_frozenset
        have hne : (Value.type "list" == Value.type "dict") = false := by decide
        have hl1 : (s.heap.push { cls := .type "set", dict := none, data := .set #[] 0 (.fresh 0 0 (!w.params.followText "set-order")) }).IsList l items := ⟨_, hol', rfl, nl, rfl⟩
        unfold Builtin.«set.__init__» noKeywords Builtin.Frozenset.updateFrom
        generalize hPI : pyIter = PI
        wp_walk
        subst hPI

        refine wpAny_pyIter_list hl1 ?_
        refine wpAny_bind (wpAny_runValue ?_)
        have hlS : l < s.heap.objs.size := Heap.lt_size hol
        have hh3 : A.in1.in1.in1.handled = none := by simp [hh]
        have hz1 : (s.heap.push { cls := .type "set", dict := none, data := .set #[] 0 (.fresh 0 0 (!w.params.followText "set-order")) }).objs.size = s.heap.objs.size + 1 := Heap.size_push ..
        have hneI : l ≠ (s.heap.push { cls := .type "set", dict := none, data := .set #[] 0 (.fresh 0 0 (!w.params.followText "set-order")) }).objs.size := by
          rw [Heap.size_push]; exact Nat.ne_of_lt (Nat.lt_succ_of_lt hlS)
        have hSf : s.heap.objs.size ∉ [(s.heap.push { cls := .type "set", dict := none, data := .set #[] 0 (.fresh 0 0 (!w.params.followText "set-order")) }).objs.size, l] := by
          rw [Heap.size_push]; simp only [List.mem_cons, List.mem_singleton, List.not_mem_nil, or_false, not_or]
          exact ⟨Nat.ne_of_lt (Nat.lt_succ_self _), Nat.ne_of_gt hlS⟩
        have hval : ∀ (i : Nat) (v : Value), items[i]? = some v → ∃ k t, ns[i]? = some k ∧ v = .int k t := fun i v hv => by
          have hi : i < ns.length := by rw [← hisz]; exact (Array.getElem?_eq_some_iff.mp hv).1
          obtain ⟨t, e⟩ := PyProof.Rows.IntsAre.int_at hit i v (by rw [Array.getElem?_toList]; exact hv)
          refine ⟨ns[i], t, List.getElem?_eq_getElem hi, ?_⟩
          rw [e, List.getD_eq_getElem?_getD, List.getElem?_eq_getElem hi] <;> rfl
        refine set_update_ints ((Walks.list hh3 _ l hneI items).toS) s.heap.objs.size
          hSf ns hisz hb hval (items.size - 0) 0 _ (by omega) (Nat.zero_le _)
          ⟨⟨_, Heap.get?_push_size _ rfl, rfl, rfl⟩, (hl1.push _)⟩ ?hS0 ?hR
        case hS0 =>
          have hget : ((s.heap.push { cls := .type "set", dict := none, data := .set #[] 0 (.fresh 0 0 (!w.params.followText "set-order")) }).push { cls := .type "list_iterator", data := .fields #[.ref l, .int 0 0] }).get? s.heap.objs.size
              = some { cls := .type "set", dict := none, data := .set #[] 0 (.fresh 0 0 (!w.params.followText "set-order")) } := Heap.get?_push_of_some _ hS
          exact ⟨0, Nat.le_refl 0, setR_new_at hget⟩
        case hR =>
          intro s' c' hm hc' hS'
          obtain ⟨h', g2, d', tk', os'⟩ := s'
          have eg : g2 = s.gens := hm.gens
          have ed : d' = s.drawn := hm.drawn
          have eo : os' = s.os := hm.os
          subst eg; subst ed; subst eo
          show wpAny _ _ _ _ _ _
          refine wpAny_pure ?_
          show wpAny _ _ (PySem.ret Value.none) _ _ _
          rw [hisz] at hc'
          refine wpAny_pure ⟨rfl, h', tk', c', rfl, hS', hc', fun b o e => ?_⟩
          have hb0 : b < s.heap.objs.size := Heap.lt_size e
          have hb1 : b ≠ s.heap.objs.size := Nat.ne_of_lt hb0
          have hb2 : b ≠ (s.heap.push { cls := .type "set", dict := none, data := .set #[] 0 (.fresh 0 0 (!w.params.followText "set-order")) }).objs.size := by
            rw [Heap.size_push]; exact Nat.ne_of_lt (Nat.lt_succ_of_lt hb0)
          exact hm.heap b o (by simp only [List.mem_cons, List.mem_singleton, List.not_mem_nil, or_false, not_or]; exact ⟨hb1, hb2⟩) (Heap.get?_push_of_some _ (Heap.get?_push_of_some _ e))

      · cases r₂ with
        | error e => exact hr₂
        | ok fl₂ =>
          cases fl₂ with
          | ret r =>
            obtain ⟨rfl, h', tk, c', rfl, hS', hc', hk'⟩ := hr₂
            repeat (any_goals (first | assumption | wp_step))
            exact h _ _ _ hS' hc' hk'
          | _ => exact hr₂.elim
    | _ => exact hr.elim

theorem call_set_tupI {l : Addr} {items : Array Value} (ns : List Int) {Q : Value → Shared → Prop} (hh : A.handled = none) (hl : s.heap.IsTuple l items) (hit : IntsAre items.toList ns) (hb : ns.length + 1 < scanBound)
    (h : ∀ (h' : Heap) (tk c : Nat), SetR w h' s.heap.objs.size (fun j => decide (j ∈ ns)) c → c ≤ ns.length → (∀ b o, s.heap.get? b = some o → h'.get? b = some o) → Q (.ref s.heap.objs.size) { s with heap := h', toks := tk }) :
    wpAny (model P w) A (call (.type "set") [.ref l]) Q E s := by
  have hisz : items.size = ns.length := by
    have q := IntsAre.length hit
    rw [Array.length_toList] at q
    exact q
  obtain ⟨c, tl, hmro⟩ := F.called_set.mro
  have hmade := F.called_set.made
  have hsub := F.called_set.sub
  refine wpAny_call (codeAny_of_tree ?_)
  show wpAny _ _ (callAny (.type "set") _) _ _ _
  refine wpAny_pure ⟨Code.quiet_builtin _ (by decide +kernel), codeAny_builtin F.entry_type_call ?_⟩
  rw [Around.under_plain (weight_type_call_type "set" [.ref l] []) rfl]
  have h1 := F.called_set.notType
  have h2 := F.called_set.canCreate
  have hct := F.typeCall_set_1 (.ref l)
  repeat (any_goals (first | assumption | wp_step))

  refine codeAny_mono (code_set_led1 (.ref l) (E := E) (Q₁ := fun obj s₁ => obj = .ref s.heap.objs.size ∧ s₁ = { s with heap := s.heap.push { cls := .type "set", dict := none, data := .set #[] 0 (.fresh 0 0 (!w.params.followText "set-order")) } }) ⟨rfl, rfl⟩) fun r s₁ hr => ?_
  cases r with
  | error e => exact hr
  | ok fl =>
    cases fl with
    | ret obj =>
      obtain ⟨rfl, rfl⟩ := hr
      have hS : (s.heap.push { cls := .type "set", dict := none, data := .set #[] 0 (.fresh 0 0 (!w.params.followText "set-order")) }).get? s.heap.objs.size = some { cls := .type "set", dict := none, data := .set #[] 0 (.fresh 0 0 (!w.params.followText "set-order")) } := Heap.get?_push_size _ rfl
      have hT : Shared.TypeIs { s with heap := s.heap.push { cls := .type "set", dict := none, data := .set #[] 0 (.fresh 0 0 (!w.params.followText "set-order")) } } (.ref s.heap.objs.size) "set" := ⟨_, hS, rfl⟩
      have hli := F.called_set.init.lookup
      have hbi := F.called_set.init.bind (.ref s.heap.objs.size)
      repeat (any_goals (first | assumption | wp_step))

      refine codeAny_mono (codeAny_call_builtin (R := wants (fun r s₂ => r = .none ∧ ∃ h' tk c, s₂ = { s with heap := h', toks := tk } ∧ SetR w h' s.heap.objs.size (fun j => decide (j ∈ ns)) c ∧ c ≤ ns.length ∧
          (∀ b o, s.heap.get? b = some o → h'.get? b = some o)) E) F.called_set.init.plain F.entry_set_init (check_set_init_1 hT ?_)) fun r₂ s₂ hr₂ => ?_
      · obtain ⟨ol, hol, hcl, nl, hdl⟩ := hl
        obtain ⟨ocls, odict, odata, oslots⟩ := ol
        simp only at hcl hdl
        subst hcl; subst hdl
        have hol' : (s.heap.push { cls := .type "set", dict := none, data := .set #[] 0 (.fresh 0 0 (!w.params.followText "set-order")) }).get? l = some { cls := .type "tuple", dict := odict, data := .seq items nl, slots := oslots } := Heap.get?_push_of_some _ hol
        have hsls := F.sub_tuple_set
        have hslf := F.sub_tuple_frozenset
        have hne : (Value.type "tuple" == Value.type "dict") = false := by decide
        have hl1 : (s.heap.push { cls := .type "set", dict := none, data := .set #[] 0 (.fresh 0 0 (!w.params.followText "set-order")) }).IsTuple l items := ⟨_, hol', rfl, nl, rfl⟩
        unfold Builtin.«set.__init__» noKeywords Builtin.Frozenset.updateFrom
        generalize hPI : pyIter = PI
        wp_walk
        subst hPI

        refine wpAny_pyIter_tuple hl1 ?_
        refine wpAny_bind (wpAny_runValue ?_)
        have hlS : l < s.heap.objs.size := Heap.lt_size hol
        have hh3 : A.in1.in1.in1.handled = none := by simp [hh]
        have hz1 : (s.heap.push { cls := .type "set", dict := none, data := .set #[] 0 (.fresh 0 0 (!w.params.followText "set-order")) }).objs.size = s.heap.objs.size + 1 := Heap.size_push ..
        have hneI : l ≠ (s.heap.push { cls := .type "set", dict := none, data := .set #[] 0 (.fresh 0 0 (!w.params.followText "set-order")) }).objs.size := by
          rw [Heap.size_push]; exact Nat.ne_of_lt (Nat.lt_succ_of_lt hlS)
        have hSf : s.heap.objs.size ∉ [(s.heap.push { cls := .type "set", dict := none, data := .set #[] 0 (.fresh 0 0 (!w.params.followText "set-order")) }).objs.size, l] := by
          rw [Heap.size_push]; simp only [List.mem_cons, List.mem_singleton, List.not_mem_nil, or_false, not_or]
          exact ⟨Nat.ne_of_lt (Nat.lt_succ_self _), Nat.ne_of_gt hlS⟩
        have hval : ∀ (i : Nat) (v : Value), items[i]? = some v → ∃ k t, ns[i]? = some k ∧ v = .int k t := fun i v hv => by
          have hi : i < ns.length := by rw [← hisz]; exact (Array.getElem?_eq_some_iff.mp hv).1
          obtain ⟨t, e⟩ := PyProof.Rows.IntsAre.int_at hit i v (by rw [Array.getElem?_toList]; exact hv)
          refine ⟨ns[i], t, List.getElem?_eq_getElem hi, ?_⟩
          rw [e, List.getD_eq_getElem?_getD, List.getElem?_eq_getElem hi] <;> rfl
        refine set_update_ints ((Walks.tuple hh3 _ l hneI items).toS) s.heap.objs.size
          hSf ns hisz hb hval (items.size - 0) 0 _ (by omega) (Nat.zero_le _)
          ⟨⟨_, Heap.get?_push_size _ rfl, rfl, rfl⟩, (hl1.push _)⟩ ?hS0 ?hR
        case hS0 =>
          have hget : ((s.heap.push { cls := .type "set", dict := none, data := .set #[] 0 (.fresh 0 0 (!w.params.followText "set-order")) }).push { cls := .type "tuple_iterator", data := .fields #[.ref l, .int 0 0] }).get? s.heap.objs.size
              = some { cls := .type "set", dict := none, data := .set #[] 0 (.fresh 0 0 (!w.params.followText "set-order")) } := Heap.get?_push_of_some _ hS
          exact ⟨0, Nat.le_refl 0, setR_new_at hget⟩
        case hR =>
          intro s' c' hm hc' hS'
          obtain ⟨h', g2, d', tk', os'⟩ := s'
          have eg : g2 = s.gens := hm.gens
          have ed : d' = s.drawn := hm.drawn
          have eo : os' = s.os := hm.os
          subst eg; subst ed; subst eo
          show wpAny _ _ _ _ _ _
          refine wpAny_pure ?_
          show wpAny _ _ (PySem.ret Value.none) _ _ _
          rw [hisz] at hc'
          refine wpAny_pure ⟨rfl, h', tk', c', rfl, hS', hc', fun b o e => ?_⟩
          have hb0 : b < s.heap.objs.size := Heap.lt_size e
          have hb1 : b ≠ s.heap.objs.size := Nat.ne_of_lt hb0
          have hb2 : b ≠ (s.heap.push { cls := .type "set", dict := none, data := .set #[] 0 (.fresh 0 0 (!w.params.followText "set-order")) }).objs.size := by
            rw [Heap.size_push]; exact Nat.ne_of_lt (Nat.lt_succ_of_lt hb0)
          exact hm.heap b o (by simp only [List.mem_cons, List.mem_singleton, List.not_mem_nil, or_false, not_or]; exact ⟨hb1, hb2⟩) (Heap.get?_push_of_some _ (Heap.get?_push_of_some _ e))

      · cases r₂ with
        | error e => exact hr₂
        | ok fl₂ =>
          cases fl₂ with
          | ret r =>
            obtain ⟨rfl, h', tk, c', rfl, hS', hc', hk'⟩ := hr₂
            repeat (any_goals (first | assumption | wp_step))
            exact h _ _ _ hS' hc' hk'
          | _ => exact hr₂.elim
    | _ => exact hr.elim

end
theorem nodup_sub_len : ∀ {xs ys : List Int}, xs.Nodup → (∀ x ∈ xs, x ∈ ys) → xs.length ≤ ys.length
  | [], _, _, _ => Nat.zero_le _
  | x :: xs, ys, nd, sub => by
    obtain ⟨h1, h2⟩ := List.nodup_cons.mp nd
    have hx := sub x (List.mem_cons_self ..)
    have := nodup_sub_len (ys := ys.erase x) h2 fun y hy => (List.mem_erase_of_ne (fun (e : y = x) => h1 (by rw [← e]; exact hy))).mpr (sub y (List.mem_cons_of_mem _ hy))
    rw [List.length_erase_of_mem hx] at this
    have := List.length_pos_of_mem hx
    rw [List.length_cons]
    omega
def tSset (K : PySem.W.Frag) (ta : TE) : TE := fun σ H Q => ta σ H fun x H1 => ∃ (l : Addr) (ns ms : List Int), x = .ref l ∧ (SqL K H1 l (ns.map V.int) ∨ SqT K H1 l (ns.map V.int)) ∧ ns.length ≤ 4000 ∧ ms.Pairwise (· < ·) ∧ (∀ k, k ∈ ms ↔ k ∈ ns) ∧ ms.length < 64 ∧ ∀ p, H1 p = none → Q (.ref p) (upd H1 p (.lst (ms.map V.int)))
theorem pw_ext : ∀ {xs ys : List Int}, xs.Pairwise (· < ·) → ys.Pairwise (· < ·) → (∀ k, k ∈ xs ↔ k ∈ ys) → xs = ys
  | [], [], _, _, _ => rfl
  | [], y :: ys, _, _, h => by have := (h y).mpr (List.mem_cons_self ..); cases this
  | x :: xs, [], _, _, h => by have := (h x).mp (List.mem_cons_self ..); cases this
  | x :: xs, y :: ys, h1, h2, h => by
    obtain ⟨a1, a2⟩ := List.pairwise_cons.mp h1
    obtain ⟨b1, b2⟩ := List.pairwise_cons.mp h2
    have e : x = y := by
      rcases List.mem_cons.mp ((h x).mp (List.mem_cons_self ..)) with z | z
      · exact z
      · rcases List.mem_cons.mp ((h y).mpr (List.mem_cons_self ..)) with z2 | z2
        · exact z2.symm
        · have := b1 x z; have := a1 y z2; omega
    subst e
    rw [pw_ext a2 b2 fun k => ⟨fun hk => ?_, fun hk => ?_⟩]
    · rcases List.mem_cons.mp ((h k).mp (List.mem_cons_of_mem _ hk)) with z | z
      · have := a1 k hk; omega
      · exact z
    · rcases List.mem_cons.mp ((h k).mpr (List.mem_cons_of_mem _ hk)) with z | z
      · have := b1 k hk; omega
      · exact z
theorem pe_sset {X : Cx} {a : Expr} {ta : TE} {p p2 q pos : Pos} (hc : X.calm = true) (hg : Gl X "sorted") (hm : X.mg "sorted" = none) (hg2 : Gl X "set") (hm2 : X.mg "set" = none) (ha : PE X a ta)
    (na : starEach [a] X.env = (false, eval a X.env) :: starEach [] X.env := by rfl) : PE X (.Call (.Name "sorted" p) [.Call (.Name "set" p2) [a] [] q] [] pos) (tSset X.K ta) := by
  refine ⟨fun pins s σ H Q I h => ?_⟩
  refine Call_ (ld_blt I hg hm (by decide +kernel : bootBuiltins "sorted" = some (.builtin "sorted")) ?_)
  refine PyProof.Rows.callWith_builtin1 (PyProof.Rows.args_cons ?_ rfl) rfl rfl
  refine Call_ (ld_blt I hg2 hm2 boot_set ?_)
  refine PyProof.Rows.callWith_type1 (PyProof.Rows.args_cons (thn (ha.run pins s σ H _ I h) fun v s1 ⟨x, H1, I1, r1, q1⟩ => PyProof.Rows.args_nil ?_) na) na rfl
  obtain ⟨l, ns, ms, rfl, hq, hl, hp, hms, h64, q1⟩ := q1
  cases r1
  rcases hq with hq | hq
  · obtain ⟨its, r, pl, hz⟩ := I1.list hq
    refine call_set_lstI ns (I1.ok.hd hc) pl.isList (by simpa using RZ.intsAre_vals r) (by unfold scanBound; omega) fun h' tk c hS hc' hk => ?_
    refine PyProof.Rows.args_nil ?_
    have I2 : L2.Inv X pins σ H1 { s1 with heap := h', toks := tk } := I1.kept hk
    have hc64 : c < 64 := by
      obtain ⟨o, es, ep, t, ho, hex, hd, g, nd, hm, hb, hf, hn, hr, hl⟩ := hS
      have : (es.toList.map keyOf).length ≤ ms.length := nodup_sub_len nd fun x hx => (hms x).mpr (of_decide_eq_true ((hm x).mpr hx))
      rw [List.length_map, Array.length_toList, hn] at this
      omega
    generalize e2 : ({ s1 with heap := h', toks := tk } : Shared) = s2 at I2 ⊢
    have hS : SetR X.w s2.heap s1.heap.objs.size (fun j => decide (j ∈ ns)) c := by rw [← e2]; exact hS
    refine sorted_set hS (I2.ok.hd hc) hc64 fun s' p out c2 ns2 k g o hp2 hg hi hs hm hl2 => ?_
    have ens : ns2 = ms := pw_ext hs hp fun k => by rw [hm k, hms k]; exact decide_eq_true_iff
    subst ens
    have hlen : (ns2.map V.int).length ≤ sizeLine := by rw [List.length_map, sizeLine_eq]; omega
    have hn : H1 p = none := I2.hok.fresh hp2
    have J : L2.Inv X pins σ (upd H1 p (.lst (ns2.map V.int))) { s2 with heap := s'.heap, gens := s'.gens, drawn := s'.drawn, toks := s'.toks } :=
      I2.call (ch := []) (Un.laid k hp2 hn) (I2.hok.laid k hp2 ⟨hlen, out.toList, c2, vals_of_ints hi, hg⟩) (by rw [g]; exact I2.bare) (fun _ z => nomatch z)
    have e : s' = { s2 with heap := s'.heap, gens := s'.gens, drawn := s'.drawn, toks := s'.toks } := by
      cases s'
      cases s2
      cases o
      rfl
    rw [e]
    exact ⟨.ref p, _, J, rfl, q1 p hn⟩
  · obtain ⟨its, r, pl, hz⟩ := I1.tuple hq
    refine call_set_tupI ns (I1.ok.hd hc) (show s1.heap.IsTuple l its.toArray from let ⟨o, h1, h2, n0, h3⟩ := pl; ⟨o, h1, h2, n0, h3⟩) (by simpa using RZ.intsAre_vals r) (by unfold scanBound; omega) fun h' tk c hS hc' hk => ?_
    refine PyProof.Rows.args_nil ?_
    have I2 : L2.Inv X pins σ H1 { s1 with heap := h', toks := tk } := I1.kept hk
    have hc64 : c < 64 := by
      obtain ⟨o, es, ep, t, ho, hex, hd, g, nd, hm, hb, hf, hn, hr, hl⟩ := hS
      have : (es.toList.map keyOf).length ≤ ms.length := nodup_sub_len nd fun x hx => (hms x).mpr (of_decide_eq_true ((hm x).mpr hx))
      rw [List.length_map, Array.length_toList, hn] at this
      omega
    generalize e2 : ({ s1 with heap := h', toks := tk } : Shared) = s2 at I2 ⊢
    have hS : SetR X.w s2.heap s1.heap.objs.size (fun j => decide (j ∈ ns)) c := by rw [← e2]; exact hS
    refine sorted_set hS (I2.ok.hd hc) hc64 fun s' p out c2 ns2 k g o hp2 hg hi hs hm hl2 => ?_
    have ens : ns2 = ms := pw_ext hs hp fun k => by rw [hm k, hms k]; exact decide_eq_true_iff
    subst ens
    have hlen : (ns2.map V.int).length ≤ sizeLine := by rw [List.length_map, sizeLine_eq]; omega
    have hn : H1 p = none := I2.hok.fresh hp2
    have J : L2.Inv X pins σ (upd H1 p (.lst (ns2.map V.int))) { s2 with heap := s'.heap, gens := s'.gens, drawn := s'.drawn, toks := s'.toks } :=
      I2.call (ch := []) (Un.laid k hp2 hn) (I2.hok.laid k hp2 ⟨hlen, out.toList, c2, vals_of_ints hi, hg⟩) (by rw [g]; exact I2.bare) (fun _ z => nomatch z)
    have e : s' = { s2 with heap := s'.heap, gens := s'.gens, drawn := s'.drawn, toks := s'.toks } := by
      cases s'
      cases s2
      cases o
      rfl
    rw [e]
    exact ⟨.ref p, _, J, rfl, q1 p hn⟩
end DL

end

section
set_option autoImplicit false
/-! DLv2: tuple * int where nothing or the tuple itself comes; tuples backwards; lists and tuples unpacked; is of truths. -/
namespace L2
open PySem PySem.Spec PyProof.Rows
/-! ### t * k: t itself -/
theorem tuple_mul1 (l : Addr) (items : Array Value) (n : Nat) (dd : Option Addr) (sl : Array (Option Value)) (x : Int) (u : Tok) (c0 : (decide (x < -(2 ^ 63)) || decide (x ≥ 2 ^ 63)) = false) (c1 : (items.isEmpty || x == 1) = true) :
    Meets (Builtin.«tuple.__mul__» ⟨[.ref l, .int x u], []⟩) (fun _ R s => s.heap.get? l = some { cls := .type "tuple", dict := dd, data := .seq items n, slots := sl } ∧
      R (.ok (.ret (Value.ref l))) s) :=
  .of_wp fun prog w A R s h => by
    obtain ⟨hp, g, d, tk, os⟩ := s
    obtain ⟨hl, h⟩ := h
    have f1 := AutoSeq1.idx_int
    wp_walk using wpAny_loadPart' hl
    repeat (first
      | (refine wpAny_ite_false (decide_eq_false (by rw [c0]; exact Bool.false_ne_true)) ?_; wp_walk using wpAny_loadPart' hl)
      | (refine wpAny_ite_true (decide_eq_true (by rw [c1])) ?_; wp_walk using wpAny_loadPart' hl))
    all_goals exact ⟨_, rfl, h⟩
theorem tuple_mul0 (l : Addr) (items : Array Value) (n : Nat) (dd : Option Addr) (sl : Array (Option Value)) (x : Int) (u : Tok) (c0 : (decide (x < -(2 ^ 63)) || decide (x ≥ 2 ^ 63)) = false) (c1 : (items.isEmpty || x == 1) = false) (c2 : (decide (x ≤ 0) || items.isEmpty) = true) :
    Meets (Builtin.«tuple.__mul__» ⟨[.ref l, .int x u], []⟩) (fun _ R s => s.heap.get? l = some { cls := .type "tuple", dict := dd, data := .seq items n, slots := sl } ∧
      R (.ok (.ret (Value.ref s.heap.objs.size))) { s with heap := s.heap.push { cls := Value.type "tuple", data := Data.seq #[] }, toks := s.toks }) :=
  .of_wp fun prog w A R s h => by
    obtain ⟨hp, g, d, tk, os⟩ := s
    obtain ⟨hl, h⟩ := h
    have f1 := AutoSeq1.idx_int
    wp_walk using wpAny_loadPart' hl
    repeat (first
      | (refine wpAny_ite_false (decide_eq_false (by rw [c0]; exact Bool.false_ne_true)) ?_; wp_walk using wpAny_loadPart' hl)
      | (refine wpAny_ite_false (decide_eq_false (by rw [c1]; exact Bool.false_ne_true)) ?_; wp_walk using wpAny_loadPart' hl)
      | (refine wpAny_ite_true (decide_eq_true (by rw [c2])) ?_; wp_walk using wpAny_loadPart' hl))
    all_goals exact ⟨_, rfl, h⟩
/-- t * k, where t is empty or k is 1: t itself -/
def rRep1 (K : PySem.W.Frag) : R2 := fun x y H Q => ∃ l k xs, x = .ref l ∧ y = .int k ∧ SqT K H l xs ∧ (xs = [] ∨ k = 1) ∧ -(2 ^ 63) ≤ k ∧ k < 2 ^ 63 ∧ Q (.ref l) H
/-- t * k, k at most 0: an empty tuple -/
def rRep0 (K : PySem.W.Frag) : R2 := fun x y H Q => ∃ l k xs, x = .ref l ∧ y = .int k ∧ SqT K H l xs ∧ xs ≠ [] ∧ k ≤ 0 ∧ -(2 ^ 63) ≤ k ∧ ∀ p, H p = none → Q (.ref p) (upd H p (.tup []))
section
variable {X : Cx}
theorem op_rep1 : OpR X (binaryOp .Mult) (rRep1 X.K) := by
  intro pins s σ H x y v u Q I rx ry h
  obtain ⟨l, k, xs, rfl, rfl, hT, hne, h1, h2, q⟩ := h
  cases rx
  obtain ⟨t, rfl⟩ := ry
  obtain ⟨its, r, ⟨⟨cls, dd, data, sl⟩, ho, hc, n, hd⟩, hs⟩ := I.tuple hT
  simp only at hc hd
  subst hc hd
  have hle : its.length = xs.length := r.length.symm
  have c0 : (decide (k < -(2 ^ 63)) || decide (k ≥ 2 ^ 63)) = false := by
    rw [decide_eq_false (by omega), decide_eq_false (by omega)] <;> rfl
  have c1 : (its.toArray.isEmpty || k == 1) = true := by
    rcases hne with rfl | rfl
    · have : its = [] := List.eq_nil_of_length_eq_zero hle
      subst this; rfl
    · rw [beq_self_eq_true, Bool.or_true]
  refine wpAny_binaryOp_repeat_ref (T := "tuple") (U := "int") (by decide) ⟨_, ho, rfl⟩ (fun s' => typeIs_int s' k t) noFill_tuple_mul F.fills_int_mul F.slot_int_rmul repeat_tuple F.slot_int_index.lookup
    (call_meets F.slot_int_rmul (typeIs_int s k t) F.entry_int_rmul (F.args_int_rmul_2 _ _) (int_rmul_tuple k t l its.toArray n dd sl)
      ⟨ho, rfl, ⟨_, ho, rfl⟩, call_meets F.slot_tuple_mul ⟨_, ho, rfl⟩ F.entry_tuple_mul (F.args_tuple_mul_2 _ _) (tuple_mul1 l its.toArray n dd sl k t c0 c1) ⟨ho, ?_⟩⟩)
  exact ⟨.ref l, H, I, rfl, q⟩
theorem op_rep0 : OpR X (binaryOp .Mult) (rRep0 X.K) := by
  intro pins s σ H x y v u Q I rx ry h
  obtain ⟨l, k, xs, rfl, rfl, hT, hne, h1, h2, q⟩ := h
  cases rx
  obtain ⟨t, rfl⟩ := ry
  obtain ⟨its, r, ⟨⟨cls, dd, data, sl⟩, ho, hc, n, hd⟩, hs⟩ := I.tuple hT
  simp only at hc hd
  subst hc hd
  have hle : its.length = xs.length := r.length.symm
  have c0 : (decide (k < -(2 ^ 63)) || decide (k ≥ 2 ^ 63)) = false := by
    rw [decide_eq_false (by omega), decide_eq_false (by omega)] <;> rfl
  have hi : its.toArray.isEmpty = false := by
    cases its with
    | nil => exact absurd (List.eq_nil_of_length_eq_zero (by simpa using hle.symm)) hne
    | cons a b => rfl
  have c1 : (its.toArray.isEmpty || k == 1) = false := by
    rw [hi, Bool.false_or]
    exact beq_eq_false_iff_ne.mpr (by omega)
  have c2 : (decide (k ≤ 0) || its.toArray.isEmpty) = true := by rw [decide_eq_true h1, Bool.true_or]
  refine wpAny_binaryOp_repeat_ref (T := "tuple") (U := "int") (by decide) ⟨_, ho, rfl⟩ (fun s' => typeIs_int s' k t) noFill_tuple_mul F.fills_int_mul F.slot_int_rmul repeat_tuple F.slot_int_index.lookup
    (call_meets F.slot_int_rmul (typeIs_int s k t) F.entry_int_rmul (F.args_int_rmul_2 _ _) (int_rmul_tuple k t l its.toArray n dd sl)
      ⟨ho, rfl, ⟨_, ho, rfl⟩, call_meets F.slot_tuple_mul ⟨_, ho, rfl⟩ F.entry_tuple_mul (F.args_tuple_mul_2 _ _) (tuple_mul0 l its.toArray n dd sl k t c0 c1 c2) ⟨ho, ?_⟩⟩)
  refine ⟨.ref s.heap.objs.size, _, I.laid (t' := s.toks) (o := .tup []) (fun b ob q => Heap.get?_push_of_some _ q) (Nat.le_refl _) ?_, rfl, q _ (I.hok.fresh (Nat.le_refl _))⟩
  exact ⟨Nat.zero_le _, [], .nil, IsTup.new _ _⟩
end
end L2
/-! ### t[::-1] -/
namespace HT
open PySem PySem.Spec PyProof.Rows
section
variable {prog : Program} {w : World} {A : Around} {E : Value → Shared → Prop} {s : Shared}
theorem adjust_rev (n : Nat) : Builtin.Slice.sliceAdjust none none (-1) (n : Int) = ((n : Int) - 1, -1) := rfl
theorem places_rev (n : Nat) : Builtin.Slice.slicePlaces ((n : Int) - 1) (-1) (-1) = n := by
  unfold Builtin.Slice.slicePlaces
  have h1 : ¬ ((-1 : Int) > 0) := by omega
  rw [if_neg h1, show (- -1 : Int) = 1 by decide, Int.ediv_one]
  split <;> omega
theorem pick_rev (xs : Array Value) : ((List.range xs.size).filterMap fun (m : Nat) => xs[((xs.size : Int) - 1 + (m : Int) * -1).toNat]?).toArray = xs.toList.reverse.toArray := by
  congr 1
  refine List.ext_getElem? fun i => ?_
  have e : ((List.range xs.size).filterMap fun (m : Nat) => xs[((xs.size : Int) - 1 + (m : Int) * -1).toNat]?) = (List.range xs.size).map fun m => xs.toList.getD (xs.size - 1 - m) .none := by
    rw [← List.filterMap_eq_map]
    have key : ∀ l : List Nat, (∀ m ∈ l, m < xs.size) → (l.filterMap fun (m : Nat) => xs[((xs.size : Int) - 1 + (m : Int) * -1).toNat]?) = l.filterMap (some ∘ fun m => xs.toList.getD (xs.size - 1 - m) .none) := fun l => by
      induction l with
      | nil => intro _; rfl
      | cons a l ih =>
        intro h
        have ha := h a (List.mem_cons_self ..)
        rw [List.filterMap_cons, List.filterMap_cons, ih fun m hm => h m (List.mem_cons_of_mem _ hm), show ((xs.size : Int) - 1 + (a : Int) * -1).toNat = xs.size - 1 - a from by omega, Array.getElem?_eq_getElem (show xs.size - 1 - a < xs.size by omega)]
        show _ = (xs.toList.getD (xs.size - 1 - a) .none) :: _
        rw [List.getD_eq_getElem?_getD, Array.getElem?_toList, Array.getElem?_eq_getElem (show xs.size - 1 - a < xs.size by omega)]
        rfl
    exact key _ fun m hm => List.mem_range.mp hm
  rw [e]
  by_cases h : i < xs.size
  · rw [List.getElem?_map, List.getElem?_eq_getElem (by rw [List.length_range]; exact h), List.getElem_range, List.getElem?_reverse (by rw [Array.length_toList]; exact h), Array.length_toList]
    show some (xs.toList.getD (xs.size - 1 - i) Value.none) = xs.toList[xs.size - 1 - i]?
    rw [List.getD_eq_getElem?_getD, Array.getElem?_toList, Array.getElem?_eq_getElem (show xs.size - 1 - i < xs.size by omega)]
    rfl
  · rw [List.getElem?_eq_none (by rw [List.length_map, List.length_range]; omega), List.getElem?_eq_none (by rw [List.length_reverse, Array.length_toList]; omega)]
theorem sliceApplied_rev {sl : Addr} {vs : Value} {n : Nat} {Q : Int × Int × Nat → Shared → Prop} (hs : s.heap.IsSliceOf sl .none .none vs) (ps : IsPart vs (some (-1)))
    (h : Q ((n : Int) - 1, -1, n) s) : wpAny (model prog w) A (Builtin.Slice.sliceApplied (.ref sl) (pure (n : Int))) Q E s := by
  obtain ⟨os, hos, hcs, hds⟩ := id hs
  unfold Builtin.Slice.sliceApplied Builtin.Slice.sliceFields
  refine wpAny_bind (wpAny_bind (wpAny_field hos hds (x := .none) rfl (wpAny_bind (wpAny_field hos hds (x := .none) rfl (wpAny_bind (wpAny_field hos hds (x := vs) rfl (wpAny_pure ?_)))))))
  refine wpAny_bind (slicePart_ ps ?_)
  show wpAny _ _ (if ((-1 : Int) == 0) = true then _ else _) _ _ s
  rw [if_neg (by decide)]
  refine wpAny_bind (slicePart_none (wpAny_bind (slicePart_none (wpAny_bind (wpAny_pure ?_)))))
  show wpAny _ _ (match Builtin.Slice.sliceAdjust none none (-1) (n : Int) with | (lo, hi) => pure (lo, (-1 : Int), Builtin.Slice.slicePlaces lo hi (-1))) _ _ s
  rw [adjust_rev n]
  show wpAny _ _ (pure ((n : Int) - 1, (-1 : Int), Builtin.Slice.slicePlaces ((n : Int) - 1) (-1) (-1))) _ _ s
  rw [places_rev]
  exact wpAny_pure h
theorem getItem_tuple_rev {t sl : Addr} {items : Array Value} {vs : Value} {Q : Value → Shared → Prop} (ht : IsTup s.heap t items) (hs : s.heap.IsSliceOf sl .none .none vs) (ps : IsPart vs (some (-1)))
    (h : Q (.ref s.heap.objs.size) { s with heap := s.heap.push { cls := .type "tuple", data := .seq items.toList.reverse.toArray } })
    (hsz : items.size ≤ sizeLine) : wpAny (model prog w) A (getItem (.ref t) (.ref sl)) Q E s := by
  have htake : sizeOk (.seq items.toList.reverse.toArray) := by
    show items.toList.reverse.toArray.size ≤ sizeLine
    rw [List.size_toArray, List.length_reverse, Array.length_toList]
    omega
  obtain ⟨os, hos, hcs, hds⟩ := id hs
  have hTs : s.TypeIs (.ref sl) "slice" := ⟨os, hos, hcs⟩
  unfold getItem
  try with_reducible refine wpAny_holding ?_
  first | refine wpAny_bind (wpAny_pure ?_) | skip
  refine wpAny_bind (wpAny_sequenceKey ht.typeIs (by decide) ?_)
  refine wpAny_bind (wpAny_callSpecial?_slot (name := Str.ofString "__getitem__") ht.typeIs PyProof.Rows.slot_tuple_getitem
    (wpAny_call_entry PyProof.Rows.slot_tuple_getitem ht.typeIs entry_tuple_getitem ?_ (args_tuple_getitem _ _)))
  show wpAny _ _ (Builtin.Tuple.tupleItemsOf (.ref t) >>= _) _ _ s
  refine wpAny_bind (tupleItemsOf_ ht ?_)
  refine wpAny_bind (wpAny_typeOf hTs ?_)
  rw [if_pos (by decide)]
  refine wpAny_bind (sliceApplied_rev hs ps ?_)
  have hno : ¬ ((((items.size : Int) - 1) == 0 && (-1 : Int) == 1 && items.size == items.size) = true) := by
    intro q
    rw [Bool.and_eq_true, Bool.and_eq_true] at q
    exact absurd q.1.2 (by decide)
  show wpAny _ _ (if (((items.size : Int) - 1) == 0 && (-1 : Int) == 1 && items.size == items.size) = true then _ else _) _ _ s
  rw [if_neg hno, pick_rev]
  first
    | exact wpAny_bind (m := Builtin.Tuple.tupleExact _) (wpAny_newObj_type (wpAny_pure ⟨_, rfl, wpAny_pure h⟩) htake)
    | exact wpAny_bind (m := Builtin.Tuple.tupleExact _) (wpAny_newObj_type (wpAny_bind (wpAny_pure (wpAny_pure ⟨_, rfl, wpAny_pure h⟩))) htake)
    | exact wpAny_bind (wpAny_bind (m := Builtin.Tuple.tupleExact _) (wpAny_newObj_type (wpAny_pure (wpAny_pure ⟨_, rfl, wpAny_pure h⟩)) htake))
    | exact wpAny_bind (wpAny_bind (m := Builtin.Tuple.tupleExact _) (wpAny_newObj_type (wpAny_pure ⟨_, rfl, wpAny_pure h⟩) htake))
end
end HT
namespace L2
open PySem PySem.Spec PyProof.Rows
section
variable {X : Cx}
/-- t[::-1] of a list or a tuple -/
def tRevS (K : PySem.W.Frag) (te : TE) : TE := fun σ H Q => te σ H fun x H1 => ∃ a xs, x = .ref a ∧ ((SqL K H1 a xs ∧ ∀ p, H1 p = none → Q (.ref p) (upd H1 p (.lst xs.reverse))) ∨ (SqT K H1 a xs ∧ ∀ p, H1 p = none → Q (.ref p) (upd H1 p (.tup xs.reverse))))
theorem pe_revS {e : Expr} {te : TE} {k : Nat} {p1 p2 p3 pos : Pos} (he : PE X e te) : PE X (.Subscript e (.Slice none none (some (.UnaryOp .USub (.Constant (.int 1) k p1) p2)) p3) pos) (tRevS X.K te) := by
  refine ⟨fun pins s σ H Q I h => ?_⟩
  refine Subscript_ (thn (he.run pins s σ H _ I h) fun v s1 ⟨x, H1, I1, r1, q1⟩ => ?_)
  obtain ⟨a, xs, ex, hq⟩ := q1
  subst ex
  cases r1
  have hst : PO X (some (.UnaryOp .USub (.Constant (.int 1) k p1) p2)) (tPart (tUn (rU fun i => .int (-i)) (tC (.int 1)))) := po_some (pe_un un_neg pe_int)
  refine wpAny_Slice (thn (po_none.run pins s1 σ H1 (fun o H2 => o = none ∧ H2 = H1) I1 ⟨rfl, rfl⟩) fun vl s2 ⟨l, H2, I2, pl, el, e2⟩ => ?_)
  subst el e2
  refine thn (po_none.run pins s2 σ H2 (fun o H3 => o = none ∧ H3 = H2) I2 ⟨rfl, rfl⟩) fun vu s3 ⟨u, H3, I3, pu, eu, e3⟩ => ?_
  subst eu e3
  refine thn (hst.run pins s3 σ H3 (fun o H4 => o = some (-1) ∧ H4 = H3) I3 ⟨1, rfl, -1, rfl, rfl, rfl⟩) fun vs s4 ⟨o, H4, I4, ps, eo, e4⟩ => ?_
  subst eo e4
  have I5 : Inv X pins σ H4 { s4 with heap := s4.heap.push { cls := .type "slice", data := .fields #[vl, vu, vs] } } := I4.kept (t' := s4.toks) fun b ob q => Heap.get?_push_of_some _ q
  show wpAny (model X.prog X.w) X.A (subscriptTail e (.Slice none none (some (.UnaryOp .USub (.Constant (.int 1) k p1) p2)) p3) (.ref a) (.ref s4.heap.objs.size)) (EP X pins σ Q) X.xe { s4 with heap := s4.heap.push { cls := .type "slice", data := .fields #[vl, vu, vs] } }
  rcases hq with ⟨hx, q⟩ | ⟨hx, q⟩
  · obtain ⟨its, r, ht, hz⟩ := I5.list hx
    have hlen := r.length
    refine tail_any (ops := [.ref a, .ref s4.heap.objs.size]) ht.isList.typeIs (PySem.slot_list_getitem.lookup) ?_ (by with_unfolding_all rfl)
    refine wpAny_getItem_list_slice ht.isList (Heap.IsSliceOf.new _ vl vu vs) pl pu ps (by decide) ?_ (by rw [List.size_toArray]; omega)
    rw [PySem.W.krv_pick]
    refine ⟨.ref _, _, I5.laid (t' := s4.toks) (o := .lst xs.reverse) (fun b ob q => Heap.get?_push_of_some _ q) (Nat.le_refl _) ?_, rfl, q _ (I5.hok.fresh (Nat.le_refl _))⟩
    exact ⟨by rw [List.length_reverse]; exact hz, _, 0, r.reverse, Heap.get?_push_size _ rfl⟩
  · obtain ⟨its, r, ht, hz⟩ := I5.tuple hx
    have hlen := r.length
    cases pl
    cases pu
    refine tail_any (ops := [.ref a, .ref s4.heap.objs.size]) ht.typeIs (PyProof.Rows.slot_tuple_getitem.lookup) ?_ (by with_unfolding_all rfl)
    refine HT.getItem_tuple_rev ht (Heap.IsSliceOf.new _ .none .none vs) ps ?_ (by rw [List.size_toArray]; omega)
    refine ⟨.ref _, _, I5.laid (t' := s4.toks) (o := .tup xs.reverse) (fun b ob q => Heap.get?_push_of_some _ q) (Nat.le_refl _) ?_, rfl, q _ (I5.hok.fresh (Nat.le_refl _))⟩
    exact ⟨by rw [List.length_reverse]; exact hz, _, r.reverse, IsTup.new _ _⟩
/-- one of two targets' readings -/
theorem pg_or {e : Expr} {t u : TG} (h1 : PG X e t) (h2 : PG X e u) : PG X e (fun v σ H Q => t v σ H Q ∨ u v σ H Q) := ⟨fun pins s σ H v w Q I r hw => hw.elim (h1.run pins s σ H v w Q I r) (h2.run pins s σ H v w Q I r)⟩
end
end L2

end

section
set_option autoImplicit false
/-! DLa: data values, the small language, its functional meaning. -/
namespace DL
open PySem L2

/-- data: a Python value without the heap -/
inductive D where
  | non | bl (b : Bool) | int (i : Int) | str (s : Str) | tup (xs : List D) | lst (xs : List D) | scr (xs : List D)
  /-- an instance of the program's class c, its fields in order -/
  | obj (c : Nat) (xs : List D)
/-- the classes: names, fields -/
def cName : Nat → Str
  | 0 => "Log" | _ => "Links"
def cFlds : Nat → List Str
  | 0 => ["levels", "parts"] | _ => ["levels", "targets"]
mutual
/-- no instance inside -/
def pureD : D → Bool
  | .tup xs => puresD xs
  | .lst xs => puresD xs
  | .scr xs => puresD xs
  | .obj _ _ => false
  | _ => true
def puresD : List D → Bool
  | [] => true
  | x :: xs => pureD x && puresD xs
end

/-- who holds a list: its own slot; a caller's; locked while a loop walks it -/
inductive Lk | own | bor | lck
  deriving DecidableEq
/-- a slot -/
inductive Sl where
  | un | fz (d : D) | ls (k : Lk) (xs : List D)
abbrev Ev := List Sl
/-- what an expression gives: frozen data; a fresh list; the list of a slot -/
inductive R where
  | fz (d : D) | fr (xs : List D) | rf (i : Nat)

inductive Out (α : Type) where
  | ok (a : α) (ρ : Ev) | stk
abbrev M (α : Type) := Ev → Out α
section
variable {α β : Type}
def Out.then (o : Out α) (f : α → M β) : Out β := match o with | .ok a ρ => f a ρ | .stk => .stk
def ret (a : α) : M α := fun ρ => .ok a ρ
def stuck : M α := fun _ => .stk
def bnd (m : M α) (f : α → M β) : M β := fun ρ => (m ρ).then f
def ofO (o : Option α) : M α := fun ρ => match o with | some a => .ok a ρ | none => .stk
@[simp] theorem then_ok (a : α) (ρ : Ev) (f : α → M β) : (Out.ok a ρ).then f = f a ρ := rfl
@[simp] theorem then_stk (f : α → M β) : (Out.stk : Out α).then f = .stk := rfl
theorem then_eq {o : Out α} {f : α → M β} {b : β} {ρ' : Ev} (h : o.then f = .ok b ρ') : ∃ a ρ, o = .ok a ρ ∧ f a ρ = .ok b ρ' := by
  cases o with
  | ok a ρ => exact ⟨a, ρ, rfl, h⟩
  | stk => cases h
theorem bnd_eq {m : M α} {f : α → M β} {ρ ρ' : Ev} {b : β} (h : bnd m f ρ = .ok b ρ') : ∃ a ρ1, m ρ = .ok a ρ1 ∧ f a ρ1 = .ok b ρ' := then_eq h
theorem ofO_eq {o : Option α} {ρ ρ' : Ev} {a : α} (h : ofO o ρ = .ok a ρ') : o = some a ∧ ρ' = ρ := by
  cases o with
  | none => cases h
  | some b => cases h; exact ⟨rfl, rfl⟩
end

/-- the data of a result, as things stand -/
def view (ρ : Ev) : R → Option D
  | .fz d => some d
  | .fr xs => some (.lst xs)
  | .rf i => match ρ[i]? with | some (.ls _ xs) => some (.lst xs) | _ => none
def vw (r : R) : M D := fun ρ => match view ρ r with | some d => .ok d ρ | none => .stk
/-- frozen for good -/
def share : R → M D
  | .fz d => ret d
  | .fr xs => ret (.lst xs)
  | .rf i => fun ρ => match ρ[i]? with | some (.ls .own xs) => .ok (.lst xs) (ρ.set i (.fz (.lst xs))) | _ => .stk

/-! ### operators on data -/
def toPy : D → PyData
  | .non => .none
  | .bl b => .bool b
  | .int i => .int i
  | .str s => .str s
  | .tup xs => .tuple (toPys xs)
  | .lst xs => .list (toPys xs)
  | .scr xs => .list (toPys xs)
  | .obj _ _ => .none
where toPys : List D → List PyData
  | [] => []
  | x :: xs => toPy x :: toPys xs

inductive Bop | add | sub | mul | fdiv | mod | pow | shr | band
  deriving DecidableEq
inductive Cop | lt | le | gt | ge | eq | ne | isN | notN | inn | nin
  deriving DecidableEq

def flat : D → Bool
  | .non => true | .bl _ => true | .int _ => true | .str _ => true | _ => false
def eqFlat : D → D → Bool
  | x, y => (toPy x).eqv (toPy y)
def small64 (i : Int) : Bool := decide (-(2 ^ 64) < i) && decide (i < 2 ^ 64)
def wide (i : Int) : Bool := decide (i.natAbs < 2 ^ 2000)
def repl (xs : List D) (n : Nat) : List D := (List.replicate n xs).flatten
def binD : Bop → D → D → Option R
  | .add, .int i, .int j => some (.fz (.int (i + j)))
  | .add, .str i, .str j => if i.length + j.length ≤ sizeLine then some (.fz (.str (i ++ j))) else none
  | .add, .tup xs, .tup ys => if xs.length + ys.length ≤ sizeLine then some (.fz (.tup (xs ++ ys))) else none
  | .add, .lst xs, .lst ys => if xs.length + ys.length ≤ sizeLine then some (.fr (xs ++ ys)) else none
  | .sub, .int i, .int j => some (.fz (.int (i - j)))
  | .mul, .int i, .int j => if small64 i || small64 j || (wide i && wide j) then some (.fz (.int (i * j))) else none
  | .mul, .lst xs, .int k => if -(2 ^ 63) ≤ k ∧ k < 2 ^ 63 ∧ xs.length * k.toNat ≤ sizeLine then some (.fr (repl xs k.toNat)) else none
  | .mul, .tup xs, .int k => if 2 ≤ k ∧ k ≤ 1000 ∧ 1 ≤ xs.length ∧ xs.length ≤ 1000 then some (.fz (.tup (repl xs k.toNat))) else if (k ≤ 1 ∨ xs.isEmpty = true) ∧ -(2 ^ 63) ≤ k ∧ k < 2 ^ 63 then some (.fz (.tup (repl xs k.toNat))) else none
  | .shr, .int i, .int j => if 0 ≤ j ∧ j ≤ 1000 then some (.fz (.int (i / 2 ^ j.toNat))) else none
  | .band, .int i, .int j => some (.fz (.int (Builtin.bitAnd i j)))
  | .fdiv, .int i, .int j => if j ≠ 0 ∧ j.natAbs < 1073741824 then some (.fz (.int (i.fdiv j))) else none
  | .mod, .int i, .int j => if j ≠ 0 then some (.fz (.int (i.fmod j))) else none
  | .pow, .int i, .int j => if 0 ≤ j ∧ j ≤ 1000000 ∧ i.natAbs < 2 ^ 64 then some (.fz (.int (i ^ j.toNat))) else none
  | _, _, _ => none
def shapedD (x : D) : Bool := pureD x && SeqAt.shaped (toPy x)
def inD (x : D) (xs : List D) : Bool := xs.any fun y => (toPy y).eqv (toPy x)
def isNonD : D → Bool
  | .non => true
  | _ => false
def cmpD : Cop → D → D → Option Bool
  | .lt, .int i, .int j => some (decide (i < j))
  | .le, .int i, .int j => some (decide (i ≤ j))
  | .gt, .int i, .int j => some (decide (i > j))
  | .ge, .int i, .int j => some (decide (i ≥ j))
  | .eq, .int i, .int j => some (decide (i = j))
  | .eq, .str a, .str b => some (decide (a = b))
  | .ne, .int i, .int j => some (!decide (i = j))
  | .ne, .str a, .str b => some (!decide (a = b))
  | .eq, x, y => if shapedD x && shapedD y then some ((toPy x).eqv (toPy y)) else none
  | .ne, x, y => if shapedD x && shapedD y then some (!(toPy x).eqv (toPy y)) else none
  | .isN, .bl a, .bl b => some (decide (a = b))
  | .notN, .bl a, .bl b => some (!decide (a = b))
  | .isN, x, .non => some (isNonD x)
  | .notN, x, .non => some (!isNonD x)
  | .inn, x, .lst ys => if (flat x && ys.all flat) || (shapedD x && shapedD (.lst ys)) then some (inD x ys) else none
  | .inn, x, .tup ys => if flat x && ys.all flat then some (inD x ys) else none
  | .nin, x, .lst ys => if (flat x && ys.all flat) || (shapedD x && shapedD (.lst ys)) then some (!inD x ys) else none
  | .nin, x, .tup ys => if flat x && ys.all flat then some (!inD x ys) else none
  | _, _, _ => none
def truthD : D → Option Bool
  | .non => some false
  | .bl b => some b
  | .int i => some (i != 0)
  | .str s => if s.length ≤ sizeLine then some (s.length != 0) else none
  | .tup xs => some (!xs.isEmpty)
  | .lst xs => some (!xs.isEmpty)
  | .scr xs => some (!xs.isEmpty)
  | .obj _ _ => none
/-- an item by an index of any sign -/
def atD (xs : List D) (i : Int) : Option D := atI xs i
def idxD : D → D → Option D
  | .tup xs, .int i => atD xs i
  | .lst xs, .int i => atD xs i
  | .scr xs, .int i => atD xs i
  | _, _ => none
def partI : Option D → Option (Option Int)
  | none => some none
  | some (.int i) => some (some i)
  | some _ => none
def cut (xs : List D) (lo hi : Option Int) : List D := List.take (HT.sIx xs.length xs.length hi - HT.sIx xs.length 0 lo) (List.drop (HT.sIx xs.length 0 lo) xs)
def slcD : D → Option Int → Option Int → Option R
  | .tup xs, lo, hi => some (.fz (.tup (cut xs lo hi)))
  | .lst xs, lo, hi => some (.fr (cut xs lo hi))
  | .scr xs, lo, hi => some (.fr (cut xs lo hi))
  | _, _, _ => none
def intsD : List D → Option (List Int)
  | [] => some []
  | .int i :: r => (intsD r).map (i :: ·)
  | _ :: _ => none
def boolsD : List D → Option (List Bool)
  | [] => some []
  | .bl i :: r => (boolsD r).map (i :: ·)
  | _ :: _ => none
def maxL : List Int → Option Int
  | [] => none
  | [x] => some x
  | x :: r => (maxL r).map fun m => if m < x then x else m
def minL : List Int → Option Int
  | [] => none
  | [x] => some x
  | x :: r => (minL r).map fun m => if x < m then x else m
def insI (x : Int) : List Int → List Int
  | [] => [x]
  | y :: r => if x ≤ y then x :: y :: r else y :: insI x r
def sortI : List Int → List Int
  | [] => []
  | x :: r => insI x (sortI r)
/-- without doubles, ascending -/
def insU (x : Int) : List Int → List Int
  | [] => [x]
  | y :: r => if x < y then x :: y :: r else if x = y then y :: r else y :: insU x r
def setI : List Int → List Int
  | [] => []
  | x :: r => insU x (setI r)
def rngL (lo hi : Int) : List D := (List.range (hi - lo).toNat).map fun (i : Nat) => D.int (lo + (i : Int))
def rngDL (lo hi : Int) : List D := (List.range (lo - hi).toNat).map fun (i : Nat) => D.int (lo - (i : Int))
def small62 (i : Int) : Bool := decide (-(2 ^ 62) ≤ i) && decide (i < 2 ^ 62)
/-- built-in classes that are asked for -/
inductive Ty | int | bool | tuple | list | str
  deriving DecidableEq
def isD : D → Ty → Bool
  | .int _, .int => true
  | .bl _, .int => true
  | .bl _, .bool => true
  | .str _, .str => true
  | .tup _, .tuple => true
  | .lst _, .list => true
  | .scr _, .list => true
  | _, _ => false
inductive Bi | len | abs | int1 | tuple | list | max1 | min1 | max2 | min2 | sum | all | any | sorted | divmod | repr | isi (t : Ty) | tupRng1 | tupRng2 | sset | iso (c : Nat) | reprL | rvs
  deriving DecidableEq
def biD : Bi → List D → Option R
  | .len, [.tup xs] => some (.fz (.int xs.length))
  | .len, [.lst xs] => some (.fz (.int xs.length))
  | .len, [.scr xs] => some (.fz (.int xs.length))
  | .len, [.str s] => if s.length ≤ sizeLine then some (.fz (.int s.length)) else none
  | .abs, [.int i] => some (.fz (.int (if i < 0 then -i else i)))
  | .int1, [.int i] => some (.fz (.int i))
  | .int1, [.bl b] => some (.fz (.int (if b then 1 else 0)))
  | .rvs, [.lst xs] => some (.fr xs.reverse)
  | .rvs, [.tup xs] => some (.fz (.tup xs.reverse))
  | .tuple, [.tup xs] => some (.fz (.tup xs))
  | .tuple, [.lst xs] => some (.fz (.tup xs))
  | .list, [.tup xs] => some (.fr xs)
  | .list, [.lst xs] => some (.fr xs)
  | .list, [.scr xs] => some (.fr xs)
  | .max1, [.lst xs] => ((intsD xs).bind maxL).map fun m => .fz (.int m)
  | .min1, [.lst xs] => ((intsD xs).bind minL).map fun m => .fz (.int m)
  | .max2, [.int i, .int j] => some (.fz (.int (if j > i then j else i)))
  | .min2, [.int i, .int j] => some (.fz (.int (if j < i then j else i)))
  | .sum, [.lst xs] => (intsD xs).map fun ns => .fz (.int ns.sum)
  | .sum, [.tup xs] => (intsD xs).map fun ns => .fz (.int ns.sum)
  | .reprL, xs => if pureD (.lst xs) && (toPy (.lst xs)).showable && !(toPy (.lst xs)).hasDict && decide ((toPy (.lst xs)).depth ≤ 64) && decide ((toPy (.lst xs)).shown.length ≤ sizeLine) && decide (xs.length ≤ 1000) then some (.fz (.str (toPy (.lst xs)).shown)) else none
  | .all, [.lst xs] => (boolsD xs).map fun bs => .fz (.bl (bs.all id))
  | .any, [.lst xs] => (boolsD xs).map fun bs => .fz (.bl (bs.any id))
  | .sorted, [.lst xs] => (intsD xs).map fun ns => .fr ((sortI ns).map .int)
  | .divmod, [.int i, .int j] => if 0 < j ∧ j < 1000000000000000000000000000000000000000000000000000000000000 then some (.fz (.tup [.int (i / j), .int (i % j)])) else none
  | .repr, [x] => if pureD x && (toPy x).showable && !(toPy x).hasDict && decide ((toPy x).depth ≤ 64) && decide ((toPy x).shown.length ≤ sizeLine) then some (.fz (.str (toPy x).shown)) else none
  | .isi _, [.obj _ _] => none
  | .isi t, [x] => some (.fz (.bl (isD x t)))
  | .iso c, [.obj c' _] => if c' = c then some (.fz (.bl true)) else none
  | .sset, [.lst xs] => (intsD xs).bind fun ns => if ns.length ≤ 4000 ∧ (setI ns).length < 64 then some (.fr ((setI ns).map .int)) else none
  | .sset, [.tup xs] => (intsD xs).bind fun ns => if ns.length ≤ 4000 ∧ (setI ns).length < 64 then some (.fr ((setI ns).map .int)) else none
  | .tupRng1, [.int j] => if small62 j && decide (j.toNat ≤ 16777216) then some (.fz (.tup (rngL 0 j))) else none
  | .tupRng2, [.int i, .int j] => if small62 i && small62 j && decide ((j - i).toNat ≤ 16777216) then some (.fz (.tup (rngL i j))) else none
  | _, _ => none

/-! ### the language -/
mutual
inductive E where
  | var (i : Nat) | cst (d : D)
  | bin (o : Bop) (a b : E) | neg (a : E)
  | cmp (o : Cop) (a b : E) | chn (o p : Cop) (a b c : E)
  | and (a b : E) | or (a b : E) | not (a : E) | ite (t a b : E)
  | tup (es : Es) | lst (es : Es)
  | idx (a b : E) | slc (a : E) (lo hi : Eo)
  | call (f : Nat) (perm : List Nat) (as ks : As)
  | bi (b : Bi) (es : Es)
  | comp (own : List Nat) (tg : Tg) (it : It) (cond : Eo) (elt : E)
  | app (i : Nat) (e : E) | ext (i : Nat) (e : E)
  | fld (e : E) (ks : List (Nat × Nat))
  | make (c f : Nat) (perm : List Nat) (as ks : As)
  | meth (o : E) (ms : List (Nat × Nat)) (perm : List Nat) (as ks : As)
inductive Eo where
  | none | some (e : E)
inductive Es where
  | nil | cons (e : E) (es : Es)
/-- arguments of a def: by value, by reference -/
inductive As where
  | nil | val (e : E) (es : As) | ref (e : E) (es : As)
inductive It where
  | val (e : E) | rng1 (e : E) | rng2 (a b : E) | rngD (a b : E) | enum (e : E) | zip (a b : E) | rev (e : E) | enumZ (a b : E)
inductive Tg where
  | nm (i : Nat) | sub (j : Nat) (i : E) | tp (ts : Tgs)
inductive Tgs where
  | nil | cons (t : Tg) (ts : Tgs)
end

mutual
inductive S where
  | asg (t : Tg) (e : E)
  | par (i j : Nat) (a b : E)
  | par3 (i j l : Nat) (a b c : E)
  | aug (i : Nat) (o : Bop) (e : E)
  | ex (e : E)
  | ifs (c : E) (a b : Ss)
  | for_ (t : Tg) (it : It) (b : Ss)
  | whl (c : E) (b : Ss)
  | ret (e : E) | retN | pass | brk | cnt
  /-- names that are used no more are forgotten -/
  | wip (ws : List Nat)
inductive Ss where
  | nil | cons (s : S) (ss : Ss)
end

def As.len : As → Nat
  | .nil => 0
  | .val _ r => r.len + 1
  | .ref _ r => r.len + 1
/-- calls of the table's defs: the arguments' slots; the result, the slots behind -/
abbrev Calls := Nat → List Sl → Option (R × List Sl)

/-- a slot gets frozen data -/
def setD (i : Nat) (d : D) : M Unit := fun ρ => match ρ[i]? with
  | some .un => .ok () (ρ.set i (.fz d))
  | some (.fz _) => .ok () (ρ.set i (.fz d))
  | some (.ls .own _) => .ok () (ρ.set i (.fz d))
  | _ => .stk
def setL (i : Nat) (xs : List D) : M Unit := fun ρ => match ρ[i]? with
  | some .un => .ok () (ρ.set i (.ls .own xs))
  | some (.fz _) => .ok () (ρ.set i (.ls .own xs))
  | some (.ls .own _) => .ok () (ρ.set i (.ls .own xs))
  | _ => .stk
def setR (i : Nat) : R → M Unit
  | .fz d => setD i d
  | .fr xs => setL i xs
  | .rf j => bnd (share (.rf j)) (setD i)
/-- a slot's list is shared now -/
def unref : R → M R
  | .rf i => bnd (share (.rf i)) fun d => ret (.fz d)
  | r => ret r
/-- the list of a slot is changed in place -/
def putL (i : Nat) (xs : List D) : M Unit := fun ρ => match ρ[i]? with
  | some (.ls .own _) => .ok () (ρ.set i (.ls .own xs))
  | some (.ls .bor _) => .ok () (ρ.set i (.ls .bor xs))
  | _ => .stk
def getL (i : Nat) : M (List D) := fun ρ => match ρ[i]? with
  | some (.ls _ xs) => .ok xs ρ
  | _ => .stk
/-- an argument by reference: its slot's index, or a fresh list -/
inductive A where
  | val (d : D) | rf (i : Nat) | fr (xs : List D)
def asRef : R → Option A
  | .fz _ => none
  | .fr xs => some (.fr xs)
  | .rf i => some (.rf i)
def slotOf (ρ : Ev) : A → Option Sl
  | .val d => some (.fz d)
  | .fr xs => some (.ls .bor xs)
  | .rf i => match ρ[i]? with
    | some (.ls .own xs) => some (.ls .bor xs)
    | some (.ls .bor xs) => some (.ls .bor xs)
    | _ => none
def slotsOf (ρ : Ev) : List A → Option (List Sl)
  | [] => some []
  | a :: r => match slotOf ρ a, slotsOf ρ r with
    | some s, some ss => some (s :: ss)
    | _, _ => none
def refs : List A → List Nat
  | [] => []
  | .rf i :: r => i :: refs r
  | _ :: r => refs r
/-- what a call has left in the slots that were passed -/
def putBack : List A → List Sl → Ev → Ev
  | .rf i :: r, .ls _ xs :: ss, ρ => putBack r ss (match ρ[i]? with | some (.ls k _) => ρ.set i (.ls k xs) | _ => ρ)
  | _ :: r, _ :: ss, ρ => putBack r ss ρ
  | _, _, ρ => ρ
def pick {α : Type} (perm : List Nat) (l : List α) : Option (List α) := perm.mapM fun j => l[j]?
def frs : List A → Nat
  | [] => 0
  | .fr _ :: r => frs r + 1
  | _ :: r => frs r
def callM (Φ : Calls) (f : Nat) (perm : List Nat) (as : List A) : M R := fun ρ =>
  match pick perm as with
  | none => .stk
  | some as => if (refs as).Nodup ∧ frs as ≤ 1 then match slotsOf ρ as with
      | none => .stk
      | some ss => match Φ f ss with
        | none => .stk
        | some (r, ss') => .ok r (putBack as ss' ρ)
    else .stk

def valsOf : List A → Option (List D)
  | [] => some []
  | .val d :: r => (valsOf r).map (d :: ·)
  | _ :: _ => none
/-- a class's call: its __init__ gives the fields -/
def makeM (Φ : Calls) (c f : Nat) (perm : List Nat) (as : List A) : M R := fun ρ =>
  match (pick perm as).bind valsOf with
  | none => .stk
  | some ds => match Φ f (.un :: ds.map .fz) with
    | some (.fz (.tup xs), _) => if xs.length = (cFlds c).length then .ok (.fz (.obj c xs)) ρ else .stk
    | _ => .stk

inductive Fl where
  | nx | rt (r : R) | bk | ct
def forL (step : D → M Fl) : List D → M Fl
  | [] => ret .nx
  | x :: xs => bnd (step x) fun
    | .nx => forL step xs
    | .ct => forL step xs
    | .bk => ret .nx
    | .rt r => ret (.rt r)
def cmpL (step : D → M (Option D)) : List D → List D → M (List D)
  | [], acc => ret acc
  | x :: xs, acc => bnd (step x) fun
    | some y => if acc.length < sizeLine then cmpL step xs (acc ++ [y]) else stuck
    | none => cmpL step xs acc
def whileN (test : M Bool) (body : M Fl) : Nat → M Fl
  | 0 => stuck
  | n + 1 => bnd test fun
    | true => bnd body fun
      | .nx => whileN test body n
      | .ct => whileN test body n
      | .bk => ret .nx
      | .rt r => ret (.rt r)
    | false => ret .nx
/-- the items that are walked, and the slot that is locked meanwhile -/
def lockOf (ρ : Ev) : R → Option (Nat × Lk)
  | .rf i => match ρ[i]? with | some (.ls k _) => some (i, k) | _ => none
  | _ => none
def withLock {α : Type} (l : Option (Nat × Lk)) (m : M α) : M α := fun ρ => match l with
  | none => m ρ
  | some (i, k) => match ρ[i]? with
    | some (.ls _ xs) => (m (ρ.set i (.ls .lck xs))).then fun a ρ' => match ρ'[i]? with
      | some (.ls _ ys) => .ok a (ρ'.set i (.ls k ys))
      | _ => .stk
    | _ => .stk
def itemsD : D → Option (List D)
  | .tup xs => some xs
  | .lst xs => some xs
  | .scr xs => some xs
  | _ => none
def enumFrom : Nat → List D → List D
  | _, [] => []
  | n, x :: xs => .tup [.int n, x] :: enumFrom (n + 1) xs
def zipD : List D → List D → List D
  | x :: xs, y :: ys => .tup [x, y] :: zipD xs ys
  | _, _ => []
def zipI : D → D → Option (List D)
  | .lst xs, .lst ys => some (zipD xs ys)
  | .tup xs, .tup ys => some (zipD xs ys)
  | _, _ => none
/-- the slots of a comprehension's own names are put by, and back -/
def wipeS (ρ : Ev) : List Nat → Ev
  | [] => ρ
  | v :: vs => (wipeS ρ vs).set v .un
def ownOk (ρ : Ev) (own : List Nat) : Bool := own.all fun i => match ρ[i]? with | some .un => true | some (.fz _) => true | _ => false
def wipeM (own : List Nat) : M Unit := fun ρ => if ownOk ρ own then .ok () (wipeS ρ own) else .stk
def dropOk (ρ : Ev) (ws : List Nat) : Bool := ws.all fun i => match ρ[i]? with | some .un => true | some (.fz _) => true | some (.ls .own _) => true | _ => false
def dropM (ws : List Nat) : M Unit := fun ρ => if dropOk ρ ws then .ok () (wipeS ρ ws) else .stk
def backS (ρ ρ' : Ev) : List Nat → Ev
  | [] => ρ'
  | v :: vs => (backS ρ ρ' vs).set v (ρ.getD v .un)

mutual
def ev (Φ : Calls) : E → M R
  | .var i => fun ρ => match ρ[i]? with
    | some (.fz d) => .ok (.fz d) ρ
    | some (.ls _ _) => .ok (.rf i) ρ
    | _ => .stk
  | .cst d => ret (.fz d)
  | .bin o a b => bnd (ev Φ a) fun x => bnd (ev Φ b) fun y => bnd (vw x) fun d => bnd (vw y) fun e => ofO (binD o d e)
  | .neg a => bnd (ev Φ a) fun x => bnd (vw x) fun d => match d with | .int i => ret (.fz (.int (-i))) | _ => stuck
  | .cmp o a b => bnd (ev Φ a) fun x => bnd (ev Φ b) fun y => bnd (vw x) fun d => bnd (vw y) fun e => bnd (ofO (cmpD o d e)) fun c => ret (.fz (.bl c))
  | .chn o p a b c => bnd (ev Φ a) fun x => bnd (ev Φ b) fun y => bnd (vw x) fun d => bnd (vw y) fun e => bnd (ofO (cmpD o d e)) fun k =>
      if k then bnd (ev Φ c) fun z => bnd (vw y) fun e => bnd (vw z) fun f => bnd (ofO (cmpD p e f)) fun c => ret (.fz (.bl c)) else ret (.fz (.bl false))
  | .and a b => bnd (ev Φ a) fun x => bnd (vw x) fun d => bnd (ofO (truthD d)) fun k => if k then ev Φ b else ret x
  | .or a b => bnd (ev Φ a) fun x => bnd (vw x) fun d => bnd (ofO (truthD d)) fun k => if k then ret x else ev Φ b
  | .not a => bnd (ev Φ a) fun x => bnd (vw x) fun d => bnd (ofO (truthD d)) fun k => ret (.fz (.bl (!k)))
  | .ite t a b => bnd (ev Φ t) fun x => bnd (vw x) fun d => bnd (ofO (truthD d)) fun k => if k then ev Φ a else ev Φ b
  | .tup es => bnd (evs Φ es) fun ds => if ds.length ≤ sizeLine then ret (.fz (.tup ds)) else stuck
  | .lst es => bnd (evs Φ es) fun ds => if ds.length ≤ sizeLine then ret (.fr ds) else stuck
  | .idx a b => bnd (ev Φ a) fun x => bnd (ev Φ b) fun y => bnd (vw x) fun d => bnd (vw y) fun e => bnd (ofO (idxD d e)) fun f => ret (.fz f)
  | .slc a lo hi => bnd (ev Φ a) fun x => bnd (evo Φ lo) fun l => bnd (evo Φ hi) fun h => bnd (vw x) fun d => ofO (slcD d l h)
  | .call f perm as ks => bnd (evas Φ as) fun as => bnd (evas Φ ks) fun ks => callM Φ f perm (as ++ ks)
  | .bi b es => bnd (evrs Φ es) fun rs => fun ρ => match rs.mapM (view ρ) with | some ds => ofO (biD b ds) ρ | none => .stk
  | .comp own tg it cond elt => bnd (evit Φ it) fun (l, xs) => fun ρ =>
      (bnd (wipeM own) (fun _ => withLock l (cmpL (fun x => bnd (asgn Φ tg x) fun _ => bnd (evc Φ cond) fun k =>
        if k then bnd (ev Φ elt) fun r => bnd (share r) fun y => bnd (wipeM own) fun _ => ret (some y) else bnd (wipeM own) fun _ => ret none) xs [])) ρ).then
          fun ys ρ' => .ok (.fr ys) (backS ρ ρ' own)
  | .app i e => bnd (getL i) fun _ => bnd (ev Φ e) fun y => bnd (share y) fun d => bnd (getL i) fun xs =>
      if xs.length < sizeLine then bnd (putL i (xs ++ [d])) fun _ => ret (.fz .non) else stuck
  | .ext i e => bnd (getL i) fun _ => bnd (ev Φ e) fun y => bnd (vw y) fun d => match d with
    | .lst ys => bnd (getL i) fun xs => if xs.length + ys.length ≤ sizeLine then bnd (putL i (xs ++ ys)) fun _ => ret (.fz .non) else stuck
    | _ => stuck
  | .fld e ks => bnd (ev Φ e) fun x => bnd (vw x) fun d => match d with
    | .obj c xs => bnd (ofO ((ks.lookup c).bind fun i => xs[i]?)) fun f => ret (.fz f)
    | _ => stuck
  | .make c f perm as ks => bnd (evas Φ as) fun as => bnd (evas Φ ks) fun ks => makeM Φ c f perm (as ++ ks)
  | .meth o ms perm as ks => bnd (ev Φ o) fun x => bnd (vw x) fun d => match d with
    | .obj c xs => bnd (ofO (ms.lookup c)) fun f => bnd (evas Φ as) fun as => bnd (evas Φ ks) fun ks => callM Φ f perm (.val (.obj c xs) :: (as ++ ks))
    | _ => stuck
def evo (Φ : Calls) : Eo → M (Option Int)
  | .none => ret none
  | .some e => bnd (ev Φ e) fun x => bnd (vw x) fun d => match d with | .int i => ret (some i) | _ => stuck
def evc (Φ : Calls) : Eo → M Bool
  | .none => ret true
  | .some e => bnd (ev Φ e) fun x => bnd (vw x) fun d => ofO (truthD d)
/-- shared, from the left -/
def evs (Φ : Calls) : Es → M (List D)
  | .nil => ret []
  | .cons e es => bnd (ev Φ e) fun x => bnd (share x) fun d => bnd (evs Φ es) fun ds => ret (d :: ds)
/-- as they are -/
def evrs (Φ : Calls) : Es → M (List R)
  | .nil => ret []
  | .cons e es => bnd (ev Φ e) fun x => bnd (evrs Φ es) fun ds => ret (x :: ds)
def evas (Φ : Calls) : As → M (List A)
  | .nil => ret []
  | .val e es => bnd (ev Φ e) fun x => bnd (share x) fun d => bnd (evas Φ es) fun ds => ret (.val d :: ds)
  | .ref e es => bnd (ev Φ e) fun x => bnd (ofO (asRef x)) fun a => bnd (evas Φ es) fun ds => ret (a :: ds)
def evit (Φ : Calls) : It → M (Option (Nat × Lk) × List D)
  | .val e => bnd (ev Φ e) fun x => bnd (vw x) fun d => fun ρ => bnd (ofO (itemsD d)) (fun xs => ret (lockOf ρ x, xs)) ρ
  | .rng1 e => bnd (ev Φ e) fun x => bnd (vw x) fun d => match d with
    | .int j => if small62 j then ret (none, rngL 0 j) else stuck
    | _ => stuck
  | .rng2 a b => bnd (ev Φ a) fun x => bnd (ev Φ b) fun y => bnd (vw x) fun d => bnd (vw y) fun e => match d, e with
    | .int i, .int j => if small62 i && small62 j then ret (none, rngL i j) else stuck
    | _, _ => stuck
  | .rngD a b => bnd (ev Φ a) fun x => bnd (ev Φ b) fun y => bnd (vw x) fun d => bnd (vw y) fun e => match d, e with
    | .int i, .int j => if small62 i && small62 j then ret (none, rngDL i j) else stuck
    | _, _ => stuck
  | .enum e => bnd (ev Φ e) fun x => bnd (vw x) fun d => fun ρ => bnd (ofO (itemsD d)) (fun xs => ret (lockOf ρ x, enumFrom 0 xs)) ρ
  | .zip a b => bnd (ev Φ a) fun x => bnd (share x) fun d => bnd (ev Φ b) fun y => bnd (share y) fun e => bnd (ofO (zipI d e)) fun xs => ret (none, xs)
  | .rev e => bnd (ev Φ e) fun x => bnd (vw x) fun d => fun ρ => bnd (ofO (itemsD d)) (fun xs => ret (lockOf ρ x, xs.reverse)) ρ
  | .enumZ a b => bnd (ev Φ a) fun x => bnd (share x) fun d => bnd (ev Φ b) fun y => bnd (share y) fun e => match d, e with
    | .tup xs, .tup ys => ret (none, enumFrom 0 (zipD xs ys))
    | _, _ => stuck
def asgn (Φ : Calls) : Tg → D → M Unit
  | .nm i, d => setD i d
  | .sub i b, d => bnd (getL i) fun _ => bnd (ev Φ b) fun y => bnd (vw y) fun e => match e with
    | .int k => bnd (getL i) fun xs => match ixN xs.length k with | some j => putL i (xs.set j d) | none => stuck
    | _ => stuck
  | .tp ts, .tup ds => asgns Φ ts ds
  | .tp ts, .lst ds => asgns Φ ts ds
  | .tp _, _ => stuck
def asgns (Φ : Calls) : Tgs → List D → M Unit
  | .nil, [] => ret ()
  | .cons t ts, d :: ds => bnd (asgn Φ t d) fun _ => asgns Φ ts ds
  | _, _ => stuck
end
mutual
def Tg.slots : Tg → List Nat
  | .nm i => [i]
  | .sub _ _ => []
  | .tp ts => ts.slots
def Tgs.slots : Tgs → List Nat
  | .nil => []
  | .cons t ts => t.slots ++ ts.slots
end
/-- what a plain assignment stores: a fresh list goes to its slot -/
def asgR (Φ : Calls) : Tg → R → M Unit
  | .nm i, r => setR i r
  | t, r => bnd (share r) fun d => asgn Φ t d

def fuelW : Nat := 100000
mutual
def exec (Φ : Calls) : S → M Fl
  | .asg t e => bnd (ev Φ e) fun r => bnd (asgR Φ t r) fun _ => ret .nx
  | .par i j a b => bnd (ev Φ a) fun x => bnd (ev Φ b) fun y => bnd (unref x) fun x => bnd (unref y) fun y => bnd (setR i x) fun _ => bnd (setR j y) fun _ => ret .nx
  | .par3 i j l a b c => bnd (ev Φ a) fun x => bnd (ev Φ b) fun y => bnd (ev Φ c) fun z => bnd (unref x) fun x => bnd (unref y) fun y => bnd (unref z) fun z => match y, z with
    | .fz d, .fz e => bnd (setR i x) fun _ => bnd (setD j d) fun _ => bnd (setD l e) fun _ => ret .nx
    | _, _ => stuck
  | .aug i o e => bnd (ev Φ (.var i)) fun x => bnd (ev Φ e) fun y => bnd (vw x) fun d => bnd (vw y) fun e => match d, e with
    | .int _, .int _ => bnd (ofO (binD o d e)) fun r => bnd (setR i r) fun _ => ret .nx
    | _, _ => stuck
  | .ex e => bnd (ev Φ e) fun _ => ret .nx
  | .ifs c a b => bnd (ev Φ c) fun x => bnd (vw x) fun d => bnd (ofO (truthD d)) fun k => if k then execs Φ a else execs Φ b
  | .for_ t it b => bnd (evit Φ it) fun (l, xs) => withLock l (forL (fun x => bnd (asgn Φ t x) fun _ => execs Φ b) xs)
  | .whl c b => whileN (bnd (ev Φ c) fun x => bnd (vw x) fun d => ofO (truthD d)) (execs Φ b) fuelW
  | .ret e => bnd (ev Φ e) fun r => ret (.rt r)
  | .retN => ret (.rt (.fz .non))
  | .pass => ret .nx
  | .brk => ret .bk
  | .cnt => ret .ct
  | .wip ws => bnd (dropM ws) fun _ => ret .nx
def execs (Φ : Calls) : Ss → M Fl
  | .nil => ret .nx
  | .cons s ss => bnd (exec Φ s) fun
    | .nx => execs Φ ss
    | f => ret f
end

/-- a def of the table: its parameters, its slots, its body -/
structure Df where
  np : Nat
  ns : Nat
  body : Ss
/-- a result that leaves its def -/
def leave (ρ : Ev) : R → Option R
  | .fz d => some (.fz d)
  | .fr xs => some (.fr xs)
  | .rf i => match ρ[i]? with | some (.ls .own xs) => some (.fr xs) | _ => none
/-- the slots that were passed by reference, as the def has left them -/
def behind : List Sl → Ev → List Sl
  | [], _ => []
  | .ls _ _ :: as, s :: ρ => s :: behind as ρ
  | a :: as, ρ => a :: behind as ρ.tail
def callN (T : List Df) : Nat → Calls
  | 0, _, _ => none
  | k + 1, f, args => match T[f]? with
    | none => none
    | some d => if args.length = d.np then
        match execs (callN T k) d.body (args ++ List.replicate (d.ns - d.np) .un) with
        | .ok (.rt r) ρ => (leave ρ r).map fun r => (r, behind args ρ)
        | .ok .nx ρ => some (.fz .non, behind args ρ)
        | _ => none
      else none
end DL

end

section
set_option autoImplicit false
/-! DLb: how data stands in the heap, and what a run may change. -/
namespace DL
open PySem L2

/-- an object of the written part -/
def KSeq (K : PySem.W.Frag) (cls : String) (dict : Bool) (a : Addr) (xs : List V) : Prop :=
  ∃ (o : Obj) (its : Array Value) (n : Nat), K.lookup a = some o ∧ o.cls = .type cls ∧ (dict = true → o.dict = none) ∧ o.data = .seq its n ∧ its.size ≤ sizeLine ∧ Vals xs its.toList
def ReS (K : PySem.W.Frag) (S : Addr → Prop) (H : Hp) (a : Addr) (xs : List V) : Prop := (S a ∧ Rd H a (.lst xs)) ∨ KSeq K "list" true a xs
def ReL (S : Addr → Prop) (H : Hp) (a : Addr) (xs : List V) : Prop := S a ∧ H a = some (.lst xs)
def ReT (K : PySem.W.Frag) (S : Addr → Prop) (H : Hp) (a : Addr) (xs : List V) : Prop := (S a ∧ Rd H a (.tup xs)) ∨ KSeq K "tuple" false a xs
mutual
/-- v is the frozen datum d -/
inductive Rp (K : PySem.W.Frag) (S : Addr → Prop) (H : Hp) : V → D → Prop
  | non : Rp K S H .non .non
  | bl (b : Bool) : Rp K S H (.bl b) (.bl b)
  | int (i : Int) : Rp K S H (.int i) (.int i)
  | str (x : Str) : Rp K S H (.str x) (.str x)
  | tup {a : Addr} {vs : List V} {ds : List D} : ReT K S H a vs → Rps K S H vs ds → Rp K S H (.ref a) (.tup ds)
  | lst {a : Addr} {vs : List V} {ds : List D} : ReL S H a vs → Rps K S H vs ds → Rp K S H (.ref a) (.lst ds)
  | scr {a : Addr} {vs : List V} {ds : List D} : ReS K S H a vs → Rps K S H vs ds → Rp K S H (.ref a) (.scr ds)
  | obj {a C dx : Addr} {c : Nat} {vs : List V} {ds : List D} : PySem.W.nsIn K mainGlobals (cName c) = some (some (.ref C)) → S a → H a = some (.ins C dx ((cFlds c).zip vs)) → vs.length = (cFlds c).length → Rps K S H vs ds → Rp K S H (.ref a) (.obj c ds)
inductive Rps (K : PySem.W.Frag) (S : Addr → Prop) (H : Hp) : List V → List D → Prop
  | nil : Rps K S H [] []
  | cons {v : V} {vs : List V} {d : D} {ds : List D} : Rp K S H v d → Rps K S H vs ds → Rps K S H (v :: vs) (d :: ds)
end
/-- frozen things stay -/
structure Ke (S : Addr → Prop) (H : Hp) (S' : Addr → Prop) (H' : Hp) : Prop where
  sub : ∀ a, S a → S' a
  keep : ∀ a o, S a → H a = some o → H' a = some o
section
variable {K : PySem.W.Frag} {S S' : Addr → Prop} {H H' : Hp}
theorem Ke.rd (k : Ke S H S' H') {a : Addr} {u : HO} (h : S a ∧ Rd H a u) : S' a ∧ Rd H' a u :=
  ⟨k.sub a h.1, h.2.elim (fun e => .inl (k.keep a _ h.1 e)) fun ⟨o, e⟩ => .inr ⟨o, k.keep a _ h.1 e⟩⟩
theorem ReL.mono (k : Ke S H S' H') {a : Addr} {xs : List V} (h : ReL S H a xs) : ReL S' H' a xs := ⟨k.sub a h.1, k.keep a _ h.1 h.2⟩
theorem ReS.mono (k : Ke S H S' H') {a : Addr} {xs : List V} (h : ReS K S H a xs) : ReS K S' H' a xs := h.elim (fun h => .inl (k.rd h)) .inr
theorem ReT.mono (k : Ke S H S' H') {a : Addr} {xs : List V} (h : ReT K S H a xs) : ReT K S' H' a xs := h.elim (fun h => .inl (k.rd h)) .inr
mutual
theorem Rp.mono (k : Ke S H S' H') : ∀ {v : V} {d : D}, Rp K S H v d → Rp K S' H' v d
  | _, _, .non => .non
  | _, _, .bl b => .bl b
  | _, _, .int b => .int b
  | _, _, .str b => .str b
  | _, _, .tup h r => .tup (h.mono k) (Rps.mono k r)
  | _, _, .lst h r => .lst (h.mono k) (Rps.mono k r)
  | _, _, .scr h r => .scr (h.mono k) (Rps.mono k r)
  | _, _, .obj n s h l r => .obj n (k.sub _ s) (k.keep _ _ s h) l (Rps.mono k r)
theorem Rps.mono (k : Ke S H S' H') : ∀ {v : List V} {d : List D}, Rps K S H v d → Rps K S' H' v d
  | _, _, .nil => .nil
  | _, _, .cons h r => .cons (Rp.mono k h) (Rps.mono k r)
end
theorem ReL.sq {a : Addr} {xs : List V} (h : ReL S H a xs) : SqL K H a xs := .inl (.inl h.2)
theorem ReS.sq {a : Addr} {xs : List V} (h : ReS K S H a xs) : SqL K H a xs := by
  rcases h with h | ⟨o, its, n, h1, h2, h3, h4, h5, h6⟩
  · exact .inl h.2
  · exact .inr ⟨o, its, n, h1, h2, h3 rfl, h4, h5, h6⟩
theorem ReT.sq {a : Addr} {xs : List V} (h : ReT K S H a xs) : SqT K H a xs := by
  rcases h with h | ⟨o, its, n, h1, h2, h3, h4, h5, h6⟩
  · exact .inl h.2
  · exact .inr ⟨o, its, n, h1, h2, h4, h5, h6⟩
mutual
theorem Rp.dp : ∀ {v : V} {d : D}, Rp K S H v d → pureD d = true → Dp K H v (toPy d)
  | _, _, .non, _ => .non
  | _, _, .bl b, _ => .bl b
  | _, _, .int b, _ => .int b
  | _, _, .str b, _ => .str b
  | _, _, .tup h r, p => .tup h.sq (Rps.dp r p)
  | _, _, .lst h r, p => .lst h.sq (Rps.dp r p)
  | _, _, .scr h r, p => .lst h.sq (Rps.dp r p)
  | _, _, .obj _ _ _ _ _, p => by cases p
theorem Rps.dp : ∀ {v : List V} {d : List D}, Rps K S H v d → puresD d = true → DpAll K H v (toPy.toPys d)
  | _, _, .nil, _ => .nil
  | _, _, .cons h r, p => by
    obtain ⟨p1, p2⟩ := Bool.and_eq_true _ _ |>.mp (show (_ && _) = true from p)
    exact .cons (Rp.dp h p1) (Rps.dp r p2)
end
theorem Rps.length : ∀ {vs : List V} {ds : List D}, Rps K S H vs ds → vs.length = ds.length
  | _, _, .nil => rfl
  | _, _, .cons _ r => by rw [List.length_cons, List.length_cons, Rps.length r]
theorem Rps.get : ∀ {vs : List V} {ds : List D} {i : Nat} {d : D}, Rps K S H vs ds → ds[i]? = some d → ∃ v, vs[i]? = some v ∧ Rp K S H v d
  | _, _, i, d, .nil, e => by simp at e
  | _, _, 0, d, .cons h _, e => by simp at e; subst e; exact ⟨_, rfl, h⟩
  | _, _, i + 1, d, .cons _ r, e => by
    obtain ⟨v, h1, h2⟩ := Rps.get (i := i) (d := d) r (by simpa using e)
    exact ⟨v, by simpa using h1, h2⟩
theorem Rps.getV : ∀ {vs : List V} {ds : List D} {i : Nat} {v : V}, Rps K S H vs ds → vs[i]? = some v → ∃ d, ds[i]? = some d ∧ Rp K S H v d
  | _, _, i, d, .nil, e => by simp at e
  | _, _, 0, d, .cons h _, e => by simp at e; subst e; exact ⟨_, rfl, h⟩
  | _, _, i + 1, d, .cons _ r, e => by
    obtain ⟨v, h1, h2⟩ := Rps.getV (i := i) (v := d) r (by simpa using e)
    exact ⟨v, by simpa using h1, h2⟩
theorem Rps.append : ∀ {vs us : List V} {ds es : List D}, Rps K S H vs ds → Rps K S H us es → Rps K S H (vs ++ us) (ds ++ es)
  | _, _, _, _, .nil, r => r
  | _, _, _, _, .cons h t, r => .cons h (Rps.append t r)
theorem Rps.take : ∀ {vs : List V} {ds : List D} (n : Nat), Rps K S H vs ds → Rps K S H (vs.take n) (ds.take n)
  | _, _, 0, _ => .nil
  | _, _, _ + 1, .nil => .nil
  | _, _, n + 1, .cons h r => .cons h (Rps.take n r)
theorem Rps.drop : ∀ {vs : List V} {ds : List D} (n : Nat), Rps K S H vs ds → Rps K S H (vs.drop n) (ds.drop n)
  | _, _, 0, r => r
  | _, _, _ + 1, .nil => .nil
  | _, _, n + 1, .cons _ r => Rps.drop n r
theorem Rps.set {v : V} {d : D} (h : Rp K S H v d) : ∀ {vs : List V} {ds : List D} (n : Nat), Rps K S H vs ds → Rps K S H (vs.set n v) (ds.set n d)
  | _, _, _, .nil => .nil
  | _, _, 0, .cons _ r => .cons h r
  | _, _, n + 1, .cons q r => .cons q (Rps.set h n r)
theorem Rps.cut {vs : List V} {ds : List D} (r : Rps K S H vs ds) (lo hi : Option Int) : Rps K S H (cutV vs lo hi) (cut ds lo hi) := by
  unfold cutV DL.cut
  rw [r.length]
  exact (r.drop _).take _
theorem Rps.ofInts : ∀ (ns : List Int), Rps K S H (ns.map V.int) (ns.map D.int)
  | [] => .nil
  | n :: r => .cons (.int n) (Rps.ofInts r)
theorem Rps.intsD : ∀ {vs : List V} {ds : List D} {ns : List Int}, Rps K S H vs ds → intsD ds = some ns → vs = ns.map V.int
  | _, _, ns, .nil, e => by cases e; rfl
  | _, _, ns, .cons (.int i) r, e => by
    rename_i vs ds
    have e : (DL.intsD ds).map (i :: ·) = some ns := e
    cases q : DL.intsD ds with
    | none => rw [q] at e; cases e
    | some ms => rw [q] at e; cases e; rw [Rps.intsD r q]; rfl
  | _, _, ns, .cons .non r, e => by cases e
  | _, _, ns, .cons (.bl _) r, e => by cases e
  | _, _, ns, .cons (.str _) r, e => by cases e
  | _, _, ns, .cons (.tup _ _) r, e => by cases e
  | _, _, ns, .cons (.lst _ _) r, e => by cases e
  | _, _, ns, .cons (.scr _ _) r, e => by cases e
  | _, _, ns, .cons (.obj _ _ _ _ _) r, e => by cases e
theorem Rps.boolsD : ∀ {vs : List V} {ds : List D} {ns : List Bool}, Rps K S H vs ds → boolsD ds = some ns → vs = ns.map V.bl
  | _, _, ns, .nil, e => by cases e; rfl
  | _, _, ns, .cons (.bl i) r, e => by
    rename_i vs ds
    have e : (DL.boolsD ds).map (i :: ·) = some ns := e
    cases q : DL.boolsD ds with
    | none => rw [q] at e; cases e
    | some ms => rw [q] at e; cases e; rw [Rps.boolsD r q]; rfl
  | _, _, ns, .cons .non r, e => by cases e
  | _, _, ns, .cons (.int _) r, e => by cases e
  | _, _, ns, .cons (.str _) r, e => by cases e
  | _, _, ns, .cons (.tup _ _) r, e => by cases e
  | _, _, ns, .cons (.lst _ _) r, e => by cases e
  | _, _, ns, .cons (.scr _ _) r, e => by cases e
  | _, _, ns, .cons (.obj _ _ _ _ _) r, e => by cases e
theorem intsD_map : ∀ (ns : List Int), intsD (ns.map D.int) = some ns
  | [] => rfl
  | n :: r => by show (intsD (r.map D.int)).map (n :: ·) = _; rw [intsD_map r]; rfl
theorem boolsD_map : ∀ (ns : List Bool), boolsD (ns.map D.bl) = some ns
  | [] => rfl
  | n :: r => by show (boolsD (r.map D.bl)).map (n :: ·) = _; rw [boolsD_map r]; rfl

/-- what may be read now as d -/
inductive Vd (K : PySem.W.Frag) (S : Addr → Prop) (H : Hp) (v : V) : D → Prop
  | fz {d : D} : Rp K S H v d → Vd K S H v d
  | ls {a : Addr} {vs : List V} {xs : List D} : v = .ref a → H a = some (.lst vs) → Rps K S H vs xs → Vd K S H v (.lst xs)
variable {v : V}
theorem Vd.dp {d : D} (h : Vd K S H v d) (p : pureD d = true) : Dp K H v (toPy d) := by
  cases h with
  | fz h => exact h.dp p
  | ls e h r => subst e; exact .lst (.inl (.inl h)) (r.dp p)
theorem Vd.i {i : Int} (h : Vd K S H v (.int i)) : v = .int i := by
  cases h with
  | fz h => cases h; rfl
theorem Vd.b {i : Bool} (h : Vd K S H v (.bl i)) : v = .bl i := by
  cases h with
  | fz h => cases h; rfl
theorem Vd.n (h : Vd K S H v .non) : v = .non := by
  cases h with
  | fz h => cases h; rfl
theorem Vd.s {i : Str} (h : Vd K S H v (.str i)) : v = .str i := by
  cases h with
  | fz h => cases h; rfl
theorem Vd.t {xs : List D} (h : Vd K S H v (.tup xs)) : ∃ a vs, v = .ref a ∧ SqT K H a vs ∧ Rps K S H vs xs := by
  cases h with
  | fz h => cases h with | tup h r => exact ⟨_, _, rfl, h.sq, r⟩
theorem Vd.tf {xs : List D} (h : Vd K S H v (.tup xs)) : Rp K S H v (.tup xs) := by
  cases h with
  | fz h => exact h
theorem Vd.l {xs : List D} (h : Vd K S H v (.lst xs)) : ∃ a vs, v = .ref a ∧ H a = some (.lst vs) ∧ Rps K S H vs xs := by
  cases h with
  | fz h => cases h with | lst h r => exact ⟨_, _, rfl, h.2, r⟩
  | ls e h r => exact ⟨_, _, e, h, r⟩
theorem Vd.c {xs : List D} (h : Vd K S H v (.scr xs)) : ∃ a vs, v = .ref a ∧ SqL K H a vs ∧ Rps K S H vs xs := by
  cases h with
  | fz h => cases h with | scr h r => exact ⟨_, _, rfl, h.sq, r⟩
theorem Vd.mono {d : D} (k : ∀ a o, H a = some o → H' a = some o) (kS : ∀ a, S a → S' a) (h : Vd K S H v d) : Vd K S' H' v d := by
  cases h with
  | fz h => exact .fz (h.mono ⟨kS, fun a o _ => k a o⟩)
  | ls e h r => exact .ls e (k _ _ h) (r.mono ⟨kS, fun a o _ => k a o⟩)
end

/-- the addresses of the lists that slots hold -/
def Own (ρ : Ev) (σ : St) (a : Addr) : Prop := ∃ (i : Nat) (k : Lk) (xs : List D), ρ[i]? = some (.ls k xs) ∧ σ[i]? = some (some (V.ref a))
def SlotOk (K : PySem.W.Frag) (S : Addr → Prop) (H : Hp) : Sl → Option V → Prop
  | .un, _ => True
  | .fz d, ov => ∃ v, ov = some v ∧ Rp K S H v d
  | .ls _ xs, ov => ∃ a vs, ov = some (V.ref a) ∧ H a = some (.lst vs) ∧ ¬ S a ∧ Rps K S H vs xs
structure Rel (K : PySem.W.Frag) (S : Addr → Prop) (ρ : Ev) (σ : St) (H : Hp) : Prop where
  len : ρ.length = σ.length
  ok : ∀ (i : Nat) (s : Sl) (ov : Option V), ρ[i]? = some s → σ[i]? = some ov → SlotOk K S H s ov
  inj : ∀ (i j : Nat) (k l : Lk) (xs ys : List D) (a : Addr), ρ[i]? = some (.ls k xs) → ρ[j]? = some (.ls l ys) → σ[i]? = some (some (V.ref a)) → σ[j]? = some (some (V.ref a)) → i = j
  dom : ∀ a, S a → H a ≠ none
section
variable {K : PySem.W.Frag} {S S' : Addr → Prop} {H H' : Hp} {ρ ρ' : Ev} {σ σ' : St}
theorem Rel.at (r : Rel K S ρ σ H) {i : Nat} {s : Sl} (e : ρ[i]? = some s) : ∃ ov, σ[i]? = some ov ∧ SlotOk K S H s ov := by
  have h : i < σ.length := by rw [← r.len]; exact (List.getElem?_eq_some_iff.mp e).1
  exact ⟨σ[i], List.getElem?_eq_getElem h, r.ok i s _ e (List.getElem?_eq_getElem h)⟩
theorem Rel.atL (r : Rel K S ρ σ H) {i : Nat} {k : Lk} {xs : List D} (e : ρ[i]? = some (.ls k xs)) : ∃ a vs, σ[i]? = some (some (V.ref a)) ∧ H a = some (.lst vs) ∧ ¬ S a ∧ Rps K S H vs xs := by
  obtain ⟨ov, e1, a, vs, e2, h⟩ := r.at e
  subst e2
  exact ⟨a, vs, e1, h⟩
theorem Rel.atF (r : Rel K S ρ σ H) {i : Nat} {d : D} (e : ρ[i]? = some (.fz d)) : ∃ v, σ[i]? = some (some v) ∧ Rp K S H v d := by
  obtain ⟨ov, e1, v, e2, h⟩ := r.at e
  subst e2
  exact ⟨v, e1, h⟩
theorem Rel.own_lst (r : Rel K S ρ σ H) {a : Addr} (h : Own ρ σ a) : ∃ vs, H a = some (.lst vs) := by
  obtain ⟨i, k, xs, e1, e2⟩ := h
  obtain ⟨b, vs, e3, e4, _⟩ := r.atL e1
  rw [e2] at e3; cases e3
  exact ⟨vs, e4⟩
theorem Rel.own_ns (r : Rel K S ρ σ H) {a : Addr} (h : Own ρ σ a) : ¬ S a := by
  obtain ⟨i, k, xs, e1, e2⟩ := h
  obtain ⟨b, vs, e3, _, e4, _⟩ := r.atL e1
  rw [e2] at e3; cases e3
  exact e4

/-- what a run may change -/
structure Go (S : Addr → Prop) (ρ : Ev) (σ : St) (H : Hp) (S' : Addr → Prop) (ρ' : Ev) (σ' : St) (H' : Hp) : Prop where
  sub : ∀ a, S a → S' a
  new : ∀ a, S' a → S a ∨ H a = none ∨ Own ρ σ a
  own : ∀ a, Own ρ' σ' a → H a = none ∨ Own ρ σ a
  keep : ∀ a o, H a = some o → ¬ Own ρ σ a → H' a = some o
  stay : ∀ a, H' a = none → H a = none
  fix : ∀ (i : Nat) (k : Lk) (xs : List D), ρ[i]? = some (.ls k xs) → k ≠ .own → ∃ ys, ρ'[i]? = some (.ls k ys) ∧ σ'[i]? = σ[i]? ∧ (k = .lck → ys = xs)
theorem Go.refl : Go S ρ σ H S ρ σ H := ⟨fun _ h => h, fun _ h => .inl h, fun _ h => .inr h, fun _ _ h _ => h, fun _ h => h, fun _ _ xs h _ => ⟨xs, h, rfl, fun _ => rfl⟩⟩
variable {S'' : Addr → Prop} {H'' : Hp} {ρ'' : Ev} {σ'' : St}
theorem Go.trans (a : Go S ρ σ H S' ρ' σ' H') (b : Go S' ρ' σ' H' S'' ρ'' σ'' H'') : Go S ρ σ H S'' ρ'' σ'' H'' where
  sub := fun x h => b.sub x (a.sub x h)
  new := fun x h => by
    rcases b.new x h with h | h | h
    · exact a.new x h
    · exact .inr (.inl (a.stay x h))
    · exact .inr (a.own x h)
  own := fun x h => by
    rcases b.own x h with h | h
    · exact .inl (a.stay x h)
    · exact a.own x h
  keep := fun x o h n => b.keep x o (a.keep x o h n) fun h' => (a.own x h').elim (fun z => by rw [z] at h; cases h) n
  stay := fun x h => a.stay x (b.stay x h)
  fix := fun i k xs h n => by
    obtain ⟨ys, e1, e2, e5⟩ := a.fix i k xs h n
    obtain ⟨zs, e3, e4, e6⟩ := b.fix i k ys e1 n
    exact ⟨zs, e3, e4.trans e2, fun e => (e6 e).trans (e5 e)⟩
theorem Go.ke (r : Rel K S ρ σ H) (g : Go S ρ σ H S' ρ' σ' H') : Ke S H S' H' := ⟨g.sub, fun a o s h => g.keep a o h fun w => r.own_ns w s⟩

/-- only new things: nothing that stood is changed -/
structure Gn (S : Addr → Prop) (H : Hp) (S' : Addr → Prop) (H' : Hp) : Prop where
  sub : ∀ a, S a → S' a
  new : ∀ a, S' a → S a ∨ H a = none
  keep : ∀ a o, H a = some o → H' a = some o
  dom : (∀ a, S a → H a ≠ none) → ∀ a, S' a → H' a ≠ none
theorem Gn.refl : Gn S H S H := ⟨fun _ h => h, fun _ h => .inl h, fun _ _ h => h, fun h => h⟩
theorem Gn.stay (g : Gn S H S' H') : ∀ a, H' a = none → H a = none := fun a h => by
  cases q : H a with
  | none => rfl
  | some o => rw [g.keep a o q] at h; cases h
theorem Gn.ke (g : Gn S H S' H') : Ke S H S' H' := ⟨g.sub, fun a o _ h => g.keep a o h⟩
theorem Gn.trans (a : Gn S H S' H') (b : Gn S' H' S'' H'') : Gn S H S'' H'' :=
  ⟨fun x h => b.sub x (a.sub x h), fun x h => (b.new x h).elim (a.new x) fun h => .inr (a.stay x h), fun x o h => b.keep x o (a.keep x o h), fun h => b.dom (a.dom h)⟩
theorem Gn.go (g : Gn S H S' H') : Go S ρ σ H S' ρ σ H' :=
  ⟨g.sub, fun a h => (g.new a h).imp id .inl, fun _ h => .inr h, fun a o h _ => g.keep a o h, g.stay, fun _ _ xs h _ => ⟨xs, h, rfl, fun _ => rfl⟩⟩
theorem SlotOk.gn (g : Gn S H S' H') (tr : ∀ a, Own ρ σ a → H a ≠ none) {i : Nat} {s : Sl} {ov : Option V} (e : ρ[i]? = some s) (e2 : σ[i]? = some ov) (h : SlotOk K S H s ov) : SlotOk K S' H' s ov := by
  cases s with
  | un => trivial
  | fz d => obtain ⟨v, e, h⟩ := h; exact ⟨v, e, h.mono g.ke⟩
  | ls k xs =>
    obtain ⟨a, vs, e1, h1, h2, h3⟩ := h
    subst e1
    exact ⟨a, vs, rfl, g.keep a _ h1, fun z => (g.new a z).elim h2 (tr a ⟨i, k, xs, e, e2⟩), h3.mono g.ke⟩
theorem Rel.gn (r : Rel K S ρ σ H) (g : Gn S H S' H') : Rel K S' ρ σ H' :=
  ⟨r.len, fun i s ov e e2 => (r.ok i s ov e e2).gn g (fun a h => by obtain ⟨vs, e⟩ := r.own_lst h; rw [e]; simp) e e2, r.inj, g.dom r.dom⟩
theorem Gn.tup {p : Addr} {vs : List V} (hp : H p = none) : Gn S H (fun a => S a ∨ a = p) (upd H p (.tup vs)) :=
  ⟨fun _ h => .inl h, fun a h => h.imp id fun e => by rw [e]; exact hp, fun a o h => by rw [upd_ne (ne_of_none h hp)]; exact h, fun d a h => by
    by_cases e : a = p
    · rw [e, upd_same]; simp
    · rw [upd_ne e]; exact d a (h.resolve_right e)⟩
theorem Gn.lst {p : Addr} {o : HO} (hp : H p = none) : Gn S H S (upd H p o) :=
  ⟨fun _ h => h, fun a h => .inl h, fun a o h => by rw [upd_ne (ne_of_none h hp)]; exact h, fun d a h => by
    have : a ≠ p := fun e => d a h (by rw [e]; exact hp)
    rw [upd_ne this]; exact d a h⟩
/-- a tuple is made -/
theorem Rp.mkTup {p : Addr} {vs : List V} {ds : List D} (hp : H p = none) (r : Rps K S H vs ds) : Rp K (fun a => S a ∨ a = p) (upd H p (.tup vs)) (.ref p) (.tup ds) :=
  .tup (.inl ⟨.inr rfl, .inl upd_same⟩) (r.mono (Gn.tup hp).ke)

/-- a result of an operation that only makes new things: H the heap ahead -/
def Rn (K : PySem.W.Frag) (S' : Addr → Prop) (H H' : Hp) (v : V) : R → Prop
  | .fz d => Rp K S' H' v d
  | .fr xs => ∃ a vs, v = .ref a ∧ H a = none ∧ H' a = some (.lst vs) ∧ ¬ S' a ∧ Rps K S' H' vs xs
  | .rf _ => False
theorem Rn.mkLst {p : Addr} {vs : List V} {ds : List D} (hp : H p = none) (hd : ∀ a, S a → H a ≠ none) (r : Rps K S H vs ds) : Rn K S H (upd H p (.lst vs)) (.ref p) (.fr ds) :=
  ⟨p, vs, rfl, hp, upd_same, fun h => hd p h hp, r.mono (Gn.lst hp).ke⟩
/-- a result as things stand; H₀: the heap ahead -/
def Rv (K : PySem.W.Frag) (S : Addr → Prop) (H₀ : Hp) (ρ : Ev) (σ : St) (H : Hp) (v : V) : R → Prop
  | .fz d => Rp K S H v d
  | .fr xs => ∃ a vs, v = .ref a ∧ H₀ a = none ∧ H a = some (.lst vs) ∧ ¬ S a ∧ ¬ Own ρ σ a ∧ Rps K S H vs xs
  | .rf i => σ[i]? = some (some v)
variable {H₀ : Hp} {v : V} {r : R}
theorem Rv.go (rel : Rel K S ρ σ H) (g : Go S ρ σ H S' ρ' σ H') (h : Rv K S H₀ ρ σ H v r) : Rv K S' H₀ ρ' σ H' v r := by
  cases r with
  | fz d => exact Rp.mono (g.ke rel) h
  | fr xs =>
    obtain ⟨a, vs, e, h0, h1, h2, h3, h4⟩ := h
    refine ⟨a, vs, e, h0, g.keep a _ h1 h3, fun z => ?_, fun z => ?_, h4.mono (g.ke rel)⟩
    · rcases g.new a z with q | q | q
      · exact h2 q
      · rw [h1] at q; cases q
      · exact h3 q
    · rcases g.own a z with q | q
      · rw [h1] at q; cases q
      · exact h3 q
  | rf i => exact h
theorem Rv.base {H₁ : Hp} (st : ∀ a, H₁ a = none → H₀ a = none) (h : Rv K S H₁ ρ σ H v r) : Rv K S H₀ ρ σ H v r := by
  cases r with
  | fz d => exact h
  | fr xs => obtain ⟨a, vs, e, h0, h⟩ := h; exact ⟨a, vs, e, st a h0, h⟩
  | rf i => exact h
theorem Rv.view {d : D} (rel : Rel K S ρ σ H) (h : Rv K S H₀ ρ σ H v r) (e : view ρ r = some d) : Vd K S H v d := by
  cases r with
  | fz d' => cases e; exact .fz h
  | fr xs => cases e; obtain ⟨a, vs, e, h0, h1, h2, h3, h4⟩ := h; exact .ls e h1 h4
  | rf i =>
    have e : (match ρ[i]? with | some (.ls _ xs) => some (D.lst xs) | _ => none) = some d := e
    split at e
    · rename_i k xs q
      cases e
      obtain ⟨a, vs, e1, e2, _, e3⟩ := rel.atL q
      have h : σ[i]? = some (some v) := h
      rw [h] at e1; cases e1
      exact .ls rfl e2 e3
    · cases e
theorem Rn.rv (rel : Rel K S ρ σ H) (h : Rn K S' H H' v r) : Rv K S' H ρ σ H' v r := by
  cases r with
  | fz d => exact h
  | fr xs =>
    obtain ⟨a, vs, e, h0, h1, h2, h3⟩ := h
    exact ⟨a, vs, e, h0, h1, h2, (fun z => by
      obtain ⟨us, e'⟩ := rel.own_lst z
      rw [e'] at h0
      cases h0), h3⟩
  | rf i => exact h.elim
end
end DL

end

section
set_option autoImplicit false
/-! DLc: expressions: the model's run does what the language's meaning says. -/
namespace DL
open PySem L2

theorem peImp {X : Cx} {e : Expr} {t t' : TE} (h : PE X e t) (i : ∀ σ H Q, t' σ H Q → t σ H Q) : PE X e t' := ⟨fun pins s σ H Q I q => h.run pins s σ H Q I (i _ _ _ q)⟩
theorem ptImp {X : Cx} {e : Expr} {t t' : TT} (h : PT X e t) (i : ∀ σ H Q, t' σ H Q → t σ H Q) : PT X e t' := ⟨fun pins s σ H Q I q => h.run pins s σ H Q I (i _ _ _ q)⟩
theorem pwImp {X : Cx} {e : Expr} {t t' : TT} (h : PW X e t) (i : ∀ σ H Q, t' σ H Q → t σ H Q) : PW X e t' := ⟨fun wh pins s σ H Q I q => h.run wh pins s σ H Q I (i _ _ _ q)⟩
theorem paImp {X : Cx} {e : List Expr} {t t' : TA} (h : PA X e t) (i : ∀ σ H Q, t' σ H Q → t σ H Q) : PA X e t' := ⟨fun p pins s σ H Q I q => h.run p pins s σ H Q I (i _ _ _ q)⟩

/-- the meaning of a run m, as a reading: P says how a value lies -/
def tG {α β : Type} (K : PySem.W.Frag) (P : (Addr → Prop) → Hp → Ev → St → Hp → β → α → Prop) (m : M α) : St → Hp → (β → Hp → Prop) → Prop := fun σ H Q =>
  ∃ S ρ a ρ', Rel K S ρ σ H ∧ m ρ = .ok a ρ' ∧ ∀ S' b H', Go S ρ σ H S' ρ' σ H' → Rel K S' ρ' σ H' → P S' H ρ' σ H' b a → Q b H'
abbrev tD (K : PySem.W.Frag) (m : M R) : TE := tG K (Rv K) m
abbrev tT (K : PySem.W.Frag) (m : M Bool) : TT := tG K (fun _ _ _ _ _ b a => b = a) m
/-- all that is known while a run goes on: from the start (S, ρ, H) to (S1, ρ1, H1) -/
structure At (K : PySem.W.Frag) (S : Addr → Prop) (ρ : Ev) (σ : St) (H : Hp) (S1 : Addr → Prop) (ρ1 : Ev) (H1 : Hp) : Prop where
  go : Go S ρ σ H S1 ρ1 σ H1
  rel : Rel K S1 ρ1 σ H1
section
variable {K : PySem.W.Frag} {S S1 S2 : Addr → Prop} {ρ ρ1 ρ2 : Ev} {σ : St} {H H1 H2 : Hp}
theorem At.start (r : Rel K S ρ σ H) : At K S ρ σ H S ρ H := ⟨.refl, r⟩
theorem At.trans (a : At K S ρ σ H S1 ρ1 H1) (b : At K S1 ρ1 σ H1 S2 ρ2 H2) : At K S ρ σ H S2 ρ2 H2 := ⟨a.go.trans b.go, b.rel⟩
theorem At.gn (a : At K S ρ σ H S1 ρ1 H1) (g : Gn S1 H1 S2 H2) : At K S ρ σ H S2 ρ1 H2 := ⟨a.go.trans g.go, a.rel.gn g⟩
/-- an operation's result, at the end -/
theorem At.fin {Q : VK} {r : R} (hQ : ∀ S' v H', Go S ρ σ H S' ρ1 σ H' → Rel K S' ρ1 σ H' → Rv K S' H ρ1 σ H' v r → Q v H') (a : At K S ρ σ H S1 ρ1 H1) :
    ∀ S' v H', Gn S1 H1 S' H' → Rn K S' H1 H' v r → Q v H' := fun S' v H' g n =>
  hQ S' v H' (a.go.trans g.go) (a.rel.gn g) ((n.rv a.rel).base a.go.stay)
/-- a value that makes nothing -/
theorem At.val {Q : VK} {d : D} {v : V} (hQ : ∀ S' v H', Go S ρ σ H S' ρ1 σ H' → Rel K S' ρ1 σ H' → Rv K S' H ρ1 σ H' v (.fz d) → Q v H') (a : At K S ρ σ H S1 ρ1 H1) (h : Rp K S1 H1 v d) : Q v H1 :=
  hQ S1 v H1 a.go a.rel h
end
theorem vw_eq {r : R} {ρ ρ' : Ev} {d : D} (h : vw r ρ = .ok d ρ') : view ρ r = some d ∧ ρ' = ρ := by
  unfold vw at h
  split at h
  · rename_i e; cases h; exact ⟨e, rfl⟩
  · cases h
theorem ret_eq {α : Type} {a b : α} {ρ ρ' : Ev} (h : ret a ρ = .ok b ρ') : b = a ∧ ρ' = ρ := by cases h; exact ⟨rfl, rfl⟩

theorem shp {d : D} (h : shapedD d = true) : pureD d = true ∧ SeqAt.shaped (toPy d) = true := Bool.and_eq_true _ _ |>.mp h
/-! ### operators, by values -/
section
variable {X : Cx}
abbrev Dom (S : Addr → Prop) (H : Hp) : Prop := ∀ a, S a → H a ≠ none
def rB (K : PySem.W.Frag) (o : Bop) : R2 := fun x y H Q => ∃ S d e r, Dom S H ∧ Vd K S H x d ∧ Vd K S H y e ∧ binD o d e = some r ∧ ∀ S' v H', Gn S H S' H' → Rn K S' H H' v r → Q v H'
def rC (K : PySem.W.Frag) (o : Cop) : R2 := fun x y H Q => ∃ S d e c, Dom S H ∧ Vd K S H x d ∧ Vd K S H y e ∧ cmpD o d e = some c ∧ Q (.bl c) H
theorem rbI {K : PySem.W.Frag} {S : Addr → Prop} {H : Hp} {Q : VK} {i : Int} (q : ∀ S' v H', Gn S H S' H' → Rn K S' H H' v (.fz (.int i)) → Q v H') : Q (.int i) H := q S _ H .refl (.int i)

theorem op_addD : OpR X (binaryOp .Add) (rB X.K .add) := by
  intro pins s σ H x y v u Q I rx ry h
  obtain ⟨S, d, e, r, dom, hx, hy, hb, q⟩ := h
  cases d <;> cases e <;> (try (cases hb; done))
  · rename_i i j
    cases hb
    exact op_add pins s σ H x y v u Q I rx ry ⟨i, j, hx.i, hy.i, rbI q⟩
  · rename_i i j
    have hb : (if i.length + j.length ≤ sizeLine then some (R.fz (.str (i ++ j))) else none) = some r := hb
    split at hb
    · rename_i hz
      cases hb
      exact op_add_str pins s σ H x y v u Q I rx ry ⟨i, j, hx.s, hy.s, hz, q S _ H .refl (.str _)⟩
    · cases hb
  · rename_i xs ys
    have hb : (if xs.length + ys.length ≤ sizeLine then some (R.fz (.tup (xs ++ ys))) else none) = some r := hb
    split at hb
    · rename_i hz
      cases hb
      obtain ⟨a, vs, ea, ha, ra⟩ := hx.t
      obtain ⟨b, us, eb, hb, rb⟩ := hy.t
      refine op_catA pins s σ H x y v u Q I rx ry ⟨a, b, vs, us, ea, eb, ha, hb, by rw [ra.length, rb.length]; exact hz, fun e => ?_, fun _ e => ?_, fun _ _ p hp => ?_⟩
      · subst e
        cases ra
        rw [← eb]
        exact q S _ H .refl (show Rp X.K S H y _ from hy.tf)
      · subst e
        cases rb
        rw [← ea]
        refine q S _ H .refl ?_
        rw [List.append_nil]
        exact (show Rp X.K S H x _ from hx.tf)
      · exact q _ _ _ (.tup hp) (Rp.mkTup hp (ra.append rb))
    · cases hb
  · rename_i xs ys
    have hb : (if xs.length + ys.length ≤ sizeLine then some (R.fr (xs ++ ys)) else none) = some r := hb
    split at hb
    · rename_i hz
      cases hb
      obtain ⟨a, vs, ea, ha, ra⟩ := hx.l
      obtain ⟨b, us, eb, hb, rb⟩ := hy.l
      exact op_cat pins s σ H x y v u Q I rx ry ⟨a, b, vs, us, ea, eb, ha, hb, by rw [ra.length, rb.length]; exact hz, fun p hp => q _ _ _ (.lst hp) (.mkLst hp dom (ra.append rb))⟩
    · cases hb
theorem op_subD : OpR X (binaryOp .Sub) (rB X.K .sub) := by
  intro pins s σ H x y v u Q I rx ry h
  obtain ⟨S, d, e, r, dom, hx, hy, hb, q⟩ := h
  cases d <;> cases e <;> (try (cases hb; done))
  rename_i i j
  cases hb
  exact op_sub pins s σ H x y v u Q I rx ry ⟨i, j, hx.i, hy.i, rbI q⟩
theorem rep_rps {K : PySem.W.Frag} {S : Addr → Prop} {H : Hp} {vs : List V} {ds : List D} (r : Rps K S H vs ds) : ∀ n : Nat, Rps K S H (List.replicate n vs).flatten (repl ds n)
  | 0 => .nil
  | n + 1 => by
    unfold repl
    rw [List.replicate_succ, List.replicate_succ, List.flatten_cons, List.flatten_cons]
    exact r.append (rep_rps r n)
theorem op_mulD : OpR X (binaryOp .Mult) (rB X.K .mul) := by
  intro pins s σ H x y v u Q I rx ry h
  obtain ⟨S, d, e, r, dom, hx, hy, hb, q⟩ := h
  cases d <;> cases e <;> (try (cases hb; done))
  · rename_i i j
    have hb : (if (small64 i || small64 j || (wide i && wide j)) = true then some (R.fz (.int (i * j))) else none) = some r := hb
    split at hb
    · rename_i hz
      cases hb
      rcases Bool.or_eq_true _ _ |>.mp hz with hz | hz
      · refine op_mul pins s σ H x y v u Q I rx ry ⟨i, j, hx.i, hy.i, ?_, rbI q⟩
        rcases Bool.or_eq_true _ _ |>.mp hz with h | h
        · exact .inl (by simpa [small64] using h)
        · exact .inr (by simpa [small64] using h)
      · obtain ⟨h1, h2⟩ := Bool.and_eq_true _ _ |>.mp hz
        have h1 := of_decide_eq_true h1
        have h2 := of_decide_eq_true h2
        exact op_mulW pins s σ H x y v u Q I rx ry ⟨i, j, hx.i, hy.i, wide_mul h1 h2 (by decide) (by decide) (by decide), rbI q⟩
    · cases hb
  · rename_i xs k
    have hb : (if 2 ≤ k ∧ k ≤ 1000 ∧ 1 ≤ xs.length ∧ xs.length ≤ 1000 then some (R.fz (.tup (repl xs k.toNat))) else if (k ≤ 1 ∨ xs.isEmpty = true) ∧ -(2 ^ 63) ≤ k ∧ k < 2 ^ 63 then some (R.fz (.tup (repl xs k.toNat))) else none) = some r := hb
    split at hb
    · rename_i hz
      cases hb
      obtain ⟨a, vs, ea, ha, ra⟩ := hx.t
      have hl := ra.length
      exact op_repT pins s σ H x y v u Q I rx ry ⟨a, k, vs, ea, hy.i, ha, fun z => by rw [z] at hl; simp at hl; omega, hz.1, hz.2.1, by omega, fun p hp => q _ _ _ (.tup hp) (Rp.mkTup hp (rep_rps ra _))⟩
    · split at hb
      · rename_i hz
        cases hb
        obtain ⟨a, vs, ea, ha, ra⟩ := hx.t
        have hl := ra.length
        have one : xs = [] ∨ k = 1 → repl xs k.toNat = xs := fun h => by
          rcases h with rfl | rfl
          · unfold repl
            generalize k.toNat = m
            induction m with
            | zero => rfl
            | succ m ih => rw [List.replicate_succ, List.flatten_cons, ih]; rfl
          · show (List.replicate 1 xs).flatten = xs
            rw [List.replicate_one, List.flatten_cons, List.flatten_nil, List.append_nil]
        by_cases h1 : xs = [] ∨ k = 1
        · rw [one h1] at q
          exact op_rep1 pins s σ H x y v u Q I rx ry ⟨a, k, vs, ea, hy.i, ha, h1.imp (fun z => by rw [z] at hl; exact List.eq_nil_of_length_eq_zero hl) id, hz.2.1, hz.2.2, q _ _ _ .refl (by rw [← ea]; exact hx.tf)⟩
        · have hx0 : xs ≠ [] := fun z => h1 (.inl z)
          have hk : k ≤ 0 := by
            rcases hz.1 with h | h
            · have : k ≠ 1 := fun z => h1 (.inr z)
              omega
            · cases xs with
              | nil => exact absurd rfl hx0
              | cons _ _ => cases h
          have e0 : repl xs k.toNat = [] := by
            rw [show k.toNat = 0 from by omega]; rfl
          rw [e0] at q
          exact op_rep0 pins s σ H x y v u Q I rx ry ⟨a, k, vs, ea, hy.i, ha, fun z => by rw [z] at hl; exact hx0 (List.eq_nil_of_length_eq_zero hl.symm), hk, hz.2.1, fun p hp => q _ _ _ (.tup hp) (Rp.mkTup hp .nil)⟩
      · cases hb
  · rename_i xs k
    have hb : (if -(2 ^ 63) ≤ k ∧ k < 2 ^ 63 ∧ xs.length * k.toNat ≤ sizeLine then some (R.fr (repl xs k.toNat)) else none) = some r := hb
    split at hb
    · rename_i hz
      cases hb
      obtain ⟨a, vs, ea, ha, ra⟩ := hx.l
      exact op_rep pins s σ H x y v u Q I rx ry ⟨a, k, vs, ea, hy.i, ha, hz.1, hz.2.1, by rw [ra.length]; exact hz.2.2, fun p hp => q _ _ _ (.lst hp) (.mkLst hp dom (rep_rps ra _))⟩
    · cases hb
theorem op_fdivD : OpR X (binaryOp .FloorDiv) (rB X.K .fdiv) := by
  intro pins s σ H x y v u Q I rx ry h
  obtain ⟨S, d, e, r, dom, hx, hy, hb, q⟩ := h
  cases d <;> cases e <;> (try (cases hb; done))
  rename_i i j
  have hb : (if j ≠ 0 ∧ j.natAbs < 1073741824 then some (R.fz (.int (i.fdiv j))) else none) = some r := hb
  split at hb
  · rename_i hz
    cases hb
    exact op_fdivN pins s σ H x y v u Q I rx ry ⟨i, j, hx.i, hy.i, hz, rbI q⟩
  · cases hb
theorem op_modD : OpR X (binaryOp .Mod) (rB X.K .mod) := by
  intro pins s σ H x y v u Q I rx ry h
  obtain ⟨S, d, e, r, dom, hx, hy, hb, q⟩ := h
  cases d <;> cases e <;> (try (cases hb; done))
  rename_i i j
  have hb : (if j ≠ 0 then some (R.fz (.int (i.fmod j))) else none) = some r := hb
  split at hb
  · rename_i hz
    cases hb
    exact op_modN pins s σ H x y v u Q I rx ry ⟨i, j, hx.i, hy.i, hz, rbI q⟩
  · cases hb
theorem op_powD : OpR X (binaryOp .Pow) (rB X.K .pow) := by
  intro pins s σ H x y v u Q I rx ry h
  obtain ⟨S, d, e, r, dom, hx, hy, hb, q⟩ := h
  cases d <;> cases e <;> (try (cases hb; done))
  rename_i i j
  have hb : (if 0 ≤ j ∧ j ≤ 1000000 ∧ i.natAbs < 2 ^ 64 then some (R.fz (.int (i ^ j.toNat))) else none) = some r := hb
  split at hb
  · rename_i hz
    cases hb
    exact op_pow pins s σ H x y v u Q I rx ry ⟨i, j, hx.i, hy.i, hz, rbI q⟩
  · cases hb
theorem op_shrD : OpR X (binaryOp .RShift) (rB X.K .shr) := by
  intro pins s σ H x y v u Q I rx ry h
  obtain ⟨S, d, e, r, dom, hx, hy, hb, q⟩ := h
  cases d <;> cases e <;> (try (cases hb; done))
  rename_i i j
  have hb : (if 0 ≤ j ∧ j ≤ 1000 then some (R.fz (.int (i / 2 ^ j.toNat))) else none) = some r := hb
  split at hb
  · rename_i hz
    cases hb
    exact op_shr pins s σ H x y v u Q I rx ry ⟨i, j, hx.i, hy.i, hz.1, rbI q⟩
  · cases hb
theorem op_bandD : OpR X (binaryOp .BitAnd) (rB X.K .band) := by
  intro pins s σ H x y v u Q I rx ry h
  obtain ⟨S, d, e, r, dom, hx, hy, hb, q⟩ := h
  cases d <;> cases e <;> (try (cases hb; done))
  rename_i i j
  cases hb
  exact op_and pins s σ H x y v u Q I rx ry ⟨i, j, hx.i, hy.i, rbI q⟩
theorem op_ltD : OpR X (compareOp .Lt) (rC X.K .lt) := by
  intro pins s σ H x y v u Q I rx ry h
  obtain ⟨S, d, e, c, dom, hx, hy, hb, q⟩ := h
  cases d <;> cases e <;> (try (cases hb; done))
  rename_i i j
  cases hb
  exact op_lt pins s σ H x y v u Q I rx ry ⟨i, j, hx.i, hy.i, q⟩
theorem op_leD : OpR X (compareOp .LtE) (rC X.K .le) := by
  intro pins s σ H x y v u Q I rx ry h
  obtain ⟨S, d, e, c, dom, hx, hy, hb, q⟩ := h
  cases d <;> cases e <;> (try (cases hb; done))
  rename_i i j
  cases hb
  exact op_le pins s σ H x y v u Q I rx ry ⟨i, j, hx.i, hy.i, q⟩
theorem op_gtD : OpR X (compareOp .Gt) (rC X.K .gt) := by
  intro pins s σ H x y v u Q I rx ry h
  obtain ⟨S, d, e, c, dom, hx, hy, hb, q⟩ := h
  cases d <;> cases e <;> (try (cases hb; done))
  rename_i i j
  cases hb
  exact op_gt pins s σ H x y v u Q I rx ry ⟨i, j, hx.i, hy.i, q⟩
theorem op_geD : OpR X (compareOp .GtE) (rC X.K .ge) := by
  intro pins s σ H x y v u Q I rx ry h
  obtain ⟨S, d, e, c, dom, hx, hy, hb, q⟩ := h
  cases d <;> cases e <;> (try (cases hb; done))
  rename_i i j
  cases hb
  exact op_ge pins s σ H x y v u Q I rx ry ⟨i, j, hx.i, hy.i, q⟩
theorem op_eqDD (hu : X.A.units + 64 < cLine) : OpR X (compareOp .Eq) (rC X.K .eq) := by
  intro pins s σ H x y v u Q I rx ry h
  obtain ⟨S, d, e, c, dom, hx, hy, hb, q⟩ := h
  have key : (∃ i j, d = .int i ∧ e = .int j ∧ c = decide (i = j)) ∨ (∃ a b, d = .str a ∧ e = .str b ∧ c = decide (a = b)) ∨ (if (shapedD d && shapedD e) = true then some ((toPy d).eqv (toPy e)) else none) = some c := by
    cases d <;> cases e <;> first | exact .inl ⟨_, _, rfl, rfl, (Option.some.inj hb).symm⟩ | exact .inr (.inl ⟨_, _, rfl, rfl, (Option.some.inj hb).symm⟩) | exact .inr (.inr hb)
  rcases key with ⟨i, j, rfl, rfl, rfl⟩ | ⟨i, j, rfl, rfl, rfl⟩ | hb
  · have ex := hx.i
    have ey := hy.i
    subst ex ey
    refine op_eq pins s σ H _ _ v u Q I rx ry ⟨rfl, ?_⟩
    have e : decide (V.int i = V.int j) = decide (i = j) := decide_eq_decide.mpr ⟨fun z => V.int.inj z, fun z => by rw [z]⟩
    rw [e]
    exact q
  · have ex := hx.s
    have ey := hy.s
    subst ex ey
    refine op_eq pins s σ H _ _ v u Q I rx ry ⟨rfl, ?_⟩
    have e : decide (V.str i = V.str j) = decide (i = j) := decide_eq_decide.mpr ⟨fun z => V.str.inj z, fun z => by rw [z]⟩
    rw [e]
    exact q
  split at hb
  · rename_i hz
    cases hb
    obtain ⟨h1, h2⟩ := Bool.and_eq_true _ _ |>.mp hz
    exact op_eqD hu pins s σ H x y v u Q I rx ry ⟨_, _, hx.dp (shp h1).1, hy.dp (shp h2).1, (shp h1).2, (shp h2).2, q⟩
  · cases hb
theorem op_neDD (hu : X.A.units + 64 < cLine) : OpR X (compareOp .NotEq) (rC X.K .ne) := by
  intro pins s σ H x y v u Q I rx ry h
  obtain ⟨S, d, e, c, dom, hx, hy, hb, q⟩ := h
  have key : (∃ i j, d = .int i ∧ e = .int j ∧ c = !decide (i = j)) ∨ (∃ a b, d = .str a ∧ e = .str b ∧ c = !decide (a = b)) ∨ (if (shapedD d && shapedD e) = true then some (!(toPy d).eqv (toPy e)) else none) = some c := by
    cases d <;> cases e <;> first | exact .inl ⟨_, _, rfl, rfl, (Option.some.inj hb).symm⟩ | exact .inr (.inl ⟨_, _, rfl, rfl, (Option.some.inj hb).symm⟩) | exact .inr (.inr hb)
  rcases key with ⟨i, j, rfl, rfl, rfl⟩ | ⟨i, j, rfl, rfl, rfl⟩ | hb
  · have ex := hx.i
    have ey := hy.i
    subst ex ey
    refine op_ne pins s σ H _ _ v u Q I rx ry ⟨rfl, ?_⟩
    have e : decide (V.int i = V.int j) = decide (i = j) := decide_eq_decide.mpr ⟨fun z => V.int.inj z, fun z => by rw [z]⟩
    rw [e]
    exact q
  · have ex := hx.s
    have ey := hy.s
    subst ex ey
    refine op_ne pins s σ H _ _ v u Q I rx ry ⟨rfl, ?_⟩
    have e : decide (V.str i = V.str j) = decide (i = j) := decide_eq_decide.mpr ⟨fun z => V.str.inj z, fun z => by rw [z]⟩
    rw [e]
    exact q
  split at hb
  · rename_i hz
    cases hb
    obtain ⟨h1, h2⟩ := Bool.and_eq_true _ _ |>.mp hz
    exact op_neD hu pins s σ H x y v u Q I rx ry ⟨_, _, hx.dp (shp h1).1, hy.dp (shp h2).1, (shp h1).2, (shp h2).2, q⟩
  · cases hb
theorem Vd.non_iff {K : PySem.W.Frag} {S : Addr → Prop} {H : Hp} {v : V} {d : D} (h : Vd K S H v d) : decide (v = .non) = isNonD d := by
  cases h with
  | fz h => cases h <;> rfl
  | ls e1 h r => rw [e1]; rfl
theorem op_isND : OpR X (compareOp .Is) (rC X.K .isN) := by
  intro pins s σ H x y v u Q I rx ry h
  obtain ⟨S, d, e, c, dom, hx, hy, hb, q⟩ := h
  cases e <;> (try (cases d <;> cases hb; done))
  case bl b =>
    cases d <;> (try (cases hb; done))
    rename_i a
    cases hb
    exact op_is_bl pins s σ H x y v u Q I rx ry ⟨a, b, hx.b, hy.b, q⟩
  have hb : some (isNonD d) = some c := by cases d <;> exact hb
  refine op_isN pins s σ H x y v u Q I rx ry ⟨hy.n, ?_⟩
  rw [hx.non_iff]
  cases hb
  exact q
theorem op_notND : OpR X (compareOp .IsNot) (rC X.K .notN) := by
  intro pins s σ H x y v u Q I rx ry h
  obtain ⟨S, d, e, c, dom, hx, hy, hb, q⟩ := h
  cases e <;> (try (cases d <;> cases hb; done))
  case bl b =>
    cases d <;> (try (cases hb; done))
    rename_i a
    cases hb
    exact op_isnot_bl pins s σ H x y v u Q I rx ry ⟨a, b, hx.b, hy.b, q⟩
  have hb : some (!isNonD d) = some c := by cases d <;> exact hb
  refine op_notN pins s σ H x y v u Q I rx ry ⟨hy.n, ?_⟩
  rw [hx.non_iff]
  cases hb
  exact q
theorem flat_v {K : PySem.W.Frag} {S : Addr → Prop} {H : Hp} {v : V} {d : D} (h : Rp K S H v d) (f : flat d = true) : flatV v = true := by
  cases h <;> first | rfl | cases f
theorem flat_vd {K : PySem.W.Frag} {S : Addr → Prop} {H : Hp} {v : V} {d : D} (h : Vd K S H v d) (f : flat d = true) : flatV v = true := by
  cases h with
  | fz h => exact flat_v h f
  | ls e h r => cases f
theorem flat_rp {K : PySem.W.Frag} {S : Addr → Prop} {H : Hp} {v : V} {d : D} (h : Vd K S H v d) (f : flat d = true) : Rp K S H v d := by
  cases h with
  | fz h => exact h
  | ls e h r => cases f
theorem flat_vs {K : PySem.W.Frag} {S : Addr → Prop} {H : Hp} : ∀ {vs : List V} {ds : List D}, Rps K S H vs ds → ds.all flat = true → vs.all flatV = true
  | _, _, .nil, _ => rfl
  | _, _, .cons h r, f => by
    obtain ⟨f1, f2⟩ := Bool.and_eq_true _ _ |>.mp (show (_ && _) = true from f)
    show (_ && _) = true
    rw [flat_v h f1, Bool.true_and]
    exact flat_vs r f2
theorem eqv_flat {K : PySem.W.Frag} {S S' : Addr → Prop} {H H' : Hp} {v u : V} {d e : D} (h : Rp K S H v d) (h2 : Rp K S' H' u e) (f : flat d = true) (f2 : flat e = true) : eqV u v = (toPy e).eqv (toPy d) := by
  cases h <;> cases h2 <;> first | (cases f; done) | (cases f2; done) | rfl
theorem inV_inD {K : PySem.W.Frag} {S S' : Addr → Prop} {H H' : Hp} {v : V} {d : D} (h : Rp K S' H' v d) (f : flat d = true) : ∀ {vs : List V} {ds : List D}, Rps K S H vs ds → ds.all flat = true → inV v vs = inD d ds
  | _, _, .nil, _ => rfl
  | _, _, .cons h2 r, f2 => by
    obtain ⟨f3, f4⟩ := Bool.and_eq_true _ _ |>.mp (show (_ && _) = true from f2)
    have e1 := eqv_flat h h2 f f3
    have e2 := inV_inD h f r f4
    unfold inV at e2 ⊢
    unfold inD at e2 ⊢
    rw [List.any_cons, List.any_cons, e1, e2]
theorem toPys_map : ∀ ds : List D, toPy.toPys ds = ds.map toPy
  | [] => rfl
  | d :: r => by show _ :: toPy.toPys r = _; rw [toPys_map r]; rfl
theorem inD_any (d : D) (ds : List D) : (toPy.toPys ds).any (fun z => PyData.eqv z (toPy d)) = inD d ds := by
  rw [toPys_map, List.any_map]
  rfl
theorem op_inDD (hu : X.A.units + 65 < cLine) : OpR X (compareOp .In) (rC X.K .inn) := by
  intro pins s σ H x y v u Q I rx ry h
  obtain ⟨S, d, e, c, dom, hx, hy, hb, q⟩ := h
  cases e with
  | lst ys =>
    have hb : (if ((flat d && ys.all flat) || (shapedD d && shapedD (.lst ys))) = true then some (inD d ys) else none) = some c := hb
    split at hb
    · rename_i hz
      cases hb
      rcases Bool.or_eq_true _ _ |>.mp hz with hz | hz
      · obtain ⟨f1, f2⟩ := Bool.and_eq_true _ _ |>.mp hz
        obtain ⟨a, vs, ea, ha, ra⟩ := hy.l
        refine op_in_seq pins s σ H x y v u Q I rx ry ⟨a, vs, ea, .inl (.inl (.inl ha)), flat_vd hx f1, flat_vs ra f2, ?_⟩
        rw [inV_inD (flat_rp hx f1) f1 ra f2]
        exact q
      · obtain ⟨f1, f2⟩ := Bool.and_eq_true _ _ |>.mp hz
        refine op_inD hu pins s σ H x y v u Q I rx ry ⟨_, _, hx.dp (shp f1).1, hy.dp (shp f2).1, (shp f1).2, (shp f2).2, ?_⟩
        rw [inD_any]
        exact q
    · cases hb
  | tup ys =>
    have hb : (if (flat d && ys.all flat) = true then some (inD d ys) else none) = some c := hb
    split at hb
    · rename_i hz
      cases hb
      obtain ⟨f1, f2⟩ := Bool.and_eq_true _ _ |>.mp hz
      obtain ⟨a, vs, ea, ha, ra⟩ := hy.t
      refine op_in_seq pins s σ H x y v u Q I rx ry ⟨a, vs, ea, .inr ha, flat_vd hx f1, flat_vs ra f2, ?_⟩
      rw [inV_inD (flat_rp hx f1) f1 ra f2]
      exact q
    · cases hb
  | non => cases hb
  | bl _ => cases hb
  | int _ => cases hb
  | str _ => cases hb
  | scr _ => cases hb
  | obj _ _ => cases hb
theorem op_ninDD (hu : X.A.units + 65 < cLine) : OpR X (compareOp .NotIn) (rC X.K .nin) := by
  intro pins s σ H x y v u Q I rx ry h
  obtain ⟨S, d, e, c, dom, hx, hy, hb, q⟩ := h
  cases e with
  | lst ys =>
    have hb : (if ((flat d && ys.all flat) || (shapedD d && shapedD (.lst ys))) = true then some (!inD d ys) else none) = some c := hb
    split at hb
    · rename_i hz
      cases hb
      rcases Bool.or_eq_true _ _ |>.mp hz with hz | hz
      · obtain ⟨f1, f2⟩ := Bool.and_eq_true _ _ |>.mp hz
        obtain ⟨a, vs, ea, ha, ra⟩ := hy.l
        refine op_notIn_seq pins s σ H x y v u Q I rx ry ⟨a, vs, ea, .inl (.inl (.inl ha)), flat_vd hx f1, flat_vs ra f2, ?_⟩
        rw [inV_inD (flat_rp hx f1) f1 ra f2]
        exact q
      · obtain ⟨f1, f2⟩ := Bool.and_eq_true _ _ |>.mp hz
        refine op_notInD hu pins s σ H x y v u Q I rx ry ⟨_, _, hx.dp (shp f1).1, hy.dp (shp f2).1, (shp f1).2, (shp f2).2, ?_⟩
        rw [inD_any]
        exact q
    · cases hb
  | tup ys =>
    have hb : (if (flat d && ys.all flat) = true then some (!inD d ys) else none) = some c := hb
    split at hb
    · rename_i hz
      cases hb
      obtain ⟨f1, f2⟩ := Bool.and_eq_true _ _ |>.mp hz
      obtain ⟨a, vs, ea, ha, ra⟩ := hy.t
      refine op_notIn_seq pins s σ H x y v u Q I rx ry ⟨a, vs, ea, .inr ha, flat_vd hx f1, flat_vs ra f2, ?_⟩
      rw [inV_inD (flat_rp hx f1) f1 ra f2]
      exact q
    · cases hb
  | non => cases hb
  | bl _ => cases hb
  | int _ => cases hb
  | str _ => cases hb
  | scr _ => cases hb
  | obj _ _ => cases hb
theorem tru_d {K : PySem.W.Frag} {S : Addr → Prop} {H : Hp} {v : V} {d : D} {k : Bool} (h : Vd K S H v d) (e : truthD d = some k) : TruV K v H k := by
  cases d with
  | non => cases e; rw [h.n]; rfl
  | bl b => cases e; rw [h.b]; rfl
  | int i => cases e; rw [h.i]; rfl
  | str z =>
    have e : (if z.length ≤ sizeLine then some (z.length != 0) else none) = some k := e
    split at e
    · rename_i hz; cases e; rw [h.s]; exact ⟨hz, by rw [Bool.eq_iff_iff]; simp⟩
    · cases e
  | tup xs =>
    cases e
    obtain ⟨a, vs, ea, ha, ra⟩ := h.t
    rw [ea]
    refine .inr (.inl ⟨vs, ha, ?_⟩)
    cases ra <;> rfl
  | lst xs =>
    cases e
    obtain ⟨a, vs, ea, ha, ra⟩ := h.l
    rw [ea]
    refine .inl ⟨vs, .inl (.inl ha), ?_⟩
    cases ra <;> rfl
  | obj _ _ => cases e
  | scr xs =>
    cases e
    obtain ⟨a, vs, ea, ha, ra⟩ := h.c
    rw [ea]
    refine .inl ⟨vs, ha, ?_⟩
    cases ra <;> rfl
end

/-! ### expressions -/
section
variable {X : Cx} {Φ : Calls} {a b c : Expr} {pos : Pos} {ia ib ic : E}
theorem de_var {i : Nat} {e : Expr} (h : PE X e (tVar i)) : PE X e (tD X.K (ev Φ (.var i))) := peImp h fun σ H Q q => by
  obtain ⟨S, ρ, r, ρ', rel, e, q⟩ := q
  simp only [ev] at e
  split at e
  · rename_i d e1
    cases e
    obtain ⟨v, e2, h⟩ := rel.atF e1
    exact ⟨v, e2, q S v H .refl rel h⟩
  · rename_i k xs e1
    cases e
    obtain ⟨a, vs, e2, _⟩ := rel.atL e1
    exact ⟨_, e2, q S _ H .refl rel e2⟩
  · cases e
theorem de_cst {v : V} {d : D} {e : Expr} (h : PE X e (tC v)) (r : ∀ S H, Rp X.K S H v d) : PE X e (tD X.K (ev Φ (.cst d))) := peImp h fun σ H Q q => by
  obtain ⟨S, ρ, x, ρ', rel, e, q⟩ := q
  obtain ⟨rfl, rfl⟩ := ret_eq (by simpa only [ev] using e)
  exact q S v H .refl rel (r S H)
theorem de_int {i : Int} {j} : PE X (.Constant (.int i) j pos) (tD X.K (ev Φ (.cst (.int i)))) := de_cst pe_int fun _ _ => .int i
theorem de_bl {i : Bool} {j} : PE X (.Constant (.bool i) j pos) (tD X.K (ev Φ (.cst (.bl i)))) := de_cst pe_bl fun _ _ => .bl i
theorem de_non {j} : PE X (.Constant .none j pos) (tD X.K (ev Φ (.cst .non))) := de_cst pe_non fun _ _ => .non
theorem de_str {i : Str} {j} : PE X (.Constant (.str i) j pos) (tD X.K (ev Φ (.cst (.str i)))) := de_cst pe_str fun _ _ => .str i
theorem de_glob {x : Str} {i : Int} {t : Tok} (hg : Gl X x) (hm : X.mg x = some (.int i t)) (hd : (x == ("__debug__" : Str)) = false := by decide) : PE X (.Name x pos) (tD X.K (ev Φ (.cst (.int i)))) := de_cst (pe_glob (v := .int i) hg hm ⟨t, rfl⟩ hd) fun _ _ => .int i

theorem ev1_split {f : R → M R} {m : M R} {ρ ρ' : Ev} {r : R} (h : bnd m f ρ = .ok r ρ') : ∃ x ρ1, m ρ = .ok x ρ1 ∧ f x ρ1 = .ok r ρ' := bnd_eq h
theorem vw2_split {α : Type} {x y : R} {g : D → D → M α} {ρ ρ' : Ev} {r : α} (h : bnd (vw x) (fun d => bnd (vw y) fun e => g d e) ρ = .ok r ρ') : ∃ d e, view ρ x = some d ∧ view ρ y = some e ∧ g d e ρ = .ok r ρ' := by
  obtain ⟨d, ρ1, e1, h1⟩ := bnd_eq h
  obtain ⟨v1, q1⟩ := vw_eq e1
  rw [q1] at h1
  obtain ⟨e, ρ2, e2, h2⟩ := bnd_eq h1
  obtain ⟨v2, q2⟩ := vw_eq e2
  rw [q2] at h2
  exact ⟨d, e, v1, v2, h2⟩
theorem vw1_split {α : Type} {x : R} {g : D → M α} {ρ ρ' : Ev} {r : α} (h : bnd (vw x) g ρ = .ok r ρ') : ∃ d, view ρ x = some d ∧ g d ρ = .ok r ρ' := by
  obtain ⟨d, ρ1, e1, h1⟩ := bnd_eq h
  obtain ⟨v1, q1⟩ := vw_eq e1
  rw [q1] at h1
  exact ⟨d, v1, h1⟩
theorem ofO_split {α β : Type} {o : Option β} {g : β → M α} {ρ ρ' : Ev} {r : α} (h : bnd (ofO o) g ρ = .ok r ρ') : ∃ b, o = some b ∧ g b ρ = .ok r ρ' := by
  obtain ⟨d, ρ1, e1, h1⟩ := bnd_eq h
  obtain ⟨v1, q1⟩ := ofO_eq e1
  rw [q1] at h1
  exact ⟨d, v1, h1⟩
theorem bin_split {o : Bop} {ρ ρ' : Ev} {r : R} (h : ev Φ (.bin o ia ib) ρ = .ok r ρ') : ∃ x ρ1 y d f, ev Φ ia ρ = .ok x ρ1 ∧ ev Φ ib ρ1 = .ok y ρ' ∧ view ρ' x = some d ∧ view ρ' y = some f ∧ binD o d f = some r := by
  simp only [ev] at h
  obtain ⟨x, ρ1, e1, h1⟩ := bnd_eq h
  obtain ⟨y, ρ2, e2, h2⟩ := bnd_eq h1
  obtain ⟨d, f, v1, v2, h3⟩ := vw2_split h2
  obtain ⟨e5, q⟩ := ofO_eq h3
  rw [q]
  exact ⟨x, ρ1, y, d, f, e1, e2, v1, v2, e5⟩
theorem cmp_split {o : Cop} {ρ ρ' : Ev} {r : R} (h : ev Φ (.cmp o ia ib) ρ = .ok r ρ') : ∃ x ρ1 y d f k, ev Φ ia ρ = .ok x ρ1 ∧ ev Φ ib ρ1 = .ok y ρ' ∧ view ρ' x = some d ∧ view ρ' y = some f ∧ cmpD o d f = some k ∧ r = .fz (.bl k) := by
  simp only [ev] at h
  obtain ⟨x, ρ1, e1, h1⟩ := bnd_eq h
  obtain ⟨y, ρ2, e2, h2⟩ := bnd_eq h1
  obtain ⟨d, f, v1, v2, h3⟩ := vw2_split h2
  obtain ⟨k, e5, h4⟩ := ofO_split h3
  obtain ⟨q1, q⟩ := ret_eq h4
  rw [q]
  exact ⟨x, ρ1, y, d, f, k, e1, e2, v1, v2, e5, q1⟩
/-- the truth of a value -/
theorem tru_split {m : M R} {g : R → Bool → M R} {ρ ρ' : Ev} {r : R} (h : bnd m (fun x => bnd (vw x) fun d => bnd (ofO (truthD d)) fun k => g x k) ρ = .ok r ρ') : ∃ x ρ1 d k, m ρ = .ok x ρ1 ∧ view ρ1 x = some d ∧ truthD d = some k ∧ g x k ρ1 = .ok r ρ' := by
  obtain ⟨x, ρ1, e1, h1⟩ := bnd_eq h
  obtain ⟨d, v1, h2⟩ := vw1_split h1
  obtain ⟨k, e5, h4⟩ := ofO_split h2
  exact ⟨x, ρ1, d, k, e1, v1, e5, h4⟩
/-- two in a row -/
theorem seq2 {K : PySem.W.Frag} {ma mb : M R} {G : V → V → Hp → Prop} {S : Addr → Prop} {ρ ρ1 ρ2 : Ev} {σ : St} {H : Hp} {x y : R} (rel : Rel K S ρ σ H) (ea : ma ρ = .ok x ρ1) (eb : mb ρ1 = .ok y ρ2)
    (h : ∀ S2 H2 v u, At K S ρ σ H S2 ρ2 H2 → Rv K S2 H ρ2 σ H2 v x → Rv K S2 H ρ2 σ H2 u y → G v u H2) :
    tD K ma σ H fun v H1 => tD K mb σ H1 fun u H2 => G v u H2 :=
  ⟨S, ρ, x, ρ1, rel, ea, fun S1 v H1 g1 rel1 r1 => ⟨S1, ρ1, y, ρ2, rel1, eb, fun S2 u H2 g2 rel2 r2 => h S2 H2 v u ⟨g1.trans g2, rel2⟩ (r1.go rel1 g2) (r2.base g1.stay)⟩⟩

theorem de_bin {op : Operator} {o : Bop} (ho : OpR X (binaryOp op) (rB X.K o)) (ha : PE X a (tD X.K (ev Φ ia))) (hb : PE X b (tD X.K (ev Φ ib))) : PE X (.BinOp a op b pos) (tD X.K (ev Φ (.bin o ia ib))) :=
  peImp (pe_op ho ha hb) fun σ H Q q => by
    obtain ⟨S, ρ, r, ρ', rel, e, q⟩ := q
    obtain ⟨x, ρ1, y, d, f, e1, e2, v1, v2, e5⟩ := bin_split e
    exact seq2 rel e1 e2 fun S2 H2 v u at2 r1 r2 => ⟨S2, d, f, r, at2.rel.dom, r1.view at2.rel v1, r2.view at2.rel v2, e5, at2.fin q⟩
theorem de_neg (ha : PE X a (tD X.K (ev Φ ia))) : PE X (.UnaryOp .USub a pos) (tD X.K (ev Φ (.neg ia))) :=
  peImp (pe_un un_neg ha) fun σ H Q q => by
    obtain ⟨S, ρ, r, ρ', rel, e, q⟩ := q
    simp only [ev] at e
    obtain ⟨x, ρ1, e1, h1⟩ := bnd_eq e
    obtain ⟨d, v1, h2⟩ := vw1_split h1
    cases d <;> (try (cases h2; done))
    rename_i i
    obtain ⟨q1, q2⟩ := ret_eq h2
    subst q1 q2
    exact ⟨S, ρ, x, _, rel, e1, fun S1 v H1 g1 rel1 r1 => ⟨i, (r1.view rel1 v1).i, q S1 _ H1 g1 rel1 (.int _)⟩⟩
theorem de_cmp {op : CmpOp} {o : Cop} (ho : OpR X (compareOp op) (rC X.K o)) (ha : PE X a (tD X.K (ev Φ ia))) (hb : PE X b (tD X.K (ev Φ ib))) (hm : behindInMarks op b = false) : PE X (.Compare a [op] [b] pos) (tD X.K (ev Φ (.cmp o ia ib))) :=
  peImp (pe_cmpR ho ha hb hm) fun σ H Q q => by
    obtain ⟨S, ρ, r, ρ', rel, e, q⟩ := q
    obtain ⟨x, ρ1, y, d, f, k, e1, e2, v1, v2, e5, er⟩ := cmp_split e
    subst er
    exact seq2 rel e1 e2 fun S2 H2 v u at2 r1 r2 => ⟨S2, d, f, k, at2.rel.dom, r1.view at2.rel v1, r2.view at2.rel v2, e5, q S2 _ H2 at2.go at2.rel (.bl _)⟩

/-- a test's meaning -/
def evt (Φ : Calls) (e : E) : M Bool := bnd (ev Φ e) fun x => bnd (vw x) fun d => ofO (truthD d)
theorem evt_split {e : E} {ρ ρ' : Ev} {k : Bool} (h : evt Φ e ρ = .ok k ρ') : ∃ x d, ev Φ e ρ = .ok x ρ' ∧ view ρ' x = some d ∧ truthD d = some k := by
  obtain ⟨x, ρ1, e1, h1⟩ := bnd_eq h
  obtain ⟨d, v1, h2⟩ := vw1_split h1
  obtain ⟨e5, q⟩ := ofO_eq h2
  rw [q]
  exact ⟨x, d, e1, v1, e5⟩
theorem evt_mk {e : E} {ρ ρ' : Ev} {x : R} {d : D} {k : Bool} (e1 : ev Φ e ρ = .ok x ρ') (e2 : view ρ' x = some d) (e3 : truthD d = some k) : evt Φ e ρ = .ok k ρ' := by
  show (ev Φ e ρ).then _ = _
  rw [e1]
  show (vw x ρ').then _ = _
  unfold vw
  rw [e2]
  show ofO (truthD d) ρ' = _
  rw [e3]
  rfl
theorem dt_val (ha : PE X a (tD X.K (ev Φ ia))) (hp : ∀ (whole : Sem Value), PySem.isTrue a X.env whole = (do let v ← whole; standAt a.pos; holding [v] (truthy v))) : PT X a (tT X.K (evt Φ ia)) :=
  ptImp (pt_truth ha hp) fun σ H Q q => by
    obtain ⟨S, ρ, r, ρ', rel, e, q⟩ := q
    obtain ⟨x, d, e1, v1, e5⟩ := evt_split e
    exact ⟨S, ρ, x, _, rel, e1, fun S1 v H1 g1 rel1 r1 => ⟨r, tru_d (r1.view rel1 v1) e5, q S1 _ H1 g1 rel1 rfl⟩⟩
theorem dt_cmp {op : CmpOp} {o : Cop} (ho : OpR X (compareOp op) (rC X.K o)) (ha : PE X a (tD X.K (ev Φ ia))) (hb : PE X b (tD X.K (ev Φ ib))) (hm : behindInMarks op b = false) : PT X (.Compare a [op] [b] pos) (tT X.K (evt Φ (.cmp o ia ib))) :=
  ptImp (pt_cmpR ho ha hb hm) fun σ H Q q => by
    obtain ⟨S, ρ, r, ρ', rel, e, q⟩ := q
    obtain ⟨z, d0, e0, v0, t0⟩ := evt_split e
    obtain ⟨x, ρ1, y, d, f, k, e1, e2, v1, v2, e5, er⟩ := cmp_split e0
    subst er
    cases v0
    cases t0
    exact seq2 rel e1 e2 fun S2 H2 v u at2 r1 r2 => ⟨S2, d, f, r, at2.rel.dom, r1.view at2.rel v1, r2.view at2.rel v2, e5, r, rfl, q S2 _ H2 at2.go at2.rel rfl⟩
theorem dt_not (ha : PT X a (tT X.K (evt Φ ia))) : PT X (.UnaryOp .Not a pos) (tT X.K (evt Φ (.not ia))) :=
  ptImp (pt_not ha) fun σ H Q q => by
    obtain ⟨S, ρ, r, ρ', rel, e, q⟩ := q
    obtain ⟨z, d0, e0, v0, t0⟩ := evt_split e
    simp only [ev] at e0
    obtain ⟨x, ρ1, d, k, e1, v1, e5, h1⟩ := tru_split e0
    obtain ⟨q1, q2⟩ := ret_eq h1
    subst q1 q2
    cases v0
    cases t0
    exact ⟨S, ρ, k, _, rel, evt_mk e1 v1 e5, fun S1 b H1 g1 rel1 r1 => by subst r1; exact q S1 _ H1 g1 rel1 rfl⟩
theorem dw_one {op : BoolOp} (ha : PT X a (tT X.K (evt Φ ia))) (h : op = .And ∨ op = .Or) : PW X (.BoolOp op [a] pos) (tT X.K (evt Φ ia)) := by
  rcases h with rfl | rfl
  · exact pw_and1 ha
  · exact pw_or1 ha
theorem dw_and {rest : List Expr} (ha : PT X a (tT X.K (evt Φ ia))) (hb : PW X (.BoolOp .And (b :: rest) pos) (tT X.K (evt Φ ib))) : PW X (.BoolOp .And (a :: b :: rest) pos) (tT X.K (evt Φ (.and ia ib))) :=
  pwImp (pw_and ha hb) fun σ H Q q => by
    obtain ⟨S, ρ, r, ρ', rel, e, q⟩ := q
    obtain ⟨z, d0, e0, v0, t0⟩ := evt_split e
    simp only [ev] at e0
    obtain ⟨x, ρ1, d, k, e1, v1, e5, h1⟩ := tru_split e0
    refine ⟨S, ρ, k, _, rel, evt_mk e1 v1 e5, fun S1 b H1 g1 rel1 r1 => ?_⟩
    subst r1
    cases b with
    | true =>
      exact iteT ⟨S1, _, r, ρ', rel1, evt_mk h1 v0 t0, fun S2 b2 H2 g2 rel2 r2 => q S2 b2 H2 (g1.trans g2) rel2 r2⟩
    | false =>
      obtain ⟨q1, q2⟩ := ret_eq h1
      subst q1 q2
      rw [v1] at v0
      cases v0
      rw [e5] at t0
      cases t0
      exact iteF (q S1 _ H1 g1 rel1 rfl)
theorem dw_or {rest : List Expr} (ha : PT X a (tT X.K (evt Φ ia))) (hb : PW X (.BoolOp .Or (b :: rest) pos) (tT X.K (evt Φ ib))) : PW X (.BoolOp .Or (a :: b :: rest) pos) (tT X.K (evt Φ (.or ia ib))) :=
  pwImp (pw_or ha hb) fun σ H Q q => by
    obtain ⟨S, ρ, r, ρ', rel, e, q⟩ := q
    obtain ⟨z, d0, e0, v0, t0⟩ := evt_split e
    simp only [ev] at e0
    obtain ⟨x, ρ1, d, k, e1, v1, e5, h1⟩ := tru_split e0
    refine ⟨S, ρ, k, _, rel, evt_mk e1 v1 e5, fun S1 b H1 g1 rel1 r1 => ?_⟩
    subst r1
    cases b with
    | false =>
      exact iteF ⟨S1, _, r, ρ', rel1, evt_mk h1 v0 t0, fun S2 b2 H2 g2 rel2 r2 => q S2 b2 H2 (g1.trans g2) rel2 r2⟩
    | true =>
      obtain ⟨q1, q2⟩ := ret_eq h1
      subst q1 q2
      rw [v1] at v0
      cases v0
      rw [e5] at t0
      cases t0
      exact iteT (q S1 _ H1 g1 rel1 rfl)
theorem de_one {op : BoolOp} (ha : PE X a (tD X.K (ev Φ ia))) : PE X (.BoolOp op [a] pos) (tD X.K (ev Φ ia)) := pe_one ha
theorem de_and {rest : List Expr} (ha : PE X a (tD X.K (ev Φ ia))) (hb : PE X (.BoolOp .And (b :: rest) pos) (tD X.K (ev Φ ib))) : PE X (.BoolOp .And (a :: b :: rest) pos) (tD X.K (ev Φ (.and ia ib))) :=
  peImp (pe_andT ha hb) fun σ H Q q => by
    obtain ⟨S, ρ, r, ρ', rel, e, q⟩ := q
    simp only [ev] at e
    obtain ⟨x, ρ1, d, k, e1, v1, e5, h1⟩ := tru_split e
    refine ⟨S, ρ, x, _, rel, e1, fun S1 v H1 g1 rel1 r1 => ⟨k, tru_d (r1.view rel1 v1) e5, ?_⟩⟩
    cases k with
    | true => exact iteT ⟨S1, _, r, ρ', rel1, h1, fun S2 b2 H2 g2 rel2 r2 => q S2 b2 H2 (g1.trans g2) rel2 (r2.base g1.stay)⟩
    | false =>
      obtain ⟨q1, q2⟩ := ret_eq h1
      subst q1 q2
      exact iteF (q S1 _ H1 g1 rel1 r1)
theorem de_or {rest : List Expr} (ha : PE X a (tD X.K (ev Φ ia))) (hb : PE X (.BoolOp .Or (b :: rest) pos) (tD X.K (ev Φ ib))) : PE X (.BoolOp .Or (a :: b :: rest) pos) (tD X.K (ev Φ (.or ia ib))) :=
  peImp (pe_orT ha hb) fun σ H Q q => by
    obtain ⟨S, ρ, r, ρ', rel, e, q⟩ := q
    simp only [ev] at e
    obtain ⟨x, ρ1, d, k, e1, v1, e5, h1⟩ := tru_split e
    refine ⟨S, ρ, x, _, rel, e1, fun S1 v H1 g1 rel1 r1 => ⟨k, tru_d (r1.view rel1 v1) e5, ?_⟩⟩
    cases k with
    | false => exact iteF ⟨S1, _, r, ρ', rel1, h1, fun S2 b2 H2 g2 rel2 r2 => q S2 b2 H2 (g1.trans g2) rel2 (r2.base g1.stay)⟩
    | true =>
      obtain ⟨q1, q2⟩ := ret_eq h1
      subst q1 q2
      exact iteT (q S1 _ H1 g1 rel1 r1)
theorem de_not (ha : PE X a (tD X.K (ev Φ ia))) : PE X (.UnaryOp .Not a pos) (tD X.K (ev Φ (.not ia))) :=
  peImp (pe_notT ha) fun σ H Q q => by
    obtain ⟨S, ρ, r, ρ', rel, e, q⟩ := q
    simp only [ev] at e
    obtain ⟨x, ρ1, d, k, e1, v1, e5, h1⟩ := tru_split e
    obtain ⟨q1, q2⟩ := ret_eq h1
    subst q1 q2
    exact ⟨S, ρ, x, _, rel, e1, fun S1 v H1 g1 rel1 r1 => ⟨k, tru_d (r1.view rel1 v1) e5, q S1 _ H1 g1 rel1 (.bl _)⟩⟩
theorem de_ite (hc : PT X c (tT X.K (evt Φ ic))) (ha : PE X a (tD X.K (ev Φ ia))) (hb : PE X b (tD X.K (ev Φ ib))) : PE X (.IfExp c a b pos) (tD X.K (ev Φ (.ite ic ia ib))) :=
  peImp (pe_ifExp hc ha hb) fun σ H Q q => by
    obtain ⟨S, ρ, r, ρ', rel, e, q⟩ := q
    simp only [ev] at e
    obtain ⟨x, ρ1, d, k, e1, v1, e5, h1⟩ := tru_split e
    refine ⟨S, ρ, k, _, rel, evt_mk e1 v1 e5, fun S1 v H1 g1 rel1 r1 => ?_⟩
    subst r1
    cases v with
    | true => exact iteT ⟨S1, _, r, ρ', rel1, h1, fun S2 b2 H2 g2 rel2 r2 => q S2 b2 H2 (g1.trans g2) rel2 (r2.base g1.stay)⟩
    | false => exact iteF ⟨S1, _, r, ρ', rel1, h1, fun S2 b2 H2 g2 rel2 r2 => q S2 b2 H2 (g1.trans g2) rel2 (r2.base g1.stay)⟩
end
end DL

end

section
set_option autoImplicit false
/-! DLd: chains, displays, indices, slices, built-in calls. -/
namespace DL
open PySem L2
section
variable {K : PySem.W.Frag} {S S1 S2 : Addr → Prop} {ρ ρ1 ρ2 : Ev} {σ : St} {H H1 H2 : Hp}
/-- a result is shared: its list, if it is one, is frozen -/
theorem At.share {v : V} {x : R} {d : D} (a : At K S ρ σ H S1 ρ1 H1) (r : Rv K S1 H ρ1 σ H1 v x) (e : DL.share x ρ1 = .ok d ρ2) : ∃ S2, At K S ρ σ H S2 ρ2 H1 ∧ Rp K S2 H1 v d ∧ Ke S1 H1 S2 H1 := by
  cases x with
  | fz d' =>
    obtain ⟨q1, q2⟩ := ret_eq e
    subst q1 q2
    exact ⟨S1, a, r, fun _ h => h, fun _ _ _ h => h⟩
  | fr xs =>
    obtain ⟨q1, q2⟩ := ret_eq e
    subst q1 q2
    obtain ⟨p, vs, ev, h0, h1, h2, h3, h4⟩ := r
    have ke : Ke S1 H1 (fun z => S1 z ∨ z = p) H1 := ⟨fun _ h => .inl h, fun _ _ _ h => h⟩
    refine ⟨fun z => S1 z ∨ z = p, ⟨⟨fun z h => .inl (a.go.sub z h), fun z h => ?_, a.go.own, a.go.keep, a.go.stay, a.go.fix⟩, ⟨a.rel.len, fun i s ov e1 e2 => ?_, a.rel.inj, fun z h => ?_⟩⟩, ?_, ke⟩
    · rcases h with h | h
      · exact a.go.new z h
      · rw [h]; exact .inr (.inl h0)
    · have q := a.rel.ok i s ov e1 e2
      cases s with
      | un => trivial
      | fz d => obtain ⟨w, ew, hw⟩ := q; exact ⟨w, ew, hw.mono ke⟩
      | ls k ys =>
        obtain ⟨b, us, eb, hb, nb, rb⟩ := q
        subst eb
        exact ⟨b, us, rfl, hb, fun z => z.elim nb fun z => h3 (z ▸ ⟨i, k, ys, e1, e2⟩), rb.mono ke⟩
    · rcases h with h | h
      · exact a.rel.dom z h
      · rw [h, h1]; simp
    · rw [ev]
      exact .lst ⟨.inr rfl, h1⟩ (h4.mono ke)
  | rf i =>
    have e : (match ρ1[i]? with | some (.ls .own xs) => Out.ok (D.lst xs) (ρ1.set i (.fz (.lst xs))) | _ => .stk) = .ok d ρ2 := e
    split at e
    · rename_i xs q
      cases e
      obtain ⟨p, vs, ep, h1, h2, h4⟩ := a.rel.atL q
      have r : σ[i]? = some (some v) := r
      rw [r] at ep
      cases ep
      have hi : i < ρ1.length := (List.getElem?_eq_some_iff.mp q).1
      have ke : Ke S1 H1 (fun z => S1 z ∨ z = p) H1 := ⟨fun _ h => .inl h, fun _ _ _ h => h⟩
      have own : ∀ z, Own (ρ1.set i (.fz (.lst xs))) σ z → Own ρ1 σ z ∧ z ≠ p := fun z ⟨j, k, ys, e1, e2⟩ => by
        by_cases hj : i = j
        · subst hj
          rw [List.getElem?_set_self hi] at e1
          cases e1
        · rw [List.getElem?_set_ne hj] at e1
          exact ⟨⟨j, k, ys, e1, e2⟩, fun z => hj (a.rel.inj i j .own k xs ys p q e1 r (z ▸ e2))⟩
      refine ⟨fun z => S1 z ∨ z = p, ⟨⟨fun z h => .inl (a.go.sub z h), fun z h => ?_, fun z h => a.go.own z (own z h).1, a.go.keep, a.go.stay, fun j k ys e1 n => ?_⟩, ⟨by rw [List.length_set]; exact a.rel.len, fun j s ov e1 e2 => ?_, fun j l k k' ys zs b e1 e2 e3 e4 => ?_, fun z h => ?_⟩⟩, .lst ⟨.inr rfl, h1⟩ (h4.mono ke), ke⟩
      · rcases h with h | h
        · exact a.go.new z h
        · rw [h]; exact .inr (a.go.own p ⟨i, .own, xs, q, r⟩)
      · obtain ⟨zs, z1, z2, z3⟩ := a.go.fix j k ys e1 n
        have hj : i ≠ j := fun z => by rw [← z, q] at z1; cases z1; exact n rfl
        exact ⟨zs, by rw [List.getElem?_set_ne hj]; exact z1, z2, z3⟩
      · by_cases hj : i = j
        · subst hj
          rw [List.getElem?_set_self hi] at e1
          cases e1
          rw [r] at e2
          cases e2
          exact ⟨_, rfl, .lst ⟨.inr rfl, h1⟩ (h4.mono ke)⟩
        · rw [List.getElem?_set_ne hj] at e1
          have w := a.rel.ok j s ov e1 e2
          cases s with
          | un => trivial
          | fz d => obtain ⟨w, ew, hw⟩ := w; exact ⟨w, ew, hw.mono ke⟩
          | ls k ys =>
            obtain ⟨b, us, eb, hb, nb, rb⟩ := w
            subst eb
            exact ⟨b, us, rfl, hb, fun z => z.elim nb fun z => hj (a.rel.inj i j .own k xs ys p q e1 r (z ▸ e2)), rb.mono ke⟩
      · by_cases hj : i = j
        · subst hj
          rw [List.getElem?_set_self hi] at e1
          cases e1
        · by_cases hl : i = l
          · subst hl
            rw [List.getElem?_set_self hi] at e2
            cases e2
          · rw [List.getElem?_set_ne hj] at e1
            rw [List.getElem?_set_ne hl] at e2
            exact a.rel.inj j l k k' ys zs b e1 e2 e3 e4
      · rcases h with h | h
        · exact a.rel.dom z h
        · rw [h, h1]; simp
    · cases e
/-- values to be shared, from the left -/
abbrev tPs (K : PySem.W.Frag) (m : M (List D)) : TA := tG K (fun S' _ _ _ H' vs ds => Rps K S' H' vs ds) m
inductive Rvs (K : PySem.W.Frag) (S : Addr → Prop) (H₀ : Hp) (ρ : Ev) (σ : St) (H : Hp) : List V → List R → Prop
  | nil : Rvs K S H₀ ρ σ H [] []
  | cons {v : V} {vs : List V} {r : R} {rs : List R} : Rv K S H₀ ρ σ H v r → Rvs K S H₀ ρ σ H vs rs → Rvs K S H₀ ρ σ H (v :: vs) (r :: rs)
abbrev tRs (K : PySem.W.Frag) (m : M (List R)) : TA := tG K (Rvs K) m
theorem Rvs.base {H₀ H₁ : Hp} (st : ∀ a, H₁ a = none → H₀ a = none) : ∀ {vs : List V} {rs : List R}, Rvs K S H₁ ρ σ H vs rs → Rvs K S H₀ ρ σ H vs rs
  | _, _, .nil => .nil
  | _, _, .cons h r => .cons (h.base st) (r.base st)
inductive Vds (K : PySem.W.Frag) (S : Addr → Prop) (H : Hp) : List V → List D → Prop
  | nil : Vds K S H [] []
  | cons {v : V} {vs : List V} {r : D} {rs : List D} : Vd K S H v r → Vds K S H vs rs → Vds K S H (v :: vs) (r :: rs)
theorem Rvs.views {H₀ : Hp} (rel : Rel K S ρ σ H) : ∀ {vs : List V} {rs : List R} {ds : List D}, Rvs K S H₀ ρ σ H vs rs → rs.mapM (view ρ) = some ds → Vds K S H vs ds
  | _, _, _, .nil, e => by cases e; exact .nil
  | _, _, ds, .cons (rs := rs) (r := r) h t, e => by
    rw [List.mapM_cons] at e
    cases e1 : view ρ r with
    | none => rw [e1] at e; cases e
    | some d =>
      rw [e1] at e
      cases e2 : rs.mapM (view ρ) with
      | none => rw [e2] at e; cases e
      | some es =>
        rw [e2] at e
        cases e
        exact .cons (h.view rel e1) (Rvs.views rel t e2)
end
section
variable {X : Cx} {Φ : Calls} {a b c : Expr} {es : List Expr} {pos : Pos} {ia ib ic : E} {ies : Es}
theorem da_nil : PA X [] (tPs X.K (evs Φ .nil)) := paImp pa_nil fun σ H Q q => by
  obtain ⟨S, ρ, r, ρ', rel, e, q⟩ := q
  simp only [evs] at e
  obtain ⟨q1, q2⟩ := ret_eq e
  subst q1 q2
  exact q S [] H .refl rel .nil
theorem da_cons (ha : PE X a (tD X.K (ev Φ ia))) (hr : PA X es (tPs X.K (evs Φ ies))) (hs : starEach (a :: es) X.env = (false, eval a X.env) :: starEach es X.env := by rfl) : PA X (a :: es) (tPs X.K (evs Φ (.cons ia ies))) :=
  paImp (pa_cons ha hr hs) fun σ H Q q => by
    obtain ⟨S, ρ, r, ρ', rel, e, q⟩ := q
    simp only [evs] at e
    obtain ⟨x, ρ1, e1, h1⟩ := bnd_eq e
    obtain ⟨d, ρ2, e2, h2⟩ := bnd_eq h1
    obtain ⟨ds, ρ3, e3, h3⟩ := bnd_eq h2
    obtain ⟨q1, q2⟩ := ret_eq h3
    subst q1 q2
    refine ⟨S, ρ, x, ρ1, rel, e1, fun S1 v H1 g1 rel1 r1 => ?_⟩
    obtain ⟨S2, at2, rp, _⟩ := At.share ⟨g1, rel1⟩ r1 e2
    exact ⟨S2, ρ2, ds, _, at2.rel, e3, fun S3 vs H3 g3 rel3 r3 => q S3 _ H3 (at2.go.trans g3) rel3 (.cons (rp.mono (g3.ke at2.rel)) r3)⟩
theorem dr_nil : PA X [] (tRs X.K (evrs Φ .nil)) := paImp pa_nil fun σ H Q q => by
  obtain ⟨S, ρ, r, ρ', rel, e, q⟩ := q
  simp only [evrs] at e
  obtain ⟨q1, q2⟩ := ret_eq e
  subst q1 q2
  exact q S [] H .refl rel .nil
theorem dr_cons (ha : PE X a (tD X.K (ev Φ ia))) (hr : PA X es (tRs X.K (evrs Φ ies))) (hs : starEach (a :: es) X.env = (false, eval a X.env) :: starEach es X.env := by rfl) : PA X (a :: es) (tRs X.K (evrs Φ (.cons ia ies))) :=
  paImp (pa_cons ha hr hs) fun σ H Q q => by
    obtain ⟨S, ρ, r, ρ', rel, e, q⟩ := q
    simp only [evrs] at e
    obtain ⟨x, ρ1, e1, h1⟩ := bnd_eq e
    obtain ⟨ds, ρ3, e3, h3⟩ := bnd_eq h1
    obtain ⟨q1, q2⟩ := ret_eq h3
    subst q1 q2
    exact ⟨S, ρ, x, ρ1, rel, e1, fun S1 v H1 g1 rel1 r1 => ⟨S1, ρ1, ds, _, rel1, e3, fun S3 vs H3 g3 rel3 r3 => q S3 _ H3 (g1.trans g3) rel3 (.cons (r1.go rel1 g3) (r3.base g1.stay))⟩⟩
theorem de_tup {x1} (h : PA X es (tPs X.K (evs Φ ies))) : PE X (.Tuple es x1 pos) (tD X.K (ev Φ (.tup ies))) :=
  peImp (pe_tup h) fun σ H Q q => by
    obtain ⟨S, ρ, r, ρ', rel, e, q⟩ := q
    simp only [ev] at e
    obtain ⟨ds, ρ1, e1, h1⟩ := bnd_eq e
    split at h1
    · rename_i hz
      obtain ⟨q1, q2⟩ := ret_eq h1
      subst q1 q2
      exact ⟨S, ρ, ds, _, rel, e1, fun S1 vs H1 g1 rel1 r1 => ⟨by rw [r1.length]; exact hz, fun p hp => At.fin q ⟨g1, rel1⟩ _ _ _ (.tup hp) (Rp.mkTup hp r1)⟩⟩
    · cases h1
theorem de_lst (h : PA X es (tPs X.K (evs Φ ies))) : PE X (.List es pos) (tD X.K (ev Φ (.lst ies))) :=
  peImp (pe_lst h) fun σ H Q q => by
    obtain ⟨S, ρ, r, ρ', rel, e, q⟩ := q
    simp only [ev] at e
    obtain ⟨ds, ρ1, e1, h1⟩ := bnd_eq e
    split at h1
    · rename_i hz
      obtain ⟨q1, q2⟩ := ret_eq h1
      subst q1 q2
      exact ⟨S, ρ, ds, _, rel, e1, fun S1 vs H1 g1 rel1 r1 => ⟨by rw [r1.length]; exact hz, fun p hp => At.fin q ⟨g1, rel1⟩ _ _ _ (.lst hp) (.mkLst hp rel1.dom r1)⟩⟩
    · cases h1
theorem atI_rp {K : PySem.W.Frag} {S : Addr → Prop} {H : Hp} {vs : List V} {ds : List D} {i : Int} {d : D} (r : Rps K S H vs ds) (e : atD ds i = some d) : ∃ v, atI vs i = some v ∧ Rp K S H v d := by
  unfold atD atI at e
  unfold atI
  rw [r.length]
  cases q : ixN ds.length i with
  | none => rw [q] at e; cases e
  | some j => rw [q] at e; exact r.get e
theorem de_idx (ha : PE X a (tD X.K (ev Φ ia))) (hb : PE X b (tD X.K (ev Φ ib))) (hp : PlainIx b) : PE X (.Subscript a b pos) (tD X.K (ev Φ (.idx ia ib))) :=
  peImp (pe_ix ix_seq ha hb hp) fun σ H Q q => by
    obtain ⟨S, ρ, r, ρ', rel, e, q⟩ := q
    simp only [ev] at e
    obtain ⟨x, ρ1, e1, h1⟩ := bnd_eq e
    obtain ⟨y, ρ2, e2, h2⟩ := bnd_eq h1
    obtain ⟨d, f, v1, v2, h3⟩ := vw2_split h2
    obtain ⟨g, e5, h4⟩ := ofO_split h3
    obtain ⟨q1, q2⟩ := ret_eq h4
    subst q1 q2
    refine seq2 rel e1 e2 fun S2 H2 v u at2 r1 r2 => ?_
    have w1 := r1.view at2.rel v1
    have w2 := r2.view at2.rel v2
    cases d <;> cases f <;> (try (cases e5; done))
    · obtain ⟨p, vs, ep, hp, rp⟩ := w1.t
      obtain ⟨z, ez, rz⟩ := atI_rp rp e5
      exact .inr (.inl ⟨p, vs, _, z, ep, w2.i, hp, ez, q S2 _ H2 at2.go at2.rel rz⟩)
    · obtain ⟨p, vs, ep, hp, rp⟩ := w1.l
      obtain ⟨z, ez, rz⟩ := atI_rp rp e5
      exact .inl ⟨p, vs, _, z, ep, w2.i, .inl (.inl hp), ez, q S2 _ H2 at2.go at2.rel rz⟩
    · obtain ⟨p, vs, ep, hp, rp⟩ := w1.c
      obtain ⟨z, ez, rz⟩ := atI_rp rp e5
      exact .inl ⟨p, vs, _, z, ep, w2.i, hp, ez, q S2 _ H2 at2.go at2.rel rz⟩
/-- an optional part of a slice -/
abbrev tO (K : PySem.W.Frag) (m : M (Option Int)) : TO := tG K (fun _ _ _ _ _ b a => b = a) m
theorem poImp {X : Cx} {e : Option Expr} {t t' : TO} (h : PO X e t) (i : ∀ σ H Q, t' σ H Q → t σ H Q) : PO X e t' := ⟨fun pins s σ H Q I q => h.run pins s σ H Q I (i _ _ _ q)⟩
theorem do_none : PO X none (tO X.K (evo Φ .none)) := poImp po_none fun σ H Q q => by
  obtain ⟨S, ρ, r, ρ', rel, e, q⟩ := q
  simp only [evo] at e
  obtain ⟨q1, q2⟩ := ret_eq e
  subst q1 q2
  exact q S _ H .refl rel rfl
theorem do_some (ha : PE X a (tD X.K (ev Φ ia))) : PO X (some a) (tO X.K (evo Φ (.some ia))) := poImp (po_some ha) fun σ H Q q => by
  obtain ⟨S, ρ, r, ρ', rel, e, q⟩ := q
  simp only [evo] at e
  obtain ⟨x, ρ1, e1, h1⟩ := bnd_eq e
  obtain ⟨d, v1, h2⟩ := vw1_split h1
  cases d <;> (try (cases h2; done))
  rename_i i
  obtain ⟨q1, q2⟩ := ret_eq h2
  subst q1 q2
  exact ⟨S, ρ, x, _, rel, e1, fun S1 v H1 g1 rel1 r1 => ⟨i, (r1.view rel1 v1).i, q S1 _ H1 g1 rel1 rfl⟩⟩
def rSl (K : PySem.W.Frag) : V → Option Int → Option Int → Hp → VK → Prop := fun x lo hi H Q => ∃ S d r, Dom S H ∧ Vd K S H x d ∧ slcD d lo hi = some r ∧ ∀ S' v H', Gn S H S' H' → Rn K S' H H' v r → Q v H'
theorem sl_D : SlR X (rSl X.K) := by
  intro pins s σ H x v vl vu lo hi sl Q I rx hs pl pu h
  obtain ⟨S, d, r, dom, hx, hb, q⟩ := h
  cases d <;> (try (cases hb; done))
  · rename_i ds
    cases hb
    obtain ⟨p, vs, ep, hp, rp⟩ := hx.t
    refine sl_tupA pins s σ H x v vl vu lo hi sl Q I rx hs pl pu ⟨p, vs, ep, hp, fun hw => ?_, fun _ t ht => q _ _ _ (.tup ht) (Rp.mkTup ht (rp.cut lo hi))⟩
    rw [← ep]
    refine q S _ H .refl ?_
    have hc : cut ds lo hi = ds := by
      unfold cut
      rw [← rp.length, hw.1, hw.2, rp.length]
      simp
    rw [hc]
    exact (show Rp X.K S H x _ from hx.tf)
  · rename_i ds
    cases hb
    obtain ⟨p, vs, ep, hp, rp⟩ := hx.l
    exact sl_list pins s σ H x v vl vu lo hi sl Q I rx hs pl pu ⟨p, vs, ep, .inl (.inl hp), fun t ht => q _ _ _ (.lst ht) (.mkLst ht dom (rp.cut lo hi))⟩
  · rename_i ds
    cases hb
    obtain ⟨p, vs, ep, hp, rp⟩ := hx.c
    exact sl_list pins s σ H x v vl vu lo hi sl Q I rx hs pl pu ⟨p, vs, ep, hp, fun t ht => q _ _ _ (.lst ht) (.mkLst ht dom (rp.cut lo hi))⟩
theorem de_slc {lo hi : Option Expr} {p2 : Pos} {il ih : Eo} (ha : PE X a (tD X.K (ev Φ ia))) (hl : PO X lo (tO X.K (evo Φ il))) (hh : PO X hi (tO X.K (evo Φ ih))) : PE X (.Subscript a (.Slice lo hi none p2) pos) (tD X.K (ev Φ (.slc ia il ih))) :=
  peImp (pe_slice sl_D ha hl hh) fun σ H Q q => by
    obtain ⟨S, ρ, r, ρ', rel, e, q⟩ := q
    simp only [ev] at e
    obtain ⟨x, ρ1, e1, h1⟩ := bnd_eq e
    obtain ⟨l, ρ2, e2, h2⟩ := bnd_eq h1
    obtain ⟨h, ρ3, e3, h3⟩ := bnd_eq h2
    obtain ⟨d, v1, h4⟩ := vw1_split h3
    obtain ⟨e5, q1⟩ := ofO_eq h4
    subst q1
    exact ⟨S, ρ, x, ρ1, rel, e1, fun S1 v H1 g1 rel1 r1 => ⟨S1, ρ1, l, ρ2, rel1, e2, fun S2 l2 H2 g2 rel2 r2 => by
      subst r2
      exact ⟨S2, ρ2, h, _, rel2, e3, fun S3 h3 H3 g3 rel3 r3 => by
        subst r3
        exact ⟨S3, d, r, rel3.dom, ((r1.go rel1 g2).go rel2 g3).view rel3 v1, e5, At.fin q ⟨(g1.trans g2).trans g3, rel3⟩⟩⟩⟩⟩
theorem chn_split {o p : Cop} {ρ ρ' : Ev} {r : R} (h : ev Φ (.chn o p ia ib ic) ρ = .ok r ρ') : ∃ x ρ1 y ρ2 d f k, ev Φ ia ρ = .ok x ρ1 ∧ ev Φ ib ρ1 = .ok y ρ2 ∧ view ρ2 x = some d ∧ view ρ2 y = some f ∧ cmpD o d f = some k ∧
    ((k = true ∧ ∃ z f g k2, ev Φ ic ρ2 = .ok z ρ' ∧ view ρ' y = some f ∧ view ρ' z = some g ∧ cmpD p f g = some k2 ∧ r = .fz (.bl k2)) ∨ (k = false ∧ r = .fz (.bl false) ∧ ρ' = ρ2)) := by
  simp only [ev] at h
  obtain ⟨x, ρ1, e1, h1⟩ := bnd_eq h
  obtain ⟨y, ρ2, e2, h2⟩ := bnd_eq h1
  obtain ⟨d, f, v1, v2, h3⟩ := vw2_split h2
  obtain ⟨k, e5, h4⟩ := ofO_split h3
  refine ⟨x, ρ1, y, ρ2, d, f, k, e1, e2, v1, v2, e5, ?_⟩
  cases k with
  | true =>
    obtain ⟨z, ρ3, e6, h5⟩ := bnd_eq (show bnd (ev Φ ic) _ ρ2 = _ from h4)
    obtain ⟨f2, g, v3, v4, h6⟩ := vw2_split h5
    obtain ⟨k2, e7, h7⟩ := ofO_split h6
    obtain ⟨q1, q2⟩ := ret_eq h7
    subst q1 q2
    exact .inl ⟨rfl, z, f2, g, k2, e6, v3, v4, e7, rfl⟩
  | false =>
    obtain ⟨q1, q2⟩ := ret_eq (show ret _ ρ2 = _ from h4)
    exact .inr ⟨rfl, q1, q2⟩
theorem chn_read {o p : Cop} {σ : St} {H : Hp} {Q : VK} (q : tD X.K (ev Φ (.chn o p ia ib ic)) σ H Q) : tChain (rC X.K o) (rC X.K p) (tD X.K (ev Φ ia)) (tD X.K (ev Φ ib)) (tD X.K (ev Φ ic)) σ H Q := by
  obtain ⟨S, ρ, r, ρ', rel, e, q⟩ := q
  obtain ⟨x, ρ1, y, ρ2, d, f, k, e1, e2, v1, v2, e5, h⟩ := chn_split e
  refine seq2 rel e1 e2 fun S2 H2 v u at2 r1 r2 => ⟨S2, d, f, k, at2.rel.dom, r1.view at2.rel v1, r2.view at2.rel v2, e5, k, rfl, ?_⟩
  rcases h with ⟨rfl, z, f2, g, k2, e6, v3, v4, e7, rfl⟩ | ⟨rfl, rfl, rfl⟩
  · exact iteT ⟨S2, ρ2, z, ρ', at2.rel, e6, fun S3 w H3 g3 rel3 r3 => ⟨S3, f2, g, k2, rel3.dom, (r2.go at2.rel g3).view rel3 v3, r3.view rel3 v4, e7, q S3 _ H3 (at2.go.trans g3) rel3 (.bl _)⟩⟩
  · exact iteF (q S2 _ H2 at2.go at2.rel (.bl _))
theorem de_chn {op op' : CmpOp} {o p : Cop} (ho : OpR X (compareOp op) (rC X.K o)) (ho' : OpR X (compareOp op') (rC X.K p)) (ha : PE X a (tD X.K (ev Φ ia))) (hb : PE X b (tD X.K (ev Φ ib))) (hc : PE X c (tD X.K (ev Φ ic))) (hm : lastMarks [op, op'] [b, c] = false := by rfl) :
    PE X (.Compare a [op, op'] [b, c] pos) (tD X.K (ev Φ (.chn o p ia ib ic))) := peImp (pe_chain ho ho' ha hb hc hm) fun σ H Q q => chn_read q
theorem dt_chn {op op' : CmpOp} {o p : Cop} (ho : OpR X (compareOp op) (rC X.K o)) (ho' : OpR X (compareOp op') (rC X.K p)) (ha : PE X a (tD X.K (ev Φ ia))) (hb : PE X b (tD X.K (ev Φ ib))) (hc : PE X c (tD X.K (ev Φ ic))) (hm : lastMarks [op, op'] [b, c] = false := by rfl) :
    PT X (.Compare a [op, op'] [b, c] pos) (tT X.K (evt Φ (.chn o p ia ib ic))) := ptImp (pt_chain ho ho' ha hb hc hm) fun σ H Q q => by
  obtain ⟨S, ρ, r, ρ', rel, e, q⟩ := q
  obtain ⟨z, d0, e0, v0, t0⟩ := evt_split e
  refine chn_read (Q := fun x H' => ∃ k, x = .bl k ∧ Q k H') ⟨S, ρ, z, ρ', rel, e0, fun S' v H' g' rel' r' => ?_⟩
  have w := r'.view rel' v0
  obtain ⟨k2, rfl⟩ : ∃ k2, z = .fz (.bl k2) := by
    obtain ⟨x, ρ1, y, ρ2, d, f, k, e1, e2, v1, v2, e5, h⟩ := chn_split e0
    rcases h with ⟨_, _, _, _, k2, _, _, _, _, h⟩ | ⟨_, h, _⟩
    · exact ⟨k2, h⟩
    · exact ⟨false, h⟩
  cases v0
  cases t0
  exact ⟨r, w.b, q S' _ H' g' rel' rfl⟩
end
end DL

end

section
set_option autoImplicit false
/-! DLe: calls of built-ins, methods of lists. -/
namespace DL
open PySem L2
def rK (K : PySem.W.Frag) (b : Bi) : List V → Hp → VK → Prop := fun vs H Q => ∃ S ds r, Dom S H ∧ Vds K S H vs ds ∧ biD b ds = some r ∧ ∀ S' v H', Gn S H S' H' → Rn K S' H H' v r → Q v H'
section
variable {X : Cx} {Φ : Calls} {a b c : Expr} {es : List Expr} {pos : Pos} {ia ib ic : E} {ies : Es}
theorem bi_split {b : Bi} {ρ ρ' : Ev} {r : R} (h : ev Φ (.bi b ies) ρ = .ok r ρ') : ∃ rs ds, evrs Φ ies ρ = .ok rs ρ' ∧ rs.mapM (view ρ') = some ds ∧ biD b ds = some r := by
  simp only [ev] at h
  obtain ⟨rs, ρ1, e1, h1⟩ := bnd_eq h
  split at h1
  · rename_i ds e2
    obtain ⟨e3, q⟩ := ofO_eq h1
    subst q
    exact ⟨rs, ds, e1, e2, e3⟩
  · cases h1
theorem bi_read {b : Bi} {σ : St} {H : Hp} {Q : VK} (q : tD X.K (ev Φ (.bi b ies)) σ H Q) : tCB (rK X.K b) (tRs X.K (evrs Φ ies)) σ H Q := by
  obtain ⟨S, ρ, r, ρ', rel, e, q⟩ := q
  obtain ⟨rs, ds, e1, e2, e3⟩ := bi_split e
  exact ⟨S, ρ, rs, ρ', rel, e1, fun S1 vs H1 g1 rel1 r1 => ⟨S1, ds, r, rel1.dom, Rvs.views rel1 r1 e2, e3, At.fin q ⟨g1, rel1⟩⟩⟩
theorem de_bi {b : Bi} {id : String} {x : Str} {p : Pos} {e : Expr} (hc : CallR X (.builtin id) (rK X.K b)) (hg : Gl X x) (hm : X.mg x = none) (hv : bootBuiltins x = some (.builtin id)) (ha : PA X (e :: es) (tRs X.K (evrs Φ ies))) (hn : x ≠ "__name__" := by decide) (hdb : (x == ("__debug__" : Str)) = false := by decide)
    (he : starEach (e :: es) X.env = (false, eval e X.env) :: starEach es X.env := by rfl) (hpl : (PySem.backTo pos (starEach es X.env)).any (·.1) = false := by rfl) : PE X (.Call (.Name x p) (e :: es) [] pos) (tD X.K (ev Φ (.bi b ies))) :=
  peImp (pe_callB hc hg hm hv ha hn hdb he hpl) fun σ H Q q => bi_read q
theorem de_ty {b : Bi} {id : String} {x : Str} {p : Pos} {e : Expr} (hc : CallR X (.type id) (rK X.K b)) (hg : Gl X x) (hm : X.mg x = none) (hv : bootBuiltins x = some (.type id)) (ha : PA X (e :: es) (tRs X.K (evrs Φ ies))) (hn : x ≠ "__name__" := by decide) (hdb : (x == ("__debug__" : Str)) = false := by decide)
    (he : starEach (e :: es) X.env = (false, eval e X.env) :: starEach es X.env := by rfl) (hpl : (PySem.backTo pos (starEach es X.env)).any (·.1) = false := by rfl) : PE X (.Call (.Name x p) (e :: es) [] pos) (tD X.K (ev Φ (.bi b ies))) :=
  peImp (pe_callTy hc hg hm hv ha hn hdb he hpl) fun σ H Q q => bi_read q
theorem vds1 {K : PySem.W.Frag} {S : Addr → Prop} {H : Hp} {vs : List V} {d : D} (h : Vds K S H vs [d]) : ∃ v, vs = [v] ∧ Vd K S H v d := by
  cases h with | cons h r => cases r; exact ⟨_, rfl, h⟩
theorem vds2 {K : PySem.W.Frag} {S : Addr → Prop} {H : Hp} {vs : List V} {d e : D} (h : Vds K S H vs [d, e]) : ∃ v u, vs = [v, u] ∧ Vd K S H v d ∧ Vd K S H u e := by
  cases h with | cons h r => cases r with | cons h2 r => cases r; exact ⟨_, _, rfl, h, h2⟩
theorem cr_lenD : CallR X (.builtin "len") (rK X.K .len) := by
  intro pins s σ H vs us Q I r h
  obtain ⟨S, ds, x, dom, hv, hb, q⟩ := h
  match ds, hv, hb with
  | [.tup xs], hv, hb =>
    cases hb
    obtain ⟨v, rfl, w⟩ := vds1 hv
    obtain ⟨p, ws, ep, hp, rp⟩ := w.t
    subst ep
    refine call_len pins s σ H _ us Q I r ⟨_, ws.length, rfl, .inr ⟨ws, hp, rfl⟩, ?_⟩
    rw [rp.length]
    exact q S _ H .refl (.int _)
  | [.lst xs], hv, hb =>
    cases hb
    obtain ⟨v, rfl, w⟩ := vds1 hv
    obtain ⟨p, ws, ep, hp, rp⟩ := w.l
    subst ep
    refine call_len pins s σ H _ us Q I r ⟨_, ws.length, rfl, .inl ⟨ws, .inl (.inl hp), rfl⟩, ?_⟩
    rw [rp.length]
    exact q S _ H .refl (.int _)
  | [.scr xs], hv, hb =>
    cases hb
    obtain ⟨v, rfl, w⟩ := vds1 hv
    obtain ⟨p, ws, ep, hp, rp⟩ := w.c
    subst ep
    refine call_len pins s σ H _ us Q I r ⟨_, ws.length, rfl, .inl ⟨ws, hp, rfl⟩, ?_⟩
    rw [rp.length]
    exact q S _ H .refl (.int _)
  | [.str z], hv, hb =>
    have hb : (if z.length ≤ sizeLine then some (R.fz (.int z.length)) else none) = some x := hb
    split at hb
    · rename_i hz
      cases hb
      obtain ⟨v, rfl, w⟩ := vds1 hv
      have e := w.s
      subst e
      exact call_len pins s σ H _ us Q I r ⟨_, z.length, rfl, ⟨hz, rfl⟩, q S _ H .refl (.int _)⟩
    · cases hb
theorem cr_absD : CallR X (.builtin "abs") (rK X.K .abs) := by
  intro pins s σ H vs us Q I r h
  obtain ⟨S, ds, x, dom, hv, hb, q⟩ := h
  match ds, hv, hb with
  | [.int i], hv, hb =>
    cases hb
    obtain ⟨v, rfl, w⟩ := vds1 hv
    have e := w.i
    subst e
    exact call_abs pins s σ H _ us Q I r ⟨i, rfl, q S _ H .refl (.int _)⟩
theorem cr_intD : CallR X (.type "int") (rK X.K .int1) := by
  intro pins s σ H vs us Q I r h
  obtain ⟨S, ds, x, dom, hv, hb, q⟩ := h
  match ds, hv, hb with
  | [.int i], hv, hb =>
    cases hb
    obtain ⟨v, rfl, w⟩ := vds1 hv
    have e := w.i
    subst e
    exact call_int1 pins s σ H _ us Q I r (.inl ⟨i, rfl, q S _ H .refl (.int _)⟩)
  | [.bl i], hv, hb =>
    cases hb
    obtain ⟨v, rfl, w⟩ := vds1 hv
    have e := w.b
    subst e
    exact call_int1 pins s σ H _ us Q I r (.inr ⟨i, rfl, q S _ H .refl (.int _)⟩)
theorem cr_tupleD : CallR X (.type "tuple") (rK X.K .tuple) := by
  intro pins s σ H vs us Q I r h
  obtain ⟨S, ds, x, dom, hv, hb, q⟩ := h
  match ds, hv, hb with
  | [.tup xs], hv, hb =>
    cases hb
    obtain ⟨v, rfl, w⟩ := vds1 hv
    obtain ⟨p, ws, ep, hp, rp⟩ := w.t
    have tf := w.tf
    subst ep
    exact call_tuple_of pins s σ H _ us Q I r ⟨p, ws, rfl, .inr ⟨hp, q S _ H .refl tf⟩⟩
  | [.lst xs], hv, hb =>
    cases hb
    obtain ⟨v, rfl, w⟩ := vds1 hv
    obtain ⟨p, ws, ep, hp, rp⟩ := w.l
    subst ep
    exact call_tuple_of pins s σ H _ us Q I r ⟨p, ws, rfl, .inl ⟨.inl (.inl hp), fun l hl => q _ _ _ (.tup hl) (Rp.mkTup hl rp)⟩⟩
theorem cr_listD : CallR X (.type "list") (rK X.K .list) := by
  intro pins s σ H vs us Q I r h
  obtain ⟨S, ds, x, dom, hv, hb, q⟩ := h
  match ds, hv, hb with
  | [.tup xs], hv, hb =>
    cases hb
    obtain ⟨v, rfl, w⟩ := vds1 hv
    obtain ⟨p, ws, ep, hp, rp⟩ := w.t
    subst ep
    exact call_list_of pins s σ H _ us Q I r ⟨p, ws, rfl, .inr hp, fun l hl => q _ _ _ (.lst hl) (.mkLst hl dom rp)⟩
  | [.lst xs], hv, hb =>
    cases hb
    obtain ⟨v, rfl, w⟩ := vds1 hv
    obtain ⟨p, ws, ep, hp, rp⟩ := w.l
    subst ep
    exact call_list_of pins s σ H _ us Q I r ⟨p, ws, rfl, .inl (.inl (.inl hp)), fun l hl => q _ _ _ (.lst hl) (.mkLst hl dom rp)⟩
  | [.scr xs], hv, hb =>
    cases hb
    obtain ⟨v, rfl, w⟩ := vds1 hv
    obtain ⟨p, ws, ep, hp, rp⟩ := w.c
    subst ep
    exact call_list_of pins s σ H _ us Q I r ⟨p, ws, rfl, .inl hp, fun l hl => q _ _ _ (.lst hl) (.mkLst hl dom rp)⟩
theorem cr_max2D (hc : X.calm = true) : CallR X (.builtin "max") (rK X.K .max2) := by
  intro pins s σ H vs us Q I r h
  obtain ⟨S, ds, x, dom, hv, hb, q⟩ := h
  match ds, hv, hb with
  | [.int i, .int j], hv, hb =>
    cases hb
    obtain ⟨v, u, rfl, w1, w2⟩ := vds2 hv
    have e1 := w1.i
    have e2 := w2.i
    subst e1 e2
    exact call_max2 hc pins s σ H _ us Q I r ⟨i, j, rfl, q S _ H .refl (.int _)⟩
theorem cr_min2D (hc : X.calm = true) : CallR X (.builtin "min") (rK X.K .min2) := by
  intro pins s σ H vs us Q I r h
  obtain ⟨S, ds, x, dom, hv, hb, q⟩ := h
  match ds, hv, hb with
  | [.int i, .int j], hv, hb =>
    cases hb
    obtain ⟨v, u, rfl, w1, w2⟩ := vds2 hv
    have e1 := w1.i
    have e2 := w2.i
    subst e1 e2
    exact call_min2 hc pins s σ H _ us Q I r ⟨i, j, rfl, q S _ H .refl (.int _)⟩
theorem maxL_ok : ∀ {ns : List Int} {m : Int}, maxL ns = some m → m ∈ ns ∧ ∀ y ∈ ns, y ≤ m
  | [], _, h => by cases h
  | [x], m, h => by cases h; exact ⟨List.mem_cons_self, fun y hy => by rw [List.mem_singleton.mp hy]; exact Int.le_refl _⟩
  | x :: y :: r, m, h => by
    have h : ((maxL (y :: r)).map fun m => if m < x then x else m) = some m := h
    cases q : maxL (y :: r) with
    | none => rw [q] at h; cases h
    | some k =>
      rw [q] at h
      obtain ⟨h1, h2⟩ := maxL_ok q
      have h : (if k < x then x else k) = m := Option.some.inj h
      by_cases hk : k < x
      · rw [if_pos hk] at h
        subst h
        refine ⟨List.mem_cons_self, fun z hz => ?_⟩
        rcases List.mem_cons.mp hz with rfl | hz
        · exact Int.le_refl _
        · have := h2 z hz; omega
      · rw [if_neg hk] at h
        subst h
        refine ⟨List.mem_cons_of_mem _ h1, fun z hz => ?_⟩
        rcases List.mem_cons.mp hz with rfl | hz
        · omega
        · exact h2 z hz
theorem minL_ok : ∀ {ns : List Int} {m : Int}, minL ns = some m → m ∈ ns ∧ ∀ y ∈ ns, m ≤ y
  | [], _, h => by cases h
  | [x], m, h => by cases h; exact ⟨List.mem_cons_self, fun y hy => by rw [List.mem_singleton.mp hy]; exact Int.le_refl _⟩
  | x :: y :: r, m, h => by
    have h : ((minL (y :: r)).map fun m => if x < m then x else m) = some m := h
    cases q : minL (y :: r) with
    | none => rw [q] at h; cases h
    | some k =>
      rw [q] at h
      obtain ⟨h1, h2⟩ := minL_ok q
      have h : (if x < k then x else k) = m := Option.some.inj h
      by_cases hk : x < k
      · rw [if_pos hk] at h
        subst h
        refine ⟨List.mem_cons_self, fun z hz => ?_⟩
        rcases List.mem_cons.mp hz with rfl | hz
        · exact Int.le_refl _
        · have := h2 z hz; omega
      · rw [if_neg hk] at h
        subst h
        refine ⟨List.mem_cons_of_mem _ h1, fun z hz => ?_⟩
        rcases List.mem_cons.mp hz with rfl | hz
        · omega
        · exact h2 z hz
theorem cr_max1D (hc : X.calm = true) : CallR X (.builtin "max") (rK X.K .max1) := by
  intro pins s σ H vs us Q I r h
  obtain ⟨S, ds, x, dom, hv, hb, q⟩ := h
  match ds, hv, hb with
  | [.lst xs], hv, hb =>
    have hb : ((DL.intsD xs).bind maxL).map (fun m => R.fz (.int m)) = some x := hb
    cases e1 : DL.intsD xs with
    | none => rw [e1] at hb; cases hb
    | some ns =>
      rw [e1] at hb
      have hb : (maxL ns).map (fun m => R.fz (.int m)) = some x := hb
      cases e2 : maxL ns with
      | none => rw [e2] at hb; cases hb
      | some m =>
        rw [e2] at hb
        cases hb
        obtain ⟨v, rfl, w⟩ := vds1 hv
        obtain ⟨p, ws, ep, hp, rp⟩ := w.l
        subst ep
        have e3 := rp.intsD e1
        subst e3
        obtain ⟨h1, h2⟩ := maxL_ok e2
        refine cr_max hc pins s σ H _ us Q I r ⟨p, ns, rfl, .inl (.inl hp), List.length_pos_of_mem h1, fun k k1 k2 => ?_⟩
        have : k = m := by have := h2 k k1; have := k2 m h1; omega
        subst this
        exact q S _ H .refl (.int _)
theorem cr_min1D (hc : X.calm = true) : CallR X (.builtin "min") (rK X.K .min1) := by
  intro pins s σ H vs us Q I r h
  obtain ⟨S, ds, x, dom, hv, hb, q⟩ := h
  match ds, hv, hb with
  | [.lst xs], hv, hb =>
    have hb : ((DL.intsD xs).bind minL).map (fun m => R.fz (.int m)) = some x := hb
    cases e1 : DL.intsD xs with
    | none => rw [e1] at hb; cases hb
    | some ns =>
      rw [e1] at hb
      have hb : (minL ns).map (fun m => R.fz (.int m)) = some x := hb
      cases e2 : minL ns with
      | none => rw [e2] at hb; cases hb
      | some m =>
        rw [e2] at hb
        cases hb
        obtain ⟨v, rfl, w⟩ := vds1 hv
        obtain ⟨p, ws, ep, hp, rp⟩ := w.l
        subst ep
        have e3 := rp.intsD e1
        subst e3
        obtain ⟨h1, h2⟩ := minL_ok e2
        refine cr_min hc pins s σ H _ us Q I r ⟨p, ns, rfl, .inl (.inl hp), List.length_pos_of_mem h1, fun k k1 k2 => ?_⟩
        have : k = m := by have := h2 k k1; have := k2 m h1; omega
        subst this
        exact q S _ H .refl (.int _)
theorem cr_sumD (hc : X.calm = true) : CallR X (.builtin "sum") (rK X.K .sum) := by
  intro pins s σ H vs us Q I r h
  obtain ⟨S, ds, x, dom, hv, hb, q⟩ := h
  match ds, hv, hb with
  | [.lst xs], hv, hb =>
    have hb : (DL.intsD xs).map (fun ns => R.fz (.int ns.sum)) = some x := hb
    cases e1 : DL.intsD xs with
    | none => rw [e1] at hb; cases hb
    | some ns =>
      rw [e1] at hb
      cases hb
      obtain ⟨v, rfl, w⟩ := vds1 hv
      obtain ⟨p, ws, ep, hp, rp⟩ := w.l
      subst ep
      have e3 := rp.intsD e1
      subst e3
      exact cr_sum hc pins s σ H _ us Q I r ⟨p, ns, rfl, .inl (.inl hp), q S _ H .refl (.int _)⟩
  | [.tup xs], hv, hb =>
    have hb : (DL.intsD xs).map (fun ns => R.fz (.int ns.sum)) = some x := hb
    cases e1 : DL.intsD xs with
    | none => rw [e1] at hb; cases hb
    | some ns =>
      rw [e1] at hb
      cases hb
      obtain ⟨v, rfl, w⟩ := vds1 hv
      obtain ⟨p, ws, ep, hp, rp⟩ := w.t
      subst ep
      have e3 := rp.intsD e1
      subst e3
      obtain ⟨its, rv, pl, hz⟩ := I.tuple hp
      rw [Vals.ref1 r]
      have hi := rv.ints
      obtain ⟨xs', e⟩ := hi.allInts.items
      have hn : PySem.numsOf (intItems xs').toList = ns := by rw [← e]; exact hi.numsOf
      rw [nums_intItems] at hn
      obtain ⟨o, ho, hcl, n0, hd⟩ := pl
      have ht : s.heap.IsTuple p (intItems xs') := ⟨o, ho, hcl, n0, by rw [hd, e]⟩
      refine PySem.W.ktm_sumG (I.ok.hd hc) ht fun h' tk t' hk => ?_
      rw [preSum_eq, List.take_of_length_le (by simp), hn]
      exact ⟨.int _, H, I.kept hk, ⟨_, rfl⟩, q S _ H .refl (.int _)⟩
theorem cr_allD (hc : X.calm = true) : CallR X (.builtin "all") (rK X.K .all) := by
  intro pins s σ H vs us Q I r h
  obtain ⟨S, ds, x, dom, hv, hb, q⟩ := h
  match ds, hv, hb with
  | [.lst xs], hv, hb =>
    have hb : (DL.boolsD xs).map (fun ns => R.fz (.bl (ns.all id))) = some x := hb
    cases e1 : DL.boolsD xs with
    | none => rw [e1] at hb; cases hb
    | some ns =>
      rw [e1] at hb
      cases hb
      obtain ⟨v, rfl, w⟩ := vds1 hv
      obtain ⟨p, ws, ep, hp, rp⟩ := w.l
      subst ep
      have e3 := rp.boolsD e1
      subst e3
      exact cr_all hc pins s σ H _ us Q I r ⟨p, ns, rfl, .inl (.inl hp), q S _ H .refl (.bl _)⟩
theorem cr_anyD (hc : X.calm = true) : CallR X (.builtin "any") (rK X.K .any) := by
  intro pins s σ H vs us Q I r h
  obtain ⟨S, ds, x, dom, hv, hb, q⟩ := h
  match ds, hv, hb with
  | [.lst xs], hv, hb =>
    have hb : (DL.boolsD xs).map (fun ns => R.fz (.bl (ns.any id))) = some x := hb
    cases e1 : DL.boolsD xs with
    | none => rw [e1] at hb; cases hb
    | some ns =>
      rw [e1] at hb
      cases hb
      obtain ⟨v, rfl, w⟩ := vds1 hv
      obtain ⟨p, ws, ep, hp, rp⟩ := w.l
      subst ep
      have e3 := rp.boolsD e1
      subst e3
      exact cr_any hc pins s σ H _ us Q I r ⟨p, ns, rfl, .inl (.inl hp), q S _ H .refl (.bl _)⟩
theorem insI_perm (x : Int) : ∀ l : List Int, (insI x l).Perm (x :: l)
  | [] => .refl _
  | y :: r => by
    unfold insI
    split
    · exact .refl _
    · exact ((insI_perm x r).cons y).trans (.swap x y r)
theorem sortI_perm : ∀ l : List Int, (sortI l).Perm l
  | [] => .refl _
  | x :: r => (insI_perm x _).trans ((sortI_perm r).cons x)
theorem insI_sorted (x : Int) : ∀ l : List Int, l.Pairwise (· ≤ ·) → (insI x l).Pairwise (· ≤ ·)
  | [], _ => List.pairwise_singleton _ _
  | y :: r, h => by
    unfold insI
    obtain ⟨h1, h2⟩ := List.pairwise_cons.mp h
    split
    · rename_i hx
      refine List.pairwise_cons.mpr ⟨fun z hz => ?_, h⟩
      rcases List.mem_cons.mp hz with rfl | hz
      · exact hx
      · exact Int.le_trans hx (h1 z hz)
    · rename_i hx
      refine List.pairwise_cons.mpr ⟨fun z hz => ?_, insI_sorted x r h2⟩
      rcases List.mem_cons.mp ((insI_perm x r).mem_iff.mp hz) with rfl | hz
      · omega
      · exact h1 z hz
theorem sortI_sorted : ∀ l : List Int, (sortI l).Pairwise (· ≤ ·)
  | [] => .nil
  | x :: r => insI_sorted x _ (sortI_sorted r)
theorem sorted_one {l m : List Int} (p : l.Perm m) (h1 : l.Pairwise (· ≤ ·)) (h2 : m.Pairwise (· ≤ ·)) : l = m :=
  p.eq_of_pairwise (fun a b _ _ h h' => Int.le_antisymm h h') h1 h2
theorem cr_sortedD : CallR X (.builtin "sorted") (rK X.K .sorted) := by
  intro pins s σ H vs us Q I r h
  obtain ⟨S, ds, x, dom, hv, hb, q⟩ := h
  match ds, hv, hb with
  | [.lst xs], hv, hb =>
    have hb : (DL.intsD xs).map (fun ns => R.fr ((sortI ns).map .int)) = some x := hb
    cases e1 : DL.intsD xs with
    | none => rw [e1] at hb; cases hb
    | some ns =>
      rw [e1] at hb
      cases hb
      obtain ⟨v, rfl, w⟩ := vds1 hv
      obtain ⟨p, ws, ep, hp, rp⟩ := w.l
      subst ep
      have e3 := rp.intsD e1
      subst e3
      refine cr_sortedI pins s σ H _ us Q I r ⟨p, ns, rfl, .inl (.inl hp), fun ns' t pm so ht => ?_⟩
      have e4 : ns' = sortI ns := sorted_one (pm.trans (sortI_perm ns).symm) so (sortI_sorted ns)
      subst e4
      exact q _ _ _ (.lst ht) (.mkLst ht dom (Rps.ofInts _))
theorem cr_divmodD : CallR X (.builtin "divmod") (rK X.K .divmod) := by
  intro pins s σ H vs us Q I r h
  obtain ⟨S, ds, x, dom, hv, hb, q⟩ := h
  match ds, hv, hb with
  | [.int i, .int j], hv, hb =>
    have hb : (if 0 < j ∧ j < 1000000000000000000000000000000000000000000000000000000000000 then some (R.fz (.tup [.int (i / j), .int (i % j)])) else none) = some x := hb
    split at hb
    · rename_i hz
      cases hb
      obtain ⟨v, u, rfl, w1, w2⟩ := vds2 hv
      have e1 := w1.i
      have e2 := w2.i
      subst e1 e2
      have hw : (2 : Nat) ^ 200 < 2 ^ 201 := by decide +kernel
      have hj : j.natAbs < 2 ^ 200 := Nat.lt_of_lt_of_le (show j.natAbs < 1000000000000000000000000000000000000000000000000000000000000 by omega) (by decide +kernel)
      have hl : j.natAbs.log2 < 9000 := (wide_div (i := 0) hz.1 hj (by decide) (by decide)).2
      exact call_divmodW pins s σ H _ us Q I r ⟨i, j, rfl, ⟨hz.1, PyProof.noPylong_of_log2 hl⟩, fun p hp => q _ _ _ (.tup hp) (Rp.mkTup hp (.cons (.int _) (.cons (.int _) .nil)))⟩
    · cases hb
theorem cr_reprD (hg : X.A.guards = some []) (hu : X.A.units + 70 < cLine) : CallR X (.builtin "repr") (rK X.K .repr) := by
  intro pins s σ H vs us Q I r h
  obtain ⟨S, ds, x, dom, hv, hb, q⟩ := h
  match ds, hv, hb with
  | [d], hv, hb =>
    have hb : (if (pureD d && (toPy d).showable && !(toPy d).hasDict && decide ((toPy d).depth ≤ 64) && decide ((toPy d).shown.length ≤ sizeLine)) = true then some (R.fz (.str (toPy d).shown)) else none) = some x := by
      cases d <;> exact hb
    split at hb
    · rename_i hz
      cases hb
      obtain ⟨hz, z4⟩ := Bool.and_eq_true _ _ |>.mp hz
      obtain ⟨hz, z3⟩ := Bool.and_eq_true _ _ |>.mp hz
      obtain ⟨z1, z2⟩ := Bool.and_eq_true _ _ |>.mp hz
      obtain ⟨zp, z1⟩ := Bool.and_eq_true _ _ |>.mp z1
      have z2 : (toPy d).hasDict = false := by cases q : (toPy d).hasDict <;> simp [q] at z2 <;> rfl
      have z3 := of_decide_eq_true z3
      have z4 := of_decide_eq_true z4
      obtain ⟨v, rfl, w⟩ := vds1 hv
      obtain ⟨u, rfl, ru⟩ := vals1 r
      have fin : ∀ (h' : Heap) (t : Tok) (tk : Nat), (∀ b o, s.heap.get? b = some o → h'.get? b = some o) → EP X pins σ Q (.str (toPy d).shown t) { s with heap := h', toks := tk } := fun h' t tk hk =>
        ⟨.str _, H, I.kept (t' := tk) hk, ⟨t, rfl⟩, q S _ H .refl (.str _)⟩
      cases d with
      | non =>
        have e := w.n
        subst e
        cases ru
        exact PySem.P.repr_of_none (fin s.heap _ _ fun _ _ h => h)
      | bl b =>
        have e := w.b
        subst e
        cases ru
        refine PySem.P.repr_of_bool ?_
        have q2 := fin s.heap s.toks (s.toks + 1) fun _ _ h => h
        cases b <;> exact q2
      | int i =>
        have e := w.i
        subst e
        obtain ⟨t, rfl⟩ := ru
        have hz : i.natAbs.log2 < 1920 := by simpa [toPy, PyData.showable] using z1
        exact PySem.P.repr_of_int hz (fin s.heap _ _ fun _ _ h => h)
      | str y =>
        have e := w.s
        subst e
        obtain ⟨t, rfl⟩ := ru
        exact PySem.P.repr_of_str (fin s.heap _ _ fun _ _ h => h) z4
      | tup xs =>
        obtain ⟨p, ws, ep, hp, rp⟩ := w.t
        obtain ⟨as, ra⟩ := Dp.reads I _ _ _ (w.dp zp) ru
        subst ep
        cases ru
        exact repr_of_reads' ra z1 (fun e => by rw [z2] at e; cases e) hg (by omega) (fun _ _ h => h) (fun h' t tk hk => fin h' t tk hk) z4
      | lst xs =>
        obtain ⟨p, ws, ep, hp, rp⟩ := w.l
        obtain ⟨as, ra⟩ := Dp.reads I _ _ _ (w.dp zp) ru
        subst ep
        cases ru
        exact repr_of_reads' ra z1 (fun e => by rw [z2] at e; cases e) hg (by omega) (fun _ _ h => h) (fun h' t tk hk => fin h' t tk hk) z4
      | obj _ _ => cases zp
      | scr xs =>
        obtain ⟨p, ws, ep, hp, rp⟩ := w.c
        obtain ⟨as, ra⟩ := Dp.reads I _ _ _ (w.dp zp) ru
        subst ep
        cases ru
        exact repr_of_reads' ra z1 (fun e => by rw [z2] at e; cases e) hg (by omega) (fun _ _ h => h) (fun h' t tk hk => fin h' t tk hk) z4
    · cases hb
/-- repr of what is no more than held -/
def rRep (K : PySem.W.Frag) : List V → Hp → VK → Prop := fun vs H Q => ∃ a d, vs = [.ref a] ∧ Dp K H (.ref a) d ∧ d.showable = true ∧ d.hasDict = false ∧ d.depth ≤ 64 ∧ d.shown.length ≤ sizeLine ∧ Q (.str d.shown) H
theorem cr_reprP (hg : X.A.guards = some []) (hu : X.A.units + 70 < cLine) : CallR X (.builtin "repr") (rRep X.K) := by
  intro pins s σ H vs us Q I r h
  obtain ⟨a, d, rfl, dp, z1, z2, z3, z4, q⟩ := h
  obtain ⟨u, rfl, ru⟩ := vals1 r
  obtain ⟨as, ra⟩ := Dp.reads I _ _ _ dp ru
  cases ru
  exact repr_of_reads' ra z1 (fun e => by rw [z2] at e; cases e) hg (by omega) (fun _ _ h => h) (fun h' t tk hk => ⟨.str _, H, I.kept (t' := tk) hk, ⟨t, rfl⟩, q⟩) z4
theorem Vd.mono2 {K : PySem.W.Frag} {S S' : Addr → Prop} {H H' : Hp} (g : Gn S H S' H') {v : V} {d : D} (h : Vd K S H v d) : Vd K S' H' v d := by
  cases h with
  | fz h => exact .fz (h.mono g.ke)
  | ls e h r => exact .ls e (g.keep _ _ h) (r.mono g.ke)
theorem Vds.dps {K : PySem.W.Frag} {S S' : Addr → Prop} {H H' : Hp} (g : Gn S H S' H') : ∀ {vs : List V} {ds : List D}, Vds K S H vs ds → puresD ds = true → DpAll K H' vs (toPy.toPys ds)
  | _, _, .nil, _ => .nil
  | _, _, .cons h r, p => by
    obtain ⟨p1, p2⟩ := Bool.and_eq_true _ _ |>.mp (show (_ && _) = true from p)
    exact .cons ((h.mono2 g).dp p1) (Vds.dps g r p2)
theorem Vds.length {K : PySem.W.Frag} {S : Addr → Prop} {H : Hp} : ∀ {vs : List V} {ds : List D}, Vds K S H vs ds → vs.length = ds.length
  | _, _, .nil => rfl
  | _, _, .cons _ r => congrArg (· + 1) (Vds.length r)
theorem de_reprL {x : Str} {p lp : Pos} (hg0 : X.A.guards = some []) (hu : X.A.units + 70 < cLine) (hg : Gl X x) (hm : X.mg x = none) (hv : bootBuiltins x = some (.builtin "repr")) (ha : PA X es (tRs X.K (evrs Φ ies))) (hn : x ≠ "__name__" := by decide) (hdb : (x == ("__debug__" : Str)) = false := by decide) : PE X (.Call (.Name x p) [.List es lp] [] pos) (tD X.K (ev Φ (.bi .reprL ies))) :=
  peImp (pe_callB (cr_reprP hg0 hu) hg hm hv (pa_cons (pe_lst ha) pa_nil rfl) hn hdb rfl rfl) fun σ H Q q => by
    obtain ⟨S, ρ, r, ρ', rel, e, q⟩ := q
    obtain ⟨rs, ds, e1, e2, e3⟩ := bi_split e
    have e3 : (if (pureD (.lst ds) && (toPy (.lst ds)).showable && !(toPy (.lst ds)).hasDict && decide ((toPy (.lst ds)).depth ≤ 64) && decide ((toPy (.lst ds)).shown.length ≤ sizeLine) && decide (ds.length ≤ 1000)) = true then some (R.fz (.str (toPy (.lst ds)).shown)) else none) = some r := e3
    split at e3
    · rename_i hz
      cases e3
      obtain ⟨hz, z5⟩ := Bool.and_eq_true _ _ |>.mp hz
      obtain ⟨hz, z4⟩ := Bool.and_eq_true _ _ |>.mp hz
      obtain ⟨hz, z3⟩ := Bool.and_eq_true _ _ |>.mp hz
      obtain ⟨z1, z2⟩ := Bool.and_eq_true _ _ |>.mp hz
      obtain ⟨zp, z1⟩ := Bool.and_eq_true _ _ |>.mp z1
      have z2 : (toPy (.lst ds)).hasDict = false := by cases q : (toPy (.lst ds)).hasDict <;> simp [q] at z2 <;> rfl
      have z3 := of_decide_eq_true z3
      have z4 := of_decide_eq_true z4
      have z5 := of_decide_eq_true z5
      exact ⟨S, ρ, rs, ρ', rel, e1, fun S1 vs H1 g1 rel1 r1 => by
        have w := Rvs.views rel1 r1 e2
        have wl := w.length
        refine ⟨by rw [sizeLine_eq]; omega, fun a ha => ?_⟩
        have g2 : Gn S1 H1 S1 (upd H1 a (.lst vs)) := Gn.lst ha
        exact ⟨a, _, rfl, .lst (.inl (.inl upd_same)) (w.dps g2 zp), z1, z2, z3, z4, At.fin q ⟨g1, rel1⟩ _ _ _ g2 (.str _)⟩⟩
    · cases e3
/-- tuple(range(..)) -/
theorem rgV_rps {K : PySem.W.Frag} {S : Addr → Prop} {H : Hp} (a b : Int) : Rps K S H (rgV a b) (rngL a b) := by
  unfold rgV rngL
  generalize (List.range (b - a).toNat) = l
  induction l with
  | nil => exact .nil
  | cons x r ih => exact .cons (.int _) ih
end
end DL

end

section
set_option autoImplicit false
/-! DLf: isinstance, the calls of defs. -/
namespace DL
open PySem L2
def tyN : D → String
  | .non => "NoneType" | .bl _ => "bool" | .int _ => "int" | .str _ => "str" | .tup _ => "tuple" | .lst _ => "list" | .scr _ => "list" | .obj _ _ => "object"
def noObj : D → Bool
  | .obj _ _ => false
  | _ => true
def Ty.nm : Ty → String
  | .int => "int" | .bool => "bool" | .tuple => "tuple" | .list => "list" | .str => "str"
theorem kit_tab : ∀ (a : String) (t : Ty), a ∈ ["NoneType", "bool", "int", "str", "tuple", "list"] → L2.kitB a t.nm = some (match t with | .int => a == "int" || a == "bool" | .bool => a == "bool" | .tuple => a == "tuple" | .list => a == "list" | .str => a == "str") := by
  intro a t ha
  simp only [List.mem_cons, List.not_mem_nil, or_false] at ha
  rcases ha with rfl | rfl | rfl | rfl | rfl | rfl <;> cases t <;> decide +kernel
theorem kit_d (d : D) (t : Ty) (n : noObj d = true) : L2.kitB (tyN d) t.nm = some (isD d t) := by
  rw [kit_tab (tyN d) t (by cases d <;> first | (simp [tyN]; done) | cases n)]
  cases d <;> first | (cases n; done) | (cases t <;> rfl)
theorem ty_d {K : PySem.W.Frag} {S : Addr → Prop} {H : Hp} {v : V} {d : D} (h : Vd K S H v d) (n : noObj d = true) : TyX K H v (.type (tyN d)) := by
  cases h with
  | ls e h r => subst e; exact .base (.lst h)
  | fz h =>
    cases h with
    | non => exact .base .non
    | bl b => exact .base (.bl b)
    | int b => exact .base (.int b)
    | str b => exact .base (.str b)
    | lst h r => exact .base (.lst h.2)
    | tup h r =>
      rcases h with ⟨_, h | ⟨o, h⟩⟩ | ⟨o, its, n, h1, h2, _⟩
      · exact .base (.tup h)
      · exact .fTuple h
      · exact .kTuple h1 h2
    | obj _ _ _ _ _ => cases n
    | scr h r =>
      rcases h with ⟨_, h | ⟨o, h⟩⟩ | ⟨o, its, n, h1, h2, _⟩
      · exact .base (.lst h)
      · exact .base (.frz h)
      · exact .kList h1 h2
section
variable {X : Cx} {Φ : Calls} {a b c : Expr} {es : List Expr} {pos : Pos} {ia ib ic : E} {ies : Es}
theorem de_isi (t : Ty) {p : Pos} (hg : Gl X "isinstance") (hm : X.mg "isinstance" = none) (hT : PE X b (tC (.ty t.nm))) (ha : PE X a (tD X.K (ev Φ ia)))
    (he : starEach [a, b] X.env = (false, eval a X.env) :: starEach [b] X.env := by rfl) (he2 : starEach [b] X.env = (false, eval b X.env) :: starEach [] X.env := by rfl) (hpl : (PySem.backTo pos (starEach [b] X.env)).any (·.1) = false := by rfl) :
    PE X (.Call (.Name "isinstance" p) [a, b] [] pos) (tD X.K (ev Φ (.bi (.isi t) (.cons ia .nil)))) :=
  peImp (pe_callB call_isi hg hm (by decide +kernel) (pa_cons ha (pa_cons hT pa_nil he2) he) (by decide) (by decide) he hpl) fun σ H Q q => by
    obtain ⟨S, ρ, r, ρ', rel, e, q⟩ := q
    obtain ⟨rs, ds, e1, e2, e3⟩ := bi_split e
    simp only [evrs] at e1
    obtain ⟨y, ρ1, e4, h1⟩ := bnd_eq e1
    obtain ⟨zs, ρ3, e5, h3⟩ := bnd_eq h1
    obtain ⟨q1, q2⟩ := ret_eq e5
    subst q1 q2
    obtain ⟨q1, q2⟩ := ret_eq h3
    subst q1 q2
    obtain ⟨d, v1, e6⟩ : ∃ d, view ρ' y = some d ∧ ds = [d] := by
      rw [List.mapM_cons, List.mapM_nil] at e2
      cases q : view ρ' y with
      | none => rw [q] at e2; cases e2
      | some d => rw [q] at e2; exact ⟨d, rfl, (Option.some.inj e2).symm⟩
    subst e6
    have hn : noObj d = true := by cases d <;> first | rfl | cases e3
    have e3 : some (R.fz (.bl (isD d t))) = some r := by cases d <;> first | exact e3 | cases hn
    cases e3
    exact ⟨S, ρ, y, ρ', rel, e4, fun S1 v H1 g1 rel1 r1 => ⟨v, _, _, _, _, rfl, .ty _, ty_d (r1.view rel1 v1) hn, kit_ty (kit_d d t hn), q S1 _ H1 g1 rel1 (.bl _)⟩⟩
theorem de_tupRg {p : Pos} (hc : X.calm = true) (hg : Gl X "tuple") (hm : X.mg "tuple" = none) (hg2 : Gl X "range") (hm2 : X.mg "range" = none) {p2 pos2 : Pos} (ha : PE X a (tD X.K (ev Φ ia)))
    (na1 : starEach [a] X.env = (false, eval a X.env) :: starEach [] X.env := by rfl)
    (na : starEach [.Call (.Name "range" p2) [a] [] pos2] X.env = (false, eval (.Call (.Name "range" p2) [a] [] pos2) X.env) :: starEach [] X.env := by rfl) :
    PE X (.Call (.Name "tuple" p) [.Call (.Name "range" p2) [a] [] pos2] [] pos) (tD X.K (ev Φ (.bi .tupRng1 (.cons ia .nil)))) :=
  peImp (pe_tupRg hc hg hm (prg_1 hg2 hm2 ha na1) na) fun σ H Q q => by
    obtain ⟨S, ρ, r, ρ', rel, e, q⟩ := q
    obtain ⟨rs, ds, e1, e2, e3⟩ := bi_split e
    simp only [evrs] at e1
    obtain ⟨y, ρ1, e4, h1⟩ := bnd_eq e1
    obtain ⟨zs, ρ3, e5, h3⟩ := bnd_eq h1
    obtain ⟨q1, q2⟩ := ret_eq e5
    subst q1 q2
    obtain ⟨q1, q2⟩ := ret_eq h3
    subst q1 q2
    obtain ⟨d, v1, e6⟩ : ∃ d, view ρ' y = some d ∧ ds = [d] := by
      rw [List.mapM_cons, List.mapM_nil] at e2
      cases q : view ρ' y with
      | none => rw [q] at e2; cases e2
      | some d => rw [q] at e2; exact ⟨d, rfl, (Option.some.inj e2).symm⟩
    subst e6
    cases d <;> (try (cases e3; done))
    rename_i j
    have e3 : (if (small62 j && decide (j.toNat ≤ 16777216)) = true then some (R.fz (.tup (rngL 0 j))) else none) = some r := e3
    split at e3
    · rename_i hz
      cases e3
      obtain ⟨z1, z2⟩ := Bool.and_eq_true _ _ |>.mp hz
      obtain ⟨z3, z4⟩ : -(2 ^ 62) ≤ j ∧ j < 2 ^ 62 := by simpa [small62] using z1
      have z2 := of_decide_eq_true z2
      exact ⟨S, ρ, y, ρ', rel, e4, fun S1 v H1 g1 rel1 r1 => ⟨j, (r1.view rel1 v1).i, ⟨by decide, by decide, z3, z4, by rw [Int.sub_zero]; exact z2⟩, fun p hp => At.fin q ⟨g1, rel1⟩ _ _ _ (.tup hp) (Rp.mkTup hp (rgV_rps 0 j))⟩⟩
    · cases e3
theorem de_tupRg2 {p : Pos} (hc : X.calm = true) (hg : Gl X "tuple") (hm : X.mg "tuple" = none) (hg2 : Gl X "range") (hm2 : X.mg "range" = none) {p2 pos2 : Pos} (ha : PE X a (tD X.K (ev Φ ia))) (hb : PE X b (tD X.K (ev Φ ib)))
    (na1 : starEach [a, b] X.env = (false, eval a X.env) :: starEach [b] X.env := by rfl) (na2 : starEach [b] X.env = (false, eval b X.env) :: starEach [] X.env := by rfl) (hp : (PySem.backTo pos2 (starEach [b] X.env)).any (·.1) = false := by rfl)
    (na : starEach [.Call (.Name "range" p2) [a, b] [] pos2] X.env = (false, eval (.Call (.Name "range" p2) [a, b] [] pos2) X.env) :: starEach [] X.env := by rfl) :
    PE X (.Call (.Name "tuple" p) [.Call (.Name "range" p2) [a, b] [] pos2] [] pos) (tD X.K (ev Φ (.bi .tupRng2 (.cons ia (.cons ib .nil))))) :=
  peImp (pe_tupRg hc hg hm (prg_2 hg2 hm2 ha hb na1 na2 hp) na) fun σ H Q q => by
    obtain ⟨S, ρ, r, ρ', rel, e, q⟩ := q
    obtain ⟨rs, ds, e1, e2, e3⟩ := bi_split e
    simp only [evrs] at e1
    obtain ⟨y, ρ1, e4, h1⟩ := bnd_eq e1
    obtain ⟨ys, ρ2, e5, h2⟩ := bnd_eq h1
    obtain ⟨z, ρ3, e6, h3⟩ := bnd_eq e5
    obtain ⟨zs, ρ4, e7, h4⟩ := bnd_eq h3
    obtain ⟨q1, q2⟩ := ret_eq e7
    subst q1 q2
    obtain ⟨q1, q2⟩ := ret_eq h4
    subst q1 q2
    obtain ⟨q1, q2⟩ := ret_eq h2
    subst q1 q2
    obtain ⟨d, f, v1, v2, e8⟩ : ∃ d f, view ρ' y = some d ∧ view ρ' z = some f ∧ ds = [d, f] := by
      rw [List.mapM_cons, List.mapM_cons, List.mapM_nil] at e2
      cases q : view ρ' y with
      | none => rw [q] at e2; cases e2
      | some d =>
        rw [q] at e2
        cases q3 : view ρ' z with
        | none => rw [q3] at e2; cases e2
        | some f => rw [q3] at e2; exact ⟨d, f, rfl, rfl, (Option.some.inj e2).symm⟩
    subst e8
    cases d <;> (try (cases e3; done))
    cases f <;> (try (cases e3; done))
    rename_i i j
    have e3 : (if (small62 i && small62 j && decide ((j - i).toNat ≤ 16777216)) = true then some (R.fz (.tup (rngL i j))) else none) = some r := e3
    split at e3
    · rename_i hz
      cases e3
      obtain ⟨z1, z2⟩ := Bool.and_eq_true _ _ |>.mp hz
      obtain ⟨z0, z1⟩ := Bool.and_eq_true _ _ |>.mp z1
      obtain ⟨z3, z4⟩ : -(2 ^ 62) ≤ j ∧ j < 2 ^ 62 := by simpa [small62] using z1
      obtain ⟨z5, z6⟩ : -(2 ^ 62) ≤ i ∧ i < 2 ^ 62 := by simpa [small62] using z0
      have z2 := of_decide_eq_true z2
      exact seq2 rel e4 e6 fun S2 H2 v u at2 r1 r2 => ⟨i, j, (r1.view at2.rel v1).i, (r2.view at2.rel v2).i, ⟨z5, z6, z3, z4, z2⟩, fun p hp => At.fin q at2 _ _ _ (.tup hp) (Rp.mkTup hp (rgV_rps i j))⟩
    · cases e3
end

/-! ### the calls of defs -/
/-- a def's promise, where nothing is being shown -/
structure FnG (P : Program) (w : World) (K : PySem.W.Frag) (mg : Str → Option Value) (base : Heap) (CX : CXT) (k : Nat) (f : Addr) (fd : FuncData) (ps : List Str) (sp : Sp) : Prop where
  len : ∀ vs H Q E, sp vs H Q E → vs.length = ps.length
  run : ∀ (A : Around) (outer : List Env) (s : Shared) (H : Hp) (args : Args) (us : List Value) (vs : List V) (Q : VK) (E : XK), Room k A → A.guards = some [] →
    Env0 P w K mg base A outer s H → BindsTo s fd args (ps.zip us) → Vals vs us → sp vs H Q E → codeAny (model P w) A (.call (.ref f) args) (CR CX outer P w H s Q E) s
/-- what a call of the table's def f promises: Φ says it -/
def spD (K : PySem.W.Frag) (Φ : Calls) (f : Nat) : Sp := fun vs H Q _ => ∃ S as r as', Rel K S as (vs.map some) H ∧ Φ f as = some (r, as') ∧ (∀ (i : Nat) (k : Lk) (xs : List D), as[i]? = some (Sl.ls k xs) → k = Lk.bor) ∧
  ∀ S' v H', Go S as (vs.map some) H S' as' (vs.map some) H' → Rel K S' as' (vs.map some) H' → Rn K S' H H' v r → Q v H'
theorem pick_cons {α : Type} {j : Nat} {p : List Nat} {l : List α} {zs : List α} (h : pick (j :: p) l = some zs) : ∃ z r, l[j]? = some z ∧ pick p l = some r ∧ zs = z :: r := by
  unfold pick at h
  rw [List.mapM_cons] at h
  cases e : l[j]? with
  | none => rw [e] at h; cases h
  | some z =>
    rw [e] at h
    cases e2 : pick p l with
    | none =>
      have e3 : List.mapM (fun j => l[j]?) p = none := e2
      rw [e3] at h; cases h
    | some r =>
      have e3 : List.mapM (fun j => l[j]?) p = some r := e2
      rw [e3] at h
      exact ⟨z, r, rfl, rfl, (Option.some.inj h).symm⟩
theorem pick_vals {vs : List V} {us : List Value} (r : Vals vs us) : ∀ {p : List Nat} {zs : List V}, pick p vs = some zs → ∃ ws, pick p us = some ws ∧ Vals zs ws
  | [], zs, h => by cases h; exact ⟨[], rfl, .nil⟩
  | j :: p, zs, h => by
    obtain ⟨z, rr, e1, e2, rfl⟩ := pick_cons h
    obtain ⟨u, eu, ru⟩ := r.get e1
    obtain ⟨ws, ew, rw'⟩ := pick_vals r e2
    refine ⟨u :: ws, ?_, .cons ru rw'⟩
    unfold pick
    rw [List.mapM_cons, eu]
    have e3 : List.mapM (fun j => us[j]?) p = some ws := ew
    show (Option.bind (some u) fun a => (List.mapM (fun j => us[j]?) p).bind fun b => some (a :: b)) = _
    rw [e3] <;> rfl
/-- how a call of n positional arguments and keywords ks binds: perm puts them in the parameters' order -/
def BindP (K : PySem.W.Frag) (fd : FuncData) (ps : List Str) (n : Nat) (ks : List Str) (perm : List Nat) : Prop :=
  ∀ (s : Shared) (us ws zs : List Value), K.In s.heap → us.length = n → ws.length = ks.length → pick perm (us ++ ws) = some zs → BindsTo s fd ⟨us, ks.zip ws⟩ (ps.zip zs)
section
variable {X : Cx} {CX : CXT} {k : Nat} {f : Addr} {fd : FuncData} {ps ks : List Str} {sp : Sp} {x : Str} {p pos : Pos} {e : Expr} {es : List Expr} {kws : List Keyword} {t tk : TA} {perm : List Nat} {n : Nat}
theorem run_fnG {pins : List (Addr × Obj)} {σ : St} {H : Hp} {s : Shared} {Q : VK} {us ws : List Value} {vs ys zs : List V} (F : FnG X.prog X.w X.K X.mg X.base CX k f fd ps sp) (hr : Room k X.A) (hgd : X.A.guards = some []) (hb : BindP X.K fd ps n ks perm) (hx : Passes CX X E0)
    (I : L2.Inv X pins σ H s) (r : Vals vs us) (rz : Vals ys ws) (h1 : us.length = n) (h2 : ws.length = ks.length) (hp : pick perm (vs ++ ys) = some zs) (h : sp zs H Q E0) : wpAny (model X.prog X.w) X.A (call (.ref f) us (ks.zip ws)) (EP X pins σ Q) X.xe s := by
  obtain ⟨qs, eq, rq⟩ := pick_vals (r.append rz) hp
  refine wpAny_call (codeAny_mono (F.run X.A X.stack s H ⟨us, ks.zip ws⟩ qs zs Q E0 hr hgd I.env0 (hb s us ws qs I.kIn h1 h2 eq) rq h) fun r s' hq => ?_)
  cases r with
  | error e => exact hx pins σ H s e s' I hq
  | ok fl => cases fl with
    | ret u => exact I.after hq
    | next => exact False.elim hq
    | brk => exact False.elim hq
    | cont => exact False.elim hq
def tCallP (sp : Sp) (perm : List Nat) (n m : Nat) (t tk : TA) : TE := fun σ H Q => t σ H fun vs H1 => tk σ H1 fun ys H2 => vs.length = n ∧ ys.length = m ∧ ∃ zs, pick perm (vs ++ ys) = some zs ∧ sp zs H2 Q E0
theorem pe_callG (F : FnG X.prog X.w X.K X.mg X.base CX k f fd ps sp) (hr : Room k X.A) (hgd : X.A.guards = some []) (hg : Gl X x) (hm : X.mg x = some (.ref f)) (hk : PySem.W.keepIn X.K (.ref f) = true) (hb : BindP X.K fd ps n [] perm) (hx : Passes CX X E0)
    (ha : PA X (e :: es) t) (hdb : (x == ("__debug__" : Str)) = false := by decide) (he : starEach (e :: es) X.env = (false, eval e X.env) :: starEach es X.env := by rfl) (hpl : (PySem.backTo pos (starEach es X.env)).any (·.1) = false := by rfl) :
    PE X (.Call (.Name x p) (e :: es) [] pos) (tCallP sp perm n 0 t tNil) := by
  refine ⟨fun pins s σ H Q I h => ?_⟩
  refine wpAny_Call_Name_kw (ld_glob I hg hm ?_ hdb)
  refine PySem.W.callWith_K (h₀ := X.base) I.ok.mod.kin hk (thn (ha.run pos pins s σ H _ I h) fun us s1 ⟨vs, H1, I1, r, l1, _, zs, hp, q⟩ => ⟨I1.kIn, ?_⟩) he hpl
  exact run_fnG (us := us) (ks := []) (ws := []) (ys := []) F hr hgd hb hx I1 r .nil (by rw [← r.length]; exact l1) rfl hp q
theorem pe_callG0 (F : FnG X.prog X.w X.K X.mg X.base CX k f fd ps sp) (hr : Room k X.A) (hgd : X.A.guards = some []) (hg : Gl X x) (hm : X.mg x = some (.ref f)) (hk : PySem.W.keepIn X.K (.ref f) = true) (hb : BindP X.K fd ps 0 [] perm) (hx : Passes CX X E0)
    (hdb : (x == ("__debug__" : Str)) = false := by decide) : PE X (.Call (.Name x p) [] [] pos) (tCallP sp perm 0 0 tNil tNil) := by
  refine ⟨fun pins s σ H Q I h => ?_⟩
  obtain ⟨_, _, zs, hp, q⟩ := h
  refine wpAny_Call_Name_kw (ld_glob I hg hm ?_ hdb)
  exact PySem.W.callWith_K0 I.kIn hk (run_fnG (us := []) (vs := []) (ks := []) (ws := []) (ys := []) F hr hgd hb hx I .nil .nil rfl rfl hp q)
theorem pe_callGk (F : FnG X.prog X.w X.K X.mg X.base CX k f fd ps sp) (hr : Room k X.A) (hgd : X.A.guards = some []) (hg : Gl X x) (hm : X.mg x = some (.ref f)) (hk : PySem.W.keepIn X.K (.ref f) = true) (hb : BindP X.K fd ps n ks perm) (hx : Passes CX X E0)
    (ha : PA X (e :: es) t) (hkw : PK X kws tk) (hall : (backToKw pos (keywordEach kws X.env)).all (·.1.isSome) = true := by rfl) (hks : (backToKw pos (keywordEach kws X.env)).filterMap (·.1) = ks := by rfl)
    (hdb : (x == ("__debug__" : Str)) = false := by decide) (he : starEach (e :: es) X.env = (false, eval e X.env) :: starEach es X.env := by rfl)
    (hpl : ((PySem.backTo pos (starEach (e :: es) X.env)).any (·.1) || (backToKw pos (keywordEach kws X.env)).any (·.1.isNone)) = false := by rfl) :
    PE X (.Call (.Name x p) (e :: es) kws pos) (tCallP sp perm n ks.length t tk) := by
  refine ⟨fun pins s σ H Q I h => ?_⟩
  refine wpAny_Call_Name_kw (ld_glob I hg hm ?_ hdb)
  refine PySem.W.callWith_KW (h₀ := X.base) I.ok.mod.kin hk hall (thn (ha.run pos pins s σ H _ I h) fun us s1 ⟨vs, H1, I1, r, q⟩ => ?_) hpl he
  refine thn (hkw.run pos pins s1 σ H1 _ I1 q) fun ws s2 ⟨ys, H2, I2, rz, l1, l2, zs, hp, q2⟩ => ⟨I2.kIn, ?_⟩
  rw [hks]
  exact run_fnG (us := us) F hr hgd hb hx I2 r rz (by rw [← r.length]; exact l1) (by rw [← rz.length]; exact l2) hp q2
theorem pe_callGk0 (F : FnG X.prog X.w X.K X.mg X.base CX k f fd ps sp) (hr : Room k X.A) (hgd : X.A.guards = some []) (hg : Gl X x) (hm : X.mg x = some (.ref f)) (hk : PySem.W.keepIn X.K (.ref f) = true) (hb : BindP X.K fd ps 0 ks perm) (hx : Passes CX X E0)
    (hkw : PK X kws tk) (hall : (backToKw pos (keywordEach kws X.env)).all (·.1.isSome) = true := by rfl) (hks : (backToKw pos (keywordEach kws X.env)).filterMap (·.1) = ks := by rfl)
    (hdb : (x == ("__debug__" : Str)) = false := by decide) (hpl : ((PySem.backTo pos (starEach [] X.env)).any (·.1) || (backToKw pos (keywordEach kws X.env)).any (·.1.isNone)) = false := by rfl) :
    PE X (.Call (.Name x p) [] kws pos) (tCallP sp perm 0 ks.length tNil tk) := by
  refine ⟨fun pins s σ H Q I h => ?_⟩
  refine wpAny_Call_Name_kw (ld_glob I hg hm ?_ hdb)
  refine PySem.W.callWith_KW0 (h₀ := X.base) I.ok.mod.kin hk hall ?_ hpl
  refine thn (hkw.run pos pins s σ H _ I h) fun ws s2 ⟨ys, H2, I2, rz, l1, l2, zs, hp, q2⟩ => ⟨I2.kIn, ?_⟩
  rw [hks]
  exact run_fnG (us := []) (vs := []) F hr hgd hb hx I2 .nil rz rfl (by rw [← rz.length]; exact l2) hp q2
end
end DL

end

section
set_option autoImplicit false
/-! DLg: arguments, and what a call does to the slots. -/
namespace DL
open PySem L2
/-- an evaluated argument -/
def Ra (K : PySem.W.Frag) (S : Addr → Prop) (H₀ : Hp) (ρ : Ev) (σ : St) (H : Hp) (v : V) : A → Prop
  | .val d => Rp K S H v d
  | .rf i => σ[i]? = some (some v)
  | .fr xs => ∃ a vs, v = .ref a ∧ H₀ a = none ∧ H a = some (.lst vs) ∧ ¬ S a ∧ ¬ Own ρ σ a ∧ Rps K S H vs xs
inductive Ras (K : PySem.W.Frag) (S : Addr → Prop) (H₀ : Hp) (ρ : Ev) (σ : St) (H : Hp) : List V → List A → Prop
  | nil : Ras K S H₀ ρ σ H [] []
  | cons {v : V} {vs : List V} {r : A} {rs : List A} : Ra K S H₀ ρ σ H v r → Ras K S H₀ ρ σ H vs rs → Ras K S H₀ ρ σ H (v :: vs) (r :: rs)
abbrev tAs (K : PySem.W.Frag) (m : M (List A)) : TA := tG K (Ras K) m
section
variable {K : PySem.W.Frag} {S S' S1 : Addr → Prop} {ρ ρ' ρ1 ρ2 : Ev} {σ : St} {H H' H1 H₀ : Hp}
theorem Ra.go {v : V} {r : A} (rel : Rel K S ρ σ H) (g : Go S ρ σ H S' ρ' σ H') (h : Ra K S H₀ ρ σ H v r) : Ra K S' H₀ ρ' σ H' v r := by
  cases r with
  | val d => exact Rp.mono (g.ke rel) h
  | fr xs => exact (Rv.go (r := .fr xs) rel g h)
  | rf i => exact h
theorem Ra.base {v : V} {r : A} (st : ∀ a, H₀ a = none → H1 a = none) (h : Ra K S H₀ ρ σ H v r) : Ra K S H1 ρ σ H v r := by
  cases r with
  | val d => exact h
  | fr xs => exact (Rv.base (r := .fr xs) st h)
  | rf i => exact h
theorem Ras.base (st : ∀ a, H₀ a = none → H1 a = none) : ∀ {vs : List V} {rs : List A}, Ras K S H₀ ρ σ H vs rs → Ras K S H1 ρ σ H vs rs
  | _, _, .nil => .nil
  | _, _, .cons h r => .cons (h.base st) (r.base st)
theorem Ras.get : ∀ {vs : List V} {rs : List A} {i : Nat} {r : A}, Ras K S H₀ ρ σ H vs rs → rs[i]? = some r → ∃ v, vs[i]? = some v ∧ Ra K S H₀ ρ σ H v r
  | _, _, i, d, .nil, e => by simp at e
  | _, _, 0, d, .cons h _, e => by simp at e; subst e; exact ⟨_, rfl, h⟩
  | _, _, i + 1, d, .cons _ r, e => by
    obtain ⟨v, h1, h2⟩ := Ras.get (i := i) (r := d) r (by simpa using e)
    exact ⟨v, by simpa using h1, h2⟩
theorem Ras.pick {vs : List V} {rs : List A} (h : Ras K S H₀ ρ σ H vs rs) : ∀ {p : List Nat} {qs : List A}, pick p rs = some qs → ∃ zs, DL.pick p vs = some zs ∧ Ras K S H₀ ρ σ H zs qs
  | [], qs, e => by cases e; exact ⟨[], rfl, .nil⟩
  | j :: p, qs, e => by
    obtain ⟨q, r, e1, e2, rfl⟩ := pick_cons e
    obtain ⟨v, e3, h3⟩ := h.get e1
    obtain ⟨zs, e4, h4⟩ := h.pick e2
    refine ⟨v :: zs, ?_, .cons h3 h4⟩
    unfold DL.pick
    rw [List.mapM_cons, e3]
    have e5 : List.mapM (fun j => vs[j]?) p = some zs := e4
    show (Option.bind (some v) fun a => (List.mapM (fun j => vs[j]?) p).bind fun b => some (a :: b)) = _
    rw [e5] <;> rfl
theorem Ras.length : ∀ {vs : List V} {rs : List A}, Ras K S H₀ ρ σ H vs rs → vs.length = rs.length
  | _, _, .nil => rfl
  | _, _, .cons _ r => congrArg (· + 1) r.length
theorem pick_append {α : Type} {p : List Nat} {l : List α} : pick p (l ++ []) = pick p l := by rw [List.append_nil]

/-- the slots that the arguments make -/
theorem slots_at : ∀ {as : List A} {ss : List Sl} {i : Nat} {a : A}, slotsOf ρ as = some ss → as[i]? = some a → ∃ s, ss[i]? = some s ∧ slotOf ρ a = some s
  | [], _, i, _, _, e => by simp at e
  | x :: r, ss, i, a, h, e => by
    unfold slotsOf at h
    cases e1 : slotOf ρ x with
    | none => rw [e1] at h; cases h
    | some s =>
      rw [e1] at h
      cases e2 : slotsOf ρ r with
      | none => rw [e2] at h; cases h
      | some r' =>
        rw [e2] at h
        cases h
        cases i with
        | zero => simp at e; subst e; exact ⟨s, rfl, e1⟩
        | succ i => simp at e; simpa using slots_at (i := i) e2 e
theorem slots_len : ∀ {as : List A} {ss : List Sl}, slotsOf ρ as = some ss → ss.length = as.length
  | [], _, h => by cases h; rfl
  | x :: r, ss, h => by
    unfold slotsOf at h
    cases e1 : slotOf ρ x with
    | none => rw [e1] at h; cases h
    | some s =>
      rw [e1] at h
      cases e2 : slotsOf ρ r with
      | none => rw [e2] at h; cases h
      | some r' => rw [e2] at h; cases h; exact congrArg (· + 1) (slots_len e2)
theorem slotOf_rf {i : Nat} {s : Sl} (h : slotOf ρ (.rf i) = some s) : ∃ k xs, ρ[i]? = some (.ls k xs) ∧ s = .ls .bor xs ∧ k ≠ .lck := by
  have h : (match ρ[i]? with | some (.ls .own xs) => some (Sl.ls .bor xs) | some (.ls .bor xs) => some (.ls .bor xs) | _ => none) = some s := h
  split at h
  · rename_i xs e; cases h; exact ⟨_, xs, e, rfl, by simp⟩
  · rename_i xs e; cases h; exact ⟨_, xs, e, rfl, by simp⟩
  · cases h
theorem refs_mem : ∀ {as : List A} {i : Nat}, i ∈ refs as ↔ ∃ j : Nat, as[j]? = some (A.rf i)
  | [], i => by simp [refs]
  | .rf j :: r, i => by
    have ih := refs_mem (as := r) (i := i)
    constructor
    · intro h
      rcases List.mem_cons.mp h with rfl | h
      · exact ⟨0, rfl⟩
      · obtain ⟨j, e⟩ := ih.mp h; exact ⟨j + 1, by simpa using e⟩
    · rintro ⟨j, e⟩
      cases j with
      | zero => cases e; exact List.mem_cons_self
      | succ j => exact List.mem_cons_of_mem _ (ih.mpr ⟨j, by simpa using e⟩)
  | .val d :: r, i => by
    have ih := refs_mem (as := r) (i := i)
    constructor
    · intro h; obtain ⟨j, e⟩ := ih.mp h; exact ⟨j + 1, by simpa using e⟩
    · rintro ⟨j, e⟩
      cases j with
      | zero => cases e
      | succ j => exact ih.mpr ⟨j, by simpa using e⟩
  | .fr d :: r, i => by
    have ih := refs_mem (as := r) (i := i)
    constructor
    · intro h; obtain ⟨j, e⟩ := ih.mp h; exact ⟨j + 1, by simpa using e⟩
    · rintro ⟨j, e⟩
      cases j with
      | zero => cases e
      | succ j => exact ih.mpr ⟨j, by simpa using e⟩
theorem refs_inj : ∀ {as : List A} {i j l : Nat}, (refs as).Nodup → as[j]? = some (A.rf i) → as[l]? = some (A.rf i) → j = l
  | [], i, j, l, _, e, _ => by simp at e
  | x :: r, i, 0, 0, _, _, _ => rfl
  | x :: r, i, 0, l + 1, n, e1, e2 => by
    simp at e1; subst e1
    exact absurd (refs_mem.mpr ⟨l, by simpa using e2⟩) (List.nodup_cons.mp n).1
  | x :: r, i, j + 1, 0, n, e1, e2 => by
    simp at e2; subst e2
    exact absurd (refs_mem.mpr ⟨j, by simpa using e1⟩) (List.nodup_cons.mp n).1
  | x :: r, i, j + 1, l + 1, n, e1, e2 => by
    have n' : (refs r).Nodup := by
      cases x with
      | val d => exact n
      | fr d => exact n
      | rf k => exact (List.nodup_cons.mp n).2
    exact congrArg (· + 1) (refs_inj (as := r) (i := i) n' (by simpa using e1) (by simpa using e2))
theorem frs_pos : ∀ {as : List A} {j : Nat} {xs : List D}, as[j]? = some (A.fr xs) → 1 ≤ frs as
  | [], j, _, e => by simp at e
  | x :: r, 0, xs, e => by simp at e; subst e; exact Nat.le_add_left _ _
  | x :: r, j + 1, xs, e => by
    have := frs_pos (as := r) (j := j) (by simpa using e)
    cases x with
    | fr _ => exact Nat.le_add_left _ _
    | val _ => exact this
    | rf _ => exact this
theorem frs_inj : ∀ {as : List A} {j l : Nat} {xs ys : List D}, frs as ≤ 1 → as[j]? = some (A.fr xs) → as[l]? = some (A.fr ys) → j = l
  | [], j, l, _, _, _, e, _ => by simp at e
  | x :: r, 0, 0, _, _, _, _, _ => rfl
  | x :: r, 0, l + 1, xs, ys, n, e1, e2 => by
    simp at e1; subst e1
    have := frs_pos (as := r) (j := l) (by simpa using e2)
    have n : frs r + 1 ≤ 1 := n
    omega
  | x :: r, j + 1, 0, xs, ys, n, e1, e2 => by
    simp at e2; subst e2
    have := frs_pos (as := r) (j := j) (by simpa using e1)
    have n : frs r + 1 ≤ 1 := n
    omega
  | x :: r, j + 1, l + 1, xs, ys, n, e1, e2 => by
    have n' : frs r ≤ 1 := by
      cases x with
      | val d => exact n
      | fr d => exact Nat.le_trans (Nat.le_succ _) n
      | rf k => exact n
    exact congrArg (· + 1) (frs_inj (as := r) (xs := xs) (ys := ys) n' (by simpa using e1) (by simpa using e2))
theorem back_len : ∀ {as : List A} {ss : List Sl} {ρ : Ev}, (putBack as ss ρ).length = ρ.length
  | [], ss, ρ => by unfold putBack; rfl
  | a :: r, [], ρ => by
    cases a <;> (unfold putBack; rfl)
  | .val d :: r, s :: ss, ρ => by
    show (putBack r ss ρ).length = _
    exact back_len
  | .fr d :: r, s :: ss, ρ => by
    show (putBack r ss ρ).length = _
    exact back_len
  | .rf i :: r, .un :: ss, ρ => by
    show (putBack r ss ρ).length = _
    exact back_len
  | .rf i :: r, .fz d :: ss, ρ => by
    show (putBack r ss ρ).length = _
    exact back_len
  | .rf i :: r, .ls k xs :: ss, ρ => by
    show (putBack r ss (match ρ[i]? with | some (.ls k _) => ρ.set i (.ls k xs) | _ => ρ)).length = _
    rw [back_len]
    split
    · rw [List.length_set]
    · rfl
theorem back_out : ∀ {as : List A} {ss : List Sl} {ρ : Ev} {i : Nat}, i ∉ refs as → (putBack as ss ρ)[i]? = ρ[i]?
  | [], ss, ρ, i, _ => by unfold putBack; rfl
  | a :: r, [], ρ, i, _ => by
    cases a <;> (unfold putBack; rfl)
  | .val d :: r, s :: ss, ρ, i, h => by
    show (putBack r ss ρ)[i]? = _
    exact back_out h
  | .fr d :: r, s :: ss, ρ, i, h => by
    show (putBack r ss ρ)[i]? = _
    exact back_out h
  | .rf j :: r, .un :: ss, ρ, i, h => by
    show (putBack r ss ρ)[i]? = _
    exact back_out fun z => h (List.mem_cons_of_mem _ z)
  | .rf j :: r, .fz d :: ss, ρ, i, h => by
    show (putBack r ss ρ)[i]? = _
    exact back_out fun z => h (List.mem_cons_of_mem _ z)
  | .rf j :: r, .ls k xs :: ss, ρ, i, h => by
    show (putBack r ss (match ρ[j]? with | some (.ls k _) => ρ.set j (.ls k xs) | _ => ρ))[i]? = _
    rw [back_out fun z => h (List.mem_cons_of_mem _ z)]
    have hji : j ≠ i := fun z => h (by rw [← z]; exact List.mem_cons_self)
    split
    · rw [List.getElem?_set_ne hji]
    · rfl
theorem back_in : ∀ {as : List A} {ss : List Sl} {ρ : Ev} {i j : Nat} {k l : Lk} {xs ys : List D}, (refs as).Nodup → as[j]? = some (A.rf i) → ss[j]? = some (.ls l ys) → ρ[i]? = some (.ls k xs) → (putBack as ss ρ)[i]? = some (.ls k ys)
  | [], _, _, _, j, _, _, _, _, _, e, _, _ => by simp at e
  | a :: r, [], _, _, j, _, _, _, _, _, _, e, _ => by simp at e
  | .val d :: r, s :: ss, ρ, i, j, k, l, xs, ys, n, e1, e2, e3 => by
    show (putBack r ss ρ)[i]? = _
    cases j with
    | zero => cases e1
    | succ j => exact back_in n (by simpa using e1) (by simpa using e2) e3
  | .fr d :: r, s :: ss, ρ, i, j, k, l, xs, ys, n, e1, e2, e3 => by
    show (putBack r ss ρ)[i]? = _
    cases j with
    | zero => cases e1
    | succ j => exact back_in n (by simpa using e1) (by simpa using e2) e3
  | .rf i' :: r, .un :: ss, ρ, i, j, k, l, xs, ys, n, e1, e2, e3 => by
    show (putBack r ss ρ)[i]? = _
    cases j with
    | zero => cases e2
    | succ j => exact back_in (List.nodup_cons.mp n).2 (by simpa using e1) (by simpa using e2) e3
  | .rf i' :: r, .fz d :: ss, ρ, i, j, k, l, xs, ys, n, e1, e2, e3 => by
    show (putBack r ss ρ)[i]? = _
    cases j with
    | zero => cases e2
    | succ j => exact back_in (List.nodup_cons.mp n).2 (by simpa using e1) (by simpa using e2) e3
  | .rf i' :: r, .ls k' zs :: ss, ρ, i, j, k, l, xs, ys, n, e1, e2, e3 => by
    show (putBack r ss (match ρ[i']? with | some (.ls k _) => ρ.set i' (.ls k zs) | _ => ρ))[i]? = _
    obtain ⟨n1, n2⟩ := List.nodup_cons.mp n
    cases j with
    | zero =>
      cases e1
      cases e2
      rw [back_out n1, e3]
      exact List.getElem?_set_self (List.getElem?_eq_some_iff.mp e3).1
    | succ j =>
      have e1' : r[j]? = some (.rf i) := by simpa using e1
      refine back_in n2 e1' (by simpa using e2) (xs := xs) ?_
      have : i' ≠ i := fun z => n1 (z ▸ refs_mem.mpr ⟨j, e1'⟩)
      split
      · rw [List.getElem?_set_ne this]; exact e3
      · exact e3
end
section
variable {K : PySem.W.Frag} {Φ : Calls} {S S1 : Addr → Prop} {ρ ρ1 ρ2 : Ev} {σ : St} {H H1 : Hp}
/-- THE CALL: from the arguments' values the promise's premise; and back -/
theorem At.call {Q : VK} {f : Nat} {perm : List Nat} {as : List A} {vs : List V} {r : R} (at1 : At K S ρ σ H S1 ρ1 H1) (ra : Ras K S1 H ρ1 σ H1 vs as) (e : callM Φ f perm as ρ1 = .ok r ρ2)
    (hQ : ∀ S' v H', Go S ρ σ H S' ρ2 σ H' → Rel K S' ρ2 σ H' → Rv K S' H ρ2 σ H' v r → Q v H') : ∃ zs, pick perm vs = some zs ∧ spD K Φ f zs H1 Q E0 := by
  unfold callM at e
  cases ep : pick perm as with
  | none => simp only [ep] at e; cases e
  | some bs =>
    simp only [ep] at e
    split at e
    · rename_i hz
      obtain ⟨hn, hf⟩ := hz
      cases es : slotsOf ρ1 bs with
      | none => simp only [es] at e; cases e
      | some ss =>
        simp only [es] at e
        cases eΦ : Φ f ss with
        | none => simp only [eΦ] at e; cases e
        | some rr =>
          obtain ⟨r0, ss'⟩ := rr
          simp only [eΦ] at e
          cases e
          obtain ⟨zs, ez, rz⟩ := ra.pick ep
          refine ⟨zs, ez, S1, ss, r, ss', ?_, eΦ, ?_, ?_⟩
          · -- the arguments stand
            have atZ : ∀ (i : Nat) (s : Sl), ss[i]? = some s → ∃ a v, bs[i]? = some a ∧ zs[i]? = some v ∧ slotOf ρ1 a = some s ∧ Ra K S1 H ρ1 σ H1 v a := fun i s e => by
              have hi : i < bs.length := by rw [← slots_len es]; exact (List.getElem?_eq_some_iff.mp e).1
              obtain ⟨s', e1, e2⟩ := slots_at es (List.getElem?_eq_getElem hi)
              rw [e] at e1; cases e1
              obtain ⟨v, e3, h3⟩ := rz.get (List.getElem?_eq_getElem hi)
              exact ⟨_, v, List.getElem?_eq_getElem hi, e3, e2, h3⟩
            refine ⟨by rw [List.length_map, rz.length, slots_len es], fun i s ov e1 e2 => ?_, fun i j k l xs ys a e1 e2 e3 e4 => ?_, at1.rel.dom⟩
            · obtain ⟨b, v, eb, ev, hs, hv⟩ := atZ i s e1
              rw [List.getElem?_map, ev] at e2
              cases e2
              cases b with
              | val d => cases hs; exact ⟨v, rfl, hv⟩
              | fr xs =>
                cases hs
                obtain ⟨p, ws, ep, h0, h1, h2, h3, h4⟩ := hv
                subst ep
                exact ⟨p, ws, rfl, h1, h2, h4⟩
              | rf l =>
                obtain ⟨k, xs, el, rfl, _⟩ := slotOf_rf hs
                obtain ⟨p, ws, ep, h1, h2, h4⟩ := at1.rel.atL el
                have hv : σ[l]? = some (some v) := hv
                rw [hv] at ep
                cases ep
                exact ⟨p, ws, rfl, h1, h2, h4⟩
            · obtain ⟨b, v, eb, ev, hs, hv⟩ := atZ i _ e1
              obtain ⟨b2, v2, eb2, ev2, hs2, hv2⟩ := atZ j _ e2
              rw [List.getElem?_map, ev] at e3
              rw [List.getElem?_map, ev2] at e4
              cases e3
              cases e4
              cases b with
              | val d => cases hs
              | fr xs' =>
                obtain ⟨p, ws, ep, h0, h1, h2, h3, h4⟩ := hv
                cases ep
                cases b2 with
                | val d => cases hs2
                | fr ys' => exact frs_inj hf eb eb2
                | rf l' =>
                  obtain ⟨k', xs'', el, _, _⟩ := slotOf_rf hs2
                  exact absurd ⟨l', k', xs'', el, hv2⟩ h3
              | rf l =>
                obtain ⟨k', xs'', el, _, _⟩ := slotOf_rf hs
                cases b2 with
                | val d => cases hs2
                | fr ys' =>
                  obtain ⟨p, ws, ep, h0, h1, h2, h3, h4⟩ := hv2
                  cases ep
                  exact absurd ⟨l, k', xs'', el, hv⟩ h3
                | rf l' =>
                  obtain ⟨k3, xs3, el3, _, _⟩ := slotOf_rf hs2
                  have := at1.rel.inj l l' _ _ _ _ _ el el3 hv hv2
                  subst this
                  exact refs_inj hn eb eb2
          · intro i k xs e1
            have hi : i < bs.length := by rw [← slots_len es]; exact (List.getElem?_eq_some_iff.mp e1).1
            obtain ⟨s', e2, e3⟩ := slots_at es (List.getElem?_eq_getElem hi)
            rw [e1] at e2; cases e2
            cases q : bs[i] with
            | val d => rw [q] at e3; cases e3
            | fr d => rw [q] at e3; cases e3; rfl
            | rf l =>
              rw [q] at e3
              obtain ⟨_, _, _, z, _⟩ := slotOf_rf e3
              cases z
              rfl
          · intro S' v H' g rel' rn
            -- facts of the callee's slots
            have hcal : ∀ a, Own ss (zs.map some) a → (∃ i k xs, i ∈ refs bs ∧ ρ1[i]? = some (.ls k xs) ∧ σ[i]? = some (some (V.ref a)) ∧ k ≠ .lck) ∨ (H a = none ∧ ¬ Own ρ1 σ a) := fun a ⟨j, k, xs, e1, e2⟩ => by
              have hi : j < bs.length := by rw [← slots_len es]; exact (List.getElem?_eq_some_iff.mp e1).1
              obtain ⟨s', e3, e4⟩ := slots_at es (List.getElem?_eq_getElem hi)
              rw [e1] at e3; cases e3
              obtain ⟨v', e5, h5⟩ := rz.get (List.getElem?_eq_getElem hi)
              rw [List.getElem?_map, e5] at e2
              cases e2
              cases q : bs[j] with
              | val d => rw [q] at e4; cases e4
              | fr d =>
                rw [q] at h5
                obtain ⟨p, ws, ep, h0, h1, h2, h3, h4⟩ := h5
                cases ep
                exact .inr ⟨h0, h3⟩
              | rf l =>
                rw [q] at h5 e4
                obtain ⟨k', xs', el, _, nl⟩ := slotOf_rf e4
                exact .inl ⟨l, k', xs', refs_mem.mpr ⟨j, by rw [← q]; exact List.getElem?_eq_getElem hi⟩, el, h5, nl⟩
            have hbor : ∀ (j : Nat) (k : Lk) (xs : List D), ss[j]? = some (.ls k xs) → ∃ ys, ss'[j]? = some (.ls .bor ys) := fun j k xs e1 => by
              have hk : k = .bor := by
                have hi : j < bs.length := by rw [← slots_len es]; exact (List.getElem?_eq_some_iff.mp e1).1
                obtain ⟨s', e2, e3⟩ := slots_at es (List.getElem?_eq_getElem hi)
                rw [e1] at e2; cases e2
                cases q : bs[j] with
                | val d => rw [q] at e3; cases e3
                | fr d => rw [q] at e3; cases e3; rfl
                | rf l =>
                  rw [q] at e3
                  obtain ⟨_, _, _, z, _⟩ := slotOf_rf e3
                  cases z
                  rfl
              subst hk
              obtain ⟨ys, e2, _, _⟩ := g.fix j .bor xs e1 (by simp)
              exact ⟨ys, e2⟩
            have nS' : ∀ a, Own ss (zs.map some) a → ¬ S' a := fun a ⟨j, k, xs, e1, e2⟩ => by
              obtain ⟨ys, e3⟩ := hbor j k xs e1
              exact rel'.own_ns ⟨j, .bor, ys, e3, e2⟩
            have nC : ∀ a, H1 a ≠ none → S' a → S1 a := fun a n h => by
              rcases g.new a h with q | q | q
              · exact q
              · exact absurd q n
              · exact absurd h (nS' a q)
            have relC : Rel K S1 ss (zs.map some) H1 → True := fun _ => trivial
            have noC : ∀ a, S1 a → ¬ Own ss (zs.map some) a := fun a h q => by
              rcases hcal a q with ⟨i, k, xs, _, e1, e2, _⟩ | ⟨h0, h1⟩
              · exact at1.rel.own_ns ⟨i, k, xs, e1, e2⟩ h
              · exact nS' a q (g.sub a h)
            have ke : Ke S1 H1 S' H' := ⟨g.sub, fun a o h e1 => g.keep a o e1 (noC a h)⟩
            -- the caller's slots
            have inv : ∀ (i : Nat) (k : Lk) (xs : List D), (putBack bs ss' ρ1)[i]? = some (.ls k xs) → ∃ ys, ρ1[i]? = some (.ls k ys) := fun i k xs e1 => by
              by_cases hi : i ∈ refs bs
              · obtain ⟨j, ej⟩ := refs_mem.mp hi
                obtain ⟨s, e2, e3⟩ := slots_at es ej
                obtain ⟨k', zs', e4, rfl, _⟩ := slotOf_rf e3
                obtain ⟨ys, e5⟩ := hbor j _ _ e2
                rw [back_in hn ej e5 e4] at e1
                cases e1
                exact ⟨zs', e4⟩
              · rw [back_out hi] at e1
                exact ⟨xs, e1⟩
            have fwd : ∀ (i : Nat) (k : Lk) (xs : List D), ρ1[i]? = some (.ls k xs) → ∃ ys, (putBack bs ss' ρ1)[i]? = some (.ls k ys) ∧ (k = .lck → ys = xs) := fun i k xs e1 => by
              by_cases hi : i ∈ refs bs
              · obtain ⟨j, ej⟩ := refs_mem.mp hi
                obtain ⟨s, e2, e3⟩ := slots_at es ej
                obtain ⟨k', zs', e4, rfl, nl⟩ := slotOf_rf e3
                obtain ⟨ys, e5⟩ := hbor j _ _ e2
                rw [e1] at e4
                cases e4
                exact ⟨ys, back_in hn ej e5 e1, fun z => absurd z nl⟩
              · exact ⟨xs, by rw [back_out hi]; exact e1, fun _ => rfl⟩
            have own : ∀ a, Own (putBack bs ss' ρ1) σ a → Own ρ1 σ a := fun a ⟨i, k, xs, e1, e2⟩ => let ⟨ys, e3⟩ := inv i k xs e1; ⟨i, k, ys, e3, e2⟩
            have go2 : Go S ρ σ H S' (putBack bs ss' ρ1) σ H' := ⟨fun a h => g.sub a (at1.go.sub a h), fun a h => ?_, fun a h => at1.go.own a (own a h), fun a o e1 n => ?_, fun a h => at1.go.stay a (g.stay a h), fun i k xs e1 n => ?_⟩
            · refine hQ S' v H' go2 ⟨by rw [back_len]; exact at1.rel.len, fun i s ov e1 e2 => ?_, fun i j k l xs ys a e1 e2 e3 e4 => ?_, rel'.dom⟩ ?_
              · by_cases hi : i ∈ refs bs
                · obtain ⟨j, ej⟩ := refs_mem.mp hi
                  obtain ⟨s2, e3, e4⟩ := slots_at es ej
                  obtain ⟨k', zs', e5, rfl, _⟩ := slotOf_rf e4
                  obtain ⟨ys, e6⟩ := hbor j _ _ e3
                  rw [back_in hn ej e6 e5] at e1
                  cases e1
                  obtain ⟨v', e7, h7⟩ := rz.get ej
                  have h7 : σ[i]? = some (some v') := h7
                  rw [h7] at e2
                  cases e2
                  obtain ⟨p, ws, ep, h1, h2, h4⟩ := rel'.atL e6
                  rw [List.getElem?_map, e7] at ep
                  cases ep
                  exact ⟨p, ws, rfl, h1, h2, h4⟩
                · rw [back_out hi] at e1
                  have w := at1.rel.ok i s ov e1 e2
                  cases s with
                  | un => trivial
                  | fz d => obtain ⟨z, ez, hz⟩ := w; exact ⟨z, ez, hz.mono ke⟩
                  | ls k xs =>
                    obtain ⟨p, ws, ep, h1, h2, h4⟩ := w
                    subst ep
                    have no : ¬ Own ss (zs.map some) p := fun q => by
                      rcases hcal p q with ⟨i', k', xs', hm, q1, q2, _⟩ | ⟨_, q2⟩
                      · have := at1.rel.inj i i' k k' xs xs' p e1 q1 e2 q2
                        exact hi (this ▸ hm)
                      · exact q2 ⟨i, k, xs, e1, e2⟩
                    exact ⟨p, ws, rfl, g.keep p _ h1 no, fun z => h2 (nC p (by rw [h1]; simp) z), h4.mono ke⟩
              · obtain ⟨ys1, q1⟩ := inv i k xs e1
                obtain ⟨ys2, q2⟩ := inv j l ys e2
                exact at1.rel.inj i j k l _ _ a q1 q2 e3 e4
              · cases r with
                | fz d => exact rn
                | rf _ => exact rn.elim
                | fr xs =>
                  obtain ⟨p, ws, ep, h0, h1, h2, h3⟩ := rn
                  refine ⟨p, ws, ep, at1.go.stay p h0, h1, h2, fun q => ?_, h3⟩
                  obtain ⟨us, eu⟩ := at1.rel.own_lst (own p q)
                  rw [eu] at h0
                  cases h0
            · rcases g.new a h with q | q | q
              · exact at1.go.new a q
              · exact .inr (.inl (at1.go.stay a q))
              · exact absurd h (nS' a q)
            · have n1 : ¬ Own ρ1 σ a := fun q => (at1.go.own a q).elim (fun z => by rw [z] at e1; cases e1) n
              refine g.keep a o (at1.go.keep a o e1 n) fun q => ?_
              rcases hcal a q with ⟨i, k, xs, _, q1, q2, _⟩ | ⟨q1, _⟩
              · exact n1 ⟨i, k, xs, q1, q2⟩
              · rw [q1] at e1; cases e1
            · obtain ⟨ys, q1, q2, q3⟩ := at1.go.fix i k xs e1 n
              obtain ⟨zs', q4, q5⟩ := fwd i k ys q1
              exact ⟨zs', q4, q2, fun z => (q5 z).trans (q3 z)⟩
    · cases e
end
end DL

end

section
set_option autoImplicit false
/-! DLh: calls as expressions; append, extend. -/
namespace DL
open PySem L2
section
variable {X : Cx} {Φ : Calls} {a b c : Expr} {es : List Expr} {pos : Pos} {ia ib ic : E} {ies iks : As} {kws : List Keyword}
theorem pkImp {t t' : TA} (h : PK X kws t) (i : ∀ σ H Q, t' σ H Q → t σ H Q) : PK X kws t' := ⟨fun p pins s σ H Q I q => h.run p pins s σ H Q I (i _ _ _ q)⟩
theorem args_nil_read {σ : St} {H : Hp} {Q : List V → Hp → Prop} (q : tAs X.K (evas Φ .nil) σ H Q) : Q [] H := by
  obtain ⟨S, ρ, r, ρ', rel, e, q⟩ := q
  simp only [evas] at e
  obtain ⟨q1, q2⟩ := ret_eq e
  subst q1 q2
  exact q S [] H .refl rel .nil
/-- two parts of an argument list -/
theorem Ras.step {K : PySem.W.Frag} {S S' : Addr → Prop} {H₀ H H' : Hp} {ρ ρ' : Ev} {σ : St} (rel : Rel K S ρ σ H) (g : Go S ρ σ H S' ρ' σ H') : ∀ {vs : List V} {rs : List A}, Ras K S H₀ ρ σ H vs rs → Ras K S' H₀ ρ' σ H' vs rs
  | _, _, .nil => .nil
  | _, _, .cons h r => .cons (h.go rel g) (r.step rel g)
theorem Ras.append {K : PySem.W.Frag} {S : Addr → Prop} {H₀ H : Hp} {ρ : Ev} {σ : St} : ∀ {vs us : List V} {rs ts : List A}, Ras K S H₀ ρ σ H vs rs → Ras K S H₀ ρ σ H us ts → Ras K S H₀ ρ σ H (vs ++ us) (rs ++ ts)
  | _, _, _, _, .nil, s => s
  | _, _, _, _, .cons h r, s => .cons h (r.append s)
theorem val_read {te : TE} {tr : TA} {σ : St} {H : Hp} {Q : List V → Hp → Prop} (q : tAs X.K (evas Φ (.val ia ies)) σ H Q) (h1 : te = tD X.K (ev Φ ia)) (h2 : tr = tAs X.K (evas Φ ies)) : tCons te tr σ H Q := by
  subst h1 h2
  obtain ⟨S, ρ, r, ρ', rel, e, q⟩ := q
  simp only [evas] at e
  obtain ⟨x, ρ1, e1, h1⟩ := bnd_eq e
  obtain ⟨d, ρ2, e2, h2⟩ := bnd_eq h1
  obtain ⟨ds, ρ3, e3, h3⟩ := bnd_eq h2
  obtain ⟨q1, q2⟩ := ret_eq h3
  subst q1 q2
  refine ⟨S, ρ, x, ρ1, rel, e1, fun S1 v H1 g1 rel1 r1 => ?_⟩
  obtain ⟨S2, at2, rp, _⟩ := At.share ⟨g1, rel1⟩ r1 e2
  exact ⟨S2, ρ2, ds, _, at2.rel, e3, fun S3 vs H3 g3 rel3 r3 => q S3 _ H3 (at2.go.trans g3) rel3 (.cons (show Ra X.K S3 H _ σ H3 v (.val d) from rp.mono (g3.ke at2.rel)) (r3.base at2.go.stay))⟩
theorem ref_read {te : TE} {tr : TA} {σ : St} {H : Hp} {Q : List V → Hp → Prop} (q : tAs X.K (evas Φ (.ref ia ies)) σ H Q) (h1 : te = tD X.K (ev Φ ia)) (h2 : tr = tAs X.K (evas Φ ies)) : tCons te tr σ H Q := by
  subst h1 h2
  obtain ⟨S, ρ, r, ρ', rel, e, q⟩ := q
  simp only [evas] at e
  obtain ⟨x, ρ1, e1, h1⟩ := bnd_eq e
  obtain ⟨d, e2, h2⟩ := ofO_split h1
  obtain ⟨ds, ρ3, e3, h3⟩ := bnd_eq h2
  obtain ⟨q1, q2⟩ := ret_eq h3
  subst q1 q2
  refine ⟨S, ρ, x, ρ1, rel, e1, fun S1 v H1 g1 rel1 r1 => ?_⟩
  have w : Ra X.K S1 H ρ1 σ H1 v d := by
    cases x with
    | fz _ => cases e2
    | fr _ => cases e2; exact r1
    | rf _ => cases e2; exact r1
  exact ⟨S1, ρ1, ds, _, rel1, e3, fun S3 vs H3 g3 rel3 r3 => q S3 _ H3 (g1.trans g3) rel3 (.cons (w.go rel1 g3) (r3.base g1.stay))⟩
theorem daa_nil : PA X [] (tAs X.K (evas Φ .nil)) := paImp pa_nil fun σ H Q q => args_nil_read q
theorem daa_val (ha : PE X a (tD X.K (ev Φ ia))) (hr : PA X es (tAs X.K (evas Φ ies))) (hs : starEach (a :: es) X.env = (false, eval a X.env) :: starEach es X.env := by rfl) : PA X (a :: es) (tAs X.K (evas Φ (.val ia ies))) :=
  paImp (pa_cons ha hr hs) fun σ H Q q => val_read q rfl rfl
theorem daa_ref (ha : PE X a (tD X.K (ev Φ ia))) (hr : PA X es (tAs X.K (evas Φ ies))) (hs : starEach (a :: es) X.env = (false, eval a X.env) :: starEach es X.env := by rfl) : PA X (a :: es) (tAs X.K (evas Φ (.ref ia ies))) :=
  paImp (pa_cons ha hr hs) fun σ H Q q => ref_read q rfl rfl
theorem dk_nil : PK X [] (tAs X.K (evas Φ .nil)) := pkImp pk_nil fun σ H Q q => args_nil_read q
theorem dk_val {nm : Option Str} {kpos : Pos} (ha : PE X a (tD X.K (ev Φ ia))) (hr : PK X kws (tAs X.K (evas Φ iks))) : PK X (⟨nm, a, kpos⟩ :: kws) (tAs X.K (evas Φ (.val ia iks))) :=
  pkImp (pk_cons ha hr) fun σ H Q q => val_read q rfl rfl
theorem dk_ref {nm : Option Str} {kpos : Pos} (ha : PE X a (tD X.K (ev Φ ia))) (hr : PK X kws (tAs X.K (evas Φ iks))) : PK X (⟨nm, a, kpos⟩ :: kws) (tAs X.K (evas Φ (.ref ia iks))) :=
  pkImp (pk_cons ha hr) fun σ H Q q => ref_read q rfl rfl
theorem evas_len : ∀ {as : As} {ρ ρ' : Ev} {rs : List A}, evas Φ as ρ = .ok rs ρ' → rs.length = as.len
  | .nil, ρ, ρ', rs, e => by simp only [evas] at e; obtain ⟨q1, _⟩ := ret_eq e; subst q1; rfl
  | .val ia r, ρ, ρ', rs, e => by
    simp only [evas] at e
    obtain ⟨x, ρ1, e1, h1⟩ := bnd_eq e
    obtain ⟨d, ρ2, e2, h2⟩ := bnd_eq h1
    obtain ⟨ds, ρ3, e3, h3⟩ := bnd_eq h2
    obtain ⟨q1, _⟩ := ret_eq h3
    subst q1
    exact congrArg (· + 1) (evas_len e3)
  | .ref ia r, ρ, ρ', rs, e => by
    simp only [evas] at e
    obtain ⟨x, ρ1, e1, h1⟩ := bnd_eq e
    obtain ⟨d, e2, h2⟩ := ofO_split h1
    obtain ⟨ds, ρ3, e3, h3⟩ := bnd_eq h2
    obtain ⟨q1, _⟩ := ret_eq h3
    subst q1
    exact congrArg (· + 1) (evas_len e3)
theorem call_read {f : Nat} {perm : List Nat} {n m : Nat} {σ : St} {H : Hp} {Q : VK} (hn : ies.len = n) (hm : iks.len = m) (q : tD X.K (ev Φ (.call f perm ies iks)) σ H Q) : tCallP (spD X.K Φ f) perm n m (tAs X.K (evas Φ ies)) (tAs X.K (evas Φ iks)) σ H Q := by
  obtain ⟨S, ρ, r, ρ', rel, e, q⟩ := q
  simp only [ev] at e
  obtain ⟨as, ρ1, e1, h1⟩ := bnd_eq e
  obtain ⟨ks, ρ2, e2, h2⟩ := bnd_eq h1
  refine ⟨S, ρ, as, ρ1, rel, e1, fun S1 vs H1 g1 rel1 r1 => ⟨S1, ρ1, ks, ρ2, rel1, e2, fun S2 ys H2 g2 rel2 r2 => ⟨by rw [r1.length, evas_len e1]; exact hn, by rw [r2.length, evas_len e2]; exact hm, ?_⟩⟩⟩
  exact At.call ⟨g1.trans g2, rel2⟩ ((r1.step rel1 g2).append (r2.base g1.stay)) h2 q
variable {CX : CXT} {k : Nat} {f : Addr} {fi : Nat} {fd : FuncData} {ps ks : List Str} {x : Str} {p : Pos} {e : Expr} {perm : List Nat} {n : Nat}
theorem de_call (F : FnG X.prog X.w X.K X.mg X.base CX k f fd ps (spD X.K Φ fi)) (hr : Room k X.A) (hgd : X.A.guards = some []) (hm : X.mg x = some (.ref f)) (hk : PySem.W.keepIn X.K (.ref f) = true) (hb : BindP X.K fd ps n [] perm) (hx : Passes CX X E0) (hg : Gl X x) (ha : PA X (e :: es) (tAs X.K (evas Φ ies))) (hn : ies.len = n := by rfl)
    (hdb : (x == ("__debug__" : Str)) = false := by decide) (he : starEach (e :: es) X.env = (false, eval e X.env) :: starEach es X.env := by rfl) (hpl : (PySem.backTo pos (starEach es X.env)).any (·.1) = false := by rfl) :
    PE X (.Call (.Name x p) (e :: es) [] pos) (tD X.K (ev Φ (.call fi perm ies .nil))) :=
  peImp (pe_callG F hr hgd hg hm hk hb hx ha hdb he hpl) fun σ H Q q => by
    obtain ⟨S, ρ, r, ρ', rel, e, q⟩ := call_read (n := n) (m := 0) hn rfl q
    exact ⟨S, ρ, r, ρ', rel, e, fun S' vs H' g rel' r' => args_nil_read (q S' vs H' g rel' r')⟩
theorem de_call0 (F : FnG X.prog X.w X.K X.mg X.base CX k f fd ps (spD X.K Φ fi)) (hr : Room k X.A) (hgd : X.A.guards = some []) (hm : X.mg x = some (.ref f)) (hk : PySem.W.keepIn X.K (.ref f) = true) (hb : BindP X.K fd ps 0 [] perm) (hx : Passes CX X E0) (hg : Gl X x)
    (hdb : (x == ("__debug__" : Str)) = false := by decide) : PE X (.Call (.Name x p) [] [] pos) (tD X.K (ev Φ (.call fi perm .nil .nil))) :=
  peImp (pe_callG0 F hr hgd hg hm hk hb hx hdb) fun σ H Q q => args_nil_read (args_nil_read (call_read (n := 0) (m := 0) rfl rfl q))
theorem de_callk (F : FnG X.prog X.w X.K X.mg X.base CX k f fd ps (spD X.K Φ fi)) (hr : Room k X.A) (hgd : X.A.guards = some []) (hm : X.mg x = some (.ref f)) (hk : PySem.W.keepIn X.K (.ref f) = true) (hb : BindP X.K fd ps n ks perm) (hx : Passes CX X E0) (hg : Gl X x) (ha : PA X (e :: es) (tAs X.K (evas Φ ies))) (hkw : PK X kws (tAs X.K (evas Φ iks)))
    (hn : ies.len = n := by rfl) (hl : iks.len = ks.length := by rfl) (hall : (backToKw pos (keywordEach kws X.env)).all (·.1.isSome) = true := by rfl) (hks : (backToKw pos (keywordEach kws X.env)).filterMap (·.1) = ks := by rfl)
    (hdb : (x == ("__debug__" : Str)) = false := by decide) (he : starEach (e :: es) X.env = (false, eval e X.env) :: starEach es X.env := by rfl)
    (hpl : ((PySem.backTo pos (starEach (e :: es) X.env)).any (·.1) || (backToKw pos (keywordEach kws X.env)).any (·.1.isNone)) = false := by rfl) :
    PE X (.Call (.Name x p) (e :: es) kws pos) (tD X.K (ev Φ (.call fi perm ies iks))) :=
  peImp (pe_callGk F hr hgd hg hm hk hb hx ha hkw hall hks hdb he hpl) fun σ H Q q => call_read hn hl q
theorem de_callk0 (F : FnG X.prog X.w X.K X.mg X.base CX k f fd ps (spD X.K Φ fi)) (hr : Room k X.A) (hgd : X.A.guards = some []) (hm : X.mg x = some (.ref f)) (hk : PySem.W.keepIn X.K (.ref f) = true) (hb : BindP X.K fd ps 0 ks perm) (hx : Passes CX X E0) (hg : Gl X x) (hkw : PK X kws (tAs X.K (evas Φ iks)))
    (hl : iks.len = ks.length := by rfl) (hall : (backToKw pos (keywordEach kws X.env)).all (·.1.isSome) = true := by rfl) (hks : (backToKw pos (keywordEach kws X.env)).filterMap (·.1) = ks := by rfl)
    (hdb : (x == ("__debug__" : Str)) = false := by decide) (hpl : ((PySem.backTo pos (starEach [] X.env)).any (·.1) || (backToKw pos (keywordEach kws X.env)).any (·.1.isNone)) = false := by rfl) :
    PE X (.Call (.Name x p) [] kws pos) (tD X.K (ev Φ (.call fi perm .nil iks))) :=
  peImp (pe_callGk0 F hr hgd hg hm hk hb hx hkw hall hks hdb hpl) fun σ H Q q => args_nil_read (call_read (n := 0) rfl hl q)
end

/-! ### a list is changed in place -/
section
variable {K : PySem.W.Frag} {S S1 : Addr → Prop} {ρ ρ1 ρ2 : Ev} {σ : St} {H H1 : Hp}
theorem putL_eq {i : Nat} {xs : List D} {u : Unit} (h : putL i xs ρ = .ok u ρ1) : ∃ k ys, ρ[i]? = some (.ls k ys) ∧ k ≠ .lck ∧ ρ1 = ρ.set i (.ls k xs) := by
  unfold putL at h
  split at h
  · rename_i ys e; cases h; exact ⟨_, ys, e, by simp, rfl⟩
  · rename_i ys e; cases h; exact ⟨_, ys, e, by simp, rfl⟩
  · cases h
theorem getL_eq {i : Nat} {xs : List D} (h : getL i ρ = .ok xs ρ1) : ρ1 = ρ ∧ ∃ k, ρ[i]? = some (.ls k xs) := by
  unfold getL at h
  split at h
  · rename_i k ys e; cases h; exact ⟨rfl, k, e⟩
  · cases h
/-- the list of slot i gets the items xs; its object vs -/
theorem At.put {i : Nat} {k : Lk} {ys xs : List D} {a : Addr} {vs : List V} (at1 : At K S ρ σ H S1 ρ1 H1) (e : ρ1[i]? = some (.ls k ys)) (nk : k ≠ .lck) (ea : σ[i]? = some (some (V.ref a))) (hv : Rps K S1 H1 vs xs) :
    At K S ρ σ H S1 (ρ1.set i (.ls k xs)) (upd H1 a (.lst vs)) := by
  have hi : i < ρ1.length := (List.getElem?_eq_some_iff.mp e).1
  obtain ⟨b, us, eb, h1, h2, h4⟩ := at1.rel.atL e
  rw [ea] at eb; cases eb
  have na : ∀ b, S1 b → b ≠ a := fun b h z => h2 (z ▸ h)
  have ke : Ke S1 H1 S1 (upd H1 a (.lst vs)) := ⟨fun _ h => h, fun b o h e => by rw [upd_ne (na b h)]; exact e⟩
  have inv : ∀ (j : Nat) (l : Lk) (zs : List D), (ρ1.set i (.ls k xs))[j]? = some (.ls l zs) → ∃ zs', ρ1[j]? = some (.ls l zs') := fun j l zs e1 => by
    by_cases hj : i = j
    · subst hj
      rw [List.getElem?_set_self hi] at e1
      cases e1
      exact ⟨ys, e⟩
    · rw [List.getElem?_set_ne hj] at e1
      exact ⟨zs, e1⟩
  have own : ∀ b, Own (ρ1.set i (.ls k xs)) σ b → Own ρ1 σ b := fun b ⟨j, l, zs, e1, e2⟩ => let ⟨zs', e3⟩ := inv j l zs e1; ⟨j, l, zs', e3, e2⟩
  have oa : Own ρ1 σ a := ⟨i, k, ys, e, ea⟩
  refine ⟨⟨at1.go.sub, at1.go.new, fun b h => at1.go.own b (own b h), fun b o h n => ?_, fun b h => ?_, fun j l zs e1 n => ?_⟩, ⟨by rw [List.length_set]; exact at1.rel.len, fun j s ov e1 e2 => ?_, fun j j' l l' zs zs' b e1 e2 e3 e4 => ?_, fun b h => ?_⟩⟩
  · have hb : b ≠ a := fun z => by
      subst z
      exact (at1.go.own b oa).elim (fun z => by rw [z] at h; cases h) n
    rw [upd_ne hb]
    exact at1.go.keep b o h n
  · by_cases hb : b = a
    · rw [hb, upd_same] at h; cases h
    · rw [upd_ne hb] at h; exact at1.go.stay b h
  · obtain ⟨ws, q1, q2, q3⟩ := at1.go.fix j l zs e1 n
    by_cases hj : i = j
    · subst hj
      rw [e] at q1
      cases q1
      exact ⟨xs, by rw [List.getElem?_set_self hi], q2, fun z => absurd z nk⟩
    · exact ⟨ws, by rw [List.getElem?_set_ne hj]; exact q1, q2, q3⟩
  · by_cases hj : i = j
    · subst hj
      rw [List.getElem?_set_self hi] at e1
      cases e1
      rw [ea] at e2
      cases e2
      exact ⟨a, vs, rfl, upd_same, h2, hv.mono ke⟩
    · rw [List.getElem?_set_ne hj] at e1
      have w := at1.rel.ok j s ov e1 e2
      cases s with
      | un => trivial
      | fz d => obtain ⟨z, ez, hz⟩ := w; exact ⟨z, ez, hz.mono ke⟩
      | ls l zs =>
        obtain ⟨b, ws, eb, q1, q2, q3⟩ := w
        subst eb
        have hb : b ≠ a := fun z => hj (at1.rel.inj i j k l ys zs a e e1 ea (z ▸ e2))
        exact ⟨b, ws, rfl, by rw [upd_ne hb]; exact q1, q2, q3.mono ke⟩
  · obtain ⟨z1, q1⟩ := inv j l zs e1
    obtain ⟨z2, q2⟩ := inv j' l' zs' e2
    exact at1.rel.inj j j' l l' _ _ b q1 q2 e3 e4
  · by_cases hb : b = a
    · rw [hb, upd_same]; simp
    · rw [upd_ne hb]; exact at1.rel.dom b h
end
section
variable {X : Cx} {Φ : Calls} {a b : Expr} {ia ib : E} {apos cpos : Pos}
theorem Rel.ls {K : PySem.W.Frag} {S : Addr → Prop} {ρ : Ev} {σ : St} {H : Hp} {i : Nat} {xs : List D} {ρ1 : Ev} (rel : Rel K S ρ σ H) (e : getL i ρ = .ok xs ρ1) : ρ1 = ρ ∧ ∃ p ws k, σ[i]? = some (some (V.ref p)) ∧ H p = some (.lst ws) ∧ ¬ S p ∧ Rps K S H ws xs ∧ ρ[i]? = some (.ls k xs) := by
  obtain ⟨q, k, e1⟩ := getL_eq e
  obtain ⟨p, ws, e2, h1, h2, h3⟩ := rel.atL e1
  exact ⟨q, p, ws, k, e2, h1, h2, h3, e1⟩
theorem de_app {i : Nat} (ha : PE X a (tVar i)) (hb : PE X b (tD X.K (ev Φ ib)))
    (hbase : attributeBase a "append" X.env (eval a X.env) = eval a X.env := by rfl)
    (h1 : ((((PySem.backTo cpos (starEach [b] X.env)).all fun x => !x.1) && (backToKw cpos (keywordEach [] X.env)).all fun x => x.1.isSome) && decide (([b].length + ([] : List Keyword).length + if ([] : List Keyword).isEmpty = true then 0 else 1) < 30)) = true := by rfl)
    (h2 : (apos.endLine == cpos.line) = true := by rfl) (h3 : starEach [b] X.env = (false, eval b X.env) :: starEach [] X.env := by rfl) (h4 : ((PySem.backTo cpos (starEach [] X.env)).any fun x => x.1) = false := by rfl) :
    PE X (.Call (.Attribute a "append" apos) [b] [] cpos) (tD X.K (ev Φ (.app i ib))) :=
  peImp (pe_bm PySem.F.plainAttrs_list PySem.F.slot_list_append PySem.F.type_list_append mt_append ha (pa_cons hb pa_nil h3) hbase h1 h2 h3 h4) fun σ H Q q => by
    obtain ⟨S, ρ, r, ρ', rel, e, q⟩ := q
    simp only [ev] at e
    obtain ⟨x0, ρ1, e1, k1⟩ := bnd_eq e
    obtain ⟨q0, p, ws, k0, e0, g0, _, _, _⟩ := rel.ls e1
    subst q0
    obtain ⟨y, ρ2, e2, k2⟩ := bnd_eq k1
    obtain ⟨d, ρ3, e3, k3⟩ := bnd_eq k2
    obtain ⟨xs, ρ4, e4, k4⟩ := bnd_eq k3
    obtain ⟨q4, kk, e4'⟩ := getL_eq e4
    subst q4
    split at k4
    · rename_i hz
      obtain ⟨u, ρ5, e5, k5⟩ := bnd_eq k4
      obtain ⟨l, ys, e6, nk, q5⟩ := putL_eq e5
      subst q5
      obtain ⟨q1, q2⟩ := ret_eq k5
      subst q1 q2
      rw [e4'] at e6
      cases e6
      refine ⟨_, e0, .inl ⟨rfl, ws, .inl (.inl g0)⟩, S, ρ1, y, ρ2, rel, e2, fun S2 u2 H2 g2 rel2 r2 => ?_⟩
      obtain ⟨S3, at3, rp, ke⟩ := At.share ⟨g2, rel2⟩ r2 e3
      obtain ⟨p3, ws3, ep3, h3', _, rr3⟩ := at3.rel.atL e4'
      rw [e0] at ep3
      cases ep3
      have fin := at3.put e4' nk e0 (rr3.append (.cons rp .nil))
      exact ⟨p, ws3, u2, rfl, rfl, h3', by rw [rr3.length]; exact hz, q S3 _ _ fin.go fin.rel .non⟩
    · cases k4
theorem de_ext {i : Nat} (ha : PE X a (tVar i)) (hb : PE X b (tD X.K (ev Φ ib)))
    (hbase : attributeBase a "extend" X.env (eval a X.env) = eval a X.env := by rfl)
    (h1 : ((((PySem.backTo cpos (starEach [b] X.env)).all fun x => !x.1) && (backToKw cpos (keywordEach [] X.env)).all fun x => x.1.isSome) && decide (([b].length + ([] : List Keyword).length + if ([] : List Keyword).isEmpty = true then 0 else 1) < 30)) = true := by rfl)
    (h2 : (apos.endLine == cpos.line) = true := by rfl) (h3 : starEach [b] X.env = (false, eval b X.env) :: starEach [] X.env := by rfl) (h4 : ((PySem.backTo cpos (starEach [] X.env)).any fun x => x.1) = false := by rfl) :
    PE X (.Call (.Attribute a "extend" apos) [b] [] cpos) (tD X.K (ev Φ (.ext i ib))) :=
  peImp (pe_bm PySem.F.plainAttrs_list PySem.F.slot_list_extend PySem.F.type_list_extend mt_extend ha (pa_cons hb pa_nil h3) hbase h1 h2 h3 h4) fun σ H Q q => by
    obtain ⟨S, ρ, r, ρ', rel, e, q⟩ := q
    simp only [ev] at e
    obtain ⟨x0, ρ1, e1, k1⟩ := bnd_eq e
    obtain ⟨q0, p, ws, k0, e0, g0, _, _, _⟩ := rel.ls e1
    subst q0
    obtain ⟨y, ρ2, e2, k2⟩ := bnd_eq k1
    obtain ⟨d, v1, k3⟩ := vw1_split k2
    cases d <;> (try (cases k3; done))
    rename_i zs
    obtain ⟨xs, ρ4, e4, k4⟩ := bnd_eq k3
    obtain ⟨q4, kk, e4'⟩ := getL_eq e4
    subst q4
    split at k4
    · rename_i hz
      obtain ⟨u, ρ5, e5, k5⟩ := bnd_eq k4
      obtain ⟨l, ys, e6, nk, q5⟩ := putL_eq e5
      subst q5
      obtain ⟨q1, q2⟩ := ret_eq k5
      subst q1 q2
      rw [e4'] at e6
      cases e6
      refine ⟨_, e0, .inl ⟨rfl, ws, .inl (.inl g0)⟩, S, ρ1, y, _, rel, e2, fun S2 u2 H2 g2 rel2 r2 => ?_⟩
      obtain ⟨pz, wz, ez, hz2, rz⟩ := (r2.view rel2 v1).l
      subst ez
      obtain ⟨p3, ws3, ep3, h3', _, rr3⟩ := rel2.atL e4'
      rw [e0] at ep3
      cases ep3
      have fin := At.put ⟨g2, rel2⟩ e4' nk e0 (rr3.append rz)
      exact ⟨p, pz, ws3, wz, rfl, rfl, h3', hz2, by rw [rr3.length, rz.length]; exact hz, q S2 _ _ fin.go fin.rel .non⟩
    · cases k4
end
end DL

end

section
set_option autoImplicit false
/-! DLi: targets. -/
namespace DL
open PySem L2
section
variable {K : PySem.W.Frag} {S S1 : Addr → Prop} {ρ ρ1 ρ2 : Ev} {σ : St} {H H1 : Hp}
/-- a slot that may be written -/
def Wr (ρ : Ev) (i : Nat) : Prop := ∃ s, ρ[i]? = some s ∧ ∀ k xs, s = .ls k xs → k = .own
theorem setD_eq {i : Nat} {d : D} {u : Unit} (h : setD i d ρ = .ok u ρ1) : Wr ρ i ∧ ρ1 = ρ.set i (.fz d) := by
  unfold setD at h
  split at h
  · rename_i e; cases h; exact ⟨⟨_, e, fun k xs z => (nomatch z)⟩, rfl⟩
  · rename_i e; cases h; exact ⟨⟨_, e, fun k xs z => (nomatch z)⟩, rfl⟩
  · rename_i e; cases h; exact ⟨⟨_, e, fun k xs z => by cases z; rfl⟩, rfl⟩
  · cases h
theorem setL_eq {i : Nat} {d : List D} {u : Unit} (h : setL i d ρ = .ok u ρ1) : Wr ρ i ∧ ρ1 = ρ.set i (.ls .own d) := by
  unfold setL at h
  split at h
  · rename_i e; cases h; exact ⟨⟨_, e, fun k xs z => (nomatch z)⟩, rfl⟩
  · rename_i e; cases h; exact ⟨⟨_, e, fun k xs z => (nomatch z)⟩, rfl⟩
  · rename_i e; cases h; exact ⟨⟨_, e, fun k xs z => by cases z; rfl⟩, rfl⟩
  · cases h
/-- the state, the slots turning too -/
structure Ac (K : PySem.W.Frag) (S : Addr → Prop) (ρ : Ev) (σ : St) (H : Hp) (S1 : Addr → Prop) (ρ1 : Ev) (σ1 : St) (H1 : Hp) : Prop where
  go : Go S ρ σ H S1 ρ1 σ1 H1
  rel : Rel K S1 ρ1 σ1 H1
theorem Ac.start (r : Rel K S ρ σ H) : Ac K S ρ σ H S ρ σ H := ⟨.refl, r⟩
theorem At.ac (a : At K S ρ σ H S1 ρ1 H1) : Ac K S ρ σ H S1 ρ1 σ H1 := ⟨a.go, a.rel⟩
variable {σ1 σ2 : St} {S2 : Addr → Prop} {H2 : Hp}
theorem Ac.trans (a : Ac K S ρ σ H S1 ρ1 σ1 H1) (b : Ac K S1 ρ1 σ1 H1 S2 ρ2 σ2 H2) : Ac K S ρ σ H S2 ρ2 σ2 H2 := ⟨a.go.trans b.go, b.rel⟩
/-- a name gets frozen data -/
theorem Ac.setD {i : Nat} {d : D} {v : V} (at1 : Ac K S ρ σ H S1 ρ1 σ1 H1) (w : Wr ρ1 i) (r : Rp K S1 H1 v d) : Ac K S ρ σ H S1 (ρ1.set i (.fz d)) (σ1.set i (some v)) H1 := by
  obtain ⟨s, es, hs⟩ := w
  have hi : i < ρ1.length := (List.getElem?_eq_some_iff.mp es).1
  have hj : i < σ1.length := by rw [← at1.rel.len]; exact hi
  have inv : ∀ (j : Nat) (k : Lk) (xs : List D) (a : Addr), (ρ1.set i (.fz d))[j]? = some (.ls k xs) → (σ1.set i (some v))[j]? = some (some (V.ref a)) → i ≠ j ∧ ρ1[j]? = some (.ls k xs) ∧ σ1[j]? = some (some (V.ref a)) := fun j k xs a e1 e2 => by
    by_cases h : i = j
    · subst h
      rw [List.getElem?_set_self hi] at e1
      cases e1
    · rw [List.getElem?_set_ne h] at e1 e2
      exact ⟨h, e1, e2⟩
  have own : ∀ a, Own (ρ1.set i (.fz d)) (σ1.set i (some v)) a → Own ρ1 σ1 a := fun a ⟨j, k, xs, e1, e2⟩ => let ⟨_, q1, q2⟩ := inv j k xs a e1 e2; ⟨j, k, xs, q1, q2⟩
  refine ⟨⟨at1.go.sub, at1.go.new, fun a h => at1.go.own a (own a h), at1.go.keep, at1.go.stay, fun j k xs e1 n => ?_⟩, ⟨by rw [List.length_set, List.length_set]; exact at1.rel.len, fun j s' ov e1 e2 => ?_, fun j l k k' xs ys a e1 e2 e3 e4 => ?_, at1.rel.dom⟩⟩
  · obtain ⟨ys, q1, q2, q3⟩ := at1.go.fix j k xs e1 n
    have h : i ≠ j := fun z => by rw [← z, es] at q1; cases q1; exact n (hs _ _ rfl)
    exact ⟨ys, by rw [List.getElem?_set_ne h]; exact q1, by rw [List.getElem?_set_ne h]; exact q2, q3⟩
  · by_cases h : i = j
    · subst h
      rw [List.getElem?_set_self hi] at e1
      rw [List.getElem?_set_self hj] at e2
      cases e1
      cases e2
      exact ⟨v, rfl, r⟩
    · rw [List.getElem?_set_ne h] at e1 e2
      exact at1.rel.ok j s' ov e1 e2
  · obtain ⟨_, q1, q2⟩ := inv j k xs a e1 e3
    obtain ⟨_, q3, q4⟩ := inv l k' ys a e2 e4
    exact at1.rel.inj j l k k' xs ys a q1 q3 q2 q4
/-- a name gets a fresh list -/
theorem Ac.setL {i : Nat} {xs : List D} {v : V} (at1 : Ac K S ρ σ H S1 ρ1 σ1 H1) (w : Wr ρ1 i) (r : Rv K S1 H ρ1 σ1 H1 v (.fr xs)) : Ac K S ρ σ H S1 (ρ1.set i (.ls .own xs)) (σ1.set i (some v)) H1 := by
  obtain ⟨s, es, hs⟩ := w
  have hi : i < ρ1.length := (List.getElem?_eq_some_iff.mp es).1
  have hj : i < σ1.length := by rw [← at1.rel.len]; exact hi
  obtain ⟨p, vs, ev, h0, h1, h2, h3, h4⟩ := r
  subst ev
  have inv : ∀ (j : Nat) (k : Lk) (ys : List D) (a : Addr), (ρ1.set i (.ls .own xs))[j]? = some (.ls k ys) → (σ1.set i (some (V.ref p)))[j]? = some (some (V.ref a)) → (i = j ∧ a = p) ∨ (i ≠ j ∧ ρ1[j]? = some (.ls k ys) ∧ σ1[j]? = some (some (V.ref a))) := fun j k ys a e1 e2 => by
    by_cases h : i = j
    · subst h
      rw [List.getElem?_set_self hj] at e2
      cases e2
      exact .inl ⟨rfl, rfl⟩
    · rw [List.getElem?_set_ne h] at e1 e2
      exact .inr ⟨h, e1, e2⟩
  refine ⟨⟨at1.go.sub, at1.go.new, fun a ⟨j, k, ys, e1, e2⟩ => ?_, at1.go.keep, at1.go.stay, fun j k xs e1 n => ?_⟩, ⟨by rw [List.length_set, List.length_set]; exact at1.rel.len, fun j s' ov e1 e2 => ?_, fun j l k k' xs ys a e1 e2 e3 e4 => ?_, at1.rel.dom⟩⟩
  · rcases inv j k ys a e1 e2 with ⟨_, rfl⟩ | ⟨_, q1, q2⟩
    · exact .inl h0
    · exact at1.go.own a ⟨j, k, ys, q1, q2⟩
  · obtain ⟨ys, q1, q2, q3⟩ := at1.go.fix j k xs e1 n
    have h : i ≠ j := fun z => by rw [← z, es] at q1; cases q1; exact n (hs _ _ rfl)
    exact ⟨ys, by rw [List.getElem?_set_ne h]; exact q1, by rw [List.getElem?_set_ne h]; exact q2, q3⟩
  · by_cases h : i = j
    · subst h
      rw [List.getElem?_set_self hi] at e1
      rw [List.getElem?_set_self hj] at e2
      cases e1
      cases e2
      exact ⟨p, vs, rfl, h1, h2, h4⟩
    · rw [List.getElem?_set_ne h] at e1 e2
      exact at1.rel.ok j s' ov e1 e2
  · rcases inv j k xs a e1 e3 with ⟨z1, z2⟩ | ⟨n1, q1, q2⟩
    · rcases inv l k' ys a e2 e4 with ⟨z3, _⟩ | ⟨n3, q3, q4⟩
      · exact z1.symm.trans z3
      · subst z2
        exact absurd ⟨l, k', ys, q3, q4⟩ h3
    · rcases inv l k' ys a e2 e4 with ⟨z3, z4⟩ | ⟨n3, q3, q4⟩
      · subst z4
        exact absurd ⟨j, k, xs, q1, q2⟩ h3
      · exact at1.rel.inj j l k k' xs ys a q1 q3 q2 q4
/-- sharing, with slots that have turned -/
theorem Ac.share {v : V} {x : R} {d : D} (a : Ac K S ρ σ H S1 ρ1 σ1 H1) (r : Rv K S1 H ρ1 σ1 H1 v x) (e : DL.share x ρ1 = .ok d ρ2) : ∃ S2, Ac K S ρ σ H S2 ρ2 σ1 H1 ∧ Rp K S2 H1 v d ∧ Ke S1 H1 S2 H1 := by
  -- the part from the last state on, over the heap at the start for what is new
  cases x with
  | fz d' =>
    obtain ⟨q1, q2⟩ := ret_eq e
    subst q1 q2
    exact ⟨S1, a, r, fun _ h => h, fun _ _ _ h => h⟩
  | fr xs =>
    obtain ⟨q1, q2⟩ := ret_eq e
    subst q1 q2
    obtain ⟨p, vs, ev, h0, h1, h2, h3, h4⟩ := r
    have ke : Ke S1 H1 (fun z => S1 z ∨ z = p) H1 := ⟨fun _ h => .inl h, fun _ _ _ h => h⟩
    refine ⟨fun z => S1 z ∨ z = p, ⟨⟨fun z h => .inl (a.go.sub z h), fun z h => ?_, a.go.own, a.go.keep, a.go.stay, a.go.fix⟩, ⟨a.rel.len, fun i s ov e1 e2 => ?_, a.rel.inj, fun z h => ?_⟩⟩, ?_, ke⟩
    · rcases h with h | h
      · exact a.go.new z h
      · rw [h]; exact .inr (.inl h0)
    · have q := a.rel.ok i s ov e1 e2
      cases s with
      | un => trivial
      | fz d => obtain ⟨w, ew, hw⟩ := q; exact ⟨w, ew, hw.mono ke⟩
      | ls k ys =>
        obtain ⟨b, us, eb, hb, nb, rb⟩ := q
        subst eb
        exact ⟨b, us, rfl, hb, fun z => z.elim nb fun z => h3 (z ▸ ⟨i, k, ys, e1, e2⟩), rb.mono ke⟩
    · rcases h with h | h
      · exact a.rel.dom z h
      · rw [h, h1]; simp
    · rw [ev]
      exact .lst ⟨.inr rfl, h1⟩ (h4.mono ke)
  | rf i =>
    -- the slot's own step
    obtain ⟨S2, at2, rp, ke⟩ := At.share (At.start a.rel) (x := .rf i) r e
    exact ⟨S2, a.trans at2.ac, rp, ke⟩
end
/-- only these slots have turned -/
def Sw (sl : List Nat) (σ σ' : St) : Prop := σ'.length = σ.length ∧ ∀ j, j ∉ sl → σ'[j]? = σ[j]?
/-- a target that gets frozen data -/
def gD (K : PySem.W.Frag) (sl : List Nat) (m : D → M Unit) : TG := fun v σ H Q => ∃ S ρ d ρ', Rel K S ρ σ H ∧ Rp K S H v d ∧ m d ρ = .ok () ρ' ∧
  ∀ S' σ' H', Ac K S ρ σ H S' ρ' σ' H' → Sw sl σ σ' → Q σ' H'
def gDs (K : PySem.W.Frag) (sl : List Nat) (m : List D → M Unit) : TGs := fun vs σ H Q => ∃ S ρ ds ρ', Rel K S ρ σ H ∧ Rps K S H vs ds ∧ m ds ρ = .ok () ρ' ∧
  ∀ S' σ' H', Ac K S ρ σ H S' ρ' σ' H' → Sw sl σ σ' → Q σ' H'
theorem pgImp {X : Cx} {e : Expr} {t t' : TG} (h : PG X e t) (i : ∀ v σ H Q, t' v σ H Q → t v σ H Q) : PG X e t' := ⟨fun pins s σ H v u Q I r q => h.run pins s σ H v u Q I r (i _ _ _ _ q)⟩
theorem pgsImp {X : Cx} {e : List Expr} {t t' : TGs} (h : PGs X e t) (i : ∀ v σ H Q, t' v σ H Q → t v σ H Q) : PGs X e t' := ⟨fun pins s σ H v u Q I r q => h.run pins s σ H v u Q I r (i _ _ _ _ q)⟩
section
variable {X : Cx} {Φ : Calls} {a b : Expr} {es : List Expr} {pos : Pos} {ib : E} {tg : Tg} {tgs : Tgs}
theorem dg_nm {i : Nat} {e : Expr} (h : PG X e (gName i)) : PG X e (gD X.K (Tg.nm i).slots (asgn Φ (.nm i))) := pgImp h fun v σ H Q q => by
  obtain ⟨S, ρ, d, ρ', rel, r, e, q⟩ := q
  simp only [asgn] at e
  obtain ⟨w, q1⟩ := setD_eq e
  subst q1
  refine q S _ H ((Ac.start rel).setD w r) ⟨List.length_set, fun j hj => ?_⟩
  have : i ≠ j := fun z => hj (by rw [z]; exact List.mem_singleton.mpr rfl)
  rw [List.getElem?_set_ne this]
theorem dg_sub {i : Nat} (ha : PE X a (tVar i)) (hb : PE X b (tD X.K (ev Φ ib)))
    (hp : ∀ (v : Value), assign (.Subscript a b pos) X.env v = (do
      let ov ← holding [v] (eval a X.env)
      let iv ← holding [v, ov] (eval b X.env)
      standAt pos
      holding [v, ov, iv] (setItem ov iv v)
      release [v, ov, iv] []) := by intro _; rfl) : PG X (.Subscript a b pos) (gD X.K (Tg.sub i ib).slots (asgn Φ (.sub i ib))) := pgImp (pg_sub ha hb set_list hp) fun v σ H Q q => by
  obtain ⟨S, ρ, d, ρ', rel, r, e, q⟩ := q
  simp only [asgn] at e
  obtain ⟨x0, ρ1, e1, k1⟩ := bnd_eq e
  obtain ⟨q0, p, ws, k0, e0, g0, _, _, _⟩ := rel.ls e1
  subst q0
  obtain ⟨y, ρ2, e2, k2⟩ := bnd_eq k1
  obtain ⟨d2, v1, k3⟩ := vw1_split k2
  cases d2 <;> (try (cases k3; done))
  rename_i kx
  obtain ⟨xs, ρ4, e4, k4⟩ := bnd_eq k3
  obtain ⟨q4, kk, e4'⟩ := getL_eq e4
  subst q4
  cases ej : ixN xs.length kx with
  | none => rw [ej] at k4; cases k4
  | some j =>
    rw [ej] at k4
    obtain ⟨l, ys, e6, nk, q5⟩ := putL_eq k4
    subst q5
    rw [e4'] at e6
    cases e6
    refine ⟨_, e0, S, ρ1, y, _, rel, e2, fun S2 u2 H2 g2 rel2 r2 => ?_⟩
    obtain ⟨p3, ws3, ep3, h3', _, rr3⟩ := rel2.atL e4'
    rw [e0] at ep3
    cases ep3
    have fin := At.put ⟨g2, rel2⟩ e4' nk e0 (Rps.set (r.mono (g2.ke rel)) j rr3)
    exact ⟨p, ws3, kx, j, rfl, (r2.view rel2 v1).i, h3', by rw [rr3.length]; exact ej, q S2 _ _ fin.ac ⟨rfl, fun _ _ => rfl⟩⟩
theorem dgs_nil : PGs X [] (gDs X.K Tgs.nil.slots (asgns Φ .nil)) := pgsImp pgs_nil fun v σ H Q q => by
  obtain ⟨S, ρ, ds, ρ', rel, r, e, q⟩ := q
  cases r with
  | nil =>
    simp only [asgns] at e
    obtain ⟨_, q2⟩ := ret_eq e
    subst q2
    exact ⟨rfl, q S _ H (Ac.start rel) ⟨rfl, fun _ _ => rfl⟩⟩
  | cons h t => simp only [asgns] at e; cases e
theorem dgs_cons (ha : PG X a (gD X.K tg.slots (asgn Φ tg))) (hb : PGs X es (gDs X.K tgs.slots (asgns Φ tgs)))
    (hx : (assignEach (a :: es) X.env).map (·.2) = assign a X.env :: (assignEach es X.env).map (·.2) := by rfl) : PGs X (a :: es) (gDs X.K (Tgs.cons tg tgs).slots (asgns Φ (.cons tg tgs))) := pgsImp (pgs_cons ha hb hx) fun v σ H Q q => by
  obtain ⟨S, ρ, ds, ρ', rel, r, e, q⟩ := q
  cases r with
  | nil => simp only [asgns] at e; cases e
  | cons h t =>
    simp only [asgns] at e
    obtain ⟨u, ρ1, e1, k1⟩ := bnd_eq e
    refine ⟨_, _, rfl, S, ρ, _, ρ1, rel, h, e1, fun S1 σ1 H1 a1 s1 => ⟨S1, ρ1, _, ρ', a1.rel, t.mono (a1.go.ke rel), k1, fun S2 σ2 H2 a2 s2 => q S2 σ2 H2 (a1.trans a2) ⟨s2.1.trans s1.1, fun j hj => ?_⟩⟩⟩
    have hj : j ∉ tg.slots ++ tgs.slots := hj
    rw [s2.2 j fun z => hj (List.mem_append_right _ z), s1.2 j fun z => hj (List.mem_append_left _ z)]
theorem dg_tp {k : Nat} {n : Nat} (hc : X.calm = true) (h : PGs X es (gDs X.K tgs.slots (asgns Φ tgs))) (h1 : (assignEach es X.env).length = n := by rfl) (h2 : (assignEach es X.env).findIdx? (fun x => x.1) = none := by rfl)
    (hl : ∀ (ds : List D) (ρ ρ' : Ev), asgns Φ tgs ds ρ = .ok () ρ' → ds.length = n) : PG X (.Tuple es k pos) (gD X.K (Tg.tp tgs).slots (asgn Φ (.tp tgs))) := pgImp (pg_or (pg_tup hc h h1 h2) (pg_unl hc h h1 h2)) fun v σ H Q q => by
  obtain ⟨S, ρ, d, ρ', rel, r, e, q⟩ := q
  cases r with
  | tup hr hs =>
    simp only [asgn] at e
    exact .inl ⟨_, _, rfl, hr.sq, by rw [hs.length]; exact hl _ _ _ e, S, ρ, _, ρ', rel, hs, e, q⟩
  | non => simp only [asgn] at e; cases e
  | bl _ => simp only [asgn] at e; cases e
  | int _ => simp only [asgn] at e; cases e
  | str _ => simp only [asgn] at e; cases e
  | lst hr hs =>
    simp only [asgn] at e
    exact .inr ⟨_, _, rfl, hr.sq, by rw [hs.length]; exact hl _ _ _ e, S, ρ, _, ρ', rel, hs, e, q⟩
  | scr _ _ => simp only [asgn] at e; cases e
  | obj _ _ _ _ _ => simp only [asgn] at e; cases e
def Tgs.len : Tgs → Nat
  | .nil => 0
  | .cons _ r => r.len + 1
theorem asgns_len : ∀ {ts : Tgs} (ds : List D) (ρ ρ' : Ev), asgns Φ ts ds ρ = .ok () ρ' → ds.length = ts.len
  | .nil, [], _, _, _ => rfl
  | .nil, _ :: _, _, _, e => by simp only [asgns] at e; cases e
  | .cons t r, [], _, _, e => by simp only [asgns] at e; cases e
  | .cons t r, d :: ds, ρ, ρ', e => by
    simp only [asgns] at e
    obtain ⟨u, ρ1, e1, k1⟩ := bnd_eq e
    exact congrArg (· + 1) (asgns_len (ts := r) ds ρ1 ρ' k1)
end
end DL

end

section
set_option autoImplicit false
/-! DLi2: slots forgotten. -/
namespace DL
open PySem L2
theorem wipeS_len (ρ : Ev) : ∀ vs : List Nat, (wipeS ρ vs).length = ρ.length
  | [] => rfl
  | v :: vs => by show ((wipeS ρ vs).set v .un).length = _; rw [List.length_set, wipeS_len ρ vs]
theorem wipeS_out {ρ : Ev} {i : Nat} : ∀ {vs : List Nat}, i ∉ vs → (wipeS ρ vs)[i]? = ρ[i]?
  | [], _ => rfl
  | v :: vs, h => by
    show ((wipeS ρ vs).set v .un)[i]? = _
    have hv : v ≠ i := fun z => h (by rw [z]; exact List.mem_cons_self)
    rw [List.getElem?_set_ne hv]
    exact wipeS_out fun z => h (List.mem_cons_of_mem _ z)
theorem wipeS_in {ρ : Ev} {i : Nat} {s : Sl} : ∀ {vs : List Nat}, i ∈ vs → (wipeS ρ vs)[i]? = some s → s = .un
  | v :: vs, h, e => by
    have e : ((wipeS ρ vs).set v .un)[i]? = some s := e
    by_cases hv : v = i
    · subst hv
      by_cases hl : v < (wipeS ρ vs).length
      · rw [List.getElem?_set_self hl] at e; cases e; rfl
      · rw [List.getElem?_eq_none (by rw [List.length_set]; omega)] at e; cases e
    · rw [List.getElem?_set_ne hv] at e
      rcases List.mem_cons.mp h with z | z
      · exact absurd z.symm hv
      · exact wipeS_in z e
theorem backS_len (ρ ρ' : Ev) : ∀ vs : List Nat, (backS ρ ρ' vs).length = ρ'.length
  | [] => rfl
  | v :: vs => by show ((backS ρ ρ' vs).set v _).length = _; rw [List.length_set, backS_len ρ ρ' vs]
theorem backS_out {ρ ρ' : Ev} {i : Nat} : ∀ {vs : List Nat}, i ∉ vs → (backS ρ ρ' vs)[i]? = ρ'[i]?
  | [], _ => rfl
  | v :: vs, h => by
    show ((backS ρ ρ' vs).set v _)[i]? = _
    have hv : v ≠ i := fun z => h (by rw [z]; exact List.mem_cons_self)
    rw [List.getElem?_set_ne hv]
    exact backS_out fun z => h (List.mem_cons_of_mem _ z)
theorem backS_in {ρ ρ' : Ev} {i : Nat} : ∀ {vs : List Nat}, i ∈ vs → i < ρ.length → i < ρ'.length → (backS ρ ρ' vs)[i]? = ρ[i]?
  | v :: vs, h, hl, hl' => by
    show ((backS ρ ρ' vs).set v (ρ.getD v .un))[i]? = _
    by_cases hv : v = i
    · subst hv
      rw [List.getElem?_set_self (by rw [backS_len]; exact hl')]
      rw [List.getD_eq_getElem?_getD, List.getElem?_eq_getElem hl]
      rfl
    · rw [List.getElem?_set_ne hv]
      rcases List.mem_cons.mp h with z | z
      · exact absurd z.symm hv
      · exact backS_in z hl hl'
theorem wipeV_out {σ : St} {i : Nat} : ∀ {vs : List Nat}, i ∉ vs → (wipe σ vs)[i]? = σ[i]?
  | [], _ => rfl
  | v :: vs, h => by
    show ((wipe σ vs).set v none)[i]? = _
    have hv : v ≠ i := fun z => h (by rw [z]; exact List.mem_cons_self)
    rw [List.getElem?_set_ne hv]
    exact wipeV_out fun z => h (List.mem_cons_of_mem _ z)
theorem wipeV_in {σ : St} {i : Nat} : ∀ {vs : List Nat}, i ∈ vs → i < σ.length → (wipe σ vs)[i]? = some none
  | v :: vs, h, hl => by
    show ((wipe σ vs).set v none)[i]? = _
    by_cases hv : v = i
    · subst hv
      rw [List.getElem?_set_self (by rw [wipe_length]; exact hl)]
    · rw [List.getElem?_set_ne hv]
      rcases List.mem_cons.mp h with z | z
      · exact absurd z.symm hv
      · exact wipeV_in z hl
theorem wipeV_eq {σ σ' : St} {vs : List Nat} (hl : σ'.length = σ.length) (h : ∀ j, j ∉ vs → σ'[j]? = (wipe σ vs)[j]?) : wipe σ' vs = wipe σ vs := by
  refine List.ext_getElem? fun i => ?_
  by_cases hi : i ∈ vs
  · by_cases h1 : i < σ.length
    · rw [wipeV_in hi (by rw [hl]; exact h1), wipeV_in hi h1]
    · rw [List.getElem?_eq_none (by rw [wipe_length]; omega), List.getElem?_eq_none (by rw [wipe_length]; omega)]
  · rw [wipeV_out hi, h i hi]
theorem wipeM_eq {own : List Nat} {ρ ρ' : Ev} {u : Unit} (h : wipeM own ρ = .ok u ρ') : (∀ i ∈ own, ∀ k xs, ρ[i]? ≠ some (.ls k xs)) ∧ ρ' = wipeS ρ own := by
  unfold wipeM at h
  split at h
  · rename_i ho
    cases h
    refine ⟨fun i hi k xs e => ?_, rfl⟩
    have := List.all_eq_true.mp ho i hi
    rw [e] at this
    cases this
  · cases h
section
variable {K : PySem.W.Frag} {S S1 : Addr → Prop} {ρ ρ1 ρ2 : Ev} {σ σ1 : St} {H H1 : Hp} {own : List Nat}
theorem Own.wipe (no : ∀ i ∈ own, ∀ k xs, ρ[i]? ≠ some (.ls k xs)) {a : Addr} : Own (wipeS ρ own) (L2.wipe σ own) a ↔ Own ρ σ a := by
  constructor
  · rintro ⟨i, k, xs, e1, e2⟩
    by_cases hi : i ∈ own
    · cases wipeS_in hi e1
    · rw [wipeS_out hi] at e1
      rw [wipeV_out hi] at e2
      exact ⟨i, k, xs, e1, e2⟩
  · rintro ⟨i, k, xs, e1, e2⟩
    have hi : i ∉ own := fun z => no i z k xs e1
    exact ⟨i, k, xs, by rw [wipeS_out hi]; exact e1, by rw [wipeV_out hi]; exact e2⟩
theorem Rel.wipe (rel : Rel K S ρ σ H) (no : ∀ i ∈ own, ∀ k xs, ρ[i]? ≠ some (.ls k xs)) : Rel K S (wipeS ρ own) (L2.wipe σ own) H := by
  refine ⟨by rw [wipeS_len, wipe_length]; exact rel.len, fun i s ov e1 e2 => ?_, fun i j k l xs ys a e1 e2 e3 e4 => ?_, rel.dom⟩
  · by_cases hi : i ∈ own
    · cases wipeS_in hi e1
      trivial
    · rw [wipeS_out hi] at e1
      rw [wipeV_out hi] at e2
      exact rel.ok i s ov e1 e2
  · have h1 : i ∉ own := fun z => by cases wipeS_in z e1
    have h2 : j ∉ own := fun z => by cases wipeS_in z e2
    rw [wipeS_out h1] at e1
    rw [wipeS_out h2] at e2
    rw [wipeV_out h1] at e3
    rw [wipeV_out h2] at e4
    exact rel.inj i j k l xs ys a e1 e2 e3 e4
/-- the slots of the own names forgotten -/
theorem Go.wipe {S' : Addr → Prop} {H' : Hp} (g : Go S ρ σ H S' ρ1 σ1 H') (no : ∀ i ∈ own, ∀ k xs, ρ1[i]? ≠ some (.ls k xs)) (n0 : ∀ i ∈ own, ∀ k xs, ρ[i]? ≠ some (.ls k xs)) : Go S (wipeS ρ own) (L2.wipe σ own) H S' (wipeS ρ1 own) (L2.wipe σ1 own) H' :=
  ⟨g.sub, fun a h => (g.new a h).imp id (Or.imp id (Own.wipe n0).mpr), fun a h => (g.own a ((Own.wipe no).mp h)).imp id (Own.wipe n0).mpr, fun a o h n => g.keep a o h fun w => n ((Own.wipe n0).mpr w), g.stay, fun i k xs e n => by
    have hi : i ∉ own := fun z => by cases wipeS_in z e
    rw [wipeS_out hi] at e
    obtain ⟨ys, q1, q2, q3⟩ := g.fix i k xs e n
    exact ⟨ys, by rw [wipeS_out hi]; exact q1, by rw [wipeV_out hi, wipeV_out hi]; exact q2, q3⟩⟩
end
end DL

end

section
set_option autoImplicit false
/-! DLj: what is walked. -/
namespace DL
open PySem L2
abbrev SrcT := (Addr → Prop) → Ev → St → Hp → Prop
/-- J walks the items while Src stands -/
structure Wk (K : PySem.W.Frag) (J : L2.It) (Src : SrcT) (xs : List D) : Prop where
  stop : ∀ S ρ σ H, Rel K S ρ σ H → Src S ρ σ H → ∀ i, xs.length ≤ i → J.stop i H
  go : ∀ S ρ σ H, Rel K S ρ σ H → Src S ρ σ H → ∀ i, i < xs.length → J.go i H
  yld : ∀ S ρ σ H i d x H', Rel K S ρ σ H → Src S ρ σ H → xs[i]? = some d → J.yld i H x H' → ∃ S', Gn S H S' H' ∧ Rp K S' H' x d
  stay : ∀ S ρ σ H S' ρ' σ' H', Rel K S ρ σ H → Src S ρ σ H → Go S ρ σ H S' ρ' σ' H' → Rel K S' ρ' σ' H' → Src S' ρ' σ' H'
  wip : ∀ (own : List Nat) (S : Addr → Prop) (ρ : Ev) (σ : St) (H : Hp), (∀ i ∈ own, ∀ k xs, ρ[i]? ≠ some (.ls k xs)) → Src S ρ σ H → Src S (wipeS ρ own) (L2.wipe σ own) H
/-- the thing that is walked stands: r, of value v, its data d -/
def Held (K : PySem.W.Frag) (r : R) (d : D) (v : V) : SrcT := fun S ρ σ H => match r with
  | .rf i => ∃ xs, d = .lst xs ∧ ρ[i]? = some (.ls .lck xs) ∧ σ[i]? = some (some v)
  | .fz e => e = d ∧ Rp K S H v e
  | .fr xs => d = .lst xs ∧ Rv K S (fun _ => none) ρ σ H v (.fr xs)
section
variable {K : PySem.W.Frag} {S S' : Addr → Prop} {ρ ρ' : Ev} {σ σ' : St} {H H' : Hp} {r : R} {d : D} {v : V}
theorem Rv.go4 (rel : Rel K S ρ σ H) (g : Go S ρ σ H S' ρ' σ' H') {xs : List D} {H₀ : Hp} (h : Rv K S H₀ ρ σ H v (.fr xs)) : Rv K S' H₀ ρ' σ' H' v (.fr xs) := by
  obtain ⟨a, vs, e, h0, h1, h2, h3, h4⟩ := h
  refine ⟨a, vs, e, h0, g.keep a _ h1 h3, fun z => ?_, fun z => ?_, h4.mono (g.ke rel)⟩
  · rcases g.new a z with q | q | q
    · exact h2 q
    · rw [h1] at q; cases q
    · exact h3 q
  · rcases g.own a z with q | q
    · rw [h1] at q; cases q
    · exact h3 q
theorem Held.stay (rel : Rel K S ρ σ H) (h : Held K r d v S ρ σ H) (g : Go S ρ σ H S' ρ' σ' H') : Held K r d v S' ρ' σ' H' := by
  cases r with
  | fz e => exact ⟨h.1, h.2.mono (g.ke rel)⟩
  | fr xs => exact ⟨h.1, Rv.go4 rel g h.2⟩
  | rf i =>
    obtain ⟨xs, e0, e1, e2⟩ := h
    obtain ⟨ys, q1, q2, q3⟩ := g.fix i .lck xs e1 (by simp)
    rw [q3 rfl] at q1
    exact ⟨xs, e0, q1, q2.trans e2⟩
theorem Held.vd (rel : Rel K S ρ σ H) (h : Held K r d v S ρ σ H) : Vd K S H v d := by
  cases r with
  | fz e => obtain ⟨rfl, h⟩ := h; exact .fz h
  | fr xs => obtain ⟨rfl, a, vs, e, h0, h1, h2, h3, h4⟩ := h; exact .ls e h1 h4
  | rf i =>
    obtain ⟨xs, e0, e1, e2⟩ := h
    subst e0
    obtain ⟨a, vs, q1, q2, _, q3⟩ := rel.atL e1
    rw [e2] at q1; cases q1
    exact .ls rfl q2 q3
variable {own : List Nat}
theorem Held.wipe {r : R} {d : D} {v : V} (no : ∀ i ∈ own, ∀ k xs, ρ[i]? ≠ some (.ls k xs)) (h : Held K r d v S ρ σ H) : Held K r d v S (wipeS ρ own) (L2.wipe σ own) H := by
  cases r with
  | fz e => exact h
  | fr xs =>
    obtain ⟨e0, a, vs, e1, h0, h1, h2, h3, h4⟩ := h
    exact ⟨e0, a, vs, e1, h0, h1, h2, fun z => h3 ((Own.wipe no).mp z), h4⟩
  | rf i =>
    obtain ⟨xs, e0, e1, e2⟩ := h
    have hi : i ∉ own := fun z => no i z .lck xs e1
    exact ⟨xs, e0, by rw [wipeS_out hi]; exact e1, by rw [wipeV_out hi]; exact e2⟩
/-- the list, as HandS reads it -/
theorem Vd.sq {xs : List D} (h : Vd K S H v d) (e : itemsD d = some xs) (hn : ∀ ys, d ≠ .tup ys) : ∃ a vs, v = .ref a ∧ SqL K H a vs ∧ Rps K S H vs xs := by
  cases d with
  | lst ys => cases e; obtain ⟨a, vs, ea, h1, h2⟩ := h.l; exact ⟨a, vs, ea, .inl (.inl h1), h2⟩
  | scr ys => cases e; exact h.c
  | tup ys => exact absurd rfl (hn ys)
  | non => cases e
  | bl _ => cases e
  | int _ => cases e
  | obj _ _ => cases e
  | str _ => cases e
variable {a : Addr} {xs : List D}
theorem ref_inj {p q : Addr} (h : V.ref p = V.ref q) : p = q := by cases h; rfl
theorem Wk.lst (e : itemsD d = some xs) (hn : ∀ ys, d ≠ .tup ys) : Wk K (Itl K a) (Held K r d (.ref a)) xs where
  stop := fun S ρ σ H rel h i hi => by
    obtain ⟨p, vs, ep, h1, h2⟩ := (h.vd rel).sq e hn
    cases ep
    exact ⟨vs, h1, by rw [h2.length]; exact hi⟩
  go := fun S ρ σ H rel h i hi => by
    obtain ⟨p, vs, ep, h1, h2⟩ := (h.vd rel).sq e hn
    cases ep
    have hi : i < vs.length := by rw [h2.length]; exact hi
    exact ⟨vs, vs[i], h1, List.getElem?_eq_getElem hi⟩
  yld := fun S ρ σ H i d' x H' rel h ei y => by
    obtain ⟨p, vs, ep, h1, h2⟩ := (h.vd rel).sq e hn
    cases ep
    obtain ⟨rfl, y⟩ := y
    obtain ⟨w, e1, h3⟩ := h2.get ei
    rw [y vs h1] at e1
    cases e1
    exact ⟨S, .refl, h3⟩
  stay := fun S ρ σ H S' ρ' σ' H' rel h g _ => h.stay rel g
  wip := fun own S ρ σ H no h => h.wipe no
theorem Wk.tup : Wk K (Itt K a) (Held K r (.tup xs) (.ref a)) xs where
  stop := fun S ρ σ H rel h i hi => by
    obtain ⟨p, vs, ep, h1, h2⟩ := (h.vd rel).t
    cases ep
    exact ⟨vs, h1, by rw [h2.length]; exact hi⟩
  go := fun S ρ σ H rel h i hi => by
    obtain ⟨p, vs, ep, h1, h2⟩ := (h.vd rel).t
    cases ep
    have hi : i < vs.length := by rw [h2.length]; exact hi
    exact ⟨vs, vs[i], h1, List.getElem?_eq_getElem hi⟩
  yld := fun S ρ σ H i d' x H' rel h ei y => by
    obtain ⟨p, vs, ep, h1, h2⟩ := (h.vd rel).t
    cases ep
    obtain ⟨rfl, y⟩ := y
    obtain ⟨w, e1, h3⟩ := h2.get ei
    rw [y vs h1] at e1
    cases e1
    exact ⟨S, .refl, h3⟩
  stay := fun S ρ σ H S' ρ' σ' H' rel h g _ => h.stay rel g
  wip := fun own S ρ σ H no h => h.wipe no
theorem enum_get : ∀ {xs : List D} {n i : Nat} {e : D}, (enumFrom n xs)[i]? = some e → ∃ d, xs[i]? = some d ∧ e = .tup [.int ((n + i : Nat) : Int), d]
  | [], n, i, e, h => by simp [enumFrom] at h
  | x :: xs, n, 0, e, h => by simp [enumFrom] at h; exact ⟨x, rfl, by rw [← h]; rfl⟩
  | x :: xs, n, i + 1, e, h => by
    obtain ⟨d, h1, h2⟩ := enum_get (xs := xs) (n := n + 1) (i := i) (e := e) (by simpa [enumFrom] using h)
    exact ⟨d, by simpa using h1, by rw [h2]; congr 4; omega⟩
theorem enum_len : ∀ (xs : List D) (n : Nat), (enumFrom n xs).length = xs.length
  | [], _ => rfl
  | x :: xs, n => congrArg (· + 1) (enum_len xs (n + 1))
theorem Wk.enum (e : itemsD d = some xs) (hn : ∀ ys, d ≠ .tup ys) : Wk K (Ite K a) (Held K r d (.ref a)) (enumFrom 0 xs) where
  stop := fun S ρ σ H rel h i hi => by
    obtain ⟨p, vs, ep, h1, h2⟩ := (h.vd rel).sq e hn
    cases ep
    exact ⟨vs, h1, by rw [h2.length]; rw [enum_len] at hi; exact hi⟩
  go := fun S ρ σ H rel h i hi => by
    obtain ⟨p, vs, ep, h1, h2⟩ := (h.vd rel).sq e hn
    cases ep
    rw [enum_len] at hi
    have hi : i < vs.length := by rw [h2.length]; exact hi
    exact ⟨vs, vs[i], h1, List.getElem?_eq_getElem hi⟩
  yld := fun S ρ σ H i d' x H' rel h ei y => by
    obtain ⟨p, vs, ep, h1, h2⟩ := (h.vd rel).sq e hn
    cases ep
    obtain ⟨T, z, rfl, nT, rfl, y⟩ := y
    obtain ⟨d2, e2, rfl⟩ := enum_get ei
    obtain ⟨w, e1, h3⟩ := h2.get e2
    rw [y vs h1] at e1
    cases e1
    rw [Nat.zero_add]
    exact ⟨_, .tup nT, Rp.mkTup nT (.cons (.int _) (.cons h3 .nil))⟩
  stay := fun S ρ σ H S' ρ' σ' H' rel h g _ => h.stay rel g
  wip := fun own S ρ σ H no h => h.wipe no
theorem Wk.rngD {lo hi : Int} {n : Nat} (hn : n = (lo - hi).toNat) : Wk K (Itc lo (-1) n) (fun _ _ _ _ => True) (rngDL lo hi) where
  stop := fun S ρ σ H rel _ i h => by
    show n ≤ i
    unfold rngDL at h
    rw [List.length_map, List.length_range] at h
    omega
  go := fun S ρ σ H rel _ i h => by
    show i < n
    unfold rngDL at h
    rw [List.length_map, List.length_range] at h
    omega
  yld := fun S ρ σ H i d x H' rel _ hd hy => by
    obtain ⟨e1, e2⟩ := hy
    subst e1 e2
    refine ⟨S, .refl, ?_⟩
    unfold rngDL at hd
    rw [List.getElem?_map] at hd
    cases q : (List.range (lo - hi).toNat)[i]? with
    | none => rw [q] at hd; cases hd
    | some k =>
      rw [q] at hd
      obtain ⟨h1, h2⟩ := List.getElem?_eq_some_iff.mp q
      rw [List.getElem_range] at h2
      subst h2
      cases hd
      rw [show lo + (i : Int) * -1 = lo - (i : Int) from by omega]
      exact .int _
  stay := fun _ _ _ _ _ _ _ _ _ _ _ _ => trivial
  wip := fun _ _ _ _ _ _ _ => trivial
theorem Wk.rng {lo hi : Int} {n : Nat} (hn : n = (hi - lo).toNat) : Wk K (Itr lo n) (fun _ _ _ _ => True) (rngL lo hi) where
  stop := fun S ρ σ H rel h i hi => by
    unfold rngL at hi
    rw [List.length_map, List.length_range] at hi
    rw [hn]; exact hi
  go := fun S ρ σ H rel h i hi => by
    unfold rngL at hi
    rw [List.length_map, List.length_range] at hi
    rw [hn]; exact hi
  yld := fun S ρ σ H i d' x H' rel h ei y => by
    obtain ⟨rfl, rfl⟩ := y
    unfold rngL at ei
    rw [List.getElem?_map] at ei
    cases q : (List.range (hi - lo).toNat)[i]? with
    | none => rw [q] at ei; cases ei
    | some j =>
      rw [q] at ei
      cases ei
      have : j = i := by
        obtain ⟨h1, h2⟩ := List.getElem?_eq_some_iff.mp q
        rw [List.getElem_range] at h2
        exact h2.symm
      subst this
      exact ⟨S, .refl, .int _⟩
  stay := fun _ _ _ _ _ _ _ _ _ _ _ _ => trivial
  wip := fun _ _ _ _ _ _ _ => trivial
end
/-- the environment while the walked list is locked -/
def locked (l : Option (Nat × Lk)) (ρ : Ev) : Ev := match l with
  | none => ρ
  | some (i, _) => match ρ[i]? with
    | some (.ls _ xs) => ρ.set i (.ls .lck xs)
    | _ => ρ
/-- a walk's reading -/
def iD (K : PySem.W.Frag) (m : M (Option (Nat × Lk) × List D)) : TI := fun σ H R => ∃ S ρ l xs ρ', Rel K S ρ σ H ∧ m ρ = .ok (l, xs) ρ' ∧
  ∀ S' H' J Src, At K S ρ σ H S' ρ' H' → Wk K J Src xs → Src S' (locked l ρ') σ H' → R J H'
theorem piImp {X : Cx} {tg e : Expr} {t t' : TI} (h : PI X tg e t) (i : ∀ σ H R, t' σ H R → t σ H R) : PI X tg e t' := ⟨fun pins s σ H R I q => h.run pins s σ H R I (i _ _ _ q)⟩
section
variable {X : Cx} {Φ : Calls} {a b tg : Expr} {pos : Pos} {ia ib : E}
/-- what stands behind the evaluation of a walked thing -/
theorem held_of {K : PySem.W.Frag} {S S' : Addr → Prop} {ρ ρ' : Ev} {σ : St} {H H' : Hp} {r : R} {d : D} {v : V} (at1 : At K S ρ σ H S' ρ' H') (rv : Rv K S' H ρ' σ H' v r) (e : view ρ' r = some d) : Held K r d v S' (locked (lockOf ρ' r) ρ') σ H' := by
  cases r with
  | fz d' => cases e; exact ⟨rfl, rv⟩
  | fr xs =>
    cases e
    obtain ⟨a, vs, e, h0, h⟩ := rv
    exact ⟨rfl, a, vs, e, rfl, h⟩
  | rf i =>
    have e : (match ρ'[i]? with | some (.ls _ xs) => some (D.lst xs) | _ => none) = some d := e
    split at e
    · rename_i k xs q
      cases e
      have hl : lockOf ρ' (.rf i) = some (i, k) := by
        show (match ρ'[i]? with | some (.ls k _) => some (i, k) | _ => none) = _
        rw [q]
      rw [hl]
      have hk : locked (some (i, k)) ρ' = ρ'.set i (.ls .lck xs) := by
        show (match ρ'[i]? with | some (.ls _ xs) => ρ'.set i (.ls .lck xs) | _ => ρ') = _
        rw [q]
      rw [hk]
      exact ⟨xs, rfl, List.getElem?_set_self (List.getElem?_eq_some_iff.mp q).1, rv⟩
    · cases e
theorem itv_split {f : Ev → List D → Option (Nat × Lk) × List D} {ρ ρ' : Ev} {l : Option (Nat × Lk)} {xs : List D} {m : M R} {g : R → List D → Option (Nat × Lk) × List D}
    (h : bnd m (fun x => bnd (vw x) fun d => fun ρ => bnd (ofO (itemsD d)) (fun xs => ret (lockOf ρ x, f ρ xs |>.2)) ρ) ρ = .ok (l, xs) ρ') : ∃ x d ys, m ρ = .ok x ρ' ∧ view ρ' x = some d ∧ itemsD d = some ys ∧ l = lockOf ρ' x ∧ xs = (f ρ' ys).2 := by
  obtain ⟨x, ρ1, e1, h1⟩ := bnd_eq h
  obtain ⟨d, v1, h2⟩ := vw1_split h1
  obtain ⟨ys, e2, h3⟩ := ofO_split h2
  obtain ⟨q1, q2⟩ := ret_eq h3
  cases q1
  subst q2
  exact ⟨x, d, ys, e1, v1, e2, rfl, rfl⟩
theorem di_val (ha : PE X a (tD X.K (ev Φ ia))) : PI X tg a (iD X.K (evit Φ (.val ia))) := ⟨fun pins s σ H R I q => by
  obtain ⟨S, ρ, l, xs, ρ', rel, e, q⟩ := q
  simp only [evit] at e
  obtain ⟨x, d, ys, e1, v1, e2, rfl, rfl⟩ := itv_split (f := fun _ xs => (none, xs)) (g := fun _ xs => (none, xs)) e
  by_cases ht : ∃ zs, d = .tup zs
  · obtain ⟨zs, rfl⟩ := ht
    cases e2
    refine (pi_tup ha).run pins s σ H R I ⟨S, ρ, x, ρ', rel, e1, fun S1 v H1 g1 rel1 r1 => ?_⟩
    obtain ⟨p, vs, ep, h1, h2⟩ := (r1.view rel1 v1).t
    have hd := held_of ⟨g1, rel1⟩ r1 v1
    subst ep
    exact ⟨p, rfl, ⟨vs, h1⟩, q S1 H1 _ _ ⟨g1, rel1⟩ .tup hd⟩
  · refine (pi_list ha).run pins s σ H R I ⟨S, ρ, x, ρ', rel, e1, fun S1 v H1 g1 rel1 r1 => ?_⟩
    have hn : ∀ ys, d ≠ .tup ys := fun ys z => ht ⟨ys, z⟩
    obtain ⟨p, vs, ep, h1, h2⟩ := (r1.view rel1 v1).sq e2 hn
    have hd := held_of ⟨g1, rel1⟩ r1 v1
    subst ep
    exact ⟨p, rfl, ⟨vs, h1⟩, q S1 H1 _ _ ⟨g1, rel1⟩ (.lst e2 hn) hd⟩⟩
theorem di_rng1 {p : Pos} (hg : Gl X "range") (hm : X.mg "range" = none) (ha : PE X a (tD X.K (ev Φ ia))) (hs : starEach [a] X.env = [(false, eval a X.env)] := by rfl) : PI X tg (.Call (.Name "range" p) [a] [] pos) (iD X.K (evit Φ (.rng1 ia))) :=
  piImp (pi_range1 hg hm (pa_cons ha pa_nil hs) hs) fun σ H R q => by
    obtain ⟨S, ρ, l, xs, ρ', rel, e, q⟩ := q
    simp only [evit] at e
    obtain ⟨x, ρ1, e1, h1⟩ := bnd_eq e
    obtain ⟨d, v1, h2⟩ := vw1_split h1
    cases d <;> (try (cases h2; done))
    rename_i j
    have h2 : (if small62 j = true then ret (none, rngL 0 j) else stuck) ρ1 = .ok (l, xs) ρ' := h2
    split at h2
    · rename_i hz
      obtain ⟨q1, q2⟩ := ret_eq h2
      cases q1
      subst q2
      obtain ⟨z3, z4⟩ : -(2 ^ 62) ≤ j ∧ j < 2 ^ 62 := by simpa [small62] using hz
      refine ⟨S, ρ, x, _, rel, e1, fun S1 v H1 g1 rel1 r1 => ⟨j, ?_, z3, z4, q S1 H1 _ _ ⟨g1, rel1⟩ (.rng (by rw [Int.sub_zero])) trivial⟩⟩
      rw [(r1.view rel1 v1).i]
    · cases h2
theorem di_rng2 {p : Pos} (hg : Gl X "range") (hm : X.mg "range" = none) (ha : PE X a (tD X.K (ev Φ ia))) (hb : PE X b (tD X.K (ev Φ ib))) (hs : starEach [a, b] X.env = [(false, eval a X.env), (false, eval b X.env)] := by rfl) (hs2 : starEach [b] X.env = [(false, eval b X.env)] := by rfl) :
    PI X tg (.Call (.Name "range" p) [a, b] [] pos) (iD X.K (evit Φ (.rng2 ia ib))) :=
  piImp (pi_range2 hg hm (pa_cons ha (pa_cons hb pa_nil hs2) (by rw [hs, hs2])) hs hs2) fun σ H R q => by
    obtain ⟨S, ρ, l, xs, ρ', rel, e, q⟩ := q
    simp only [evit] at e
    obtain ⟨x, ρ1, e1, h1⟩ := bnd_eq e
    obtain ⟨y, ρ2, e2, h2⟩ := bnd_eq h1
    obtain ⟨d, f, v1, v2, h3⟩ := vw2_split h2
    cases d <;> (try (cases h3; done))
    cases f <;> (try (cases h3; done))
    rename_i i j
    have h3 : (if (small62 i && small62 j) = true then ret (none, rngL i j) else stuck) ρ2 = .ok (l, xs) ρ' := h3
    split at h3
    · rename_i hz
      obtain ⟨q1, q2⟩ := ret_eq h3
      cases q1
      subst q2
      obtain ⟨z0, z1⟩ := Bool.and_eq_true _ _ |>.mp hz
      obtain ⟨z3, z4⟩ : -(2 ^ 62) ≤ j ∧ j < 2 ^ 62 := by simpa [small62] using z1
      obtain ⟨z5, z6⟩ : -(2 ^ 62) ≤ i ∧ i < 2 ^ 62 := by simpa [small62] using z0
      refine seq2 rel e1 e2 fun S2 H2 v u at2 r1 r2 => ⟨i, j, ?_, ⟨z5, z6, z3, z4⟩, q S2 H2 _ _ at2 (.rng rfl) trivial⟩
      rw [(r1.view at2.rel v1).i, (r2.view at2.rel v2).i]
    · cases h3
theorem di_rngD {p : Pos} {kk : Nat} {p1 p2 : Pos} (hg : Gl X "range") (hm : X.mg "range" = none) (ha : PE X a (tD X.K (ev Φ ia))) (hb : PE X b (tD X.K (ev Φ ib)))
    (hs : starEach [a, b, .UnaryOp .USub (.Constant (.int 1) kk p1) p2] X.env = (false, eval a X.env) :: starEach [b, .UnaryOp .USub (.Constant (.int 1) kk p1) p2] X.env := by rfl)
    (hs3 : starEach [a, b, .UnaryOp .USub (.Constant (.int 1) kk p1) p2] X.env = [(false, eval a X.env), (false, eval b X.env), (false, eval (.UnaryOp .USub (.Constant (.int 1) kk p1) p2) X.env)] := by rfl)
    (hs4 : starEach [b, .UnaryOp .USub (.Constant (.int 1) kk p1) p2] X.env = [(false, eval b X.env), (false, eval (.UnaryOp .USub (.Constant (.int 1) kk p1) p2) X.env)] := by rfl)
    (hs5 : starEach [.UnaryOp .USub (.Constant (.int 1) kk p1) p2] X.env = [(false, eval (.UnaryOp .USub (.Constant (.int 1) kk p1) p2) X.env)] := by rfl)
    (hpl : (backTo pos (starEach [b, .UnaryOp .USub (.Constant (.int 1) kk p1) p2] X.env)).any (·.1) = false := by rfl) :
    PI X tg (.Call (.Name "range" p) [a, b, .UnaryOp .USub (.Constant (.int 1) kk p1) p2] [] pos) (iD X.K (evit Φ (.rngD ia ib))) :=
  piImp (pi_range3 hg hm (pa_cons ha (pa_cons hb (pa_cons (pe_un un_neg pe_int) pa_nil hs5) (by rw [hs4, hs5])) (by rw [hs3, hs4])) hs hpl) fun σ H R q => by
    obtain ⟨S, ρ, l, xs, ρ', rel, e, q⟩ := q
    simp only [evit] at e
    obtain ⟨x, ρ1, e1, h1⟩ := bnd_eq e
    obtain ⟨y, ρ2, e2, h2⟩ := bnd_eq h1
    obtain ⟨d, f, v1, v2, h3⟩ := vw2_split h2
    cases d <;> (try (cases h3; done))
    cases f <;> (try (cases h3; done))
    rename_i i j
    have h3 : (if (small62 i && small62 j) = true then ret (none, rngDL i j) else stuck) ρ2 = .ok (l, xs) ρ' := h3
    split at h3
    · rename_i hz
      obtain ⟨q1, q2⟩ := ret_eq h3
      cases q1
      subst q2
      obtain ⟨z0, z1⟩ := Bool.and_eq_true _ _ |>.mp hz
      obtain ⟨z3, z4⟩ : -(2 ^ 62) ≤ j ∧ j < 2 ^ 62 := by simpa [small62] using z1
      obtain ⟨z5, z6⟩ : -(2 ^ 62) ≤ i ∧ i < 2 ^ 62 := by simpa [small62] using z0
      refine seq2 rel e1 e2 fun S2 H2 v u at2 r1 r2 => ⟨1, rfl, i, j, -1, (i - j).toNat, ?_, RgC.neg z5 z6 z3 z4, q S2 H2 _ _ at2 (.rngD rfl) trivial⟩
      rw [(r1.view at2.rel v1).i, (r2.view at2.rel v2).i]
    · cases h3
end
end DL

end

section
set_option autoImplicit false
/-! DLk: enumerate over tuples; zip, reversed. -/
namespace DL
open PySem L2
section
/-- the tuple at a, each item in a new pair, counted from k -/
def IteT (K : PySem.W.Frag) (k : Int) (a : Addr) : L2.It :=
  ⟨fun i H => ∃ (xs : List V) (x : V), SqT K H a xs ∧ xs[i]? = some x,
   fun i H v H' => ∃ T x, v = .ref T ∧ H T = none ∧ H' = upd H T (.tup [.int (k + (i : Nat)), x]) ∧ ∀ xs, SqT K H a xs → xs[i]? = some x,
   fun i H => ∃ xs : List V, SqT K H a xs ∧ xs.length ≤ i⟩
theorem iter_ne {h : Heap} {e it t : Addr} {k : Int} {old : Value} {i : Nat} {items : Array Value} (he : IsEnum h e it k old) (hi : h.IsTupleIter it t i) (ht : h.IsTuple t items) : t ≠ e ∧ t ≠ it := by
  obtain ⟨o, e1, e2, _⟩ := ht
  refine ⟨fun z => ?_, fun z => ?_⟩
  · subst z
    have he : h.get? t = some _ := he
    rw [e1] at he
    rw [Option.some.inj he] at e2
    exact absurd (Value.type.inj e2) (by decide)
  · subst z
    obtain ⟨o2, e3, e4, _⟩ := hi
    rw [e1] at e3
    rw [← Option.some.inj e3, e2] at e4
    exact absurd (Value.type.inj e4) (by decide)
theorem turn_enumT {P : Program} {w : World} {K : PySem.W.Frag} {elts : List Expr} {kk : Nat} {tpos : Pos} (k : Int) (a e it : Addr) :
    Turn P w K (.Tuple elts kk tpos) (IteT K k a) [e, it] e (fun i h => (∃ old, IsEnum h e it (k + ((i : Nat) : Int)) old) ∧ h.IsTupleIter it a i ∧ e ≠ it) where
  mem := List.mem_cons_self
  obj := fun i h st b hb => by
    obtain ⟨⟨old, he⟩, ⟨o, ho, hc, hd⟩, _⟩ := st
    rcases List.mem_cons.mp hb with z | z
    · rw [z]; exact ⟨_, he, fun v q => nomatch q⟩
    · rw [List.mem_singleton.mp z]; exact ⟨o, ho, fun v q => by rw [hd] at q; cases q⟩
  keep := fun i h h' st kp => by
    obtain ⟨⟨old, he⟩, hi, hne⟩ := st
    exact ⟨⟨old, kp e List.mem_cons_self _ he⟩, hi.at fun o q => kp it (List.mem_cons_of_mem _ List.mem_cons_self) o q, hne⟩
  item := by
    intro X hP hw hK hc i pins s σ H E I hf st hg
    subst hP hw hK
    obtain ⟨⟨old, he⟩, hit, hne⟩ := st
    obtain ⟨xs, x, hq, hx⟩ := hg
    obtain ⟨its, rv, p, hz⟩ := I.tuple hq
    obtain ⟨u, hu, ru⟩ := rv.get hx
    obtain ⟨n1, n2⟩ := iter_ne he hit p
    have hel : e < s.heap.objs.size := Heap.lt_size he
    have hil : it < s.heap.objs.size := by obtain ⟨_, q, _⟩ := hit; exact Heap.lt_size q
    have hlen : i < its.toArray.size := by rw [List.size_toArray]; exact (List.getElem?_eq_some_iff.mp hu).1
    refine wpAny_pyNext_enum_itemC (Draws.tuple (A := X.A.in1) (I.ok.hd hc) it a n2 its.toArray) he ⟨hit, p⟩ hlen hne (fun z => ?_) fun y h' tk hy ho hst' hT hsz hk => ?_
    · rcases List.mem_cons.mp z with z | z
      · exact hne z
      · exact n1 (List.mem_singleton.mp z).symm
    · have hy : its.toArray[i]? = some y := hy
      have ey : y = u := by
        rw [List.getElem?_toArray, hu] at hy
        exact (Option.some.inj hy).symm
      subst ey
      refine ⟨_, rfl, wpAny_letOwnedTupleGo_enum (s := { s with heap := h', toks := tk + 1 }) ho fun h'' he' sb => ?_⟩
      have hT2 : h''.get? s.heap.objs.size = some { cls := .type "tuple", data := .seq #[.int (k + (i : Nat)) tk, y] } := (sb.2 _ (Nat.ne_of_gt hel)).trans hT
      have new : ObjOk X.prog X.w (upd H s.heap.objs.size (.tup [.int (k + (i : Nat)), x])) h'' s.heap.objs.size (.tup [.int (k + (i : Nat)), x]) :=
        ⟨(by decide : 2 ≤ sizeLine), [.int (k + (i : Nat)) tk, y], .cons ⟨_, rfl⟩ (.cons ru .nil), ⟨_, hT2, rfl, _, rfl⟩⟩
      have I1 : L2.Inv X pins σ (upd H s.heap.objs.size (.tup [.int (k + (i : Nat)), x])) { s with heap := h'', toks := tk + 1 } := by
        refine I.turnedNew (ch := [e, it]) (fun b ob hb q => ?_) hf (Nat.le_refl _) new
        have b1 : b ≠ e := fun z => hb (by rw [z]; exact List.mem_cons_self)
        have b2 : b ≠ it := fun z => hb (by rw [z]; exact List.mem_cons_of_mem _ List.mem_cons_self)
        exact (sb.2 b b1).trans (hk b ob b1 b2 q)
      refine ⟨.ref s.heap.objs.size, _, I1, rfl, ⟨_, x, rfl, I.hok.fresh (Nat.le_refl _), rfl, fun ys hy => by rw [I.tuple_inj hy hq]; exact hx⟩, ⟨⟨y, ?_⟩, hst'.1.at fun o q => (sb.2 it (Ne.symm hne)).trans q, hne⟩, fun b hb => ?_⟩
      · have e1 : k + ((i + 1 : Nat) : Int) = k + (i : Int) + 1 := by omega
        rw [e1]
        exact he'
      · have hb' : b < s.heap.objs.size := by
          rcases List.mem_cons.mp hb with z | z
          · rw [z]; exact hel
          · rw [List.mem_singleton.mp z]; exact hil
        rw [upd_ne (Nat.ne_of_lt hb')]
        exact (hf b hb).1
  done := by
    intro X hP hw hK hc i pins s σ H E I hf st hg
    subst hP hw hK
    obtain ⟨⟨old, he⟩, hit, hne⟩ := st
    obtain ⟨xs, hq, hx⟩ := hg
    obtain ⟨its, rv, p, hz⟩ := I.tuple hq
    obtain ⟨n1, n2⟩ := iter_ne he hit p
    have hmem : it ∈ [e, it] := List.mem_cons_of_mem _ List.mem_cons_self
    obtain ⟨f0, f1, f2, f3, f4, f5⟩ := hf it hmem
    have hl := rv.length
    have hgo : its.toArray[i]? = none := by
      rw [List.getElem?_toArray]
      exact List.getElem?_eq_none (by omega)
    have D : Draws X.prog X.w X.A.in1 it [it, a] i (fun i v => its.toArray[i]? = some v) (fun j h => j = i ∧ h.IsTupleIter it a j ∧ h.IsTuple a its.toArray) := {
      live := fun _ _ st => let ⟨o, ho, _⟩ := st.2.1; ⟨o, ho⟩
      frame := fun _ _ _ st hk => ⟨st.1, st.2.1.at fun o e => hk it List.mem_cons_self o e, st.2.2.at fun o e => hk a (List.mem_cons_of_mem _ List.mem_cons_self) o e⟩
      item := fun j s' Q E hj st hQ => absurd (st.1 ▸ hj) (Nat.lt_irrefl _)
      done := fun s' Q E st hE => wpAny_nextOf_tuple_end (I.ok.hd hc) st.2.1 st.2.2 hgo hE }
    exact wpAny_pyNext_enum_endD D he ⟨rfl, hit, p⟩ fun h' eb => ⟨rfl, I.turned (t' := s.toks) (fun b o hb q => eb b o hb q) f0 f1 f3 f4 f5⟩
  self := fun A i s Q E st h => let ⟨⟨_, he⟩, _⟩ := st; wpAny_pyIter_enum he h

/-- enumerate(v) of anything that begins -/
theorem meets_enum1 {v : Value} {o : Obj} {B : Heap → Prop} (b : Begins v o B) :
    Meets (Builtin.«enumerate.__new__» ⟨[.type "enumerate", v], []⟩) (fun _ R s => B s.heap ∧
      R (.ok (.ret (.ref (s.heap.push o).objs.size))) { s with heap := (s.heap.push o).push { cls := .type "enumerate", data := .fields #[.none, .bool false, .ref s.heap.objs.size, rawInt 0, .none, .none] } }) :=
  Meets.of_wp fun prog w A R s hh => by
    obtain ⟨hp, g, d, tk, os⟩ := s
    obtain ⟨h1, h⟩ := hh
    have hsub := sub_enumerate
    have q1 : ∀ {A' : Around} {E : Value → Shared → Prop} {Q : Value → Shared → Prop}, Q (.ref hp.objs.size) ⟨hp.push o, g, d, tk, os⟩ → wpAny (model prog w) A' (pyIter v) Q E ⟨hp, g, d, tk, os⟩ := fun q =>
      b.iter prog w _ _ ⟨hp, g, d, tk, os⟩ _ h1 q
    wp_walk using q1
    refine wpAny_stack_any fun st => wpAny_pure ?_
    split
    · rename_i c _ _ _ _ _
      cases (c == Value.type "enumerate") <;> (wp_walk using q1; exact ⟨_, rfl, h⟩)
    · (wp_walk using q1; exact ⟨_, rfl, h⟩)
theorem enum_begins1 {prog : Program} {w : World} {A : Around} {E : Value → Shared → Prop} {s : Shared} {v : Value} {o : Obj} {B : Heap → Prop} {Q : Value → Shared → Prop} (b : Begins v o B) (h1 : B s.heap)
    (h : ∀ h', IsEnum h' (s.heap.objs.size + 1) s.heap.objs.size 0 .none → h'.get? s.heap.objs.size = some o →
      (∀ c o', s.heap.get? c = some o' → h'.get? c = some o') → Q (.ref (s.heap.objs.size + 1)) { s with heap := h' }) :
    wpAny (model prog w) A (call (.type "enumerate") [v]) Q E s := by
  refine callType_new F.called_enumerate (by decide) (F.typeCall_enumerate_1 _) (F.newCall_enumerate_1 _) (fun obj => F.args_object_init_2 obj _) F.entry_enumerate_new (meets_enum1 b) ⟨h1, ?_⟩
  have hz : (s.heap.push o).objs.size = s.heap.objs.size + 1 := Heap.size_push ..
  show _ ∧ _
  rw [hz]
  have he : IsEnum ((s.heap.push o).push { cls := .type "enumerate", data := .fields #[.none, .bool false, .ref s.heap.objs.size, rawInt 0, .none, .none] }) (s.heap.objs.size + 1) s.heap.objs.size 0 .none := by
    have q := Heap.get?_push_size (s.heap.push o) (o := { cls := .type "enumerate", data := .fields #[.none, .bool false, .ref s.heap.objs.size, rawInt 0, .none, .none] }) rfl
    rw [hz] at q
    exact q
  exact ⟨⟨_, he, rfl⟩, h _ he (Heap.get?_push_of_some _ (Heap.get?_push_size _ b.free)) fun c o' x => Heap.get?_push_of_some _ (Heap.get?_push_of_some _ x)⟩
variable {X : Cx} {Φ : Calls} {a b tg : Expr} {pos : Pos} {ia ib : E}
def iEnumT (K : PySem.W.Frag) (ta : TA) : TI := fun σ H R => ta σ H fun vs H1 => ∃ a xs, vs = [.ref a] ∧ SqT K H1 a xs ∧ R (IteT K 0 a) H1
theorem pi_enumT {e : Expr} {ta : TA} {p tpos : Pos} {elts : List Expr} {kk : Nat} (hg : Gl X "enumerate") (hm : X.mg "enumerate" = none) (ha : PA X [e] ta) (hs : starEach [e] X.env = [(false, eval e X.env)] := by rfl) :
    PI X (.Tuple elts kk tpos) (.Call (.Name "enumerate" p) [e] [] pos) (iEnumT X.K ta) := ⟨fun pins s σ H R I h => by
  refine PyProof.Rows.Call_ (ld_blt I hg hm PyProof.Rows.boot_enumerate (PyProof.Rows.callWith_type1 (thn (ha.run pos pins s σ H _ I h) fun us s1 ⟨vs, H1, I1, r1, q1⟩ => ?_) hs rfl))
  obtain ⟨a, xs, ex, hq, q⟩ := q1
  subst ex
  cases r1 with
  | cons r rr =>
    cases rr
    cases r
    obtain ⟨its, rv, p', hz⟩ := I1.tuple hq
    refine enum_begins1 (begins_tuple a its.toArray) p' fun h' he hit hk => wpAny_pyIter_enum he ?_
    have I2 : L2.Inv X pins σ H1 { s1 with heap := h' } := I1.kept (t' := s1.toks) hk
    refine ⟨s1.heap.objs.size + 1, [s1.heap.objs.size + 1, s1.heap.objs.size], _, _, H1, rfl, I2, turn_enumT 0 a (s1.heap.objs.size + 1) s1.heap.objs.size, ⟨⟨.none, he⟩, ⟨_, hit, rfl, rfl⟩, Nat.succ_ne_self _⟩, fun c hc => ?_, q⟩
    have hle : s1.heap.objs.size ≤ c := by
      rcases List.mem_cons.mp hc with z | z
      · rw [z]; exact Nat.le_succ _
      · rw [List.mem_singleton.mp z]; exact Nat.le_refl _
    exact I1.fpOk hle (I1.hok.fresh hle)⟩
variable {K : PySem.W.Frag} {r : R} {d : D} {xs : List D}
theorem enum_getZ {k : Int} {xs : List D} {i : Nat} {e : D} (h : (enumFrom 0 xs)[i]? = some e) : ∃ d, xs[i]? = some d ∧ e = .tup [.int ((i : Nat) : Int), d] := by
  obtain ⟨d, h1, h2⟩ := enum_get h
  rw [Nat.zero_add] at h2
  exact ⟨d, h1, h2⟩
theorem Wk.enumT {a : Addr} : Wk K (IteT K 0 a) (Held K r (.tup xs) (.ref a)) (enumFrom 0 xs) where
  stop := fun S ρ σ H rel h i hi => by
    obtain ⟨p, vs, ep, h1, h2⟩ := (h.vd rel).t
    cases ep
    exact ⟨vs, h1, by rw [h2.length]; rw [enum_len] at hi; exact hi⟩
  go := fun S ρ σ H rel h i hi => by
    obtain ⟨p, vs, ep, h1, h2⟩ := (h.vd rel).t
    cases ep
    rw [enum_len] at hi
    have hi : i < vs.length := by rw [h2.length]; exact hi
    exact ⟨vs, vs[i], h1, List.getElem?_eq_getElem hi⟩
  yld := fun S ρ σ H i d' x H' rel h ei y => by
    obtain ⟨p, vs, ep, h1, h2⟩ := (h.vd rel).t
    cases ep
    obtain ⟨T, z, rfl, nT, rfl, y⟩ := y
    obtain ⟨d2, e2, rfl⟩ := enum_getZ (k := 0) ei
    obtain ⟨w, e1, h3⟩ := h2.get e2
    rw [y vs h1] at e1
    cases e1
    rw [Int.zero_add]
    exact ⟨_, .tup nT, Rp.mkTup nT (.cons (.int _) (.cons h3 .nil))⟩
  stay := fun S ρ σ H S' ρ' σ' H' rel h g _ => h.stay rel g
  wip := fun own S ρ σ H no h => h.wipe no
theorem di_enum {p tpos : Pos} {elts : List Expr} {kk : Nat} (hg : Gl X "enumerate") (hm : X.mg "enumerate" = none) (ha : PE X a (tD X.K (ev Φ ia))) (hs : starEach [a] X.env = [(false, eval a X.env)] := by rfl) :
    PI X (.Tuple elts kk tpos) (.Call (.Name "enumerate" p) [a] [] pos) (iD X.K (evit Φ (.enum ia))) := ⟨fun pins s σ H R I q => by
  obtain ⟨S, ρ, l, xs, ρ', rel, e, q⟩ := q
  simp only [evit] at e
  obtain ⟨x, d, ys, e1, v1, e2, rfl, rfl⟩ := itv_split (f := fun _ xs => (none, enumFrom 0 xs)) (g := fun _ xs => (none, xs)) e
  by_cases ht : ∃ zs, d = .tup zs
  · obtain ⟨zs, rfl⟩ := ht
    cases e2
    refine (pi_enumT hg hm (pa_cons ha pa_nil hs) hs).run pins s σ H R I ⟨S, ρ, x, ρ', rel, e1, fun S1 v H1 g1 rel1 r1 => ?_⟩
    obtain ⟨p, vs, ep, h1, h2⟩ := (r1.view rel1 v1).t
    have hd := held_of ⟨g1, rel1⟩ r1 v1
    subst ep
    exact ⟨p, vs, rfl, h1, q S1 H1 _ _ ⟨g1, rel1⟩ .enumT hd⟩
  · refine (pi_enum hg hm (pa_cons ha pa_nil hs) hs).run pins s σ H R I ⟨S, ρ, x, ρ', rel, e1, fun S1 v H1 g1 rel1 r1 => ?_⟩
    have hn : ∀ ys, d ≠ .tup ys := fun ys z => ht ⟨ys, z⟩
    obtain ⟨p, vs, ep, h1, h2⟩ := (r1.view rel1 v1).sq e2 hn
    have hd := held_of ⟨g1, rel1⟩ r1 v1
    subst ep
    exact ⟨p, vs, rfl, h1, q S1 H1 _ _ ⟨g1, rel1⟩ (.enum e2 hn) hd⟩⟩
end
end DL

end

section
set_option autoImplicit false
/-! DLl: statements. -/
namespace DL
open PySem L2
/-- where a statement's end leads -/
def SEnd (K : PySem.W.Frag) (S : Addr → Prop) (ρ : Ev) (σ : St) (H : Hp) (ρ' : Ev) (D : Ends) : Fl → Prop
  | .nx => ∀ S' σ' H', Ac K S ρ σ H S' ρ' σ' H' → D.nx σ' H'
  | .bk => ∀ S' σ' H', Ac K S ρ σ H S' ρ' σ' H' → D.bk σ' H'
  | .ct => ∀ S' σ' H', Ac K S ρ σ H S' ρ' σ' H' → D.ct σ' H'
  | .rt r => ∀ S' σ' H' v, Ac K S ρ σ H S' ρ' σ' H' → Rv K S' H ρ' σ' H' v r → D.rt v H'
def tS (K : PySem.W.Frag) (m : M Fl) : TS := fun D σ H => ∃ S ρ fl ρ', Rel K S ρ σ H ∧ m ρ = .ok fl ρ' ∧ SEnd K S ρ σ H ρ' D fl
theorem psImp {X : Cx} {st : Stmt} {t t' : TS} (h : PS X st t) (i : ∀ D σ H, t' D σ H → t D σ H) : PS X st t' := ⟨fun pins s σ H D I q => h.run pins s σ H D I (i _ _ _ q)⟩
theorem pssImp {X : Cx} {st : List Stmt} {t t' : TS} (h : PSs X st t) (i : ∀ D σ H, t' D σ H → t D σ H) : PSs X st t' := ⟨fun pins s σ H D I q => h.run pins s σ H D I (i _ _ _ q)⟩
section
variable {K : PySem.W.Frag} {S S1 : Addr → Prop} {ρ ρ1 ρ2 : Ev} {σ σ1 : St} {H H1 : Hp} {D : Ends}
/-- an end, seen from an earlier point -/
theorem SEnd.from {fl : Fl} (a : Ac K S ρ σ H S1 ρ1 σ1 H1) (h : SEnd K S ρ σ H ρ2 D fl) : SEnd K S1 ρ1 σ1 H1 ρ2 D fl := by
  cases fl with
  | nx => exact fun S' σ' H' b => h S' σ' H' (a.trans b)
  | bk => exact fun S' σ' H' b => h S' σ' H' (a.trans b)
  | ct => exact fun S' σ' H' b => h S' σ' H' (a.trans b)
  | rt r => exact fun S' σ' H' v b rv => h S' σ' H' v (a.trans b) (rv.base a.go.stay)
/-- a name gets a result -/
theorem Ac.setR {i : Nat} {r : R} {v : V} {u : Unit} (a : Ac K S ρ σ H S1 ρ1 σ1 H1) (rv : Rv K S1 H ρ1 σ1 H1 v r) (e : DL.setR i r ρ1 = .ok u ρ2) : ∃ S2, Ac K S ρ σ H S2 ρ2 (σ1.set i (some v)) H1 ∧ Ke S1 H1 S2 H1 := by
  cases r with
  | fz d =>
    obtain ⟨w, q⟩ := setD_eq (show DL.setD i d ρ1 = Out.ok u ρ2 from e)
    subst q
    exact ⟨S1, a.setD w rv, fun _ h => h, fun _ _ _ h => h⟩
  | fr xs =>
    obtain ⟨w, q⟩ := setL_eq (show DL.setL i xs ρ1 = Out.ok u ρ2 from e)
    subst q
    exact ⟨S1, a.setL w rv, fun _ h => h, fun _ _ _ h => h⟩
  | rf j =>
    obtain ⟨d, ρ3, e1, e2⟩ := bnd_eq (show bnd (DL.share (.rf j)) (DL.setD i) ρ1 = Out.ok u ρ2 from e)
    obtain ⟨S2, a2, rp, ke⟩ := a.share rv e1
    obtain ⟨w, q⟩ := setD_eq e2
    subst q
    exact ⟨S2, a2.setD w rp, ke⟩
theorem Ac.setN {i : Nat} {r : R} {v : V} {u : Unit} (a : Ac K S ρ σ H S1 ρ1 σ1 H1) (hn : ∀ k, r ≠ .rf k) (rv : Rv K S1 H ρ1 σ1 H1 v r) (e : DL.setR i r ρ1 = .ok u ρ2) : Ac K S ρ σ H S1 ρ2 (σ1.set i (some v)) H1 := by
  cases r with
  | fz d =>
    obtain ⟨w, q⟩ := setD_eq (show DL.setD i d ρ1 = Out.ok u ρ2 from e)
    subst q
    exact a.setD w rv
  | fr xs =>
    obtain ⟨w, q⟩ := setL_eq (show DL.setL i xs ρ1 = Out.ok u ρ2 from e)
    subst q
    exact a.setL w rv
  | rf j => exact absurd rfl (hn j)
theorem unref_ok {H₀ : Hp} {v : V} {r t : R} (a : Ac K S ρ σ H S1 ρ1 σ1 H1) (rv : Rv K S1 H₀ ρ1 σ1 H1 v r) (e : unref r ρ1 = .ok t ρ2) : ∃ S2, Ac K S ρ σ H S2 ρ2 σ1 H1 ∧ Rv K S2 H₀ ρ2 σ1 H1 v t ∧ ∀ k, t ≠ .rf k := by
  cases r with
  | fz d =>
    obtain ⟨q1, q2⟩ := ret_eq (show DL.ret (R.fz d) ρ1 = .ok t ρ2 from e)
    subst q1 q2
    exact ⟨S1, a, rv, fun k z => nomatch z⟩
  | fr d =>
    obtain ⟨q1, q2⟩ := ret_eq (show DL.ret (R.fr d) ρ1 = .ok t ρ2 from e)
    subst q1 q2
    exact ⟨S1, a, rv, fun k z => nomatch z⟩
  | rf i =>
    obtain ⟨d, ρ3, e1, e2⟩ := bnd_eq (show bnd (DL.share (.rf i)) (fun d => DL.ret (R.fz d)) ρ1 = .ok t ρ2 from e)
    obtain ⟨q1, q2⟩ := ret_eq e2
    subst q1 q2
    obtain ⟨S2, at2, rp, ke⟩ := At.share (At.start a.rel) (x := .rf i) rv e1
    exact ⟨S2, a.trans at2.ac, rp, fun k z => nomatch z⟩
end
section
variable {X : Cx} {Φ : Calls} {a b c : Expr} {es : List Expr} {pos : Pos} {ia ib ic : E} {tg : Tg} {is js : Ss} {s1 : S} {st : Stmt} {sts : List Stmt}
theorem dss_nil : PSs X [] (tS X.K (execs Φ .nil)) := pssImp pss_nil fun D σ H q => by
  obtain ⟨S, ρ, fl, ρ', rel, e, q⟩ := q
  simp only [execs] at e
  obtain ⟨q1, q2⟩ := ret_eq e
  subst q1 q2
  exact q S σ H (Ac.start rel)
theorem dss_cons (h1 : PS X st (tS X.K (exec Φ s1))) (h2 : PSs X sts (tS X.K (execs Φ is))) : PSs X (st :: sts) (tS X.K (execs Φ (.cons s1 is))) := pssImp (pss_cons h1 h2) fun D σ H q => by
  obtain ⟨S, ρ, fl, ρ', rel, e, q⟩ := q
  simp only [execs] at e
  obtain ⟨f, ρ1, e1, k1⟩ := bnd_eq e
  refine ⟨S, ρ, f, ρ1, rel, e1, ?_⟩
  cases f with
  | nx => exact fun S1 σ1 H1 a1 => ⟨S1, ρ1, fl, ρ', a1.rel, k1, SEnd.from a1 q⟩
  | bk => obtain ⟨q1, q2⟩ := ret_eq k1; subst q1 q2; exact q
  | ct => obtain ⟨q1, q2⟩ := ret_eq k1; subst q1 q2; exact q
  | rt r => obtain ⟨q1, q2⟩ := ret_eq k1; subst q1 q2; exact q
theorem Ac.drop {K : PySem.W.Frag} {S : Addr → Prop} {ρ : Ev} {σ : St} {H : Hp} {ws : List Nat} (rel : Rel K S ρ σ H) (h : dropOk ρ ws = true) : Ac K S ρ σ H S (wipeS ρ ws) σ H := by
  have ls : ∀ (i : Nat) (k : Lk) (xs : List D), (wipeS ρ ws)[i]? = some (.ls k xs) → ρ[i]? = some (.ls k xs) := fun i k xs e => by
    by_cases hi : i ∈ ws
    · cases wipeS_in hi e
    · rw [wipeS_out hi] at e; exact e
  refine ⟨⟨fun _ h => h, fun _ h => .inl h, fun a ⟨i, k, xs, e1, e2⟩ => .inr ⟨i, k, xs, ls i k xs e1, e2⟩, fun _ _ h _ => h, fun _ h => h, fun i k xs e hk => ⟨xs, ?_, rfl, fun _ => rfl⟩⟩, ⟨?_, fun i s ov e e2 => ?_, fun i j k l xs ys a e1 e2 e3 e4 => rel.inj i j k l xs ys a (ls _ _ _ e1) (ls _ _ _ e2) e3 e4, rel.dom⟩⟩
  · by_cases hi : i ∈ ws
    · have := List.all_eq_true.mp h i hi
      rw [e] at this
      cases k with
      | own => exact absurd rfl hk
      | bor => cases this
      | lck => cases this
    · rw [wipeS_out hi]; exact e
  · rw [wipeS_len]; exact rel.len
  · by_cases hi : i ∈ ws
    · cases wipeS_in hi e; exact True.intro
    · rw [wipeS_out hi] at e; exact rel.ok i s ov e e2
theorem dss_wip {ws : List Nat} (h2 : PSs X sts (tS X.K (execs Φ is))) : PSs X sts (tS X.K (execs Φ (.cons (.wip ws) is))) := pssImp h2 fun D σ H q => by
  obtain ⟨S, ρ, fl, ρ', rel, e, q⟩ := q
  simp only [execs, exec] at e
  obtain ⟨f, ρ1, e1, k1⟩ := bnd_eq e
  obtain ⟨_, ρ2, e2, k2⟩ := bnd_eq e1
  obtain ⟨q1, q2⟩ := ret_eq k2
  subst q1 q2
  have e2 : (if dropOk ρ ws then Out.ok () (wipeS ρ ws) else .stk) = .ok _ ρ1 := e2
  split at e2
  · rename_i hd
    cases e2
    have a1 := Ac.drop rel hd
    exact ⟨S, _, fl, ρ', a1.rel, k1, SEnd.from a1 q⟩
  · cases e2
theorem ds_pass : PS X (.Pass pos) (tS X.K (exec Φ .pass)) := psImp ps_pass fun D σ H q => by
  obtain ⟨S, ρ, fl, ρ', rel, e, q⟩ := q
  simp only [exec] at e
  obtain ⟨q1, q2⟩ := ret_eq e
  subst q1 q2
  exact q S σ H (Ac.start rel)
theorem ds_brk : PS X (.Break pos) (tS X.K (exec Φ .brk)) := psImp ps_break fun D σ H q => by
  obtain ⟨S, ρ, fl, ρ', rel, e, q⟩ := q
  simp only [exec] at e
  obtain ⟨q1, q2⟩ := ret_eq e
  subst q1 q2
  exact q S σ H (Ac.start rel)
theorem ds_cnt : PS X (.Continue pos) (tS X.K (exec Φ .cnt)) := psImp ps_continue fun D σ H q => by
  obtain ⟨S, ρ, fl, ρ', rel, e, q⟩ := q
  simp only [exec] at e
  obtain ⟨q1, q2⟩ := ret_eq e
  subst q1 q2
  exact q S σ H (Ac.start rel)
theorem ds_ret (ha : PE X a (tD X.K (ev Φ ia))) : PS X (.Return (some a) pos) (tS X.K (exec Φ (.ret ia))) := psImp (ps_ret ha) fun D σ H q => by
  obtain ⟨S, ρ, fl, ρ', rel, e, q⟩ := q
  simp only [exec] at e
  obtain ⟨r, ρ1, e1, k1⟩ := bnd_eq e
  obtain ⟨q1, q2⟩ := ret_eq k1
  subst q1 q2
  exact ⟨S, ρ, r, _, rel, e1, fun S1 v H1 g1 rel1 r1 => q S1 σ H1 v ⟨g1, rel1⟩ r1⟩
theorem ds_retN : PS X (.Return none pos) (tS X.K (exec Φ .retN)) := psImp ps_retN fun D σ H q => by
  obtain ⟨S, ρ, fl, ρ', rel, e, q⟩ := q
  simp only [exec] at e
  obtain ⟨q1, q2⟩ := ret_eq e
  subst q1 q2
  exact q S σ H .non (Ac.start rel) .non
theorem ds_ex (ha : PE X a (tD X.K (ev Φ ia))) (hs : swapsWith a none pos.line X.env = pure false := by rfl) : PS X (.Expr a pos) (tS X.K (exec Φ (.ex ia))) := psImp (ps_expr ha hs) fun D σ H q => by
  obtain ⟨S, ρ, fl, ρ', rel, e, q⟩ := q
  simp only [exec] at e
  obtain ⟨r, ρ1, e1, k1⟩ := bnd_eq e
  obtain ⟨q1, q2⟩ := ret_eq k1
  subst q1 q2
  exact ⟨S, ρ, r, _, rel, e1, fun S1 v H1 g1 rel1 r1 => q S1 σ H1 ⟨g1, rel1⟩⟩
theorem ds_if (hc : PT X c (tT X.K (evt Φ ic))) (h1 : PSs X sts (tS X.K (execs Φ is))) {ss2 : List Stmt} (h2 : PSs X ss2 (tS X.K (execs Φ js))) : PS X (.If c sts ss2 pos) (tS X.K (exec Φ (.ifs ic is js))) := psImp (ps_if hc h1 h2) fun D σ H q => by
  obtain ⟨S, ρ, fl, ρ', rel, e, q⟩ := q
  simp only [exec] at e
  obtain ⟨x, ρ1, e1, k1⟩ := bnd_eq e
  obtain ⟨d, v1, k2⟩ := vw1_split k1
  obtain ⟨k, e5, k3⟩ := ofO_split k2
  refine ⟨S, ρ, k, ρ1, rel, evt_mk e1 v1 e5, fun S1 b H1 g1 rel1 r1 => ?_⟩
  subst r1
  have a1 : Ac X.K S ρ σ H S1 ρ1 σ H1 := ⟨g1, rel1⟩
  cases b with
  | true => exact iteT ⟨S1, ρ1, fl, ρ', rel1, k3, SEnd.from a1 q⟩
  | false => exact iteF ⟨S1, ρ1, fl, ρ', rel1, k3, SEnd.from a1 q⟩
/-- x = e -/
theorem ds_nm {i : Nat} {t : Expr} (ht : PG X t (gName i)) (ha : PE X a (tD X.K (ev Φ ia))) (h1 : swapsWithSole [t] a pos.line X.env = pure false := by rfl) (h2 : swappedStores [t] a X.env = pure none := by rfl)
    (h3 : (assignEach [t] X.env).map (fun x => x.2) = [assign t X.env] := by rfl) : PS X (.Assign [t] a pos) (tS X.K (exec Φ (.asg (.nm i) ia))) := psImp (ps_asg ha ht h1 h2 h3) fun D σ H q => by
  obtain ⟨S, ρ, fl, ρ', rel, e, q⟩ := q
  simp only [exec] at e
  obtain ⟨r, ρ1, e1, k1⟩ := bnd_eq e
  obtain ⟨u, ρ2, e2, k2⟩ := bnd_eq k1
  obtain ⟨q1, q2⟩ := ret_eq k2
  subst q1 q2
  refine ⟨S, ρ, r, ρ1, rel, e1, fun S1 v H1 g1 rel1 r1 => ?_⟩
  obtain ⟨S2, a2, _⟩ := Ac.setR ⟨g1, rel1⟩ r1 (show setR i r ρ1 = .ok u _ from e2)
  exact q S2 _ H1 a2
/-- any other target -/
theorem ds_asg {t : Expr} (hn : ∀ i, tg ≠ .nm i) (ht : PG X t (gD X.K tg.slots (asgn Φ tg))) (ha : PE X a (tD X.K (ev Φ ia))) (h1 : swapsWithSole [t] a pos.line X.env = pure false := by rfl) (h2 : swappedStores [t] a X.env = pure none := by rfl)
    (h3 : (assignEach [t] X.env).map (fun x => x.2) = [assign t X.env] := by rfl) : PS X (.Assign [t] a pos) (tS X.K (exec Φ (.asg tg ia))) := psImp (ps_asg ha ht h1 h2 h3) fun D σ H q => by
  obtain ⟨S, ρ, fl, ρ', rel, e, q⟩ := q
  simp only [exec] at e
  obtain ⟨r, ρ1, e1, k1⟩ := bnd_eq e
  obtain ⟨u, ρ2, e2, k2⟩ := bnd_eq k1
  obtain ⟨q1, q2⟩ := ret_eq k2
  subst q1 q2
  have e2 : bnd (share r) (fun d => asgn Φ tg d) ρ1 = .ok u ρ' := by
    cases tg with
    | nm i => exact absurd rfl (hn i)
    | sub _ _ => exact e2
    | tp _ => exact e2
  obtain ⟨d, ρ3, e3, k3⟩ := bnd_eq e2
  refine ⟨S, ρ, r, ρ1, rel, e1, fun S1 v H1 g1 rel1 r1 => ?_⟩
  obtain ⟨S2, a2, rp, _⟩ := Ac.share ⟨g1, rel1⟩ r1 e3
  exact ⟨S2, ρ3, d, _, a2.rel, rp, k3, fun S3 σ3 H3 a3 _ => q S3 σ3 H3 (a2.trans a3)⟩
/-- x, y = e1, e2 -/
theorem ds_par {i j : Nat} {x y : Str} {px py pt pt2 : Pos} {kt k2 : Nat} (hc : X.calm = true) (hN : X.N.Nodup) (hi : X.N[i]? = some x) (hj : X.N[j]? = some y) (hij : i ≠ j) (lx : X.env.scope.names.lookup x = some .local) (ly : X.env.scope.names.lookup y = some .local)
    (ha : PE X a (tD X.K (ev Φ ia))) (hb : PE X b (tD X.K (ev Φ ib))) (h1 : starEach [a, b] X.env = (false, eval a X.env) :: starEach [b] X.env := by rfl) (h2 : starEach [b] X.env = (false, eval b X.env) :: starEach [] X.env := by rfl)
    (h3 : swappedStores [.Tuple [.Name x px, .Name y py] kt pt] (.Tuple [a, b] k2 pt2) X.env = pure (some [x, y]) := by rfl) (h4 : swapsWithSole [.Tuple [.Name x px, .Name y py] kt pt] (.Tuple [a, b] k2 pt2) pos.line X.env = pure false := by rfl) :
    PS X (.Assign [.Tuple [.Name x px, .Name y py] kt pt] (.Tuple [a, b] k2 pt2) pos) (tS X.K (exec Φ (.par i j ia ib))) := psImp (ps_par hc hN hi hj hij lx ly (pa_cons ha (pa_cons hb pa_nil h2) h1) h3 h4) fun D σ H q => by
  obtain ⟨S, ρ, fl, ρ', rel, e, q⟩ := q
  simp only [exec] at e
  obtain ⟨r1, ρ1, e1, k1⟩ := bnd_eq e
  obtain ⟨r2, ρ2, e2, k2⟩ := bnd_eq k1
  obtain ⟨t1, ρ3, e3, k3⟩ := bnd_eq k2
  obtain ⟨t2, ρ4, e4, k4⟩ := bnd_eq k3
  obtain ⟨u5, ρ5, e5, k5⟩ := bnd_eq k4
  obtain ⟨u6, ρ6, e6, k6⟩ := bnd_eq k5
  obtain ⟨q1, q2⟩ := ret_eq k6
  subst q1 q2
  refine ⟨S, ρ, r1, ρ1, rel, e1, fun S1 v H1 g1 rel1 w1 => ⟨S1, ρ1, r2, ρ2, rel1, e2, fun S2 u H2 g2 rel2 w2 => ⟨v, u, rfl, ?_⟩⟩⟩
  obtain ⟨S3, a3, x1, n1⟩ := unref_ok (Ac.start rel2) (w1.go rel1 g2) e3
  have y1 : Rv X.K S3 H1 ρ3 σ H2 u r2 := w2.go rel2 a3.go
  obtain ⟨S4, a4, y2, n2⟩ := unref_ok (Ac.start a3.rel) y1 e4
  have x2 := x1.go a3.rel a4.go
  have all4 : Ac X.K S ρ σ H S4 ρ4 σ H2 := ((⟨g1.trans g2, rel2⟩ : Ac X.K S ρ σ H S2 ρ2 σ H2).trans a3).trans a4
  have a5 := all4.setN n1 x2 e5
  -- the second value behind the first store
  have y3 : Rv X.K S4 H ρ5 (σ.set i (some v)) H2 u t2 := by
    cases t2 with
    | fz d => exact y2
    | rf k => exact absurd rfl (n2 k)
    | fr ys =>
      obtain ⟨p, vs, ep, h0, h1, h2, h3, h4⟩ := y2
      have own5 : ∀ z, Own ρ5 (σ.set i (some v)) z → Own ρ4 σ z ∨ H1 z ≠ none := fun z hz => by
        cases t1 with
        | rf k => exact absurd rfl (n1 k)
        | fz d =>
          obtain ⟨_, q⟩ := setD_eq (show setD i d ρ4 = .ok u5 ρ5 from e5)
          subst q
          obtain ⟨l, k, zs, z1, z2⟩ := hz
          by_cases h : i = l
          · subst h
            by_cases hb : i < ρ4.length
            · rw [List.getElem?_set_self hb] at z1; cases z1
            · rw [List.getElem?_eq_none (by rw [List.length_set]; omega)] at z1; cases z1
          · rw [List.getElem?_set_ne h] at z1 z2
            exact .inl ⟨l, k, zs, z1, z2⟩
        | fr xs =>
          obtain ⟨_, q⟩ := setL_eq (show setL i xs ρ4 = .ok u5 ρ5 from e5)
          subst q
          obtain ⟨l, k, zs, z1, z2⟩ := hz
          by_cases h : i = l
          · subst h
            by_cases hb : i < σ.length
            · rw [List.getElem?_set_self hb] at z2
              cases z2
              refine .inr ?_
              -- the first value stood ahead of the second's evaluation
              cases r1 with
              | fz d => cases (show ret (R.fz d) ρ2 = .ok (R.fr xs) ρ3 from e3)
              | rf k' =>
                obtain ⟨d, ρ9, f1, f2⟩ := bnd_eq (show bnd (share (.rf k')) (fun d => ret (.fz d)) ρ2 = .ok (R.fr xs) ρ3 from e3)
                obtain ⟨f3, _⟩ := ret_eq f2
                cases f3
              | fr xs' =>
                obtain ⟨p', vs', ep', _, h1', _⟩ := w1
                rw [ref_inj ep', h1']
                simp
            · rw [List.getElem?_eq_none (by rw [List.length_set]; omega)] at z2; cases z2
          · rw [List.getElem?_set_ne h] at z1 z2
            exact .inl ⟨l, k, zs, z1, z2⟩
      exact ⟨p, vs, ep, g1.stay p h0, h1, h2, fun z => (own5 p z).elim h3 fun n => n h0, h4⟩
  obtain ⟨S6, a6, _⟩ := a5.setR y3 e6
  exact q S6 _ H2 a6
/-- x += e, ints -/
theorem ds_aug {i : Nat} {x : Str} {op : Operator} {o : Bop} {f : Int → Int → Int} {pos' : Pos} (hN : X.N.Nodup) (hi : X.N[i]? = some x) (hx : L2.Loc X.env.scope x) (hop : PIp X op (ipI f)) (ho : ∀ i j, binD o (.int i) (.int j) = some (.fz (.int (f i j))))
    (ha : PE X a (tD X.K (ev Φ ia))) (hf : X.fn x = true ∨ X.env.scope.names.lookup x = some .local := by first | exact .inl rfl | exact .inr rfl) : PS X (.AugAssign (.Name x pos') op a pos) (tS X.K (exec Φ (.aug i o ia))) := psImp (ps_aug hN hi hx ha hop hf) fun D σ H q => by
  obtain ⟨S, ρ, fl, ρ', rel, e, q⟩ := q
  simp only [exec] at e
  obtain ⟨r1, ρ1, e1, k1⟩ := bnd_eq e
  obtain ⟨r2, ρ2, e2, k2⟩ := bnd_eq k1
  obtain ⟨d1, d2, v1, v2, k3⟩ := vw2_split k2
  cases d1 <;> (try (cases k3; done))
  cases d2 <;> (try (cases k3; done))
  rename_i m n
  obtain ⟨r3, e3, k4⟩ := ofO_split (show bnd (ofO (binD o (.int m) (.int n))) _ ρ2 = _ from k3)
  obtain ⟨u, ρ4, e4, k5⟩ := bnd_eq k4
  obtain ⟨q1, q2⟩ := ret_eq k5
  subst q1 q2
  rw [ho] at e3
  cases e3
  simp only [ev] at e1
  split at e1
  · rename_i d z
    cases e1
    cases v1
    obtain ⟨w, ew, rw'⟩ := rel.atF z
    cases rw'
    refine ⟨_, ew, S, _, r2, ρ2, rel, e2, fun S1 v H1 g1 rel1 w1 => ⟨m, n, rfl, (w1.view rel1 v2).i, ?_⟩⟩
    obtain ⟨wr, q3⟩ := setD_eq (show setD i (.int (f m n)) ρ2 = .ok u _ from e4)
    subst q3
    exact q S1 _ H1 ((⟨g1, rel1⟩ : Ac X.K S _ σ H S1 ρ2 σ H1).setD wr (.int _))
  · rename_i k xs z
    cases e1
    have v1 : (match ρ2[i]? with | some (Sl.ls _ xs) => some (DL.D.lst xs) | _ => none) = some (DL.D.int m) := v1
    split at v1 <;> cases v1
  · cases e1
end
end DL

end

section
set_option autoImplicit false
/-! DLm: loops. -/
namespace DL
open PySem L2
section
variable {K : PySem.W.Frag} {S S1 : Addr → Prop} {ρ ρ1 ρ2 : Ev} {σ σ1 : St} {H H1 : Hp} {D : Ends}
/-- the kind of a slot's list is turned -/
theorem Rel.kind {i : Nat} {k l : Lk} {xs : List DL.D} (rel : Rel K S ρ σ H) (e : ρ[i]? = some (.ls k xs)) : Rel K S (ρ.set i (.ls l xs)) σ H := by
  have hi : i < ρ.length := (List.getElem?_eq_some_iff.mp e).1
  have inv : ∀ (j : Nat) (m : Lk) (ys : List DL.D), (ρ.set i (.ls l xs))[j]? = some (.ls m ys) → ∃ m', ρ[j]? = some (.ls m' ys) := fun j m ys e1 => by
    by_cases h : i = j
    · subst h
      rw [List.getElem?_set_self hi] at e1
      cases e1
      exact ⟨k, e⟩
    · rw [List.getElem?_set_ne h] at e1
      exact ⟨m, e1⟩
  refine ⟨by rw [List.length_set]; exact rel.len, fun j s ov e1 e2 => ?_, fun j j' m m' ys zs a e1 e2 e3 e4 => ?_, rel.dom⟩
  · by_cases h : i = j
    · subst h
      rw [List.getElem?_set_self hi] at e1
      cases e1
      exact (rel.ok i _ ov e e2 : SlotOk K S H (.ls k xs) ov)
    · rw [List.getElem?_set_ne h] at e1
      exact rel.ok j s ov e1 e2
  · obtain ⟨m1, q1⟩ := inv j m ys e1
    obtain ⟨m2, q2⟩ := inv j' m' zs e2
    exact rel.inj j j' m1 m2 ys zs a q1 q2 e3 e4
theorem Own.kind {i : Nat} {k l : Lk} {xs : List DL.D} (e : ρ[i]? = some (.ls k xs)) {a : Addr} : Own (ρ.set i (.ls l xs)) σ a ↔ Own ρ σ a := by
  have hi : i < ρ.length := (List.getElem?_eq_some_iff.mp e).1
  constructor
  · rintro ⟨j, m, ys, e1, e2⟩
    by_cases h : i = j
    · subst h
      rw [List.getElem?_set_self hi] at e1
      cases e1
      exact ⟨i, k, xs, e, e2⟩
    · rw [List.getElem?_set_ne h] at e1
      exact ⟨j, m, ys, e1, e2⟩
  · rintro ⟨j, m, ys, e1, e2⟩
    by_cases h : i = j
    · subst h
      rw [e] at e1
      cases e1
      exact ⟨i, l, xs, List.getElem?_set_self hi, e2⟩
    · exact ⟨j, m, ys, by rw [List.getElem?_set_ne h]; exact e1, e2⟩
/-- a run under a lock: opened again -/
theorem Ac.unlock {i : Nat} {k : Lk} {xs ys : List DL.D} (e : ρ[i]? = some (.ls k xs)) (a : Ac K S (ρ.set i (.ls .lck xs)) σ H S1 ρ1 σ1 H1) (e1 : ρ1[i]? = some (.ls .lck ys)) : Ac K S ρ σ H S1 (ρ1.set i (.ls k ys)) σ1 H1 := by
  have hi : i < ρ.length := (List.getElem?_eq_some_iff.mp e).1
  have hi1 : i < ρ1.length := (List.getElem?_eq_some_iff.mp e1).1
  obtain ⟨zs, q1, q2, q3⟩ := a.go.fix i .lck xs (List.getElem?_set_self hi) (by simp)
  have ez : ys = xs := by
    rw [e1] at q1
    cases q1
    exact q3 rfl
  refine ⟨⟨a.go.sub, fun z h => (a.go.new z h).imp id (Or.imp id (Own.kind e).mp), fun z h => (a.go.own z ((Own.kind e1).mp h)).imp id (Own.kind e).mp, fun z o h n => a.go.keep z o h fun w => n ((Own.kind e).mp w), a.go.stay, fun j m ws e2 n => ?_⟩, a.rel.kind e1⟩
  by_cases h : i = j
  · subst h
    rw [e] at e2
    cases e2
    exact ⟨ys, List.getElem?_set_self hi1, q2, fun _ => ez⟩
  · obtain ⟨us, w1, w2, w3⟩ := a.go.fix j m ws (by rw [List.getElem?_set_ne h]; exact e2) n
    exact ⟨us, by rw [List.getElem?_set_ne h]; exact w1, w2, w3⟩
theorem Rv.kind {i : Nat} {k l : Lk} {xs : List DL.D} {H₀ : Hp} {v : V} {r : R} (e : ρ[i]? = some (.ls k xs)) (h : Rv K S H₀ ρ σ H v r) : Rv K S H₀ (ρ.set i (.ls l xs)) σ H v r := by
  cases r with
  | fz d => exact h
  | fr ys => obtain ⟨a, vs, e1, h0, h1, h2, h3, h4⟩ := h; exact ⟨a, vs, e1, h0, h1, h2, fun z => h3 ((Own.kind e).mp z), h4⟩
  | rf j => exact h
/-- what withLock did -/
theorem lock_split {α : Type} {l : Option (Nat × Lk)} {m : M α} {x : α} (hl : ∀ i k, l = some (i, k) → ∃ xs, ρ[i]? = some (.ls k xs)) (h : withLock l m ρ = .ok x ρ2) :
    (l = none ∧ m ρ = .ok x ρ2) ∨ ∃ i k xs ys ρ1, l = some (i, k) ∧ ρ[i]? = some (.ls k xs) ∧ m (ρ.set i (.ls .lck xs)) = .ok x ρ1 ∧ (∃ k', ρ1[i]? = some (.ls k' ys)) ∧ ρ2 = ρ1.set i (.ls k ys) := by
  unfold withLock at h
  split at h
  · exact .inl ⟨rfl, h⟩
  · rename_i i k
    obtain ⟨xs, e⟩ := hl i k rfl
    rw [e] at h
    obtain ⟨a, ρ1, e1, h1⟩ := then_eq (show (m (ρ.set i (.ls .lck xs))).then _ = _ from h)
    split at h1
    · rename_i k' ys e2
      cases h1
      exact .inr ⟨i, k, xs, ys, ρ1, rfl, e, e1, ⟨k', e2⟩, rfl⟩
    · cases h1
theorem lockOf_ok {r : R} {i : Nat} {k : Lk} (h : lockOf ρ r = some (i, k)) : ∃ xs, ρ[i]? = some (.ls k xs) := by
  cases r with
  | fz _ => cases h
  | fr _ => cases h
  | rf j =>
    have h : (match ρ[j]? with | some (Sl.ls k _) => some (j, k) | _ => none) = some (i, k) := h
    split at h
    · rename_i k' xs e; cases h; exact ⟨xs, e⟩
    · cases h
end
/-- the kinds of walks lock what stands in a slot -/
theorem evit_lock {Φ : Calls} {it : DL.It} {ρ ρ' : Ev} {l : Option (Nat × Lk)} {xs : List DL.D} (h : evit Φ it ρ = .ok (l, xs) ρ') : ∀ i k, l = some (i, k) → ∃ xs, ρ'[i]? = some (.ls k xs) := by
  have one : ∀ {m : M R} {f : List DL.D → List DL.D}, bnd m (fun x => bnd (vw x) fun d => fun ρ => bnd (ofO (itemsD d)) (fun xs => ret (lockOf ρ x, f xs)) ρ) ρ = .ok (l, xs) ρ' → ∀ i k, l = some (i, k) → ∃ xs, ρ'[i]? = some (.ls k xs) := fun h i k e => by
    obtain ⟨x, d, ys, _, _, _, e1, _⟩ := itv_split (f := fun _ xs => (none, _)) (g := fun _ xs => (none, xs)) h
    exact lockOf_ok (e1.symm.trans e)
  have none_of : ∀ {m : M (Option (Nat × Lk) × List DL.D)}, (∀ ρ ρ' p, m ρ = .ok p ρ' → p.1 = none) → m ρ = .ok (l, xs) ρ' → ∀ i k, l = some (i, k) → ∃ xs, ρ'[i]? = some (.ls k xs) := fun hm h i k e => by
    have := hm _ _ _ h
    rw [show l = none from this] at e
    cases e
  cases it with
  | val e => simp only [evit] at h; exact one (f := id) h
  | enum e => simp only [evit] at h; exact one (f := enumFrom 0) h
  | rev e => simp only [evit] at h; exact one (f := List.reverse) h
  | rng1 e =>
    simp only [evit] at h
    intro i k e
    obtain ⟨x, ρ1, e1, h1⟩ := bnd_eq h
    obtain ⟨d, v1, h2⟩ := vw1_split h1
    cases d <;> (try (cases h2; done))
    rename_i j
    have h2 : (if small62 j = true then ret (none, rngL 0 j) else stuck) ρ1 = .ok (l, xs) ρ' := h2
    split at h2
    · obtain ⟨q1, _⟩ := ret_eq h2
      cases q1
      cases e
    · cases h2
  | rng2 a b =>
    simp only [evit] at h
    intro i k e
    obtain ⟨x, ρ1, e1, h1⟩ := bnd_eq h
    obtain ⟨y, ρ2, e2, h2⟩ := bnd_eq h1
    obtain ⟨d, f, v1, v2, h3⟩ := vw2_split h2
    cases d <;> (try (cases h3; done))
    cases f <;> (try (cases h3; done))
    rename_i m n
    have h3 : (if (small62 m && small62 n) = true then ret (none, rngL m n) else stuck) ρ2 = .ok (l, xs) ρ' := h3
    split at h3
    · obtain ⟨q1, _⟩ := ret_eq h3
      cases q1
      cases e
    · cases h3
  | rngD a b =>
    simp only [evit] at h
    intro i k e
    obtain ⟨x, ρ1, e1, h1⟩ := bnd_eq h
    obtain ⟨y, ρ2, e2, h2⟩ := bnd_eq h1
    obtain ⟨d, f, v1, v2, h3⟩ := vw2_split h2
    cases d <;> (try (cases h3; done))
    cases f <;> (try (cases h3; done))
    rename_i m n
    have h3 : (if (small62 m && small62 n) = true then ret (none, rngDL m n) else stuck) ρ2 = .ok (l, xs) ρ' := h3
    split at h3
    · obtain ⟨q1, _⟩ := ret_eq h3
      cases q1
      cases e
    · cases h3
  | enumZ a b =>
    simp only [evit] at h
    intro i k e
    obtain ⟨x, ρ1, e1, h1⟩ := bnd_eq h
    obtain ⟨d, ρ2, e2, h2⟩ := bnd_eq h1
    obtain ⟨y, ρ3, e3, h3⟩ := bnd_eq h2
    obtain ⟨f, ρ4, e4, h4⟩ := bnd_eq h3
    cases d <;> (try (cases h4; done))
    cases f <;> (try (cases h4; done))
    obtain ⟨q1, _⟩ := ret_eq h4
    cases q1
    cases e
  | zip a b =>
    simp only [evit] at h
    intro i k e
    obtain ⟨x, ρ1, e1, h1⟩ := bnd_eq h
    obtain ⟨d, ρ2, e2, h2⟩ := bnd_eq h1
    obtain ⟨y, ρ3, e3, h3⟩ := bnd_eq h2
    obtain ⟨f, ρ4, e4, h4⟩ := bnd_eq h3
    obtain ⟨zs, _, h5⟩ := ofO_split h4
    obtain ⟨q1, _⟩ := ret_eq h5
    cases q1
    cases e
section
variable {X : Cx} {Φ : Calls} {a b c : Expr} {es : List Expr} {pos : Pos} {ia ib ic : E} {tg : Tg} {is js : Ss} {t iter : Expr} {it : DL.It} {body : List Stmt}
/-- the loop from some turn on -/
theorem for_loop {J : L2.It} {Src : SrcT} {xs : List DL.D} {g : TG} {tb : TS} {K : PySem.W.Frag} {S : Addr → Prop} {ρ ρ2 : Ev} {σ : St} {H : Hp} {D : Ends} {fl : Fl} {sl : List Nat} {m : DL.D → M Unit} {bd : M Fl} (w : Wk K J Src xs)
    (hg : ∀ v σ H Q, gD K sl m v σ H Q → g v σ H Q) (hb : ∀ D σ H, tS K bd D σ H → tb D σ H) (rel : Rel K S ρ σ H) (src : Src S ρ σ H)
    (e : forL (fun x => bnd (m x) fun _ => bd) xs ρ = .ok fl ρ2) (nb : fl = .nx ∨ ∃ r, fl = .rt r) (q : SEnd K S ρ σ H ρ2 D fl) :
    ∃ W : Nat → Nat → St → Hp → Prop, (∃ m, W 0 m σ H) ∧ ∀ i m σ' H', W i m σ' H' → (J.stop i H' ∧ D.nx σ' H') ∨ (J.go i H' ∧ ∃ N : St → Hp → Prop, (∀ σ2 H2, N σ2 H2 → ∃ m', m' < m ∧ W (i + 1) m' σ2 H2) ∧
      ∀ x H2, J.yld i H' x H2 → g x σ' H2 fun σ3 H3 => tb { nx := N, rt := D.rt, bk := D.nx, ct := N } σ3 H3) := by
  refine ⟨fun i n σ' H' => i + n = xs.length ∧ ∃ S' ρ', Ac K S ρ σ H S' ρ' σ' H' ∧ forL (fun x => bnd (m x) fun _ => bd) (xs.drop i) ρ' = .ok fl ρ2, ⟨xs.length, Nat.zero_add _, S, ρ, Ac.start rel, e⟩, fun i n σ' H' hW => ?_⟩
  obtain ⟨hn, S', ρ', ac, e'⟩ := hW
  have src' := w.stay _ _ _ _ _ _ _ _ rel src ac.go ac.rel
  by_cases hi : i < xs.length
  · refine .inr ⟨w.go _ _ _ _ ac.rel src' i hi, fun σ2 H2 => ∃ S2 ρ3, Ac K S ρ σ H S2 ρ3 σ2 H2 ∧ forL (fun x => bnd (m x) fun _ => bd) (xs.drop (i + 1)) ρ3 = .ok fl ρ2, fun σ2 H2 ⟨S2, ρ3, a2, e2⟩ => ⟨n - 1, by omega, by omega, S2, ρ3, a2, e2⟩, fun x H2 hy => ?_⟩
    have hd : xs[i]? = some xs[i] := List.getElem?_eq_getElem hi
    obtain ⟨S2, gn, rp⟩ := w.yld _ _ _ _ _ _ _ _ ac.rel src' hd hy
    have a2 : Ac K S ρ σ H S2 ρ' σ' H2 := ac.trans ⟨gn.go, ac.rel.gn gn⟩
    rw [List.drop_eq_getElem_cons hi] at e'
    obtain ⟨f, ρ4, e4, k4⟩ := bnd_eq (show bnd (bnd (m xs[i]) fun _ => bd) _ ρ' = _ from e')
    obtain ⟨u, ρ5, e5, k5⟩ := bnd_eq e4
    refine hg x σ' H2 _ ⟨S2, ρ', xs[i], ρ5, a2.rel, rp, e5, fun S3 σ3 H3 a3 _ => hb _ _ _ ⟨S3, ρ5, f, ρ4, a3.rel, k5, ?_⟩⟩
    have a23 := a2.trans a3
    cases f with
    | nx => exact fun S6 σ6 H6 a6 => ⟨S6, ρ4, a23.trans a6, k4⟩
    | ct => exact fun S6 σ6 H6 a6 => ⟨S6, ρ4, a23.trans a6, k4⟩
    | bk =>
      obtain ⟨q1, q2⟩ := ret_eq (show ret Fl.nx ρ4 = .ok fl ρ2 from k4)
      subst q1 q2
      exact fun S6 σ6 H6 a6 => q S6 σ6 H6 (a23.trans a6)
    | rt r =>
      obtain ⟨q1, q2⟩ := ret_eq (show ret (Fl.rt r) ρ4 = .ok fl ρ2 from k4)
      subst q1 q2
      exact fun S6 σ6 H6 v a6 rv => q S6 σ6 H6 v (a23.trans a6) (rv.base a23.go.stay)
  · refine .inl ⟨w.stop _ _ _ _ ac.rel src' i (by omega), ?_⟩
    rw [List.drop_eq_nil_of_le (by omega)] at e'
    obtain ⟨q1, q2⟩ := ret_eq (show ret Fl.nx ρ' = .ok fl ρ2 from e')
    subst q1 q2
    exact q S' σ' H' ac
theorem forL_end {step : DL.D → M Fl} : ∀ {xs : List DL.D} {ρ ρ' : Ev} {fl : Fl}, forL step xs ρ = .ok fl ρ' → fl = .nx ∨ ∃ r, fl = .rt r
  | [], ρ, ρ', fl, h => by obtain ⟨q, _⟩ := ret_eq (show ret Fl.nx ρ = .ok fl ρ' from h); exact .inl q
  | x :: r, ρ, ρ', fl, h => by
    obtain ⟨f, ρ1, e1, k1⟩ := bnd_eq (show bnd (step x) _ ρ = _ from h)
    cases f with
    | nx => exact forL_end (xs := r) k1
    | ct => exact forL_end (xs := r) k1
    | bk => obtain ⟨q, _⟩ := ret_eq (show ret Fl.nx ρ1 = .ok fl ρ' from k1); exact .inl q
    | rt r => obtain ⟨q, _⟩ := ret_eq (show ret (Fl.rt r) ρ1 = .ok fl ρ' from k1); exact .inr ⟨r, q⟩
/-- for t in iter: body -/
theorem ds_for (hp : PassesOwn (model X.prog X.w) X.A X.env X.xe) (hc : X.calm = true) (hi : PI X t iter (iD X.K (evit Φ it))) (ht : PG X t (gD X.K tg.slots (asgn Φ tg))) (hb : PSs X body (tS X.K (execs Φ is))) (hf : ∀ (x : Value), foldedSetIterable iter X.env x = pure x := by intro _; rfl) :
    PS X (.For t iter body [] pos) (tS X.K (exec Φ (.for_ tg it is))) := psImp (ps_for hp hc hi ht hb hf) fun D σ H q => by
  obtain ⟨S, ρ, fl, ρ', rel, e, q⟩ := q
  simp only [exec] at e
  obtain ⟨⟨l, xs⟩, ρ1, e1, k1⟩ := bnd_eq e
  refine ⟨S, ρ, l, xs, ρ1, rel, e1, fun S1 H1 J Src at1 w src => ?_⟩
  have a1 := at1.ac
  rcases lock_split (evit_lock e1) (show withLock l _ ρ1 = _ from k1) with ⟨rfl, k2⟩ | ⟨i, k, ys, zs, ρ2, rfl, e2, k2, ⟨k', e3⟩, rfl⟩
  · exact for_loop w (fun _ _ _ _ h => h) (fun _ _ _ h => h) a1.rel src k2 (forL_end k2) (SEnd.from a1 q)
  · have hk : locked (some (i, k)) ρ1 = ρ1.set i (.ls .lck ys) := by
      show (match ρ1[i]? with | some (.ls _ xs) => ρ1.set i (.ls .lck xs) | _ => ρ1) = _
      rw [e2]
    rw [hk] at src
    have relL : Rel X.K S1 (ρ1.set i (.ls .lck ys)) σ H1 := a1.rel.kind e2
    have unl : ∀ {S' σ' H'}, Ac X.K S1 (ρ1.set i (.ls .lck ys)) σ H1 S' ρ2 σ' H' → Ac X.K S ρ σ H S' (ρ2.set i (.ls k zs)) σ' H' ∧ ρ2[i]? = some (.ls .lck zs) := fun {S' σ' H'} a => by
      obtain ⟨us, w1, _, _⟩ := a.go.fix i .lck ys (List.getElem?_set_self (List.getElem?_eq_some_iff.mp e2).1) (by simp)
      rw [e3] at w1
      cases w1
      exact ⟨a1.trans (a.unlock e2 e3), e3⟩
    have nb := forL_end k2
    refine for_loop w (fun _ _ _ _ h => h) (fun _ _ _ h => h) relL src k2 nb ?_
    rcases nb with rfl | ⟨r, rfl⟩
    · exact fun S' σ' H' a => q S' σ' H' (unl a).1
    · exact fun S' σ' H' v a rv => q S' σ' H' v (unl a).1 ((rv.base a1.go.stay).kind (unl a).2)
/-- while c: body -/
theorem ds_whl (hp : PassesOwn (model X.prog X.w) X.A X.env X.xe) (hc : PT X c (tT X.K (evt Φ ic))) (hb : PSs X body (tS X.K (execs Φ is))) : PS X (.While c body [] pos) (tS X.K (exec Φ (.whl ic is))) := psImp (ps_while hp hc hb) fun D σ H q => by
  obtain ⟨S, ρ, fl, ρ', rel, e, q⟩ := q
  simp only [exec] at e
  refine ⟨fun n σ' H' => ∃ S' ρ1, Ac X.K S ρ σ H S' ρ1 σ' H' ∧ whileN (evt Φ ic) (execs Φ is) n ρ1 = .ok fl ρ', ⟨fuelW, S, ρ, Ac.start rel, e⟩, fun n σ' H' hW => ?_⟩
  obtain ⟨S', ρ1, ac, e1⟩ := hW
  cases n with
  | zero => cases e1
  | succ n =>
    obtain ⟨k, ρ2, e2, k2⟩ := bnd_eq (show bnd (evt Φ ic) _ ρ1 = _ from e1)
    refine ⟨S', ρ1, k, ρ2, ac.rel, e2, fun S3 b H3 g3 rel3 r3 => ?_⟩
    subst r3
    have a3 : Ac X.K S ρ σ H S3 ρ2 σ' H3 := ac.trans ⟨g3, rel3⟩
    cases b with
    | true =>
      obtain ⟨f, ρ4, e4, k4⟩ := bnd_eq (show bnd (execs Φ is) _ ρ2 = _ from k2)
      refine iteT ⟨fun σ2 H2 => ∃ S2 ρ3, Ac X.K S ρ σ H S2 ρ3 σ2 H2 ∧ whileN (evt Φ ic) (execs Φ is) n ρ3 = .ok fl ρ', fun σ2 H2 h => ⟨n, Nat.lt_succ_self _, h⟩, S3, ρ2, f, ρ4, rel3, e4, ?_⟩
      cases f with
      | nx => exact fun S6 σ6 H6 a6 => ⟨S6, ρ4, a3.trans a6, k4⟩
      | ct => exact fun S6 σ6 H6 a6 => ⟨S6, ρ4, a3.trans a6, k4⟩
      | bk =>
        obtain ⟨q1, q2⟩ := ret_eq (show ret Fl.nx ρ4 = .ok fl ρ' from k4)
        subst q1 q2
        exact fun S6 σ6 H6 a6 => q S6 σ6 H6 (a3.trans a6)
      | rt r =>
        obtain ⟨q1, q2⟩ := ret_eq (show ret (Fl.rt r) ρ4 = .ok fl ρ' from k4)
        subst q1 q2
        exact fun S6 σ6 H6 v a6 rv => q S6 σ6 H6 v (a3.trans a6) (rv.base a3.go.stay)
    | false =>
      obtain ⟨q1, q2⟩ := ret_eq (show ret Fl.nx ρ2 = .ok fl ρ' from k2)
      subst q1 q2
      exact iteF (q S3 σ' H3 a3)
end
end DL

end

section
set_option autoImplicit false
/-! DLn: list comprehensions. -/
namespace DL
open PySem L2
section
variable {X : Cx} {Φ : Calls} {a b c : Expr} {pos : Pos} {ie ic : E} {tg : Tg} {t iter elt : Expr} {it : DL.It} {own : List Nat}
/-- an optional test -/
theorem dts_none : PTs X [] (tT X.K (evc Φ .none)) := ⟨fun pins s σ H Q I q => by
  obtain ⟨S, ρ, r, ρ', rel, e, q⟩ := q
  simp only [evc] at e
  obtain ⟨q1, q2⟩ := ret_eq e
  subst q1 q2
  exact pts_nil.run pins s σ H Q I (q S _ H .refl rel rfl)⟩
theorem dts_some (h : PT X c (tT X.K (evt Φ ic))) : PTs X [c] (tT X.K (evc Φ (.some ic))) := ⟨fun pins s σ H Q I q => by
  obtain ⟨S, ρ, r, ρ', rel, e, q⟩ := q
  simp only [evc] at e
  exact (pts_one h).run pins s σ H Q I ⟨S, ρ, r, ρ', rel, e, q⟩⟩
/-- one turn's meaning -/
def compStep (Φ : Calls) (own : List Nat) (tg : Tg) (cond : Eo) (elt : E) : D → M (Option D) := fun x => bnd (asgn Φ tg x) fun _ => bnd (evc Φ cond) fun k =>
  if k then bnd (ev Φ elt) fun r => bnd (share r) fun y => bnd (wipeM own) fun _ => ret (some y) else bnd (wipeM own) fun _ => ret none
theorem Go.temp {S S' : Addr → Prop} {ρ ρ' : Ev} {σ σ' : St} {H H' : Hp} {Da : Addr} {o : HO} (g : Go S ρ σ H S' ρ' σ' H') (h0 : H Da = none) : Go S ρ σ H S' ρ' σ' (upd H' Da o) :=
  ⟨g.sub, g.new, g.own, fun a u h n => by rw [upd_ne (ne_of_none h h0)]; exact g.keep a u h n, fun a h => by
    by_cases e : a = Da
    · rw [e, upd_same] at h; cases h
    · rw [upd_ne e] at h; exact g.stay a h, g.fix⟩
theorem Rel.temp {K : PySem.W.Frag} {S : Addr → Prop} {ρ : Ev} {σ : St} {H : Hp} {Da : Addr} {o : HO} (rel : Rel K S ρ σ H) (h1 : ¬ S Da) (h2 : ¬ Own ρ σ Da) : Rel K S ρ σ (upd H Da o) := by
  have ke : Ke S H S (upd H Da o) := ⟨fun _ h => h, fun a u s h => by
    have na : a ≠ Da := fun z => h1 (by rw [← z]; exact s)
    rw [upd_ne na]; exact h⟩
  refine ⟨rel.len, fun i s ov e1 e2 => ?_, rel.inj, fun a h => ?_⟩
  · have w := rel.ok i s ov e1 e2
    cases s with
    | un => trivial
    | fz d => obtain ⟨v, ev, hv⟩ := w; exact ⟨v, ev, hv.mono ke⟩
    | ls k xs =>
      obtain ⟨a, vs, ea, q1, q2, q3⟩ := w
      subst ea
      have na : a ≠ Da := fun z => h2 (by rw [← z]; exact ⟨i, k, xs, e1, e2⟩)
      exact ⟨a, vs, rfl, by rw [upd_ne na]; exact q1, q2, q3.mono ke⟩
  · by_cases e : a = Da
    · exact absurd (e ▸ h) h1
    · rw [upd_ne e]; exact rel.dom a h
theorem wipeS_idem (ρ : Ev) (vs : List Nat) : wipeS (wipeS ρ vs) vs = wipeS ρ vs := by
  refine List.ext_getElem? fun i => ?_
  by_cases hi : i ∈ vs
  · cases e : (wipeS (wipeS ρ vs) vs)[i]? with
    | none =>
      have h := List.getElem?_eq_none_iff.mp e
      rw [wipeS_len] at h
      exact (List.getElem?_eq_none h).symm
    | some s =>
      cases wipeS_in hi e
      have h := (List.getElem?_eq_some_iff.mp e).1
      rw [wipeS_len] at h
      have e2 := List.getElem?_eq_getElem h
      have e3 := wipeS_in hi e2
      rw [e2, e3]
  · rw [wipeS_out hi]
theorem wipeV_idem (σ : St) (vs : List Nat) : wipe (wipe σ vs) vs = wipe σ vs := wipeV_eq (wipe_length σ vs) fun _ _ => rfl
theorem wipeS_ok {ρ : Ev} {own : List Nat} : ∀ i ∈ own, ∀ k zs, (wipeS ρ own)[i]? ≠ some (.ls k zs) := fun i hi k zs e => by cases wipeS_in hi e
/-- the turns from some place on, the list so far at Da -/
theorem comp_loop {K : PySem.W.Frag} {J : L2.It} {Src : SrcT} {xs ys : List D} {g : TG} {tt : TT} {te : TE} {S : Addr → Prop} {ρ ρ2 : Ev} {σ : St} {H : Hp} {cond : Eo} {elt : E} {Qd : Hp → Prop} {Da : Addr} (w : Wk K J Src xs)
    (hg : ∀ v σ H Q, gD K tg.slots (asgn Φ tg) v σ H Q → g v σ H Q) (ht : ∀ σ H Q, tT K (evc Φ cond) σ H Q → tt σ H Q) (he : ∀ σ H Q, tD K (ev Φ elt) σ H Q → te σ H Q) (hs : ∀ i ∈ tg.slots, i ∈ own)
    (rel : Rel K S (wipeS ρ own) (wipe σ own) H) (src : Src S (wipeS ρ own) (wipe σ own) H) (hD : H Da = none)
    (e : cmpL (compStep Φ own tg cond elt) xs [] (wipeS ρ own) = .ok ys ρ2)
    (q : ∀ S' H', Ac K S (wipeS ρ own) (wipe σ own) H S' ρ2 (wipe σ own) H' → Rv K S' (fun _ => none) ρ2 (wipe σ own) H' (.ref Da) (.fr ys) → Qd H') :
    ∃ W : Nat → Nat → Hp → Prop, (∃ m, W 0 m (upd H Da (.lst []))) ∧ ∀ i m H', W i m H' → (J.stop i H' ∧ Qd H') ∨ (J.go i H' ∧ ∃ Nx : Hp → Prop, (∀ H2, Nx H2 → ∃ m', m' < m ∧ W (i + 1) m' H2) ∧
      ∀ x H2, J.yld i H' x H2 → g x (wipe σ own) H2 fun σ3 H3 => wipe σ3 own = wipe σ own ∧ tt σ3 H3 fun b H4 => if b = true then te σ3 H4 fun y H5 => ∃ acc, H5 Da = some (.lst acc) ∧ acc.length < sizeLine ∧ Nx (upd H5 Da (.lst (acc ++ [y]))) else Nx H4) := by
  -- the state between the turns
  refine ⟨fun i n H' => i + n = xs.length ∧ ∃ S' ρ' ds, Ac K S (wipeS ρ own) (wipe σ own) H S' ρ' (wipe σ own) H' ∧ wipeS ρ' own = ρ' ∧ Rv K S' (fun _ => none) ρ' (wipe σ own) H' (.ref Da) (.fr ds) ∧
      cmpL (compStep Φ own tg cond elt) (xs.drop i) ds ρ' = .ok ys ρ2, ⟨xs.length, Nat.zero_add _, S, _, [], ⟨(Gn.lst hD).go, rel.gn (Gn.lst hD)⟩, wipeS_idem _ _, ⟨Da, [], rfl, rfl, upd_same, fun z => rel.dom Da z hD, (fun z => by
        obtain ⟨us, eu⟩ := rel.own_lst z
        rw [hD] at eu
        cases eu), .nil⟩, e⟩, fun i n H' hW => ?_⟩
  obtain ⟨hn, S', ρ', ds, ac1, wi, t1, e'⟩ := hW
  have src' := w.stay _ _ _ _ _ _ _ _ rel src ac1.go ac1.rel
  by_cases hi : i < xs.length
  · refine .inr ⟨w.go _ _ _ _ ac1.rel src' i hi, fun H2 => ∃ S2 ρ3 es, Ac K S (wipeS ρ own) (wipe σ own) H S2 ρ3 (wipe σ own) H2 ∧ wipeS ρ3 own = ρ3 ∧ Rv K S2 (fun _ => none) ρ3 (wipe σ own) H2 (.ref Da) (.fr es) ∧
        cmpL (compStep Φ own tg cond elt) (xs.drop (i + 1)) es ρ3 = .ok ys ρ2, fun H2 h => ⟨n - 1, by omega, by omega, h⟩, fun x H2 hy => ?_⟩
    have hd : xs[i]? = some xs[i] := List.getElem?_eq_getElem hi
    obtain ⟨S2, gn, rp⟩ := w.yld _ _ _ _ _ _ _ _ ac1.rel src' hd hy
    have rel2 := ac1.rel.gn gn
    have t2 := Rv.go4 ac1.rel (gn.go (ρ := ρ') (σ := wipe σ own)) t1
    rw [List.drop_eq_getElem_cons hi] at e'
    obtain ⟨o, ρ4, e4, k4⟩ := bnd_eq (show bnd (compStep Φ own tg cond elt xs[i]) _ ρ' = _ from e')
    obtain ⟨u, ρ5, e5, k5⟩ := bnd_eq (show bnd (asgn Φ tg xs[i]) _ ρ' = _ from e4)
    obtain ⟨bb, ρ6, e6, k6⟩ := bnd_eq k5
    refine hg x _ H2 _ ⟨S2, ρ', xs[i], ρ5, rel2, rp, e5, fun S3 σ3 H3 a3 s3 => ?_⟩
    have ws : wipe σ3 own = wipe σ own := wipeV_eq (s3.1.trans (wipe_length σ own)) fun j hj => s3.2 j fun z => hj (hs j z)
    have t3 := Rv.go4 rel2 a3.go t2
    refine ⟨ws, ht _ _ _ ⟨S3, ρ5, bb, ρ6, a3.rel, e6, fun S4 b H4 g4 rel4 eb => ?_⟩⟩
    subst eb
    have t4 := Rv.go4 a3.rel g4 t3
    have ac4 : Ac K S (wipeS ρ own) (wipe σ own) H S4 ρ6 σ3 H4 := (ac1.trans ⟨gn.go, rel2⟩).trans (a3.trans ⟨g4, rel4⟩)
    -- the next turn's state, from the end of this one
    have fin : ∀ {S7 : Addr → Prop} {ρ7 : Ev} {H7 : Hp} {es : List D}, Ac K S (wipeS ρ own) (wipe σ own) H S7 ρ7 σ3 H7 → Rv K S7 (fun _ => none) ρ7 σ3 H7 (.ref Da) (.fr es) → (∀ i ∈ own, ∀ k zs, ρ7[i]? ≠ some (.ls k zs)) →
        Ac K S (wipeS ρ own) (wipe σ own) H S7 (wipeS ρ7 own) (wipe σ own) H7 ∧ Rv K S7 (fun _ => none) (wipeS ρ7 own) (wipe σ own) H7 (.ref Da) (.fr es) := fun {S7 ρ7 H7 es} a7 t7 no => by
      have g7 := a7.go.wipe no wipeS_ok
      rw [wipeS_idem, wipeV_idem, ws] at g7
      have r7 := a7.rel.wipe no
      rw [ws] at r7
      obtain ⟨p, vs, ep, _, q1, q2, q3, q4⟩ := t7
      refine ⟨⟨g7, r7⟩, p, vs, ep, rfl, q1, q2, fun z => q3 ?_, q4⟩
      rw [← ws] at z
      exact (Own.wipe no).mp z
    cases b with
    | true =>
      obtain ⟨r, ρ7, e7, k7⟩ := bnd_eq (show bnd (ev Φ elt) _ ρ6 = _ from k6)
      obtain ⟨y, ρ8, e8, k8⟩ := bnd_eq k7
      obtain ⟨u9, ρ9, e9, k9⟩ := bnd_eq k8
      obtain ⟨q1, q2⟩ := ret_eq k9
      subst q1 q2
      obtain ⟨no, q9⟩ := wipeM_eq e9
      subst q9
      refine iteT (he _ _ _ ⟨S4, ρ6, r, ρ7, rel4, e7, fun S5 v H5 g5 rel5 r5 => ?_⟩)
      obtain ⟨S6, at6, rp6, _⟩ := At.share ⟨g5, rel5⟩ r5 e8
      have t6 := Rv.go4 rel4 at6.go t4
      obtain ⟨a6, t6⟩ := fin (ac4.trans at6.ac) t6 no
      obtain ⟨p, vs, ep, _, h1, h2, h3, h4⟩ := t6
      cases ep
      have k4 : (if ds.length < sizeLine then cmpL (compStep Φ own tg cond elt) (xs.drop (i + 1)) (ds ++ [y]) else stuck) (wipeS ρ8 own) = .ok ys ρ2 := k4
      split at k4
      · rename_i hz
        have ke : Ke S6 H5 S6 (upd H5 Da (.lst (vs ++ [v]))) := ⟨fun _ h => h, fun a u s h => by
          have na : a ≠ Da := fun z => h2 (by rw [← z]; exact s)
          rw [upd_ne na]; exact h⟩
        exact ⟨vs, h1, by rw [h4.length]; exact hz, S6, _, ds ++ [y], ⟨a6.go.temp hD, a6.rel.temp h2 h3⟩, wipeS_idem _ _, ⟨Da, vs ++ [v], rfl, rfl, upd_same, h2, h3, (h4.append (.cons rp6 .nil)).mono ke⟩, k4⟩
      · cases k4
    | false =>
      obtain ⟨u9, ρ9, e9, k9⟩ := bnd_eq (show bnd (wipeM own) _ ρ6 = _ from k6)
      obtain ⟨q1, q2⟩ := ret_eq k9
      subst q1 q2
      obtain ⟨no, q9⟩ := wipeM_eq e9
      subst q9
      obtain ⟨a6, t6⟩ := fin ac4 t4 no
      exact iteF ⟨S4, _, ds, a6, wipeS_idem _ _, t6, k4⟩
  · refine .inl ⟨w.stop _ _ _ _ ac1.rel src' i (by omega), ?_⟩
    rw [List.drop_eq_nil_of_le (by omega)] at e'
    obtain ⟨q1, q2⟩ := ret_eq (show ret ds ρ' = .ok ys ρ2 from e')
    subst q1 q2
    exact q S' H' ac1 t1
/-- the own names' slots as they were -/
theorem Ac.back {K : PySem.W.Frag} {S S1 S2 : Addr → Prop} {ρ ρ1 ρ2 : Ev} {σ : St} {H H1 H2 : Hp} (a : Ac K S ρ σ H S1 ρ1 σ H1) (no : ∀ i ∈ own, ∀ k zs, ρ1[i]? ≠ some (.ls k zs)) (b : Ac K S1 (wipeS ρ1 own) (wipe σ own) H1 S2 ρ2 (wipe σ own) H2) :
    Ac K S ρ σ H S2 (backS ρ1 ρ2 own) σ H2 ∧ ∀ z, Own (backS ρ1 ρ2 own) σ z → Own ρ2 (wipe σ own) z := by
  have hl : ρ2.length = ρ1.length := by rw [b.rel.len, wipe_length, ← a.rel.len]
  have own1 : ∀ z, Own (backS ρ1 ρ2 own) σ z → Own ρ2 (wipe σ own) z := fun z ⟨i, k, xs, e1, e2⟩ => by
    by_cases hi : i ∈ own
    · have h1 : i < ρ1.length := by
        have := (List.getElem?_eq_some_iff.mp e1).1
        rw [backS_len, hl] at this
        exact this
      rw [backS_in hi h1 (by rw [hl]; exact h1)] at e1
      exact absurd e1 (no i hi k xs)
    · rw [backS_out hi] at e1
      exact ⟨i, k, xs, e1, by rw [wipeV_out hi]; exact e2⟩
  have ownw : ∀ z, Own (wipeS ρ1 own) (wipe σ own) z ↔ Own ρ1 σ z := fun z => Own.wipe no
  have go1 : Go S1 ρ1 σ H1 S2 (backS ρ1 ρ2 own) σ H2 := ⟨b.go.sub, fun z h => (b.go.new z h).imp id (Or.imp id (ownw z).mp), fun z h => (b.go.own z (own1 z h)).imp id (ownw z).mp, fun z o h n => b.go.keep z o h fun w => n ((ownw z).mp w), b.go.stay, fun i k xs e n => by
    have hi : i ∉ own := fun z => no i z k xs e
    obtain ⟨ys, q1, q2, q3⟩ := b.go.fix i k xs (by rw [wipeS_out hi]; exact e) n
    exact ⟨ys, by rw [backS_out hi]; exact q1, rfl, q3⟩⟩
  refine ⟨⟨a.go.trans go1, ⟨by rw [backS_len, hl]; exact a.rel.len, fun i s ov e1 e2 => ?_, fun i j k l xs ys z e1 e2 e3 e4 => ?_, b.rel.dom⟩⟩, own1⟩
  · by_cases hi : i ∈ own
    · have h1 : i < ρ1.length := by
        have := (List.getElem?_eq_some_iff.mp e1).1
        rw [backS_len, hl] at this
        exact this
      rw [backS_in hi h1 (by rw [hl]; exact h1)] at e1
      have w := a.rel.ok i s ov e1 e2
      cases s with
      | un => trivial
      | fz d => obtain ⟨v, ev, hv⟩ := w; exact ⟨v, ev, hv.mono (go1.ke a.rel)⟩
      | ls k xs => exact absurd e1 (no i hi k xs)
    · rw [backS_out hi] at e1
      exact b.rel.ok i s ov e1 (by rw [wipeV_out hi]; exact e2)
  · have f : ∀ (i : Nat) (k : Lk) (xs : List D), (backS ρ1 ρ2 own)[i]? = some (.ls k xs) → i ∉ own := fun i k xs e hi => by
      have h1 : i < ρ1.length := by
        have := (List.getElem?_eq_some_iff.mp e).1
        rw [backS_len, hl] at this
        exact this
      rw [backS_in hi h1 (by rw [hl]; exact h1)] at e
      exact no i hi k xs e
    have f1 := f i k xs e1
    have f2 := f j l ys e2
    rw [backS_out f1] at e1
    rw [backS_out f2] at e2
    exact b.rel.inj i j k l xs ys z e1 e2 (by rw [wipeV_out f1]; exact e3) (by rw [wipeV_out f2]; exact e4)
theorem comp_read {wi : TI} {g : TG} {tt : TT} {te : TE} {cond : Eo} {ielt : E} {σ : St} {H : Hp} {Q : VK} (hi : wi = iD X.K (evit Φ it)) (hg : g = gD X.K tg.slots (asgn Φ tg)) (ht : tt = tT X.K (evc Φ cond)) (he : te = tD X.K (ev Φ ielt))
    (hs : ∀ i ∈ tg.slots, i ∈ own) (q : tD X.K (ev Φ (.comp own tg it cond ielt)) σ H Q) : tLc wi g tt te own σ H Q := by
  subst hi hg ht he
  obtain ⟨S, ρ, r, ρ', rel, e, q⟩ := q
  simp only [ev] at e
  obtain ⟨⟨l, xs⟩, ρ1, e1, k1⟩ := bnd_eq e
  obtain ⟨ys, ρ2, k2, k3⟩ := then_eq (show Out.then _ _ = _ from k1)
  cases k3
  obtain ⟨u, ρ3, e3, k4⟩ := bnd_eq k2
  obtain ⟨no, q3⟩ := wipeM_eq e3
  subst q3
  refine ⟨S, ρ, l, xs, ρ1, rel, e1, fun S1 H1 J Src at1 w src Da hD => ?_⟩
  have a1 := at1.ac
  have relw := a1.rel.wipe no
  have lk := evit_lock e1
  -- what is left at the end
  have fin : ∀ {S' : Addr → Prop} {H' : Hp} {ρ4 : Ev}, Ac X.K S1 (wipeS ρ1 own) (wipe σ own) H1 S' ρ4 (wipe σ own) H' → Rv X.K S' (fun _ => none) ρ4 (wipe σ own) H' (.ref Da) (.fr ys) → ρ4 = ρ2 → Q (.ref Da) H' := fun {S' H' ρ4} a t e4 => by
    subst e4
    obtain ⟨b, ob⟩ := a1.back no a
    obtain ⟨p, vs, ep, _, h1, h2, h3, h4⟩ := t
    cases ep
    exact q S' _ H' b.go b.rel ⟨Da, vs, rfl, at1.go.stay Da hD, h1, h2, fun z => h3 (ob Da z), h4⟩
  have lkw : ∀ i k, l = some (i, k) → ∃ xs, (wipeS ρ1 own)[i]? = some (.ls k xs) := fun i k z => by
    obtain ⟨zs, ez⟩ := lk i k z
    have hi : i ∉ own := fun h => no i h k zs ez
    exact ⟨zs, by rw [wipeS_out hi]; exact ez⟩
  rcases lock_split lkw (show withLock l _ (wipeS ρ1 own) = _ from k4) with ⟨rfl, k5⟩ | ⟨i, k, us, zs, ρ5, rfl, e2, k5, ⟨k', e5⟩, q5⟩
  · exact comp_loop w (fun _ _ _ _ h => h) (fun _ _ _ h => h) (fun _ _ _ h => h) hs relw (w.wip own _ _ _ _ no src) hD k5 fun S' H' a t => fin a t rfl
  · have hi : i ∉ own := fun h => by cases wipeS_in h e2
    have e2' : ρ1[i]? = some (.ls k us) := by rw [← wipeS_out hi]; exact e2
    have hk : locked (some (i, k)) ρ1 = ρ1.set i (.ls .lck us) := by
      show (match ρ1[i]? with | some (.ls _ xs) => ρ1.set i (.ls .lck xs) | _ => ρ1) = _
      rw [e2']
    rw [hk] at src
    have sw : wipeS (ρ1.set i (.ls .lck us)) own = (wipeS ρ1 own).set i (.ls .lck us) := by
      refine List.ext_getElem? fun j => ?_
      by_cases hj : j ∈ own
      · have hij : i ≠ j := fun z => hi (z ▸ hj)
        rw [List.getElem?_set_ne hij]
        cases z1 : (wipeS (ρ1.set i (.ls .lck us)) own)[j]? with
        | none =>
          have z2 := List.getElem?_eq_none_iff.mp z1
          rw [wipeS_len, List.length_set] at z2
          exact (List.getElem?_eq_none (by rw [wipeS_len]; exact z2)).symm
        | some s =>
          cases wipeS_in hj z1
          have z2 := (List.getElem?_eq_some_iff.mp z1).1
          rw [wipeS_len, List.length_set] at z2
          have z3 := List.getElem?_eq_getElem (l := wipeS ρ1 own) (i := j) (by rw [wipeS_len]; exact z2)
          rw [z3, wipeS_in hj z3]
      · rw [wipeS_out hj]
        by_cases hij : i = j
        · subst hij
          rw [List.getElem?_set_self (List.getElem?_eq_some_iff.mp e2').1, List.getElem?_set_self (List.getElem?_eq_some_iff.mp e2).1]
        · rw [List.getElem?_set_ne hij, List.getElem?_set_ne hij, wipeS_out hj]
    have noL : ∀ j ∈ own, ∀ k zs, (ρ1.set i (.ls .lck us))[j]? ≠ some (.ls k zs) := fun j hj k zs z => by
      have hij : i ≠ j := fun z => hi (z ▸ hj)
      rw [List.getElem?_set_ne hij] at z
      exact no j hj k zs z
    have src2 := w.wip own _ _ _ _ noL src
    have relL : Rel X.K S1 (wipeS (ρ1.set i (.ls .lck us)) own) (wipe σ own) H1 := by
      rw [sw]
      exact relw.kind e2
    rw [← sw] at k5
    refine comp_loop w (fun _ _ _ _ h => h) (fun _ _ _ h => h) (fun _ _ _ h => h) hs relL src2 hD k5 fun S' H' a t => ?_
    rw [sw] at a
    obtain ⟨ws, w1, _, _⟩ := a.go.fix i .lck us (List.getElem?_set_self (List.getElem?_eq_some_iff.mp e2).1) (by simp)
    rw [e5] at w1
    cases w1
    have a2 := a.unlock e2 e5
    exact fin a2 (t.kind e5) q5.symm
end
end DL

end

section
set_option autoImplicit false
/-! DLo: comprehensions as a value and as a name's new value; a def by its body. -/
namespace DL
open PySem L2
section
variable {X : Cx} {Φ : Calls} {pos : Pos} {ielt : E} {ic : Eo} {tg t : Tg} {tx iter elt : Expr} {ifs : List Expr} {it : DL.It} {own : List (Str × Nat)} {scope : Scope}
theorem de_comp (hc : X.calm = true) (hN : X.N.Nodup) (ok : blkC X.N X.env.scope scope own = true) (hs : ∀ i ∈ tg.slots, i ∈ own.map (·.2)) (hi : PI X tx iter (iD X.K (evit Φ it)))
    (hg : ∀ (s : Shared) (H : Hp) (C : Addr) (cl : List (Str × Addr)) (fp : List Addr), PG (X.blk s H scope (compEnvC scope cl C X.env) fp) tx (gD X.K tg.slots (asgn Φ tg)))
    (ht : ∀ (s : Shared) (H : Hp) (C : Addr) (cl : List (Str × Addr)) (fp : List Addr), PTs (X.blk s H scope (compEnvC scope cl C X.env) fp) ifs (tT X.K (evc Φ ic)))
    (he : ∀ (s : Shared) (H : Hp) (C : Addr) (cl : List (Str × Addr)) (fp : List Addr), PE (X.blk s H scope (compEnvC scope cl C X.env) fp) elt (tD X.K (ev Φ ielt)))
    (hf : ∀ x, foldedSetIterable iter X.env x = pure x := by intro _; rfl) : PE X (.ListComp elt [⟨tx, iter, ifs, 0⟩] scope pos) (tD X.K (ev Φ (.comp (own.map (·.2)) tg it ic ielt))) :=
  peImp (pe_lc hc hN hi (blkOk_by ok) hg ht he hf) fun σ H Q q => comp_read (it := it) (own := own.map (·.2)) rfl rfl rfl rfl hs q
/-- y = [..] on one line -/
theorem ds_comp {i : Nat} {y : Str} {py spos : Pos} (hc : X.calm = true) (hN : X.N.Nodup) (hy : X.N[i]? = some y) (hyl : X.env.scope.names.lookup y = some .local) (hk : X.env.scope.kind = .function) (hl : (py.line == pos.line) = true)
    (ha : (scope.names.any fun (n, k) => n == y && (k == .local || k == .cell)) = false) (ok : blkC X.N X.env.scope scope own = true) (hs : ∀ i ∈ tg.slots, i ∈ own.map (·.2)) (hi : PI X tx iter (iD X.K (evit Φ it)))
    (hg : ∀ (s : Shared) (H : Hp) (C : Addr) (cl : List (Str × Addr)) (fp : List Addr), PG (X.blk s H scope (compEnvC scope cl C X.env) fp) tx (gD X.K tg.slots (asgn Φ tg)))
    (ht : ∀ (s : Shared) (H : Hp) (C : Addr) (cl : List (Str × Addr)) (fp : List Addr), PTs (X.blk s H scope (compEnvC scope cl C X.env) fp) ifs (tT X.K (evc Φ ic)))
    (he : ∀ (s : Shared) (H : Hp) (C : Addr) (cl : List (Str × Addr)) (fp : List Addr), PE (X.blk s H scope (compEnvC scope cl C X.env) fp) elt (tD X.K (ev Φ ielt)))
    (hf : ∀ x, foldedSetIterable iter X.env x = pure x := by intro _; rfl) : PS X (.Assign [.Name y py] (.ListComp elt [⟨tx, iter, ifs, 0⟩] scope pos) spos) (tS X.K (exec Φ (.asg (.nm i) (.comp (own.map (·.2)) tg it ic ielt)))) :=
  psImp (ps_setLc hc hN hy hyl (sw_true hk hyl hl ha) hi (blkOk_by ok) hg ht he hf) fun D σ H q => by
    obtain ⟨S, ρ, fl, ρ', rel, e, q⟩ := q
    simp only [exec] at e
    obtain ⟨r, ρ1, e1, k1⟩ := bnd_eq e
    obtain ⟨u, ρ2, e2, k2⟩ := bnd_eq k1
    obtain ⟨q1, q2⟩ := ret_eq k2
    subst q1 q2
    refine comp_read (X := X) (it := it) (own := own.map (·.2)) rfl rfl rfl rfl hs ⟨S, ρ, r, ρ1, rel, e1, fun S1 v H1 g1 rel1 r1 => ?_⟩
    obtain ⟨S2, a2, _⟩ := Ac.setR ⟨g1, rel1⟩ r1 (show setR i r ρ1 = .ok u _ from e2)
    exact q S2 _ H1 a2
end
/-! ### defs -/
/-- a def (a method) as it stands behind the top; dV: its defaults -/
structure FunW (K : PySem.W.Frag) (x qual : Str) (st : Stmt) (f : Addr) (fd : FuncData) (dV : Value) : Prop where
  ex : ∃ (oc : Value) (od : Option Addr) (kV doc pm : Value) (an : Option Addr) (cdv ct : Value) (osl : Array (Option Value)),
    fd = PySem.W.fnOf x qual (defArgs st) (defBody st) (defScope st) dV kV doc pm an cdv ct ∧ K.lookup f = some ⟨oc, od, .func fd, osl⟩ ∧ PySem.W.codeIn K cdv qual = true
  kp : PySem.W.keepIn K (.ref f) = true
theorem funW_mk {K : PySem.W.Frag} {x qual : Str} {st : Stmt} {f : Addr} {oc : Value} {od an : Option Addr} {osl : Array (Option Value)} {dV kV doc pm cdv ct : Value} (l : K.lookup f = some ⟨oc, od, .func (PySem.W.fnOf x qual (defArgs st) (defBody st) (defScope st) dV kV doc pm an cdv ct), osl⟩)
    (c : PySem.W.codeIn K cdv qual = true) (k : PySem.W.keepIn K (.ref f) = true) : FunW K x qual st f (PySem.W.fnOf x qual (defArgs st) (defBody st) (defScope st) dV kV doc pm an cdv ct) dV := ⟨⟨oc, od, kV, doc, pm, an, cdv, ct, osl, rfl, l, c⟩, k⟩
open PySem.Spec PyProof.Rows in
/-- a def's promise from its body -/
theorem fnG_of {P : Program} {w : World} {K : PySem.W.Frag} {mg : Str → Option Value} {base : Heap} {k : Nat} {x qual : Str} {st : Stmt} {f : Addr} {fd : FuncData} {N ps : List Str} {sp : Sp} {dV : Value} (F : FunW K x qual st f fd dV) (sc : FnScope N ps (defScope st))
    (len : ∀ vs H Q E, sp vs H Q E → vs.length = ps.length)
    (body : ∀ (cd : Value) (A : Around) (out : List Env) (s : Shared) (H : Hp) (vs : List V) (Q : VK) (E : XK), Room k (A.deeper (envOfC qual (defScope st) s.heap.objs.size f cd)) → (A.deeper (envOfC qual (defScope st) s.heap.objs.size f cd)).guards = some [] →
      sp vs H Q E → ∃ t, PSs (cxOf L2.CX0 P w K mg base N qual (defScope st) f cd A out s H E).nox (defBody st) t ∧ t ⟨fun _ h => Q .non h, Q, fun _ _ => False, fun _ _ => False⟩ (start N vs) H) :
    FnG P w K mg base L2.CX0 (k + 1) f fd ps sp := by
  rcases F.ex with ⟨oc, od, kv, dc, pm, an, cd, ct, osl, efd, lk, cin⟩
  subst efd
  constructor
  · exact len
  intro A out s0 H args us vs Q E room gd env0 bt rv h
  have nlen := len vs H Q E h
  have kin : K.In s0.heap := env0.mod.kin.keeps fun b o z => (env0.bs b o z).1
  have nl : s0.heap.NoLimit := env0.mod.nolimit.keeps fun b o z => (env0.bs b o z).1
  apply codeAny_call_function room.depth (kin _ _ lk) rfl sc.co sc.gen rfl (PySem.W.codeRec_of kin cin) (bt _ _ _ _ _)
  apply wpAny_newFunctionEnv_cells sc.kind
  · rintro ⟨n, v⟩ mem
    rcases sc.par n (List.of_mem_zip mem).1 with z | z
    · exact Or.inl z
    · exact Or.inr ⟨z, PySem.W.cellsFrom_some _ _ _ (Or.inl z)⟩
  intro env eenv s1 made
  subst eenv
  refine And.intro (nl.keeps made.toInCall.keep) ?_
  apply codeAny_func
  obtain ⟨t, read, got⟩ := body cd A out s0 H vs Q E (room.deeper _) gd h
  have inv := inv_start (CX := L2.CX0) (E := E) sc room.hd env0 nlen rv made
  refine wpAny_mono (read.nox.run [] s1 _ H _ inv got) ?_ fun _ _ z => z
  intro fl s2 z
  cases fl with
  | brk => obtain ⟨_, _, _, w⟩ := z; exact w.elim
  | cont => obtain ⟨_, _, _, w⟩ := z; exact w.elim
  | next => obtain ⟨σ2, H2, J, w⟩ := z; exact ⟨V.non, H2, J.os, J.bare, J.base, J.hok, rfl, w⟩
  | ret u => obtain ⟨v2, σ2, H2, J, rv2, w⟩ := z; exact ⟨v2, H2, J.os, J.bare, J.base, J.hok, rv2, w⟩
end DL

end

section
set_option autoImplicit false
/-! DLo2: zip of two lists or of two tuples; reversed. -/
namespace DL
open PySem L2
section
variable {K : PySem.W.Frag} {S S' : Addr → Prop} {ρ ρ' : Ev} {σ σ' : St} {H H' : Hp} {r : R} {d : D} {v : V} {a b : Addr} {xs ys : List D}
theorem zip_get : ∀ {xs ys : List D} {i : Nat} {d : D}, (zipD xs ys)[i]? = some d → ∃ x y, xs[i]? = some x ∧ ys[i]? = some y ∧ d = .tup [x, y]
  | [], _, _, _, h => by unfold zipD at h; cases h
  | _ :: _, [], _, _, h => by unfold zipD at h; cases h
  | x :: xs, y :: ys, 0, d, h => by cases h; exact ⟨x, y, rfl, rfl, rfl⟩
  | x :: xs, y :: ys, i + 1, d, h => zip_get (xs := xs) (ys := ys) h
theorem zip_len : ∀ (xs ys : List D), (zipD xs ys).length = min xs.length ys.length
  | [], ys => by simp [zipD]
  | _ :: _, [] => by simp [zipD]
  | _ :: xs, _ :: ys => by
    show (zipD xs ys).length + 1 = _
    rw [zip_len xs ys, List.length_cons, List.length_cons]
    omega
/-- two frozen things -/
def Two (K : PySem.W.Frag) (u v : V) (d e : D) : SrcT := fun S _ _ H => Rp K S H u d ∧ Rp K S H v e
theorem Two.stay {u v : V} {d e : D} (rel : Rel K S ρ σ H) (h : Two K u v d e S ρ σ H) (g : Go S ρ σ H S' ρ' σ' H') : Two K u v d e S' ρ' σ' H' := ⟨h.1.mono (g.ke rel), h.2.mono (g.ke rel)⟩
theorem Wk.zipL : Wk K (Itz K a b) (Two K (.ref a) (.ref b) (.lst xs) (.lst ys)) (zipD xs ys) where
  stop := fun S ρ σ H rel h i hi => by
    obtain ⟨p, vs, ep, h1, h2⟩ := (Vd.fz h.1).sq rfl (fun _ z => nomatch z)
    obtain ⟨q, us, eq, h3, h4⟩ := (Vd.fz h.2).sq rfl (fun _ z => nomatch z)
    cases ep
    cases eq
    rw [zip_len] at hi
    exact ⟨vs, us, h1, h3, by rw [h2.length, h4.length]; omega⟩
  go := fun S ρ σ H rel h i hi => by
    obtain ⟨p, vs, ep, h1, h2⟩ := (Vd.fz h.1).sq rfl (fun _ z => nomatch z)
    obtain ⟨q, us, eq, h3, h4⟩ := (Vd.fz h.2).sq rfl (fun _ z => nomatch z)
    cases ep
    cases eq
    rw [zip_len] at hi
    have i1 : i < vs.length := by rw [h2.length]; omega
    have i2 : i < us.length := by rw [h4.length]; omega
    exact ⟨vs, us, vs[i], us[i], h1, h3, List.getElem?_eq_getElem i1, List.getElem?_eq_getElem i2⟩
  yld := fun S ρ σ H i d' x H' rel h ei y => by
    obtain ⟨p, vs, ep, h1, h2⟩ := (Vd.fz h.1).sq rfl (fun _ z => nomatch z)
    obtain ⟨q, us, eq, h3, h4⟩ := (Vd.fz h.2).sq rfl (fun _ z => nomatch z)
    cases ep
    cases eq
    obtain ⟨T, z1, z2, rfl, nT, rfl, y1, y2⟩ := y
    obtain ⟨x1, x2, e1, e2, rfl⟩ := zip_get ei
    obtain ⟨w1, f1, r1⟩ := h2.get e1
    obtain ⟨w2, f2, r2⟩ := h4.get e2
    rw [y1 vs h1] at f1
    rw [y2 us h3] at f2
    cases f1
    cases f2
    exact ⟨_, .tup nT, Rp.mkTup nT (.cons r1 (.cons r2 .nil))⟩
  stay := fun S ρ σ H S' ρ' σ' H' rel h g _ => h.stay rel g
  wip := fun own S ρ σ H no h => h
theorem Wk.zipT : Wk K (RZ.ItzT K a b) (Two K (.ref a) (.ref b) (.tup xs) (.tup ys)) (zipD xs ys) where
  stop := fun S ρ σ H rel h i hi => by
    obtain ⟨p, vs, ep, h1, h2⟩ := (Vd.fz h.1).t
    obtain ⟨q, us, eq, h3, h4⟩ := (Vd.fz h.2).t
    cases ep
    cases eq
    rw [zip_len] at hi
    exact ⟨vs, us, h1, h3, by rw [h2.length, h4.length]; omega⟩
  go := fun S ρ σ H rel h i hi => by
    obtain ⟨p, vs, ep, h1, h2⟩ := (Vd.fz h.1).t
    obtain ⟨q, us, eq, h3, h4⟩ := (Vd.fz h.2).t
    cases ep
    cases eq
    rw [zip_len] at hi
    have i1 : i < vs.length := by rw [h2.length]; omega
    have i2 : i < us.length := by rw [h4.length]; omega
    exact ⟨vs, us, vs[i], us[i], h1, h3, List.getElem?_eq_getElem i1, List.getElem?_eq_getElem i2⟩
  yld := fun S ρ σ H i d' x H' rel h ei y => by
    obtain ⟨p, vs, ep, h1, h2⟩ := (Vd.fz h.1).t
    obtain ⟨q, us, eq, h3, h4⟩ := (Vd.fz h.2).t
    cases ep
    cases eq
    obtain ⟨T, z1, z2, rfl, nT, rfl, y1, y2⟩ := y
    obtain ⟨x1, x2, e1, e2, rfl⟩ := zip_get ei
    obtain ⟨w1, f1, r1⟩ := h2.get e1
    obtain ⟨w2, f2, r2⟩ := h4.get e2
    rw [y1 vs h1] at f1
    rw [y2 us h3] at f2
    cases f1
    cases f2
    exact ⟨_, .tup nT, Rp.mkTup nT (.cons r1 (.cons r2 .nil))⟩
  stay := fun S ρ σ H S' ρ' σ' H' rel h g _ => h.stay rel g
  wip := fun own S ρ σ H no h => h
theorem rev_get {xs : List D} {i : Nat} {d : D} (h : xs.reverse[i]? = some d) : i < xs.length ∧ xs[xs.length - 1 - i]? = some d := by
  have hi := (List.getElem?_eq_some_iff.mp h).1
  rw [List.length_reverse] at hi
  rw [List.getElem?_reverse hi] at h
  exact ⟨hi, h⟩
theorem Wk.revL (e : itemsD d = some xs) (hn : ∀ ys, d ≠ .tup ys) : Wk K (Itv K a xs.length) (Held K r d (.ref a)) xs.reverse where
  stop := fun S ρ σ H rel h i hi => by rw [List.length_reverse] at hi; exact hi
  go := fun S ρ σ H rel h i hi => by
    obtain ⟨p, vs, ep, h1, h2⟩ := (h.vd rel).sq e hn
    cases ep
    rw [List.length_reverse] at hi
    have i1 : xs.length - 1 - i < vs.length := by rw [h2.length]; omega
    exact ⟨hi, vs, _, h1, List.getElem?_eq_getElem i1⟩
  yld := fun S ρ σ H i d' x H' rel h ei y => by
    obtain ⟨p, vs, ep, h1, h2⟩ := (h.vd rel).sq e hn
    cases ep
    obtain ⟨rfl, y⟩ := y
    obtain ⟨w, e1, h3⟩ := h2.get (rev_get ei).2
    rw [y vs h1] at e1
    cases e1
    exact ⟨S, .refl, h3⟩
  stay := fun S ρ σ H S' ρ' σ' H' rel h g _ => h.stay rel g
  wip := fun own S ρ σ H no h => h.wipe no
theorem Wk.revT : Wk K (RT.ItvT K a xs.length) (Held K r (.tup xs) (.ref a)) xs.reverse where
  stop := fun S ρ σ H rel h i hi => by rw [List.length_reverse] at hi; exact hi
  go := fun S ρ σ H rel h i hi => by
    obtain ⟨p, vs, ep, h1, h2⟩ := (h.vd rel).t
    cases ep
    rw [List.length_reverse] at hi
    have i1 : xs.length - 1 - i < vs.length := by rw [h2.length]; omega
    exact ⟨hi, vs, _, h1, List.getElem?_eq_getElem i1⟩
  yld := fun S ρ σ H i d' x H' rel h ei y => by
    obtain ⟨p, vs, ep, h1, h2⟩ := (h.vd rel).t
    cases ep
    obtain ⟨rfl, y⟩ := y
    obtain ⟨w, e1, h3⟩ := h2.get (rev_get ei).2
    rw [y vs h1] at e1
    cases e1
    exact ⟨S, .refl, h3⟩
  stay := fun S ρ σ H S' ρ' σ' H' rel h g _ => h.stay rel g
  wip := fun own S ρ σ H no h => h.wipe no
end
section
variable {X : Cx} {Φ : Calls} {a b tg : Expr} {pos : Pos} {ia ib : E}
theorem zipI_split {d e : D} {xs : List D} (h : zipI d e = some xs) : (∃ us vs, d = .lst us ∧ e = .lst vs ∧ xs = zipD us vs) ∨ ∃ us vs, d = .tup us ∧ e = .tup vs ∧ xs = zipD us vs := by
  cases d <;> cases e <;> first | cases h; done | (cases h; exact .inl ⟨_, _, rfl, rfl, rfl⟩) | (cases h; exact .inr ⟨_, _, rfl, rfl, rfl⟩)
theorem di_zip {p tpos : Pos} {elts : List Expr} {kk : Nat} (hg : Gl X "zip") (hm : X.mg "zip" = none) (ha : PE X a (tD X.K (ev Φ ia))) (hb : PE X b (tD X.K (ev Φ ib)))
    (hs : starEach [a, b] X.env = (false, eval a X.env) :: starEach [b] X.env := by rfl) (hs2 : starEach [b] X.env = (false, eval b X.env) :: starEach [] X.env := by rfl) (hpl : (PySem.backTo pos (starEach [b] X.env)).any (·.1) = false := by rfl) :
    PI X (.Tuple elts kk tpos) (.Call (.Name "zip" p) [a, b] [] pos) (iD X.K (evit Φ (.zip ia ib))) :=
  piImp (RZ.pi_zipA hg hm (da_cons ha (da_cons hb da_nil hs2) hs) hs hpl) fun σ H R q => by
    obtain ⟨S, ρ, l, xs, ρ', rel, e, q⟩ := q
    simp only [evit] at e
    obtain ⟨x, ρ1, e1, h1⟩ := bnd_eq e
    obtain ⟨d, ρ2, e2, h2⟩ := bnd_eq h1
    obtain ⟨y, ρ3, e3, h3⟩ := bnd_eq h2
    obtain ⟨f, ρ4, e4, h4⟩ := bnd_eq h3
    obtain ⟨zs, ρ5, e5, h5⟩ := bnd_eq h4
    obtain ⟨e6, rfl⟩ := ofO_eq e5
    obtain ⟨q1, q2⟩ := ret_eq h5
    cases q1
    subst q2
    have ev2 : evs Φ (.cons ia (.cons ib .nil)) ρ = .ok [d, f] ρ' := by
      simp only [evs]
      show (ev Φ ia ρ).then _ = _
      rw [e1]
      show (DL.share x ρ1).then _ = _
      rw [e2]
      show ((ev Φ ib ρ2).then _).then _ = _
      rw [e3]
      show ((DL.share y ρ3).then _).then _ = _
      rw [e4]
      rfl
    refine ⟨S, ρ, [d, f], ρ', rel, ev2, fun S1 vs H1 g1 rel1 r1 => ?_⟩
    cases r1 with
    | cons ra rr =>
      cases rr with
      | cons rb rr =>
        cases rr
        rcases zipI_split e6 with ⟨us, ws, rfl, rfl, rfl⟩ | ⟨us, ws, rfl, rfl, rfl⟩
        · obtain ⟨p1, v1, ep1, k1, k2⟩ := (Vd.fz ra).sq rfl (fun _ z => nomatch z)
          obtain ⟨p2, v2, ep2, k3, k4⟩ := (Vd.fz rb).sq rfl (fun _ z => nomatch z)
          subst ep1 ep2
          exact ⟨p1, p2, v1, v2, rfl, .inl ⟨k1, k3, q S1 H1 _ _ ⟨g1, rel1⟩ .zipL ⟨ra, rb⟩⟩⟩
        · obtain ⟨p1, v1, ep1, k1, k2⟩ := (Vd.fz ra).t
          obtain ⟨p2, v2, ep2, k3, k4⟩ := (Vd.fz rb).t
          subst ep1 ep2
          exact ⟨p1, p2, v1, v2, rfl, .inr ⟨k1, k3, q S1 H1 _ _ ⟨g1, rel1⟩ .zipT ⟨ra, rb⟩⟩⟩
theorem di_rev {p : Pos} (hg : Gl X "reversed") (hm : X.mg "reversed" = none) (ha : PE X a (tD X.K (ev Φ ia))) (hs : starEach [a] X.env = (false, eval a X.env) :: starEach [] X.env := by rfl) : PI X tg (.Call (.Name "reversed" p) [a] [] pos) (iD X.K (evit Φ (.rev ia))) :=
  piImp (RT.pi_revA hg hm ha hs) fun σ H R q => by
    obtain ⟨S, ρ, l, xs, ρ', rel, e, q⟩ := q
    simp only [evit] at e
    obtain ⟨x, d, ys, e1, v1, e2, rfl, rfl⟩ := itv_split (f := fun _ xs => (none, xs.reverse)) (g := fun _ xs => (none, xs)) e
    refine ⟨S, ρ, x, ρ', rel, e1, fun S1 v H1 g1 rel1 r1 => ?_⟩
    have hd := held_of ⟨g1, rel1⟩ r1 v1
    by_cases ht : ∃ zs, d = .tup zs
    · obtain ⟨zs, rfl⟩ := ht
      cases e2
      obtain ⟨p, vs, ep, h1, h2⟩ := (r1.view rel1 v1).t
      subst ep
      exact ⟨p, vs, rfl, .inr ⟨h1, by rw [h2.length]; exact q S1 H1 _ _ ⟨g1, rel1⟩ .revT hd⟩⟩
    · have hn : ∀ ys, d ≠ .tup ys := fun ys z => ht ⟨ys, z⟩
      obtain ⟨p, vs, ep, h1, h2⟩ := (r1.view rel1 v1).sq e2 hn
      subst ep
      exact ⟨p, vs, rfl, .inl ⟨h1, by rw [h2.length]; exact q S1 H1 _ _ ⟨g1, rel1⟩ (.revL e2 hn) hd⟩⟩
end
end DL

end

section
set_option autoImplicit false
/-! DLp: a call's meaning is its body's. -/
namespace DL
open PySem L2
theorem behind_len : ∀ (as : List Sl) (ρ : Ev), (behind as ρ).length = as.length
  | [], _ => rfl
  | .ls _ _ :: as, s :: ρ => by show (behind as ρ).length + 1 = as.length + 1; rw [behind_len as ρ]
  | .ls _ _ :: as, [] => by show (behind as _).length + 1 = as.length + 1; rw [behind_len as _]
  | .un :: as, ρ => by
    cases ρ <;> (show (behind as _).length + 1 = as.length + 1; rw [behind_len as _])
  | .fz _ :: as, ρ => by
    cases ρ <;> (show (behind as _).length + 1 = as.length + 1; rw [behind_len as _])
theorem behind_get : ∀ (as : List Sl) (ρ : Ev) (i : Nat), (behind as ρ)[i]? = match as[i]? with | some (.ls k xs) => some (ρ[i]?.getD (.ls k xs)) | o => o
  | [], _, _ => rfl
  | .ls _ _ :: as, s :: ρ, 0 => rfl
  | .ls _ _ :: as, s :: ρ, i + 1 => behind_get as ρ i
  | .ls _ _ :: as, [], 0 => rfl
  | .ls _ _ :: as, [], i + 1 => by
    refine (behind_get as [] i).trans ?_
    show _ = match as[i]? with | some (.ls k xs) => _ | o => o
    rfl
  | .un :: as, [], 0 => rfl
  | .un :: as, _ :: _, 0 => rfl
  | .un :: as, [], i + 1 => behind_get as [] i
  | .un :: as, _ :: ρ, i + 1 => behind_get as ρ i
  | .fz _ :: as, [], 0 => rfl
  | .fz _ :: as, _ :: _, 0 => rfl
  | .fz _ :: as, [], i + 1 => behind_get as [] i
  | .fz _ :: as, _ :: ρ, i + 1 => behind_get as ρ i
section
variable {K : PySem.W.Frag} {S S' : Addr → Prop} {as : List Sl} {vs : List V} {H H' : Hp} {n m : Nat} {ρ' : Ev} {σ' : St}
theorem un_at {i : Nat} {k : Lk} {xs : List D} (h : (as ++ List.replicate n Sl.un)[i]? = some (.ls k xs)) : as[i]? = some (.ls k xs) := by
  by_cases hi : i < as.length
  · rw [List.getElem?_append_left hi] at h; exact h
  · rw [List.getElem?_append_right (by omega), List.getElem?_replicate] at h
    split at h <;> cases h
theorem at_un {i : Nat} {s : Sl} (h : as[i]? = some s) : (as ++ List.replicate n Sl.un)[i]? = some s := by
  rw [List.getElem?_append_left (List.getElem?_eq_some_iff.mp h).1]; exact h
theorem st_at {i : Nat} {s : Sl} (rel : Rel K S as (vs.map some) H) (h : as[i]? = some s) : (vs.map some ++ List.replicate m none)[i]? = (vs.map some)[i]? := by
  have := (List.getElem?_eq_some_iff.mp h).1
  rw [rel.len] at this
  rw [List.getElem?_append_left this]
theorem Rel.begin (rel : Rel K S as (vs.map some) H) (hn : n = m) : Rel K S (as ++ List.replicate n .un) (vs.map some ++ List.replicate m none) H := by
  subst hn
  refine ⟨by rw [List.length_append, List.length_append, rel.len, List.length_replicate, List.length_replicate], fun i s ov e1 e2 => ?_, fun i j k l xs ys a e1 e2 e3 e4 => ?_, rel.dom⟩
  · by_cases hi : i < as.length
    · have e : as[i]? = some s := by rw [List.getElem?_append_left hi] at e1; exact e1
      rw [st_at rel e] at e2
      exact rel.ok i s ov e e2
    · rw [List.getElem?_append_right (by omega), List.getElem?_replicate] at e1
      split at e1 <;> cases e1
      trivial
  · have f1 := un_at e1
    have f2 := un_at e2
    rw [st_at rel f1] at e3
    rw [st_at rel f2] at e4
    exact rel.inj i j k l xs ys a f1 f2 e3 e4
theorem Own.begin (rel : Rel K S as (vs.map some) H) {a : Addr} : Own (as ++ List.replicate n .un) (vs.map some ++ List.replicate m none) a ↔ Own as (vs.map some) a :=
  ⟨fun ⟨i, k, xs, e1, e2⟩ => ⟨i, k, xs, un_at e1, by rw [st_at rel (un_at e1)] at e2; exact e2⟩, fun ⟨i, k, xs, e1, e2⟩ => ⟨i, k, xs, at_un e1, by rw [st_at rel e1]; exact e2⟩⟩
/-- the end of a def's body, seen from its call -/
theorem Ac.over (rel : Rel K S as (vs.map some) H) (rel0 : Rel K S (as ++ List.replicate n .un) (vs.map some ++ List.replicate m none) H) (hb : ∀ (i : Nat) (k : Lk) (xs : List D), as[i]? = some (Sl.ls k xs) → k = Lk.bor) (a : Ac K S (as ++ List.replicate n .un) (vs.map some ++ List.replicate m none) H S' ρ' σ' H') :
    Go S as (vs.map some) H S' (behind as ρ') (vs.map some) H' ∧ Rel K S' (behind as ρ') (vs.map some) H' := by
  have fixA : ∀ (i : Nat) (k : Lk) (xs : List D), as[i]? = some (.ls k xs) → ∃ ys, ρ'[i]? = some (.ls k ys) ∧ σ'[i]? = (vs.map some)[i]? ∧ (behind as ρ')[i]? = some (.ls k ys) ∧ k = .bor := fun i k xs e => by
    have hk := hb i k xs e
    subst hk
    obtain ⟨ys, e1, e2, _⟩ := a.go.fix i .bor xs (at_un e) (by simp)
    refine ⟨ys, e1, by rw [e2, st_at rel e], ?_, rfl⟩
    rw [behind_get, e, e1]
    rfl
  have back : ∀ (i : Nat) (k : Lk) (ys : List D), (behind as ρ')[i]? = some (.ls k ys) → ρ'[i]? = some (.ls k ys) ∧ σ'[i]? = (vs.map some)[i]? ∧ ∃ xs, as[i]? = some (.ls k xs) := fun i k ys e => by
    rw [behind_get] at e
    cases q : as[i]? with
    | none => rw [q] at e; cases e
    | some s =>
      cases s with
      | un => rw [q] at e; cases e
      | fz d => rw [q] at e; cases e
      | ls k2 xs =>
        obtain ⟨zs, e1, e2, e3, e4⟩ := fixA i k2 xs q
        rw [q, e1] at e
        cases e
        exact ⟨e1, e2, xs, rfl⟩
  refine ⟨⟨a.go.sub, fun z h => (a.go.new z h).imp id (Or.imp id (Own.begin rel).mp), fun z ⟨i, k, xs, e1, e2⟩ => ?_, fun z o h no => a.go.keep z o h fun w => no ((Own.begin rel).mp w), a.go.stay, fun i k xs e hk => ?_⟩, ⟨?_, fun i s ov e1 e2 => ?_, fun i j k l xs ys z e1 e2 e3 e4 => ?_, a.rel.dom⟩⟩
  · obtain ⟨_, _, xs, e3⟩ := back i k xs e1
    exact .inr ⟨i, k, xs, e3, e2⟩
  · obtain ⟨ys, e1, e2, e3, e4⟩ := fixA i k xs e
    exact ⟨ys, e3, rfl, fun z => by rw [e4] at z; cases z⟩
  · rw [behind_len, rel.len]
  · cases s with
    | un => trivial
    | ls k ys =>
      obtain ⟨e3, e4, _⟩ := back i k ys e1
      exact a.rel.ok i _ ov e3 (by rw [e4]; exact e2)
    | fz d =>
      rw [behind_get] at e1
      cases q : as[i]? with
      | none => rw [q] at e1; cases e1
      | some s =>
        cases s with
        | un => rw [q] at e1; cases e1
        | ls k xs =>
          obtain ⟨zs, e3, _⟩ := fixA i k xs q
          rw [q, e3] at e1
          cases e1
        | fz d2 =>
          rw [q] at e1
          cases e1
          obtain ⟨v, ev, hv⟩ := rel.ok i _ ov q e2
          exact ⟨v, ev, hv.mono (a.go.ke rel0)⟩
  · obtain ⟨f1, f2, _⟩ := back i k xs e1
    obtain ⟨f3, f4, _⟩ := back j l ys e2
    exact a.rel.inj i j k l xs ys z f1 f3 (by rw [f2]; exact e3) (by rw [f4]; exact e4)
theorem callN_split {T : List Df} {k f : Nat} {r : R} {as' : List Sl} (h : callN T (k + 1) f as = some (r, as')) : ∃ d fl ρ', T[f]? = some d ∧ as.length = d.np ∧ execs (callN T k) d.body (as ++ List.replicate (d.ns - d.np) .un) = .ok fl ρ' ∧ as' = behind as ρ' ∧
    ((∃ r0, fl = .rt r0 ∧ leave ρ' r0 = some r) ∨ (fl = .nx ∧ r = .fz .non)) := by
  unfold callN at h
  split at h
  · cases h
  · rename_i d hd
    split at h
    · rename_i hl
      split at h
      · rename_i r0 ρ' he
        cases q : leave ρ' r0 with
        | none => rw [q] at h; cases h
        | some r1 => rw [q] at h; cases h; exact ⟨d, _, ρ', hd, hl, he, rfl, .inl ⟨r0, rfl, q⟩⟩
      · rename_i ρ' he
        cases h
        exact ⟨d, _, ρ', hd, hl, he, rfl, .inr ⟨rfl, rfl⟩⟩
      · cases h
    · cases h
/-- a call's promise, read at the def's entry -/
theorem read_fn {T : List Df} {k f : Nat} {d : Df} {N : List Str} {Q : VK} {E : XK} (hd : T[f]? = some d) (hN : N.length = d.ns) (h : spD K (callN T (k + 1)) f vs H Q E) :
    tS K (execs (callN T k) d.body) ⟨fun _ h => Q .non h, Q, fun _ _ => False, fun _ _ => False⟩ (start N vs) H := by
  obtain ⟨S, as, r, as', rel, e, hb, q⟩ := h
  obtain ⟨d2, fl, ρ', e1, hl, e2, rfl, e3⟩ := callN_split e
  rw [hd] at e1
  cases e1
  have hv : vs.length = d.np := by rw [← hl, rel.len, List.length_map]
  have eN : N.length - vs.length = d.ns - d.np := by rw [hN, hv]
  have rel0 := rel.begin (n := d.ns - d.np) (m := N.length - vs.length) eN.symm
  refine ⟨S, _, fl, ρ', rel0, e2, ?_⟩
  rcases e3 with ⟨r0, rfl, e4⟩ | ⟨rfl, rfl⟩
  · intro S' σ' H' v a rv
    obtain ⟨g, rl⟩ := Ac.over rel rel0 hb a
    refine q S' v H' g rl ?_
    cases r0 with
    | fz x => cases e4; exact rv
    | fr xs =>
      cases e4
      obtain ⟨p, ws, ev, h0, h1, h2, h3, h4⟩ := rv
      exact ⟨p, ws, ev, h0, h1, h2, h4⟩
    | rf i =>
      unfold leave at e4
      simp only at e4
      split at e4
      · rename_i xs e5
        cases e4
        have rv : σ'[i]? = some (some v) := rv
        obtain ⟨p, ws, ev, h1, h2, h3⟩ := a.rel.ok i _ _ e5 rv
        cases ev
        refine ⟨p, ws, rfl, ?_, h1, h2, h3⟩
        rcases a.go.own p ⟨i, _, xs, e5, rv⟩ with z | z
        · exact z
        · obtain ⟨j, k2, zs, f1, f2⟩ := z
          have f3 := un_at f1
          have f4 := hb j k2 zs f3
          subst f4
          obtain ⟨ys, g1, g2, _⟩ := a.go.fix j .bor zs f1 (by simp)
          have f2 : (start N vs)[j]? = some (some (V.ref p)) := f2
          have := a.rel.inj i j _ _ _ _ p e5 g1 rv (g2.trans f2)
          subst this
          rw [e5] at g1
          cases g1
      · cases e4
  · intro S' σ' H' a
    obtain ⟨g, rl⟩ := Ac.over rel rel0 hb a
    exact q S' .non H' g rl .non
theorem spD_len {Φ : Calls} {f : Nat} {Q : VK} {E : XK} (h : spD K Φ f vs H Q E) : ∃ as : List Sl, ∃ r as', as.length = vs.length ∧ Φ f as = some (r, as') := by
  obtain ⟨S, as, r, as', rel, e, _⟩ := h
  exact ⟨as, r, as', by rw [rel.len, List.length_map], e⟩
theorem spD_np {T : List Df} {k f : Nat} {d : Df} {Q : VK} {E : XK} (hd : T[f]? = some d) (h : spD K (callN T k) f vs H Q E) : vs.length = d.np := by
  obtain ⟨as, r, as', hl, e⟩ := spD_len h
  cases k with
  | zero => cases e
  | succ k =>
    obtain ⟨d2, fl, ρ', e1, h2, _⟩ := callN_split e
    rw [hd] at e1
    cases e1
    rw [← hl, h2]
end
end DL

end

section
set_option autoImplicit false
/-! DLq: the table of defs; the law's end. -/
namespace DL
open PySem L2 PySem.Spec PyProof.Rows
section
variable {P : Program} {w : World} {K : PySem.W.Frag} {mg : Str → Option Value} {base : Heap}
theorem fnG_zero {T : List Df} {j m : Nat} {fa : Addr} {fd : FuncData} {ps : List Str} : FnG P w K mg base L2.CX0 m fa fd ps (spD K (callN T 0) j) :=
  by
  constructor
  · intro vs H Q E h
    obtain ⟨_, _, _, _, e⟩ := spD_len h
    cases e
  · intro A out s H args us vs Q E _ _ _ _ _ h
    obtain ⟨_, _, _, _, e⟩ := spD_len h
    cases e
theorem fnG_tab {T : List Df} {k j : Nat} {d : Df} {N ps : List Str} {x qual : Str} {st : Stmt} {fa : Addr} {fd : FuncData} {dV : Value} (F : FunW K x qual st fa fd dV) (sc : FnScope N ps (defScope st)) (hd : T[j]? = some d) (hN : N.length = d.ns) (hp : ps.length = d.np)
    (body : ∀ (cd : Value) (A : Around) (out : List Env) (s : Shared) (H : Hp) (E : XK), Room (2 * k + 1) (A.deeper (envOfC qual (defScope st) s.heap.objs.size fa cd)) → A.guards = some [] →
      PSs (cxOf L2.CX0 P w K mg base N qual (defScope st) fa cd A out s H E).nox (defBody st) (tS K (execs (callN T k) d.body))) :
    FnG P w K mg base L2.CX0 (2 * (k + 1)) fa fd ps (spD K (callN T (k + 1)) j) :=
  fnG_of (k := 2 * k + 1) F sc (fun vs H Q E h => (spD_np hd h).trans hp.symm) fun cd A out s H vs Q E room gd h => ⟨_, body cd A out s H E room gd, read_fn hd hN h⟩
theorem rps_ints {S : Addr → Prop} {H : Hp} : ∀ ns : List Int, Rps K S H (ns.map V.int) (ns.map D.int)
  | [] => .nil
  | n :: r => .cons (.int n) (rps_ints r)
/-- the law's call -/
theorem end_call {T : List Df} {mb : Str → Option Value} {m k fi : Nat} {fa a : Addr} {fd : FuncData} {x : Str} {s1 : Shared} {vs : List Value} {ns : List Int} {as' : List Sl}
    (kin : K.In s1.heap) (hns : s1.heap.Ns mainGlobals mg) (hb : s1.heap.Ns builtinsNs mb) (hbb : ∀ x : Str, x ≠ "__name__" → mb x = bootBuiltins x) (nol : s1.heap.NoLimit) (gn : s1.gens = #[])
    (ha : s1.heap.get? a = some { cls := .type "list", data := .seq vs.toArray }) (hi : IntsAre vs ns) (hl : ns.length ≤ sizeLine) (room : Room m callerA)
    (F : ∀ base : Heap, K.In base → base.Ns mainGlobals mg → FnG P w K mg base L2.CX0 m fa fd [x] (spD K (callN T k) fi)) (bt : ∀ (s : Shared) (u : Value), BindsTo s fd ⟨[u], []⟩ [(x, u)])
    (hm : callN T k fi [.fz (.scr (ns.map D.int))] = some (.fz (.bl true), as')) :
    codeAny (model P w) callerA (.call (.ref fa) ⟨[.ref a], []⟩) (fun r s' => r = .ok (.ret (.bool true)) ∧ OldK s1.heap s'.heap ∧ s'.os = s1.os ∧ AllBare s'.gens) s1 := by
  have vi := vals_ints hi
  have core : ∀ (H : Hp) (S : Addr → Prop), ReS K S H a (ns.map V.int) → (∀ b, S b → H b ≠ none) → HOk P w H s1.heap → (∀ b u, H b = some u → b = a ∧ K.lookup a = none ∧ ∃ o xs, u = .frz o (.lst xs)) →
      codeAny (model P w) callerA (.call (.ref fa) ⟨[.ref a], []⟩) (fun r s' => r = .ok (.ret (.bool true)) ∧ OldK s1.heap s'.heap ∧ s'.os = s1.os ∧ AllBare s'.gens) s1 := by
    intro H S hS dom hok only
    have free : ∀ {b : Addr} {o : Obj}, s1.heap.get? b = some o → ((∃ es ep, o.data = .dict es ep) ∨ K.lookup b = some o) → H b = none := by
      intro b o e hd
      cases q : H b with
      | none => rfl
      | some u =>
        obtain ⟨e1, e2, _⟩ := only b u q
        rw [← e1] at e2
        rcases hd with ⟨es, ep, z⟩ | z
        · rw [e1, ha] at e; cases e; cases z
        · rw [e2] at z; cases z
    have lay : ∀ {b : Addr} {m : Str → Option Value}, s1.heap.Ns b m → (hidT s1.heap H).Ns b m := by
      rintro b m ⟨o, es, ep, e, z, r⟩
      exact ⟨o, es, ep, hidT_get e (free e (.inl ⟨es, ep, z⟩)), z, r⟩
    have kin2 : K.In (hidT s1.heap H) := by
      intro b o e
      exact hidT_get (kin b o e) (free (kin b o e) (.inr e))
    have md : Mod K mg (hidT s1.heap H) := by
      refine ⟨kin2, lay hns, ⟨mb, lay hb, hbb⟩, ?_⟩
      obtain ⟨mc, h1, h2⟩ := nol
      exact ⟨mc, lay h1, h2⟩
    have env0 : Env0 P w K mg (hidT s1.heap H) callerA [] s1 H := ⟨rfl, md, fun b o e => of_hidT e, Nat.le_of_eq (hidT_size _ _), trivial, (fun b z => nomatch z), hok, .of_eq gn⟩
    have sp : spD K (callN T k) fi [.ref a] H (fun v _ => v = .bl true) fun _ _ _ => False := by
      refine ⟨S, [.fz (.scr (ns.map D.int))], _, as', ⟨rfl, fun i s ov e1 e2 => ?_, fun i j l m xs ys b e1 => ?_, dom⟩, hm, fun i l xs e => ?_, fun S' v H' _ _ rn => by cases rn; rfl⟩
      · cases i with
        | zero =>
          cases e1
          cases e2
          exact ⟨_, rfl, .scr hS (rps_ints ns)⟩
        | succ i => cases e1
      · cases i <;> cases e1
      · cases i <;> cases e
    refine codeAny_mono ((F _ kin2 (lay hns)).run callerA [] s1 H ⟨[.ref a], []⟩ [.ref a] [.ref a] _ _ room rfl env0 (bt s1 (.ref a)) (.cons rfl .nil) sp) fun r s' h => ?_
    cases r with
    | error e => exact False.elim h
    | ok fl => cases fl with
      | next => exact False.elim h
      | brk => exact False.elim h
      | cont => exact False.elim h
      | ret u =>
        obtain ⟨v, H', os, bare, un, hok2, rv, q⟩ := h
        have q : v = .bl true := q
        rw [q] at rv
        have rv : u = Value.bool true := rv
        refine ⟨by rw [rv], OldK.of_keep fun b o e => ?_, os, bare⟩
        cases z : H b with
        | none => exact un.keep b o e z (by intro y; cases y) (by intro y; cases y)
        | some u2 =>
          have z3 := (only b u2 z).2.2
          obtain ⟨o1, xs, eu⟩ := z3
          rw [eu] at z
          have h1 := (hok b _ z).1
          rw [e] at h1
          cases h1
          exact (hok2 b _ (un.frzs b _ _ z)).1
  cases hk : K.lookup a with
  | some o =>
    have e := kin a o hk
    rw [ha] at e
    cases e
    exact core (fun _ => none) (fun _ => False) (.inr ⟨_, vs.toArray, _, hk, rfl, fun _ => rfl, rfl, by rw [List.size_toArray, hi.length]; exact hl, by simpa using vi⟩) (fun b z => z.elim) (fun b u z => nomatch z) fun b u z => nomatch z
  | none =>
    let u0 : HO := HO.frz { cls := .type "list", data := .seq vs.toArray } (.lst (ns.map V.int))
    have here : (if a = a then some u0 else none) = some u0 := if_pos rfl
    have who : ∀ b u, (if b = a then some u0 else none) = some u → b = a ∧ u0 = u := fun b u z => by
      by_cases e : b = a
      · rw [if_pos e] at z; exact ⟨e, Option.some.inj z⟩
      · rw [if_neg e] at z; cases z
    refine core (fun b => if b = a then some u0 else none) (fun b => b = a) (.inl ⟨rfl, .inr ⟨_, here⟩⟩) (fun b e z => ?_) (fun b u z => ?_) fun b u z => ?_
    · have z : (if b = a then some u0 else none) = none := z
      rw [if_pos e] at z
      cases z
    · obtain ⟨e1, e2⟩ := who b u z
      subst e1 e2
      exact ⟨ha, by rw [List.length_map]; exact hl, vs, _, vi, ha⟩
    · obtain ⟨e1, e2⟩ := who b u z
      subst e2
      exact ⟨e1, hk, _, _, rfl⟩
theorem end_walk {l : PySem.W.OpenLaw} {n m k fi : Nat} {T : List Df} {q : Program} {loose : List Str} {XP : (Str → Option Value) → Heap → Prop} {YP : World → Heap → Prop} {d : DefRec} {Kp : Params → PySem.W.Frag} {x : Str}
    (hn : l.most = some n) (hn2 : n ≤ sizeLine) (hdf : d.params.defaults = []) (hr : Room m callerA) (hY : ∀ (w : World) (h : Heap), YP w h → (Kp w.params).In h)
    (F : ∀ (w : World) (mg : Str → Option Value) (fa : Addr) (h : Heap), (Kp w.params).In h → h.Ns mainGlobals mg → mg d.name = some (.ref fa) →
      ∃ fd : FuncData, (∀ (s : Shared) (u : Value), BindsTo s fd ⟨[u], []⟩ [(x, u)]) ∧ ∀ base : Heap, (Kp w.params).In base → base.Ns mainGlobals mg → FnG l.prog w (Kp w.params) mg base L2.CX0 m fa fd [x] (spD (Kp w.params) (callN T k) fi))
    (hm : ∀ ns : List Int, ns.length ≤ n → ∃ as', callN T k fi [.fz (.scr (ns.map D.int))] = some (.fz (.bl true), as')) :
    PySem.W.WalkO q loose XP YP l.row.toRowW d [] (fun f vs => PySem.call f vs) :=
  Att.attach_call hn hdf fun w s0 s1 mg mb fa o pm cd doc a vs ns G Y ho hd hcd hmg hobj hints hlen hg => by
    have kin := hY w _ Y
    obtain ⟨fd, bt, hF⟩ := F w mg fa _ kin G.T.g hmg
    obtain ⟨as', e⟩ := hm ns hlen
    exact end_call kin G.T.g G.T.b G.T.builtins G.T.nolimit hg hobj hints (Nat.le_trans hlen hn2) hr hF bt e
end
end DL

end

section
set_option autoImplicit false
/-! DLr: what is never reached; the names of built-ins. -/
namespace DL
open PySem L2
/-- an expression that has no meaning here -/
def stkE : E := .idx (.cst .non) (.cst .non)
section
variable {X : Cx} {Φ : Calls}
theorem stkE_ev {ρ : Ev} : ev Φ stkE ρ = .stk := rfl
theorem de_stk {e : Expr} : PE X e (tD X.K (ev Φ stkE)) := ⟨fun pins s σ H Q I q => by
  obtain ⟨S, ρ, r, ρ', rel, e, q⟩ := q
  cases e⟩
theorem ds_stk {st : Stmt} : PS X st (tS X.K (exec Φ (.ex stkE))) := ⟨fun pins s σ H Q I q => by
  obtain ⟨S, ρ, r, ρ', rel, e, q⟩ := q
  cases e⟩
theorem fnG_out {P : Program} {w : World} {K : PySem.W.Frag} {mg : Str → Option Value} {base : Heap} {T : List Df} {k j m : Nat} {fa : Addr} {fd : FuncData} {ps : List Str} (hd : T[j]? = none) : FnG P w K mg base L2.CX0 m fa fd ps (spD K (callN T k) j) := by
  have no : ∀ {vs : List V} {H : Hp} {Q : VK} {E : XK}, spD K (callN T k) j vs H Q E → False := fun {vs H Q E} h => by
    obtain ⟨as, r, as', _, e⟩ := spD_len h
    cases k with
    | zero => cases e
    | succ k =>
      obtain ⟨d, _, _, e1, _⟩ := callN_split e
      rw [hd] at e1
      cases e1
  constructor
  · intro vs H Q E h
    exact (no h).elim
  · intro A out s H args us vs Q E _ _ _ _ _ h
    exact (no h).elim
end
theorem bt_len : bootBuiltins "len" = some (.builtin "len") := by decide +kernel
theorem bt_abs : bootBuiltins "abs" = some (.builtin "abs") := by decide +kernel
theorem bt_max : bootBuiltins "max" = some (.builtin "max") := by decide +kernel
theorem bt_min : bootBuiltins "min" = some (.builtin "min") := by decide +kernel
theorem bt_sum : bootBuiltins "sum" = some (.builtin "sum") := by decide +kernel
theorem bt_all : bootBuiltins "all" = some (.builtin "all") := by decide +kernel
theorem bt_any : bootBuiltins "any" = some (.builtin "any") := by decide +kernel
theorem bt_repr : bootBuiltins "repr" = some (.builtin "repr") := by decide +kernel
theorem bt_sorted : bootBuiltins "sorted" = some (.builtin "sorted") := by decide +kernel
theorem bt_divmod : bootBuiltins "divmod" = some (.builtin "divmod") := by decide +kernel
theorem bt_int : bootBuiltins "int" = some (.type "int") := by decide +kernel
theorem bt_bool : bootBuiltins "bool" = some (.type "bool") := by decide +kernel
theorem bt_str : bootBuiltins "str" = some (.type "str") := by decide +kernel
theorem bt_tuple : bootBuiltins "tuple" = some (.type "tuple") := by decide +kernel
theorem bt_list : bootBuiltins "list" = some (.type "list") := by decide +kernel
theorem de_bt {X : Cx} {x : Str} {t : String} {pos : Pos} (hg : Gl X x) (hm : X.mg x = none) (hv : bootBuiltins x = some (.type t)) (hn : x ≠ "__name__" := by decide) (hd : (x == ("__debug__" : Str)) = false := by decide) : PE X (.Name x pos) (tC (.ty t)) := pe_bltn hg hm hv rfl hn hd
theorem rm_units {k : Nat} {A : Around} (r : Room k A) : A.units + 64 < cLine := r.units
theorem rm_units5 {k : Nat} {A : Around} (r : Room k A) : A.units + 65 < cLine := by have := r.un; omega
theorem rm_units70 {k : Nat} {A : Around} (r : Room k A) : A.units + 70 < cLine := by have := r.un; omega
end DL

end

section
set_option autoImplicit false
/-! DLs: loops by an invariant; what a call gives. -/
namespace DL
open PySem L2
/-- a loop without a return: I by the place -/
theorem forL_inv {step : D → M Fl} (I : Nat → Ev → Prop) : ∀ (xs : List D) (i : Nat) (ρ : Ev), I i ρ → (∀ j ρ d, xs[j]? = some d → I (i + j) ρ → ∃ ρ', (step d ρ = .ok .nx ρ' ∨ step d ρ = .ok .ct ρ') ∧ I (i + j + 1) ρ') → ∃ ρ', forL step xs ρ = .ok .nx ρ' ∧ I (i + xs.length) ρ'
  | [], i, ρ, h, _ => ⟨ρ, rfl, h⟩
  | x :: xs, i, ρ, h, hs => by
    obtain ⟨ρ1, e, h1⟩ := hs 0 ρ x rfl h
    obtain ⟨ρ2, e2, h2⟩ := forL_inv I xs (i + 1) ρ1 h1 fun j ρ d hj hI => by
      have := hs (j + 1) ρ d hj (by rw [← Nat.add_assoc, Nat.add_right_comm]; exact hI)
      rw [← Nat.add_assoc, Nat.add_right_comm i j 1] at this
      exact this
    refine ⟨ρ2, ?_, by rw [List.length_cons, Nat.add_comm xs.length, ← Nat.add_assoc]; exact h2⟩
    show (step x ρ).then _ = _
    rcases e with e | e <;> (rw [e]; exact e2)
/-- a loop that may return: P of what it returns -/
theorem forL_ret {step : D → M Fl} (I : Nat → Ev → Prop) (P : R → Ev → Prop) : ∀ (xs : List D) (i : Nat) (ρ : Ev), I i ρ →
    (∀ j ρ d, xs[j]? = some d → I (i + j) ρ → ∃ ρ', ((step d ρ = .ok .nx ρ' ∨ step d ρ = .ok .ct ρ') ∧ I (i + j + 1) ρ') ∨ (∃ r, step d ρ = .ok (.rt r) ρ' ∧ P r ρ')) →
    ∃ ρ', (forL step xs ρ = .ok .nx ρ' ∧ I (i + xs.length) ρ') ∨ (∃ r, forL step xs ρ = .ok (.rt r) ρ' ∧ P r ρ')
  | [], i, ρ, h, _ => ⟨ρ, .inl ⟨rfl, h⟩⟩
  | x :: xs, i, ρ, h, hs => by
    obtain ⟨ρ1, h1⟩ := hs 0 ρ x rfl h
    rcases h1 with ⟨e, h1⟩ | ⟨r, e, h1⟩
    · obtain ⟨ρ2, h2⟩ := forL_ret I P xs (i + 1) ρ1 h1 fun j ρ d hj hI => by
        have := hs (j + 1) ρ d hj (by rw [← Nat.add_assoc, Nat.add_right_comm]; exact hI)
        rw [← Nat.add_assoc, Nat.add_right_comm i j 1] at this
        exact this
      refine ⟨ρ2, ?_⟩
      have q : forL step (x :: xs) ρ = forL step xs ρ1 := by
        show (step x ρ).then _ = _
        rcases e with e | e <;> (rw [e]; rfl)
      rw [q, List.length_cons, Nat.add_comm xs.length, ← Nat.add_assoc]
      exact h2
    · refine ⟨ρ1, .inr ⟨r, ?_, h1⟩⟩
      show (step x ρ).then _ = _
      rw [e]; rfl
/-- a comprehension: I by the place, the list so far -/
theorem cmpL_inv {step : D → M (Option D)} (I : Nat → List D → Ev → Prop) : ∀ (xs : List D) (i : Nat) (acc : List D) (ρ : Ev), I i acc ρ → acc.length + xs.length ≤ sizeLine →
    (∀ j acc ρ d, xs[j]? = some d → I (i + j) acc ρ → ∃ o ρ', step d ρ = .ok o ρ' ∧ I (i + j + 1) (match o with | some y => acc ++ [y] | none => acc) ρ') →
    ∃ ys ρ', cmpL step xs acc ρ = .ok ys ρ' ∧ I (i + xs.length) ys ρ'
  | [], i, acc, ρ, h, _, _ => ⟨acc, ρ, rfl, h⟩
  | x :: xs, i, acc, ρ, h, hl, hs => by
    obtain ⟨o, ρ1, e, h1⟩ := hs 0 acc ρ x rfl h
    rw [List.length_cons] at hl
    have go : ∀ a : List D, I (i + 1) a ρ1 → a.length + xs.length ≤ sizeLine → ∃ ys ρ', cmpL step xs a ρ1 = .ok ys ρ' ∧ I (i + (x :: xs).length) ys ρ' := fun a ha hla => by
      obtain ⟨ys, ρ2, e2, h2⟩ := cmpL_inv I xs (i + 1) a ρ1 ha hla fun j acc ρ d hj hI => by
        have := hs (j + 1) acc ρ d hj (by rw [← Nat.add_assoc, Nat.add_right_comm]; exact hI)
        rw [← Nat.add_assoc, Nat.add_right_comm i j 1] at this
        exact this
      exact ⟨ys, ρ2, e2, by rw [List.length_cons, Nat.add_comm xs.length, ← Nat.add_assoc]; exact h2⟩
    cases o with
    | none =>
      obtain ⟨ys, ρ2, e2, h2⟩ := go acc h1 (by omega)
      refine ⟨ys, ρ2, ?_, h2⟩
      show (step x ρ).then _ = _
      rw [e]
      exact e2
    | some y =>
      obtain ⟨ys, ρ2, e2, h2⟩ := go (acc ++ [y]) h1 (by rw [List.length_append]; simp; omega)
      refine ⟨ys, ρ2, ?_, h2⟩
      show (step x ρ).then _ = _
      rw [e]
      show (if acc.length < sizeLine then cmpL step xs (acc ++ [y]) else stuck) ρ1 = _
      rw [if_pos (by omega)]
      exact e2
/-- a comprehension that changes nothing but its own names: f of each item; the filter p -/
theorem cmpL_pure {step : D → M (Option D)} {ρ : Ev} {f : D → Option D} : ∀ (xs acc : List D), acc.length + xs.length ≤ sizeLine → (∀ d ∈ xs, step d ρ = .ok (f d) ρ) → cmpL step xs acc ρ = .ok (acc ++ xs.filterMap f) ρ
  | [], acc, _, _ => by rw [List.filterMap_nil, List.append_nil]; rfl
  | x :: xs, acc, hl, hs => by
    rw [List.length_cons] at hl
    have e := hs x (List.mem_cons_self ..)
    show (step x ρ).then _ = _
    rw [e, List.filterMap_cons]
    cases q : f x with
    | none => exact cmpL_pure xs acc (by omega) fun d h => hs d (List.mem_cons_of_mem _ h)
    | some y =>
      show (if acc.length < sizeLine then cmpL step xs (acc ++ [y]) else stuck) ρ = _
      rw [if_pos (by omega)]
      refine (cmpL_pure xs (acc ++ [y]) (by rw [List.length_append]; simp; omega) fun d h => hs d (List.mem_cons_of_mem _ h)).trans ?_
      rw [List.append_assoc]
      rfl
theorem call_eq {T : List Df} {k f : Nat} {as : List Sl} {d : Df} {r r' : R} {ρ' : Ev} (hd : T[f]? = some d) (hl : as.length = d.np) (he : execs (callN T k) d.body (as ++ List.replicate (d.ns - d.np) .un) = .ok (.rt r) ρ') (hr : leave ρ' r = some r') : callN T (k + 1) f as = some (r', behind as ρ') := by
  show (match T[f]? with | none => none | some d => _) = _
  rw [hd]
  show (if _ then _ else _) = _
  rw [if_pos hl, he]
  show (leave ρ' r).map _ = _
  rw [hr]
  rfl
theorem call_nx {T : List Df} {k f : Nat} {as : List Sl} {d : Df} {ρ' : Ev} (hd : T[f]? = some d) (hl : as.length = d.np) (he : execs (callN T k) d.body (as ++ List.replicate (d.ns - d.np) .un) = .ok .nx ρ') : callN T (k + 1) f as = some (.fz .non, behind as ρ') := by
  show (match T[f]? with | none => none | some d => _) = _
  rw [hd]
  show (if _ then _ else _) = _
  rw [if_pos hl, he]
theorem call_fz {T : List Df} {k f : Nat} {as ss : List Sl} (d : Df) {x : D} {ρ' : Ev} (he : execs (callN T k) d.body (as ++ List.replicate (d.ns - d.np) .un) = .ok (.rt (.fz x)) ρ') (hd : T[f]? = some d := by rfl) (hl : as.length = d.np := by rfl) (hb : behind as ρ' = ss := by rfl) :
    callN T (k + 1) f as = some (.fz x, ss) := hb ▸ call_eq hd hl he rfl
theorem call_fr {T : List Df} {k f : Nat} {as ss : List Sl} (d : Df) {x : List D} {ρ' : Ev} (he : execs (callN T k) d.body (as ++ List.replicate (d.ns - d.np) .un) = .ok (.rt (.fr x)) ρ') (hd : T[f]? = some d := by rfl) (hl : as.length = d.np := by rfl) (hb : behind as ρ' = ss := by rfl) :
    callN T (k + 1) f as = some (.fr x, ss) := hb ▸ call_eq hd hl he rfl
theorem call_rf {T : List Df} {k f i : Nat} {as ss : List Sl} (d : Df) {x : List D} {ρ' : Ev} (he : execs (callN T k) d.body (as ++ List.replicate (d.ns - d.np) .un) = .ok (.rt (.rf i)) ρ') (hi : ρ'[i]? = some (.ls .own x) := by rfl) (hd : T[f]? = some d := by rfl) (hl : as.length = d.np := by rfl) (hb : behind as ρ' = ss := by rfl) :
    callN T (k + 1) f as = some (.fr x, ss) := hb ▸ call_eq hd hl he (by show (match ρ'[i]? with | some (.ls .own xs) => some (R.fr xs) | _ => none) = _; rw [hi])
theorem call_no {T : List Df} {k f : Nat} {as ss : List Sl} (d : Df) {ρ' : Ev} (he : execs (callN T k) d.body (as ++ List.replicate (d.ns - d.np) .un) = .ok .nx ρ') (hd : T[f]? = some d := by rfl) (hl : as.length = d.np := by rfl) (hb : behind as ρ' = ss := by rfl) :
    callN T (k + 1) f as = some (.fz .non, ss) := hb ▸ call_nx hd hl he
/-! ### what repr and == need -/
structure Sm (w h : Nat) (d : D) : Prop where
  pur : pureD d = true
  show_ : (toPy d).showable = true
  nod : (toPy d).hasDict = false
  short : (toPy d).leavesShort 13 = true
  lay : (toPy d).canLay0 = true
  ht : (toPy d).depth ≤ h
  wt : (toPy d).weight ≤ w
structure Sms (w h : Nat) (ds : List D) : Prop where
  pur : puresD ds = true
  show_ : PyData.showableAll (toPy.toPys ds) = true
  nod : PyData.hasDictAll (toPy.toPys ds) = false
  short : PyData.leavesShortAll 13 (toPy.toPys ds) = true
  lay : PyData.canLayAll0 (toPy.toPys ds) = true
  ht : PyData.depthAll (toPy.toPys ds) ≤ h
  wt : PyData.weightAll (toPy.toPys ds) ≤ w
theorem Sm.mono {w h w' h' : Nat} {d : D} (s : Sm w h d) (h1 : w ≤ w') (h2 : h ≤ h') : Sm w' h' d := ⟨s.pur, s.show_, s.nod, s.short, s.lay, Nat.le_trans s.ht h2, Nat.le_trans s.wt h1⟩
theorem Sm.non : Sm 0 0 .non := ⟨rfl, rfl, rfl, rfl, rfl, Nat.le_refl _, Nat.le_refl _⟩
theorem Sm.bl (b : Bool) : Sm 0 0 (.bl b) := ⟨rfl, rfl, rfl, rfl, rfl, Nat.le_refl _, Nat.le_refl _⟩
theorem log2_small {n : Nat} (h : n < 10 ^ 12) : n.log2 < 40 := by
  by_cases z : n = 0
  · subst z; decide
  · exact (Nat.log2_lt z).mpr (Nat.lt_of_lt_of_le h (by decide))
theorem Sm.int {i : Int} (h1 : -(10 ^ 12) < i) (h2 : i < 10 ^ 12) : Sm 40 0 (.int i) := by
  have h : i.natAbs < 10 ^ 12 := by omega
  have l := log2_small h
  refine ⟨rfl, decide_eq_true (by omega), rfl, decide_eq_true ?_, rfl, Nat.le_refl _, ?_⟩
  · show (Str.ofString (toString i)).length ≤ 13
    rw [ofString_length]
    exact int_text_length_le10 (by decide) h
  · show (if (i == 0) = true then 0 else i.natAbs.log2 + 1) ≤ 40
    split <;> omega
theorem Sm.str {x : Str} (h : x.cps.toList.all (fun c => decide (c < 0x110000)) = true) : Sm x.length 0 (.str x) := by
  refine ⟨rfl, rfl, rfl, ?_, ?_, Nat.le_refl _, Nat.le_refl _⟩
  · show (x.cps.toList.all fun c => decide (c < 16 ^ 8)) = true
    rw [List.all_eq_true] at h ⊢
    intro c hc
    have := of_decide_eq_true (h c hc)
    exact decide_eq_true (by omega)
  · show x.cps.all (· < 0x110000) = true
    rw [← Array.all_toList]
    exact h
theorem Sms.of {w h : Nat} : ∀ {ds : List D}, (∀ d ∈ ds, Sm w h d) → Sms (ds.length * (w + 1)) h ds
  | [], _ => ⟨rfl, rfl, rfl, rfl, rfl, Nat.zero_le _, Nat.zero_le _⟩
  | d :: ds, hs => by
    have a := hs d (List.mem_cons_self ..)
    have b := Sms.of (ds := ds) fun x hx => hs x (List.mem_cons_of_mem _ hx)
    refine ⟨?_, ?_, ?_, ?_, ?_, ?_, ?_⟩
    · show (pureD d && puresD ds) = true
      rw [a.pur, b.pur]; rfl
    · show ((toPy d).showable && PyData.showableAll (toPy.toPys ds)) = true
      rw [a.show_, b.show_]; rfl
    · show ((toPy d).hasDict || PyData.hasDictAll (toPy.toPys ds)) = false
      rw [a.nod, b.nod]; rfl
    · show ((toPy d).leavesShort 13 && PyData.leavesShortAll 13 (toPy.toPys ds)) = true
      rw [a.short, b.short]; rfl
    · show ((toPy d).canLay0 && PyData.canLayAll0 (toPy.toPys ds)) = true
      rw [a.lay, b.lay]; rfl
    · exact Nat.max_le.mpr ⟨a.ht, b.ht⟩
    · show (toPy d).weight + 1 + PyData.weightAll (toPy.toPys ds) ≤ (ds.length + 1) * (w + 1)
      have := a.wt
      have := b.wt
      rw [Nat.succ_mul]
      omega
theorem Sm.tup {w h n : Nat} {ds : List D} (hn : ds.length ≤ n) (hs : ∀ d ∈ ds, Sm w h d) : Sm (n * (w + 1)) (h + 1) (.tup ds) := by
  have b := Sms.of hs
  exact ⟨b.pur, b.show_, b.nod, b.short, b.lay, Nat.succ_le_succ b.ht, Nat.le_trans b.wt (Nat.mul_le_mul_right _ hn)⟩
theorem Sm.lst {w h n : Nat} {ds : List D} (hn : ds.length ≤ n) (hs : ∀ d ∈ ds, Sm w h d) : Sm (n * (w + 1)) (h + 1) (.lst ds) := by
  have b := Sms.of hs
  exact ⟨b.pur, b.show_, b.nod, b.short, b.lay, Nat.succ_le_succ b.ht, Nat.le_trans b.wt (Nat.mul_le_mul_right _ hn)⟩
theorem repr_ok {w h : Nat} {d : D} (s : Sm w h d) (hw : w ≤ 1048576) (hh : h ≤ 64) : biD .repr [d] = some (.fz (.str (toPy d).shown)) := by
  have l : (toPy d).shown.length ≤ sizeLine := PyData.shown_fits (B := 13) (by decide) (by decide) s.short (Nat.le_trans s.wt hw)
  show (if _ then _ else _) = _
  rw [if_pos]
  rw [s.pur, s.show_, s.nod, decide_eq_true (Nat.le_trans s.ht hh), decide_eq_true l]
  rfl
theorem shaped_ok {w h : Nat} {d : D} (s : Sm w h d) (hh : h ≤ 64) : shapedD d = true := by
  show (pureD d && ((toPy d).canLay0 && decide ((toPy d).depth ≤ 64))) = true
  rw [s.pur, s.lay, decide_eq_true (Nat.le_trans s.ht hh)]
  rfl
end DL

end

section
set_option autoImplicit false
/-! DLt: the meanings as rewrite rules. -/
namespace DL
open PySem L2
section
variable {Φ : Calls} {ρ : Ev} {α β : Type} {i j : Int} {xs ys : List D} {a b c e : E} {d d1 d2 : D} {x y : R} {n m : Nat}
@[simp] theorem r_ret {a : α} : DL.ret a ρ = .ok a ρ := rfl
@[simp] theorem r_stuck : (DL.stuck : M α) ρ = .stk := rfl
@[simp] theorem r_bnd {m : M α} {f : α → M β} : bnd m f ρ = (m ρ).then f := rfl
@[simp] theorem r_ofO {a : α} : ofO (some a) ρ = .ok a ρ := rfl
@[simp] theorem r_vwf : vw (.fz d) ρ = .ok d ρ := rfl
@[simp] theorem r_vwr : vw (.fr xs) ρ = .ok (.lst xs) ρ := rfl
@[simp] theorem r_vwi : vw (.rf n) ρ = (match ρ[n]? with | some (.ls _ xs) => .ok (.lst xs) ρ | _ => .stk) := by
  show (match (match ρ[n]? with | some (.ls _ xs) => some (D.lst xs) | _ => none) with | some d => Out.ok d ρ | none => .stk) = _
  cases ρ[n]? with
  | none => rfl
  | some s => cases s <;> rfl
@[simp] theorem r_view1 : view ρ (.fz d) = some d := rfl
@[simp] theorem r_view2 : view ρ (.fr xs) = some (.lst xs) := rfl
@[simp] theorem r_view3 : view ρ (.rf n) = (match ρ[n]? with | some (.ls _ xs) => some (.lst xs) | _ => none) := rfl
@[simp] theorem r_shf : DL.share (.fz d) ρ = .ok d ρ := rfl
@[simp] theorem r_shr : DL.share (.fr xs) ρ = .ok (.lst xs) ρ := rfl
@[simp] theorem r_shi : DL.share (.rf n) ρ = (match ρ[n]? with | some (.ls .own xs) => .ok (.lst xs) (ρ.set n (.fz (.lst xs))) | _ => .stk) := rfl
@[simp] theorem r_var : ev Φ (.var n) ρ = (match ρ[n]? with | some (.fz d) => .ok (.fz d) ρ | some (.ls _ _) => .ok (.rf n) ρ | _ => .stk) := rfl
@[simp] theorem r_cst : ev Φ (.cst d) ρ = .ok (.fz d) ρ := rfl
@[simp] theorem r_bin {o : Bop} : ev Φ (.bin o a b) ρ = (ev Φ a ρ).then fun x => bnd (ev Φ b) fun y => bnd (vw x) fun d => bnd (vw y) fun e => ofO (binD o d e) := rfl
@[simp] theorem r_neg : ev Φ (.neg a) ρ = (ev Φ a ρ).then fun x => bnd (vw x) fun d => match d with | .int i => DL.ret (.fz (.int (-i))) | _ => stuck := rfl
@[simp] theorem r_cmp {o : Cop} : ev Φ (.cmp o a b) ρ = (ev Φ a ρ).then fun x => bnd (ev Φ b) fun y => bnd (vw x) fun d => bnd (vw y) fun e => bnd (ofO (cmpD o d e)) fun c => DL.ret (.fz (.bl c)) := rfl
@[simp] theorem r_chn {o p : Cop} : ev Φ (.chn o p a b c) ρ = (ev Φ a ρ).then fun x => bnd (ev Φ b) fun y => bnd (vw x) fun d => bnd (vw y) fun e => bnd (ofO (cmpD o d e)) fun k =>
      if k then bnd (ev Φ c) fun z => bnd (vw y) fun e => bnd (vw z) fun f => bnd (ofO (cmpD p e f)) fun c => DL.ret (.fz (.bl c)) else DL.ret (.fz (.bl false)) := rfl
@[simp] theorem r_and : ev Φ (.and a b) ρ = (ev Φ a ρ).then fun x => bnd (vw x) fun d => bnd (ofO (truthD d)) fun k => if k then ev Φ b else DL.ret x := rfl
@[simp] theorem r_or : ev Φ (.or a b) ρ = (ev Φ a ρ).then fun x => bnd (vw x) fun d => bnd (ofO (truthD d)) fun k => if k then DL.ret x else ev Φ b := rfl
@[simp] theorem r_not : ev Φ (.not a) ρ = (ev Φ a ρ).then fun x => bnd (vw x) fun d => bnd (ofO (truthD d)) fun k => DL.ret (.fz (.bl (!k))) := rfl
@[simp] theorem r_ite : ev Φ (.ite e a b) ρ = (ev Φ e ρ).then fun x => bnd (vw x) fun d => bnd (ofO (truthD d)) fun k => if k then ev Φ a else ev Φ b := rfl
@[simp] theorem r_tup {es : Es} : ev Φ (.tup es) ρ = (evs Φ es ρ).then fun ds => if ds.length ≤ sizeLine then DL.ret (.fz (.tup ds)) else stuck := rfl
@[simp] theorem r_lst {es : Es} : ev Φ (.lst es) ρ = (evs Φ es ρ).then fun ds => if ds.length ≤ sizeLine then DL.ret (.fr ds) else stuck := rfl
@[simp] theorem r_idx : ev Φ (.idx a b) ρ = (ev Φ a ρ).then fun x => bnd (ev Φ b) fun y => bnd (vw x) fun d => bnd (vw y) fun e => bnd (ofO (idxD d e)) fun f => DL.ret (.fz f) := rfl
@[simp] theorem r_slc {lo hi : Eo} : ev Φ (.slc a lo hi) ρ = (ev Φ a ρ).then fun x => bnd (evo Φ lo) fun l => bnd (evo Φ hi) fun h => bnd (vw x) fun d => ofO (slcD d l h) := rfl
@[simp] theorem r_call {f : Nat} {p : List Nat} {as ks : As} : ev Φ (.call f p as ks) ρ = (evas Φ as ρ).then fun as => bnd (evas Φ ks) fun ks => callM Φ f p (as ++ ks) := rfl
@[simp] theorem r_bi {o : Bi} {es : Es} : ev Φ (.bi o es) ρ = (evrs Φ es ρ).then fun rs => fun ρ => match rs.mapM (view ρ) with | some ds => ofO (biD o ds) ρ | none => .stk := rfl
@[simp] theorem r_app : ev Φ (.app n e) ρ = (getL n ρ).then fun _ => bnd (ev Φ e) fun y => bnd (DL.share y) fun d => bnd (getL n) fun xs => if xs.length < sizeLine then bnd (putL n (xs ++ [d])) fun _ => DL.ret (.fz .non) else stuck := rfl
@[simp] theorem r_ext : ev Φ (.ext n e) ρ = (getL n ρ).then fun _ => bnd (ev Φ e) fun y => bnd (vw y) fun d => match d with | .lst ys => bnd (getL n) fun xs => if xs.length + ys.length ≤ sizeLine then bnd (putL n (xs ++ ys)) fun _ => DL.ret (.fz .non) else stuck | _ => stuck := rfl
@[simp] theorem r_evo0 : evo Φ .none ρ = .ok none ρ := rfl
@[simp] theorem r_evo1 : evo Φ (.some e) ρ = (ev Φ e ρ).then fun x => bnd (vw x) fun d => match d with | .int i => DL.ret (some i) | _ => stuck := rfl
@[simp] theorem r_evc0 : evc Φ .none ρ = .ok true ρ := rfl
@[simp] theorem r_evc1 : evc Φ (.some e) ρ = (ev Φ e ρ).then fun x => bnd (vw x) fun d => ofO (truthD d) := rfl
@[simp] theorem r_evs0 : evs Φ .nil ρ = .ok [] ρ := rfl
@[simp] theorem r_evs1 {es : Es} : evs Φ (.cons e es) ρ = (ev Φ e ρ).then fun x => bnd (DL.share x) fun d => bnd (evs Φ es) fun ds => DL.ret (d :: ds) := rfl
@[simp] theorem r_evrs0 : evrs Φ .nil ρ = .ok [] ρ := rfl
@[simp] theorem r_evrs1 {es : Es} : evrs Φ (.cons e es) ρ = (ev Φ e ρ).then fun x => bnd (evrs Φ es) fun ds => DL.ret (x :: ds) := rfl
@[simp] theorem r_evas0 : evas Φ .nil ρ = .ok [] ρ := rfl
@[simp] theorem r_evas1 {es : As} : evas Φ (.val e es) ρ = (ev Φ e ρ).then fun x => bnd (DL.share x) fun d => bnd (evas Φ es) fun ds => DL.ret (.val d :: ds) := rfl
@[simp] theorem r_evas2 {es : As} : evas Φ (.ref e es) ρ = (ev Φ e ρ).then fun x => bnd (ofO (asRef x)) fun a => bnd (evas Φ es) fun ds => DL.ret (a :: ds) := rfl
@[simp] theorem r_ar1 : asRef (.fr xs) = some (.fr xs) := rfl
@[simp] theorem r_ar2 : asRef (.rf n) = some (.rf n) := rfl
@[simp] theorem r_mapM0 : List.mapM (view ρ) [] = some [] := rfl
@[simp] theorem r_mapM1 {r : R} {rs : List R} : List.mapM (view ρ) (r :: rs) = (view ρ r).bind fun d => (List.mapM (view ρ) rs).map fun ds => d :: ds := by
  rw [List.mapM_cons]
  cases view ρ r with
  | none => rfl
  | some d => cases List.mapM (view ρ) rs <;> rfl
@[simp] theorem r_comp {own : List Nat} {t : Tg} {it : DL.It} {co : Eo} : ev Φ (.comp own t it co e) ρ = (evit Φ it ρ).then fun (l, xs) => fun ρ => (bnd (wipeM own) (fun _ => withLock l (cmpL (compStep Φ own t co e) xs [])) ρ).then fun ys ρ' => .ok (.fr ys) (backS ρ ρ' own) := rfl
@[simp] theorem w_some {k : Lk} {m : M α} : withLock (some (n, k)) m ρ = (match ρ[n]? with
    | some (.ls _ xs) => (m (ρ.set n (.ls .lck xs))).then fun a ρ' => match ρ'[n]? with
      | some (.ls _ ys) => .ok a (ρ'.set n (.ls k ys))
      | _ => .stk
    | _ => .stk) := rfl
@[simp] theorem v_wipe {own : List Nat} : wipeM own ρ = if ownOk ρ own then .ok () (wipeS ρ own) else .stk := rfl
@[simp] theorem v_own {own : List Nat} : ownOk ρ own = own.all fun i => match ρ[i]? with | some .un => true | some (.fz _) => true | _ => false := rfl
@[simp] theorem v_w0 : wipeS ρ [] = ρ := rfl
@[simp] theorem v_w1 {own : List Nat} : wipeS ρ (n :: own) = (wipeS ρ own).set n .un := rfl
@[simp] theorem v_b0 {ρ' : Ev} : backS ρ ρ' [] = ρ' := rfl
@[simp] theorem v_b1 {ρ' : Ev} {own : List Nat} : backS ρ ρ' (n :: own) = (backS ρ ρ' own).set n (ρ.getD n .un) := rfl
/-! data -/
@[simp] theorem d_add : binD .add (.int i) (.int j) = some (.fz (.int (i + j))) := rfl
@[simp] theorem d_addT : binD .add (.tup xs) (.tup ys) = if xs.length + ys.length ≤ sizeLine then some (.fz (.tup (xs ++ ys))) else none := rfl
@[simp] theorem d_addL : binD .add (.lst xs) (.lst ys) = if xs.length + ys.length ≤ sizeLine then some (.fr (xs ++ ys)) else none := rfl
@[simp] theorem d_sub : binD .sub (.int i) (.int j) = some (.fz (.int (i - j))) := rfl
@[simp] theorem d_mul : binD .mul (.int i) (.int j) = if DL.small64 i || DL.small64 j || (DL.wide i && DL.wide j) then some (.fz (.int (i * j))) else none := rfl
@[simp] theorem d_mulL : binD .mul (.lst xs) (.int i) = if -(2 ^ 63) ≤ i ∧ i < 2 ^ 63 ∧ xs.length * i.toNat ≤ sizeLine then some (.fr (repl xs i.toNat)) else none := rfl
@[simp] theorem d_mulT : binD .mul (.tup xs) (.int i) = if 2 ≤ i ∧ i ≤ 1000 ∧ 1 ≤ xs.length ∧ xs.length ≤ 1000 then some (.fz (.tup (repl xs i.toNat))) else if (i ≤ 1 ∨ xs.isEmpty = true) ∧ -(2 ^ 63) ≤ i ∧ i < 2 ^ 63 then some (.fz (.tup (repl xs i.toNat))) else none := rfl
@[simp] theorem d_fdiv : binD .fdiv (.int i) (.int j) = if j ≠ 0 ∧ j.natAbs < 1073741824 then some (.fz (.int (i.fdiv j))) else none := rfl
@[simp] theorem d_mod : binD .mod (.int i) (.int j) = if j ≠ 0 then some (.fz (.int (i.fmod j))) else none := rfl
@[simp] theorem d_pow : binD .pow (.int i) (.int j) = if 0 ≤ j ∧ j ≤ 1000000 ∧ i.natAbs < 2 ^ 64 then some (.fz (.int (i ^ j.toNat))) else none := rfl
@[simp] theorem d_lt : cmpD .lt (.int i) (.int j) = some (decide (i < j)) := rfl
@[simp] theorem d_le : cmpD .le (.int i) (.int j) = some (decide (i ≤ j)) := rfl
@[simp] theorem d_gt : cmpD .gt (.int i) (.int j) = some (decide (j < i)) := rfl
@[simp] theorem d_ge : cmpD .ge (.int i) (.int j) = some (decide (j ≤ i)) := rfl
@[simp] theorem d_eq : cmpD .eq (.int i) (.int j) = some (decide (i = j)) := rfl
@[simp] theorem d_ne : cmpD .ne (.int i) (.int j) = some (!decide (i = j)) := rfl
@[simp] theorem d_eqs {s t : Str} : cmpD .eq (.str s) (.str t) = some (decide (s = t)) := rfl
@[simp] theorem d_nes {s t : Str} : cmpD .ne (.str s) (.str t) = some (!decide (s = t)) := rfl
@[simp] theorem d_isn : cmpD .isN .non .non = some true := rfl
@[simp] theorem d_ist : cmpD .isN (.tup xs) .non = some false := rfl
@[simp] theorem d_isi : cmpD .isN (.int i) .non = some false := rfl
@[simp] theorem d_isl : cmpD .isN (.lst xs) .non = some false := rfl
@[simp] theorem d_nsn : cmpD .notN .non .non = some false := rfl
@[simp] theorem d_nst : cmpD .notN (.tup xs) .non = some true := rfl
@[simp] theorem d_nsi : cmpD .notN (.int i) .non = some true := rfl
@[simp] theorem d_nsl : cmpD .notN (.lst xs) .non = some true := rfl
@[simp] theorem t_bl {k : Bool} : truthD (.bl k) = some k := rfl
@[simp] theorem t_int : truthD (.int i) = some (i != 0) := rfl
@[simp] theorem t_non : truthD .non = some false := rfl
@[simp] theorem t_tup : truthD (.tup xs) = some (!xs.isEmpty) := rfl
@[simp] theorem t_lst : truthD (.lst xs) = some (!xs.isEmpty) := rfl
@[simp] theorem x_tup : idxD (.tup xs) (.int i) = L2.atI xs i := rfl
@[simp] theorem x_lst : idxD (.lst xs) (.int i) = L2.atI xs i := rfl
@[simp] theorem x_scr : idxD (.scr xs) (.int i) = L2.atI xs i := rfl
@[simp] theorem l_tup {lo hi : Option Int} : slcD (.tup xs) lo hi = some (.fz (.tup (cut xs lo hi))) := rfl
@[simp] theorem l_lst {lo hi : Option Int} : slcD (.lst xs) lo hi = some (.fr (cut xs lo hi)) := rfl
@[simp] theorem l_scr {lo hi : Option Int} : slcD (.scr xs) lo hi = some (.fr (cut xs lo hi)) := rfl
@[simp] theorem b_lent : biD .len [.tup xs] = some (.fz (.int xs.length)) := rfl
@[simp] theorem b_lenl : biD .len [.lst xs] = some (.fz (.int xs.length)) := rfl
@[simp] theorem b_lens : biD .len [.scr xs] = some (.fz (.int xs.length)) := rfl
@[simp] theorem b_abs : biD .abs [.int i] = some (.fz (.int (if i < 0 then -i else i))) := rfl
@[simp] theorem b_int : biD .int1 [.int i] = some (.fz (.int i)) := rfl
@[simp] theorem b_tupt : biD .tuple [.tup xs] = some (.fz (.tup xs)) := rfl
@[simp] theorem b_tupl : biD .tuple [.lst xs] = some (.fz (.tup xs)) := rfl
@[simp] theorem b_lstt : biD .list [.tup xs] = some (.fr xs) := rfl
@[simp] theorem b_lstl : biD .list [.lst xs] = some (.fr xs) := rfl
@[simp] theorem b_max1 : biD .max1 [.lst xs] = ((intsD xs).bind maxL).map fun m => .fz (.int m) := rfl
@[simp] theorem b_min1 : biD .min1 [.lst xs] = ((intsD xs).bind minL).map fun m => .fz (.int m) := rfl
@[simp] theorem b_max2 : biD .max2 [.int i, .int j] = some (.fz (.int (if j > i then j else i))) := rfl
@[simp] theorem b_min2 : biD .min2 [.int i, .int j] = some (.fz (.int (if j < i then j else i))) := rfl
@[simp] theorem b_sum : biD .sum [.lst xs] = (intsD xs).map fun ns => .fz (.int ns.sum) := rfl
@[simp] theorem b_sumT : biD .sum [.tup xs] = (intsD xs).map fun ns => .fz (.int ns.sum) := rfl
theorem b_reprL (h : xs.length ≤ 1000) : biD .reprL xs = biD .repr [.lst xs] := by
  show (if _ then _ else _) = (if _ then _ else _)
  rw [decide_eq_true h, Bool.and_true]
@[simp] theorem b_all : biD .all [.lst xs] = (boolsD xs).map fun bs => .fz (.bl (bs.all id)) := rfl
@[simp] theorem b_any : biD .any [.lst xs] = (boolsD xs).map fun bs => .fz (.bl (bs.any id)) := rfl
@[simp] theorem b_sorted : biD .sorted [.lst xs] = (intsD xs).map fun ns => .fr ((sortI ns).map .int) := rfl
@[simp] theorem b_divmod : biD .divmod [.int i, .int j] = if 0 < j ∧ j < 1000000000000000000000000000000000000000000000000000000000000 then some (.fz (.tup [.int (i / j), .int (i % j)])) else none := rfl
@[simp] theorem b_isi1 {t : Ty} : biD (.isi t) [.int i] = some (.fz (.bl (isD (.int i) t))) := rfl
@[simp] theorem b_isi2 {t : Ty} : biD (.isi t) [.tup xs] = some (.fz (.bl (isD (.tup xs) t))) := rfl
@[simp] theorem b_isi3 {t : Ty} : biD (.isi t) [.lst xs] = some (.fz (.bl (isD (.lst xs) t))) := rfl
@[simp] theorem b_isi4 {t : Ty} : biD (.isi t) [.non] = some (.fz (.bl (isD .non t))) := rfl
@[simp] theorem b_isi5 {t : Ty} {k : Bool} : biD (.isi t) [.bl k] = some (.fz (.bl (isD (.bl k) t))) := rfl
@[simp] theorem b_isi6 {t : Ty} {s : Str} : biD (.isi t) [.str s] = some (.fz (.bl (isD (.str s) t))) := rfl
theorem b_isiG {t : Ty} (h : noObj d = true) : biD (.isi t) [d] = some (.fz (.bl (isD d t))) := by cases d <;> first | rfl | cases h
@[simp] theorem b_iso {c : Nat} : biD (.iso c) [.obj c xs] = some (.fz (.bl true)) := if_pos rfl
@[simp] theorem b_ssetT : biD .sset [.tup xs] = (intsD xs).bind fun ns => if ns.length ≤ 4000 ∧ (setI ns).length < 64 then some (.fr ((setI ns).map .int)) else none := rfl
@[simp] theorem b_sset : biD .sset [.lst xs] = (intsD xs).bind fun ns => if ns.length ≤ 4000 ∧ (setI ns).length < 64 then some (.fr ((setI ns).map .int)) else none := rfl
@[simp] theorem r_fld {ks : List (Nat × Nat)} : ev Φ (.fld a ks) ρ = (ev Φ a ρ).then fun x => bnd (vw x) fun d => match d with
    | .obj c xs => bnd (ofO ((ks.lookup c).bind fun i => xs[i]?)) fun f => DL.ret (.fz f)
    | _ => stuck := rfl
@[simp] theorem r_make {c f : Nat} {p : List Nat} {as ks : As} : ev Φ (.make c f p as ks) ρ = (evas Φ as ρ).then fun as => bnd (evas Φ ks) fun ks => makeM Φ c f p (as ++ ks) := rfl
@[simp] theorem r_meth {ms : List (Nat × Nat)} {p : List Nat} {as ks : As} : ev Φ (.meth a ms p as ks) ρ = (ev Φ a ρ).then fun x => bnd (vw x) fun d => match d with
    | .obj c xs => bnd (ofO (ms.lookup c)) fun f => bnd (evas Φ as) fun as => bnd (evas Φ ks) fun ks => callM Φ f p (.val (.obj c xs) :: (as ++ ks))
    | _ => stuck := rfl
@[simp] theorem c_make {c f : Nat} {p : List Nat} {as : List A} : makeM Φ c f p as ρ = (match (pick p as).bind valsOf with
  | none => .stk
  | some ds => match Φ f (.un :: ds.map .fz) with
    | some (.fz (.tup xs), _) => if xs.length = (cFlds c).length then .ok (.fz (.obj c xs)) ρ else .stk
    | _ => .stk) := rfl
@[simp] theorem vo_0 : valsOf [] = some [] := rfl
@[simp] theorem vo_1 {as : List A} : valsOf (.val d :: as) = (valsOf as).map (d :: ·) := rfl
@[simp] theorem cf_0 : (cFlds 0).length = 2 := rfl
@[simp] theorem cf_1 : (cFlds 1).length = 2 := rfl
@[simp] theorem o_enumZ : evit Φ (.enumZ a b) ρ = (ev Φ a ρ).then fun x => bnd (DL.share x) fun d => bnd (ev Φ b) fun y => bnd (DL.share y) fun e => match d, e with
    | .tup xs, .tup ys => DL.ret (none, enumFrom 0 (zipD xs ys))
    | _, _ => stuck := rfl
@[simp] theorem s_par3 {l : Nat} : exec Φ (.par3 n m l a b c) ρ = (ev Φ a ρ).then fun x => bnd (ev Φ b) fun y => bnd (ev Φ c) fun z => bnd (unref x) fun x => bnd (unref y) fun y => bnd (unref z) fun z => match y, z with
    | .fz d, .fz e => bnd (setR n x) fun _ => bnd (DL.setD m d) fun _ => bnd (DL.setD l e) fun _ => DL.ret .nx
    | _, _ => stuck := rfl
@[simp] theorem b_tr1 : biD .tupRng1 [.int j] = if DL.small62 j && decide (j.toNat ≤ 16777216) then some (.fz (.tup (rngL 0 j))) else none := rfl
@[simp] theorem b_tr2 : biD .tupRng2 [.int i, .int j] = if DL.small62 i && DL.small62 j && decide ((j - i).toNat ≤ 16777216) then some (.fz (.tup (rngL i j))) else none := rfl
@[simp] theorem i_int : isD (.int i) .int = true := rfl
@[simp] theorem i_intb : isD (.int i) .bool = false := rfl
@[simp] theorem i_tup : isD (.tup xs) .tuple = true := rfl
@[simp] theorem i_tupl : isD (.tup xs) .list = false := rfl
@[simp] theorem i_intt : isD (.int i) .tuple = false := rfl
@[simp] theorem i_intl : isD (.int i) .list = false := rfl
@[simp] theorem i_lstl : isD (.lst xs) .list = true := rfl
@[simp] theorem i_lstt : isD (.lst xs) .tuple = false := rfl
@[simp] theorem m_tup : itemsD (.tup xs) = some xs := rfl
@[simp] theorem m_lst : itemsD (.lst xs) = some xs := rfl
@[simp] theorem m_scr : itemsD (.scr xs) = some xs := rfl
@[simp] theorem k_fz : lockOf ρ (.fz d) = none := rfl
@[simp] theorem k_fr : lockOf ρ (.fr xs) = none := rfl
@[simp] theorem k_rf : lockOf ρ (.rf n) = (match ρ[n]? with | some (.ls k _) => some (n, k) | _ => none) := rfl
@[simp] theorem w_none {m : M α} : withLock none m ρ = m ρ := rfl
/-! statements -/
@[simp] theorem s_nil : execs Φ .nil ρ = .ok .nx ρ := rfl
@[simp] theorem s_cons {s : S} {ss : Ss} : execs Φ (.cons s ss) ρ = (exec Φ s ρ).then fun | .nx => execs Φ ss | f => DL.ret f := rfl
@[simp] theorem s_asg {t : Tg} : exec Φ (.asg t e) ρ = (ev Φ e ρ).then fun r => bnd (asgR Φ t r) fun _ => DL.ret .nx := rfl
@[simp] theorem s_par : exec Φ (.par n m a b) ρ = (ev Φ a ρ).then fun x => bnd (ev Φ b) fun y => bnd (unref x) fun x => bnd (unref y) fun y => bnd (setR n x) fun _ => bnd (setR m y) fun _ => DL.ret .nx := rfl
@[simp] theorem s_aug {o : Bop} : exec Φ (.aug n o e) ρ = (ev Φ (.var n) ρ).then fun x => bnd (ev Φ e) fun y => bnd (vw x) fun d => bnd (vw y) fun e => match d, e with
    | .int _, .int _ => bnd (ofO (binD o d e)) fun r => bnd (setR n r) fun _ => DL.ret .nx
    | _, _ => stuck := rfl
@[simp] theorem s_ex : exec Φ (.ex e) ρ = (ev Φ e ρ).then fun _ => DL.ret .nx := rfl
@[simp] theorem s_ifs {ss ts : Ss} : exec Φ (.ifs e ss ts) ρ = (ev Φ e ρ).then fun x => bnd (vw x) fun d => bnd (ofO (truthD d)) fun k => if k then execs Φ ss else execs Φ ts := rfl
@[simp] theorem s_ret : exec Φ (.ret e) ρ = (ev Φ e ρ).then fun r => DL.ret (.rt r) := rfl
@[simp] theorem s_retN : exec Φ .retN ρ = .ok (.rt (.fz .non)) ρ := rfl
@[simp] theorem s_pass : exec Φ .pass ρ = .ok .nx ρ := rfl
@[simp] theorem s_brk : exec Φ .brk ρ = .ok .bk ρ := rfl
@[simp] theorem s_wip {ws : List Nat} : exec Φ (.wip ws) ρ = (if dropOk ρ ws then .ok .nx (wipeS ρ ws) else .stk) := by
  show ((if dropOk ρ ws then Out.ok () (wipeS ρ ws) else .stk).then _) = _
  split <;> rfl
@[simp] theorem v_drop {ws : List Nat} : dropOk ρ ws = ws.all fun i => match ρ[i]? with | some .un => true | some (.fz _) => true | some (.ls .own _) => true | _ => false := rfl
@[simp] theorem s_cnt : exec Φ .cnt ρ = .ok .ct ρ := rfl
@[simp] theorem s_for {t : Tg} {it : DL.It} {ss : Ss} : exec Φ (.for_ t it ss) ρ = (evit Φ it ρ).then fun (l, xs) => withLock l (forL (fun x => bnd (asgn Φ t x) fun _ => execs Φ ss) xs) := rfl
@[simp] theorem u_fz : unref (.fz d) ρ = .ok (.fz d) ρ := rfl
@[simp] theorem u_fr : unref (.fr xs) ρ = .ok (.fr xs) ρ := rfl
@[simp] theorem u_rf : unref (.rf n) ρ = (DL.share (.rf n) ρ).then fun d => DL.ret (.fz d) := rfl
@[simp] theorem g_nm {r : R} : asgR Φ (.nm n) r ρ = DL.setR n r ρ := rfl
@[simp] theorem g_sub {r : R} : asgR Φ (.sub n e) r ρ = (DL.share r ρ).then fun d => asgn Φ (.sub n e) d := rfl
@[simp] theorem g_tp {r : R} {ts : Tgs} : asgR Φ (.tp ts) r ρ = (DL.share r ρ).then fun d => asgn Φ (.tp ts) d := rfl
@[simp] theorem a_nm : asgn Φ (.nm n) d ρ = DL.setD n d ρ := rfl
@[simp] theorem a_sub : asgn Φ (.sub n e) d ρ = (getL n ρ).then fun _ => bnd (ev Φ e) fun y => bnd (vw y) fun e => match e with
    | .int k => bnd (getL n) fun xs => match ixN xs.length k with | some j => putL n (xs.set j d) | none => stuck
    | _ => stuck := rfl
@[simp] theorem a_tp {ts : Tgs} {ds : List D} : asgn Φ (.tp ts) (.tup ds) ρ = asgns Φ ts ds ρ := rfl
@[simp] theorem a_s0 : asgns Φ .nil [] ρ = .ok () ρ := rfl
@[simp] theorem a_s1 {t : Tg} {ts : Tgs} {ds : List D} : asgns Φ (.cons t ts) (d :: ds) ρ = (asgn Φ t d ρ).then fun _ => asgns Φ ts ds := rfl
@[simp] theorem e_setD : DL.setD n d ρ = (match ρ[n]? with | some .un => .ok () (ρ.set n (.fz d)) | some (.fz _) => .ok () (ρ.set n (.fz d)) | some (.ls .own _) => .ok () (ρ.set n (.fz d)) | _ => .stk) := rfl
@[simp] theorem e_setL : DL.setL n xs ρ = (match ρ[n]? with | some .un => .ok () (ρ.set n (.ls .own xs)) | some (.fz _) => .ok () (ρ.set n (.ls .own xs)) | some (.ls .own _) => .ok () (ρ.set n (.ls .own xs)) | _ => .stk) := rfl
@[simp] theorem e_setR1 : DL.setR n (.fz d) ρ = DL.setD n d ρ := rfl
@[simp] theorem e_setR2 : DL.setR n (.fr xs) ρ = DL.setL n xs ρ := rfl
@[simp] theorem e_setR3 : DL.setR n (.rf m) ρ = (DL.share (.rf m) ρ).then (DL.setD n) := rfl
@[simp] theorem e_putL : putL n xs ρ = (match ρ[n]? with | some (.ls .own _) => .ok () (ρ.set n (.ls .own xs)) | some (.ls .bor _) => .ok () (ρ.set n (.ls .bor xs)) | _ => .stk) := rfl
@[simp] theorem e_getL : getL n ρ = (match ρ[n]? with | some (.ls _ xs) => .ok xs ρ | _ => .stk) := rfl
@[simp] theorem o_val : evit Φ (.val e) ρ = (ev Φ e ρ).then fun x => bnd (vw x) fun d => fun ρ => bnd (ofO (itemsD d)) (fun xs => DL.ret (lockOf ρ x, xs)) ρ := rfl
@[simp] theorem o_rng1 : evit Φ (.rng1 e) ρ = (ev Φ e ρ).then fun x => bnd (vw x) fun d => match d with
    | .int j => if DL.small62 j then DL.ret (none, rngL 0 j) else stuck
    | _ => stuck := rfl
@[simp] theorem o_rng2 : evit Φ (.rng2 a b) ρ = (ev Φ a ρ).then fun x => bnd (ev Φ b) fun y => bnd (vw x) fun d => bnd (vw y) fun e => match d, e with
    | .int i, .int j => if DL.small62 i && DL.small62 j then DL.ret (none, rngL i j) else stuck
    | _, _ => stuck := rfl
@[simp] theorem o_enum : evit Φ (.enum e) ρ = (ev Φ e ρ).then fun x => bnd (vw x) fun d => fun ρ => bnd (ofO (itemsD d)) (fun xs => DL.ret (lockOf ρ x, enumFrom 0 xs)) ρ := rfl
@[simp] theorem o_zip : evit Φ (.zip a b) ρ = (ev Φ a ρ).then fun x => bnd (DL.share x) fun d => bnd (ev Φ b) fun y => bnd (DL.share y) fun e => bnd (ofO (zipI d e)) fun xs => DL.ret (none, xs) := rfl
@[simp] theorem o_rev : evit Φ (.rev e) ρ = (ev Φ e ρ).then fun x => bnd (vw x) fun d => fun ρ => bnd (ofO (itemsD d)) (fun xs => DL.ret (lockOf ρ x, xs.reverse)) ρ := rfl
@[simp] theorem z_ll : zipI (.lst xs) (.lst ys) = some (zipD xs ys) := rfl
@[simp] theorem z_tt : zipI (.tup xs) (.tup ys) = some (zipD xs ys) := rfl
/-! calls -/
@[simp] theorem c_call {f : Nat} {p : List Nat} {as : List A} : callM Φ f p as ρ = (match pick p as with
  | none => .stk
  | some as => if (refs as).Nodup ∧ frs as ≤ 1 then match slotsOf ρ as with
      | none => .stk
      | some ss => match Φ f ss with
        | none => .stk
        | some (r, ss') => .ok r (putBack as ss' ρ)
    else .stk) := rfl
@[simp] theorem p_nil {l : List α} : pick [] l = some [] := rfl
@[simp] theorem p_cons {l : List α} {p : List Nat} : pick (n :: p) l = (l[n]?).bind fun z => (pick p l).map fun r => z :: r := by
  unfold pick
  rw [List.mapM_cons]
  cases l[n]? with
  | none => rfl
  | some z => cases (List.mapM (fun j => l[j]?) p) <;> rfl
@[simp] theorem f_0 : refs [] = [] := rfl
@[simp] theorem f_1 {as : List A} : refs (.val d :: as) = refs as := rfl
@[simp] theorem f_2 {as : List A} : refs (.fr xs :: as) = refs as := rfl
@[simp] theorem f_3 {as : List A} : refs (.rf n :: as) = n :: refs as := rfl
@[simp] theorem f_4 : frs [] = 0 := rfl
@[simp] theorem f_5 {as : List A} : frs (.val d :: as) = frs as := rfl
@[simp] theorem f_6 {as : List A} : frs (.fr xs :: as) = frs as + 1 := rfl
@[simp] theorem f_7 {as : List A} : frs (.rf n :: as) = frs as := rfl
@[simp] theorem so_0 : slotsOf ρ [] = some [] := rfl
@[simp] theorem so_1 {a : A} {as : List A} : slotsOf ρ (a :: as) = (match slotOf ρ a, slotsOf ρ as with | some s, some ss => some (s :: ss) | _, _ => none) := rfl
@[simp] theorem so_2 : slotOf ρ (.val d) = some (.fz d) := rfl
@[simp] theorem so_3 : slotOf ρ (.fr xs) = some (.ls .bor xs) := rfl
@[simp] theorem so_4 : slotOf ρ (.rf n) = (match ρ[n]? with | some (.ls .own xs) => some (.ls .bor xs) | some (.ls .bor xs) => some (.ls .bor xs) | _ => none) := rfl
@[simp] theorem pb_0 {ss : List Sl} : putBack [] ss ρ = ρ := rfl
@[simp] theorem pb_1 {a : List A} {s : Sl} {ss : List Sl} : putBack (.val d :: a) (s :: ss) ρ = putBack a ss ρ := rfl
@[simp] theorem pb_2 {a : List A} {s : Sl} {ss : List Sl} : putBack (.fr xs :: a) (s :: ss) ρ = putBack a ss ρ := rfl
@[simp] theorem pb_3 {a : List A} {k : Lk} {ss : List Sl} : putBack (.rf n :: a) (.ls k xs :: ss) ρ = putBack a ss (match ρ[n]? with | some (.ls k _) => ρ.set n (.ls k xs) | _ => ρ) := rfl
@[simp] theorem sz_le : (n ≤ sizeLine) = (n ≤ 16777216) := rfl
@[simp] theorem sz_lt : (n < sizeLine) = (n < 16777216) := rfl
theorem s64 (h1 : -18446744073709551616 < i) (h2 : i < 18446744073709551616) : DL.small64 i = true := by
  unfold DL.small64
  rw [decide_eq_true (by omega), decide_eq_true (by omega)]
  rfl
theorem s62 (h1 : -4611686018427387904 ≤ i) (h2 : i < 4611686018427387904) : DL.small62 i = true := by
  unfold DL.small62
  rw [decide_eq_true (by omega), decide_eq_true (by omega)]
  rfl
theorem fmodE (h : 0 ≤ j) : i.fmod j = i % j := Int.fmod_eq_emod_of_nonneg i h
theorem fdivE (h : 0 ≤ j) : i.fdiv j = i / j := Int.fdiv_eq_ediv_of_nonneg i h
@[simp 100] theorem x_atI {xs : List α} {i : Int} : L2.atI xs i = (L2.ixN xs.length i).bind fun j => xs[j]? := rfl
@[simp 100] theorem x_ixN : L2.ixN n i = if 0 ≤ i then (if i < n then some i.toNat else none) else if -(n : Int) ≤ i then some (i + n).toNat else none := rfl
end
end DL

end

section
set_option autoImplicit false
/-! DLw: three in parallel, sorted(set(..)), enumerate(zip(..)), fields, isinstance of an own class. -/
namespace DL
open PySem L2
section
variable {K : PySem.W.Frag} {S S' : Addr → Prop} {ρ ρ' : Ev} {σ σ' : St} {H H' : Hp} {a b : Addr} {xs ys : List D}
theorem Wk.enumZ : Wk K (IteZ K a b) (Two K (.ref a) (.ref b) (.tup xs) (.tup ys)) (enumFrom 0 (zipD xs ys)) where
  stop := fun S ρ σ H rel h i hi => by
    obtain ⟨p, vs, ep, h1, h2⟩ := (Vd.fz h.1).t
    obtain ⟨q, us, eq, h3, h4⟩ := (Vd.fz h.2).t
    cases ep
    cases eq
    rw [enum_len, zip_len] at hi
    exact ⟨vs, us, h1, h3, by rw [h2.length, h4.length]; omega⟩
  go := fun S ρ σ H rel h i hi => by
    obtain ⟨p, vs, ep, h1, h2⟩ := (Vd.fz h.1).t
    obtain ⟨q, us, eq, h3, h4⟩ := (Vd.fz h.2).t
    cases ep
    cases eq
    rw [enum_len, zip_len] at hi
    have i1 : i < vs.length := by rw [h2.length]; omega
    have i2 : i < us.length := by rw [h4.length]; omega
    exact ⟨vs, us, vs[i], us[i], h1, h3, List.getElem?_eq_getElem i1, List.getElem?_eq_getElem i2⟩
  yld := fun S ρ σ H i d' x H' rel h ei y => by
    obtain ⟨p, vs, ep, h1, h2⟩ := (Vd.fz h.1).t
    obtain ⟨q, us, eq, h3, h4⟩ := (Vd.fz h.2).t
    cases ep
    cases eq
    obtain ⟨P, T, z1, z2, rfl, nPT, nP, nT, rfl, y1, y2⟩ := y
    obtain ⟨d2, e0, rfl⟩ := enum_getZ (k := 0) ei
    obtain ⟨x1, x2, e1, e2, rfl⟩ := zip_get e0
    obtain ⟨w1, f1, r1⟩ := h2.get e1
    obtain ⟨w2, f2, r2⟩ := h4.get e2
    rw [y1 vs h1] at f1
    rw [y2 us h3] at f2
    cases f1
    cases f2
    have g1 := Gn.tup (S := S) (vs := [z1, z2]) nP
    have nT2 : upd H P (.tup [z1, z2]) T = none := by rw [upd_ne (Ne.symm nPT)]; exact nT
    have g2 := Gn.tup (S := fun a => S a ∨ a = P) (H := upd H P (.tup [z1, z2])) (vs := [.int ((i : Nat) : Int), .ref P]) nT2
    exact ⟨_, g1.trans g2, Rp.mkTup nT2 (.cons (.int _) (.cons (Rp.mkTup nP (.cons r1 (.cons r2 .nil))) .nil))⟩
  stay := fun S ρ σ H S' ρ' σ' H' rel h g _ => h.stay rel g
  wip := fun own S ρ σ H no h => h
end
section
variable {X : Cx} {Φ : Calls} {a b c : Expr} {es : List Expr} {pos : Pos} {ia ib ic : E}
theorem di_enumZ {p p2 pos2 tpos : Pos} {elts : List Expr} {kk : Nat} (hg : Gl X "enumerate") (hm : X.mg "enumerate" = none) (hg2 : Gl X "zip") (hm2 : X.mg "zip" = none) (ha : PE X a (tD X.K (ev Φ ia))) (hb : PE X b (tD X.K (ev Φ ib)))
    (hs0 : starEach [.Call (.Name "zip" p2) [a, b] [] pos2] X.env = [(false, eval (.Call (.Name "zip" p2) [a, b] [] pos2) X.env)] := by rfl)
    (hs : starEach [a, b] X.env = (false, eval a X.env) :: starEach [b] X.env := by rfl) (hs2 : starEach [b] X.env = (false, eval b X.env) :: starEach [] X.env := by rfl) (hpl : (PySem.backTo pos2 (starEach [b] X.env)).any (·.1) = false := by rfl) :
    PI X (.Tuple elts kk tpos) (.Call (.Name "enumerate" p) [.Call (.Name "zip" p2) [a, b] [] pos2] [] pos) (iD X.K (evit Φ (.enumZ ia ib))) :=
  piImp (pi_enumZ hg hm hg2 hm2 (da_cons ha (da_cons hb da_nil hs2) hs) hs0 hs hpl) fun σ H R q => by
    obtain ⟨S, ρ, l, xs, ρ', rel, e, q⟩ := q
    simp only [evit] at e
    obtain ⟨x, ρ1, e1, h1⟩ := bnd_eq e
    obtain ⟨d, ρ2, e2, h2⟩ := bnd_eq h1
    obtain ⟨y, ρ3, e3, h3⟩ := bnd_eq h2
    obtain ⟨f, ρ4, e4, h4⟩ := bnd_eq h3
    cases d <;> (try (cases h4; done))
    cases f <;> (try (cases h4; done))
    rename_i us ws
    obtain ⟨q1, q2⟩ := ret_eq h4
    cases q1
    subst q2
    have ev2 : evs Φ (.cons ia (.cons ib .nil)) ρ = .ok [.tup us, .tup ws] ρ' := by
      simp only [evs]
      show (ev Φ ia ρ).then _ = _
      rw [e1]
      show (DL.share x ρ1).then _ = _
      rw [e2]
      show ((ev Φ ib ρ2).then _).then _ = _
      rw [e3]
      show ((DL.share y ρ3).then _).then _ = _
      rw [e4]
      rfl
    refine ⟨S, ρ, [.tup us, .tup ws], ρ', rel, ev2, fun S1 vs H1 g1 rel1 r1 => ?_⟩
    cases r1 with
    | cons ra rr =>
      cases rr with
      | cons rb rr =>
        cases rr
        obtain ⟨p1, v1, ep1, k1, k2⟩ := (Vd.fz ra).t
        obtain ⟨p2, v2, ep2, k3, k4⟩ := (Vd.fz rb).t
        subst ep1 ep2
        exact ⟨p1, p2, v1, v2, rfl, k1, k3, q S1 H1 _ _ ⟨g1, rel1⟩ .enumZ ⟨ra, rb⟩⟩
/-- a, b, c = .., .., .. -/
theorem ds_par3 {i j l : Nat} {x y z : Str} {px py pz pt pt2 : Pos} {kt k2 : Nat} (hc : X.calm = true) (hN : X.N.Nodup) (hi : X.N[i]? = some x) (hj : X.N[j]? = some y) (hl : X.N[l]? = some z) (hij : i ≠ j) (hil : i ≠ l) (hjl : j ≠ l)
    (lx : X.env.scope.names.lookup x = some .local) (ly : X.env.scope.names.lookup y = some .local) (lz : X.env.scope.names.lookup z = some .local)
    (ha : PE X a (tD X.K (ev Φ ia))) (hb : PE X b (tD X.K (ev Φ ib))) (hd : PE X c (tD X.K (ev Φ ic))) (h1 : starEach [a, b, c] X.env = (false, eval a X.env) :: starEach [b, c] X.env := by rfl) (h2 : starEach [b, c] X.env = (false, eval b X.env) :: starEach [c] X.env := by rfl) (h3 : starEach [c] X.env = (false, eval c X.env) :: starEach [] X.env := by rfl)
    (h4 : swappedStores [.Tuple [.Name x px, .Name y py, .Name z pz] kt pt] (.Tuple [a, b, c] k2 pt2) X.env = pure (some [x, y, z]) := by rfl) (h5 : swapsWithSole [.Tuple [.Name x px, .Name y py, .Name z pz] kt pt] (.Tuple [a, b, c] k2 pt2) pos.line X.env = pure false := by rfl) :
    PS X (.Assign [.Tuple [.Name x px, .Name y py, .Name z pz] kt pt] (.Tuple [a, b, c] k2 pt2) pos) (tS X.K (exec Φ (.par3 i j l ia ib ic))) := psImp (ps_par3 hc hN hi hj hl hij hil hjl lx ly lz (pa_cons ha (pa_cons hb (pa_cons hd pa_nil h3) h2) h1) h4 h5) fun D σ H q => by
  obtain ⟨S, ρ, fl, ρ', rel, e, q⟩ := q
  simp only [exec] at e
  obtain ⟨r1, ρ1, e1, k1⟩ := bnd_eq e
  obtain ⟨r2, ρ2, e2, k2⟩ := bnd_eq k1
  obtain ⟨r3, ρ3, e3, k3⟩ := bnd_eq k2
  obtain ⟨t1, ρ4, e4, k4⟩ := bnd_eq k3
  obtain ⟨t2, ρ5, e5, k5⟩ := bnd_eq k4
  obtain ⟨t3, ρ6, e6, k6⟩ := bnd_eq k5
  cases t2 <;> (try (cases k6; done))
  cases t3 <;> (try (cases k6; done))
  rename_i d2 d3
  obtain ⟨u7, ρ7, e7, k7⟩ := bnd_eq k6
  obtain ⟨u8, ρ8, e8, k8⟩ := bnd_eq k7
  obtain ⟨u9, ρ9, e9, k9⟩ := bnd_eq k8
  obtain ⟨q1, q2⟩ := ret_eq k9
  subst q1 q2
  refine ⟨S, ρ, r1, ρ1, rel, e1, fun S1 v H1 g1 rel1 w1 => ⟨S1, ρ1, r2, ρ2, rel1, e2, fun S2 u H2 g2 rel2 w2 => ⟨S2, ρ2, r3, ρ3, rel2, e3, fun S3 t H3 g3 rel3 w3 => ⟨v, u, t, rfl, ?_⟩⟩⟩⟩
  obtain ⟨S4, a4, x1, n1⟩ := unref_ok (Ac.start rel3) ((w1.go rel1 g2).go rel2 g3) e4
  obtain ⟨S5, a5, x2, n2⟩ := unref_ok (Ac.start a4.rel) ((w2.go rel2 g3).go rel3 a4.go) e5
  obtain ⟨S6, a6, x3, n3⟩ := unref_ok (Ac.start a5.rel) ((w3.go rel3 a4.go).go a4.rel a5.go) e6
  have y1 := (x1.go a4.rel a5.go).go a5.rel a6.go
  have y2 : Rp X.K S6 H3 u d2 := Rv.go (r := .fz d2) a5.rel a6.go x2
  have y3 : Rp X.K S6 H3 t d3 := x3
  have all6 : Ac X.K S ρ σ H S6 ρ6 σ H3 := ((((⟨(g1.trans g2).trans g3, rel3⟩ : Ac X.K S ρ σ H S3 ρ3 σ H3).trans a4).trans a5).trans a6)
  have a7 := all6.setN n1 y1 e7
  obtain ⟨w8, q8⟩ := setD_eq e8
  subst q8
  have a8 := a7.setD w8 y2
  obtain ⟨w9, q9⟩ := setD_eq e9
  subst q9
  exact q _ _ _ (a8.setD w9 y3)
/-! sorted(set(..)) -/
theorem insU_mem (x k : Int) : ∀ l : List Int, k ∈ insU x l ↔ k = x ∨ k ∈ l
  | [] => by simp [insU]
  | y :: r => by
    unfold insU
    split
    · simp
    · split
      · rename_i h; subst h; simp
      · rw [List.mem_cons, insU_mem x k r, List.mem_cons]
        constructor
        · rintro (h | h | h)
          · exact .inr (.inl h)
          · exact .inl h
          · exact .inr (.inr h)
        · rintro (h | h | h)
          · exact .inr (.inl h)
          · exact .inl h
          · exact .inr (.inr h)
theorem insU_pw (x : Int) : ∀ l : List Int, l.Pairwise (· < ·) → (insU x l).Pairwise (· < ·)
  | [], _ => List.pairwise_singleton _ _
  | y :: r, h => by
    obtain ⟨h1, h2⟩ := List.pairwise_cons.mp h
    unfold insU
    split
    · rename_i hx
      refine List.pairwise_cons.mpr ⟨fun z hz => ?_, h⟩
      rcases List.mem_cons.mp hz with e | hz
      · rw [e]; exact hx
      · have := h1 z hz; omega
    · split
      · exact h
      · rename_i n1 n2
        refine List.pairwise_cons.mpr ⟨fun z hz => ?_, insU_pw x r h2⟩
        rcases (insU_mem x z r).mp hz with e | hz
        · rw [e]; omega
        · exact h1 z hz
theorem setI_mem (k : Int) : ∀ l : List Int, k ∈ setI l ↔ k ∈ l
  | [] => Iff.rfl
  | x :: r => by
    show k ∈ insU x (setI r) ↔ _
    rw [insU_mem, setI_mem k r, List.mem_cons]
theorem setI_pw : ∀ l : List Int, (setI l).Pairwise (· < ·)
  | [] => .nil
  | x :: r => insU_pw x _ (setI_pw r)
theorem de_sset {p p2 q : Pos} (hc : X.calm = true) (hg : Gl X "sorted") (hm : X.mg "sorted" = none) (hg2 : Gl X "set") (hm2 : X.mg "set" = none) (ha : PE X a (tD X.K (ev Φ ia)))
    (na : starEach [a] X.env = (false, eval a X.env) :: starEach [] X.env := by rfl) : PE X (.Call (.Name "sorted" p) [.Call (.Name "set" p2) [a] [] q] [] pos) (tD X.K (ev Φ (.bi .sset (.cons ia .nil)))) :=
  peImp (pe_sset hc hg hm hg2 hm2 ha na) fun σ H Q q => by
    obtain ⟨S, ρ, r, ρ', rel, e, q⟩ := q
    obtain ⟨rs, ds, e1, e2, e3⟩ := bi_split e
    simp only [evrs] at e1
    obtain ⟨y, ρ1, e4, h1⟩ := bnd_eq e1
    obtain ⟨zs, ρ3, e5, h3⟩ := bnd_eq h1
    obtain ⟨q1, q2⟩ := ret_eq e5
    subst q1 q2
    obtain ⟨q1, q2⟩ := ret_eq h3
    subst q1 q2
    obtain ⟨d, v1, e6⟩ : ∃ d, view ρ' y = some d ∧ ds = [d] := by
      rw [List.mapM_cons, List.mapM_nil] at e2
      cases q : view ρ' y with
      | none => rw [q] at e2; cases e2
      | some d => rw [q] at e2; exact ⟨d, rfl, (Option.some.inj e2).symm⟩
    subst e6
    cases d <;> (try (cases e3; done))
    · rename_i xs
      have e3 : ((intsD xs).bind fun ns => if ns.length ≤ 4000 ∧ (setI ns).length < 64 then some (R.fr ((setI ns).map .int)) else none) = some r := e3
      cases en : intsD xs with
      | none => rw [en] at e3; cases e3
      | some ns =>
        rw [en] at e3
        have e3 : (if ns.length ≤ 4000 ∧ (setI ns).length < 64 then some (R.fr ((setI ns).map .int)) else none) = some r := e3
        split at e3
        · rename_i hz
          cases e3
          exact ⟨S, ρ, y, ρ', rel, e4, fun S1 v H1 g1 rel1 r1 => by
            obtain ⟨p, vs, ep, hp, rp⟩ := (r1.view rel1 v1).t
            have ei := rp.intsD en
            subst ei
            exact ⟨p, ns, setI ns, ep, .inr hp, hz.1, setI_pw ns, fun k => setI_mem k ns, hz.2, fun p2 hp2 => At.fin q ⟨g1, rel1⟩ _ _ _ (.lst hp2) (.mkLst hp2 rel1.dom (Rps.ofInts _))⟩⟩
        · cases e3
    · rename_i xs
      have e3 : ((intsD xs).bind fun ns => if ns.length ≤ 4000 ∧ (setI ns).length < 64 then some (R.fr ((setI ns).map .int)) else none) = some r := e3
      cases en : intsD xs with
      | none => rw [en] at e3; cases e3
      | some ns =>
        rw [en] at e3
        have e3 : (if ns.length ≤ 4000 ∧ (setI ns).length < 64 then some (R.fr ((setI ns).map .int)) else none) = some r := e3
        split at e3
        · rename_i hz
          cases e3
          exact ⟨S, ρ, y, ρ', rel, e4, fun S1 v H1 g1 rel1 r1 => by
            obtain ⟨p, vs, ep, hp, rp⟩ := (r1.view rel1 v1).l
            have ei := rp.intsD en
            subst ei
            exact ⟨p, ns, setI ns, ep, .inl (.inl (.inl hp)), hz.1, setI_pw ns, fun k => setI_mem k ns, hz.2, fun p2 hp2 => At.fin q ⟨g1, rel1⟩ _ _ _ (.lst hp2) (.mkLst hp2 rel1.dom (Rps.ofInts _))⟩⟩
        · cases e3
/-! ### instances -/
/-- what the written part has of the class c -/
structure ClsF (K : PySem.W.Frag) (c : Nat) (C : Addr) : Prop where
  ns : PySem.W.nsIn K mainGlobals (cName c) = some (some (.ref C))
  cl : Cls K C
  na : ∀ f ∈ cFlds c, NoAttr K C f
def AllF (K : PySem.W.Frag) (f : Str) : List (Nat × Nat) → Prop
  | [] => True
  | (c, i) :: r => (∃ C, ClsF K c C ∧ (cFlds c)[i]? = some f) ∧ AllF K f r
theorem AllF.at {K : PySem.W.Frag} {f : Str} {c i : Nat} : ∀ {ks : List (Nat × Nat)}, AllF K f ks → ks.lookup c = some i → ∃ C, ClsF K c C ∧ (cFlds c)[i]? = some f
  | [], _, h => by cases h
  | (c', i') :: r, h, e => by
    unfold List.lookup at e
    cases q : c == c' with
    | true =>
      rw [q] at e
      cases e
      have := beq_iff_eq.mp q
      subst this
      exact h.1
    | false => rw [q] at e; exact AllF.at h.2 e
theorem cf_nodup : ∀ c : Nat, (cFlds c).Nodup
  | 0 => by decide
  | _ + 1 => by show (["levels", "targets"] : List Str).Nodup; decide
theorem zip_lookup {f : Str} : ∀ {ns : List Str} {vs : List V} {i : Nat} {v : V}, ns.Nodup → ns[i]? = some f → vs[i]? = some v → (ns.zip vs).lookup f = some v
  | [], _, _, _, _, h, _ => by cases h
  | _ :: _, [], _, _, _, _, h => by cases h
  | n :: ns, u :: vs, 0, v, _, h1, h2 => by
    cases h1
    cases h2
    show (match f == f with | true => some u | false => _) = _
    rw [beq_self_eq_true]
  | n :: ns, u :: vs, i + 1, v, nd, h1, h2 => by
    obtain ⟨n1, n2⟩ := List.nodup_cons.mp nd
    have h1 : ns[i]? = some f := h1
    have hm := List.mem_of_getElem? h1
    show (match f == n with | true => some u | false => (ns.zip vs).lookup f) = _
    have : (f == n) = false := by
      cases q : f == n with
      | false => rfl
      | true => exact absurd (beq_iff_eq.mp q ▸ hm) n1
    rw [this]
    exact zip_lookup n2 h1 h2
theorem zip_lookup_none {m : Str} : ∀ {ns : List Str} {vs : List V}, ns.contains m = false → (ns.zip vs).lookup m = none
  | [], _, _ => by rw [List.zip_nil_left]; rfl
  | _ :: _, [], _ => by rw [List.zip_nil_right]; rfl
  | n :: ns, u :: vs, h => by
    rw [List.contains_cons, Bool.or_eq_false_iff] at h
    show (match m == n with | true => some u | false => (ns.zip vs).lookup m) = _
    rw [h.1]
    exact zip_lookup_none h.2
theorem Vd.o {K : PySem.W.Frag} {S : Addr → Prop} {H : Hp} {v : V} {c : Nat} {xs : List D} (h : Vd K S H v (.obj c xs)) : ∃ a C dx vs, v = .ref a ∧ PySem.W.nsIn K mainGlobals (cName c) = some (some (.ref C)) ∧ S a ∧ H a = some (.ins C dx ((cFlds c).zip vs)) ∧ vs.length = (cFlds c).length ∧ Rps K S H vs xs := by
  cases h with
  | fz h => cases h with | obj n s h l r => exact ⟨_, _, _, _, rfl, n, s, h, l, r⟩
theorem cls_inj {K : PySem.W.Frag} {c : Nat} {C C' : Addr} (h1 : PySem.W.nsIn K mainGlobals (cName c) = some (some (.ref C))) (h2 : PySem.W.nsIn K mainGlobals (cName c) = some (some (.ref C'))) : C = C' := by
  rw [h1] at h2
  cases h2
  rfl
theorem de_fld {f : Str} {ks : List (Nat × Nat)} (ha : PE X a (tD X.K (ev Φ ia))) (hk : AllF X.K f ks) (hb : attributeBase a f X.env (eval a X.env) = eval a X.env := by rfl) : PE X (.Attribute a f pos) (tD X.K (ev Φ (.fld ia ks))) :=
  peImp (pe_fld ha hb) fun σ H Q q => by
    obtain ⟨S, ρ, r, ρ', rel, e, q⟩ := q
    simp only [ev] at e
    obtain ⟨x, ρ1, e1, h1⟩ := bnd_eq e
    obtain ⟨d, v1, h2⟩ := vw1_split h1
    cases d <;> (try (cases h2; done))
    rename_i c xs
    obtain ⟨y, e2, h3⟩ := ofO_split h2
    obtain ⟨q1, q2⟩ := ret_eq h3
    subst q1 q2
    cases hl : ks.lookup c with
    | none => rw [hl] at e2; cases e2
    | some i =>
      rw [hl] at e2
      have e2 : xs[i]? = some y := e2
      obtain ⟨C, F, hf⟩ := hk.at hl
      exact ⟨S, ρ, x, _, rel, e1, fun S1 v H1 g1 rel1 r1 => by
        obtain ⟨p, C', dx, vs, ev, hn, hs, hh, hlen, rp⟩ := (r1.view rel1 v1).o
        have := cls_inj hn F.ns
        subst this
        obtain ⟨u, eu, ru⟩ := rp.get e2
        exact ⟨p, C', dx, _, u, ev, hh, F.cl, F.na f (List.mem_of_getElem? hf), zip_lookup (cf_nodup c) hf eu, q S1 u H1 g1 rel1 ru⟩⟩
/-- what isinstance asks of the class -/
structure IsiF (K : PySem.W.Frag) (C : Addr) : Prop where
  ha : PySem.W.findIn K (.ref C) "__class__" = some (some (.builtin "object.__class__"))
  hn : PySem.W.specialIn K (.builtin "object.__class__") "__get__" = some (some (.builtin "getset_descriptor.__get__"))
  htk : PySem.W.takesIn K (.builtin "object.__class__") = some true
  hm : PySem.W.mroIn K C (.type "object") = some true
  self : PySem.W.kitOne K (.ref C) (.ref C) = some true
theorem de_iso {c : Nat} {C : Addr} {p : Pos} (F : ClsF X.K c C) (G : IsiF X.K C) (hg : Gl X "isinstance") (hm : X.mg "isinstance" = none) (hT : PE X b (tC (.ref C))) (ha : PE X a (tD X.K (ev Φ ia)))
    (he : starEach [a, b] X.env = (false, eval a X.env) :: starEach [b] X.env := by rfl) (he2 : starEach [b] X.env = (false, eval b X.env) :: starEach [] X.env := by rfl) (hpl : (PySem.backTo pos (starEach [b] X.env)).any (·.1) = false := by rfl) :
    PE X (.Call (.Name "isinstance" p) [a, b] [] pos) (tD X.K (ev Φ (.bi (.iso c) (.cons ia .nil)))) :=
  peImp (pe_callB call_isi hg hm (by decide +kernel) (pa_cons ha (pa_cons hT pa_nil he2) he) (by decide) (by decide) he hpl) fun σ H Q q => by
    obtain ⟨S, ρ, r, ρ', rel, e, q⟩ := q
    obtain ⟨rs, ds, e1, e2, e3⟩ := bi_split e
    simp only [evrs] at e1
    obtain ⟨y, ρ1, e4, h1⟩ := bnd_eq e1
    obtain ⟨zs, ρ3, e5, h3⟩ := bnd_eq h1
    obtain ⟨q1, q2⟩ := ret_eq e5
    subst q1 q2
    obtain ⟨q1, q2⟩ := ret_eq h3
    subst q1 q2
    obtain ⟨d, v1, e6⟩ : ∃ d, view ρ' y = some d ∧ ds = [d] := by
      rw [List.mapM_cons, List.mapM_nil] at e2
      cases q : view ρ' y with
      | none => rw [q] at e2; cases e2
      | some d => rw [q] at e2; exact ⟨d, rfl, (Option.some.inj e2).symm⟩
    subst e6
    cases d <;> (try (cases e3; done))
    rename_i c' xs
    have e3 : (if c' = c then some (R.fz (.bl true)) else none) = some r := e3
    by_cases hc : c' = c
    · rw [if_pos hc] at e3
      cases e3
      subst hc
      exact ⟨S, ρ, y, ρ', rel, e4, fun S1 v H1 g1 rel1 r1 => by
        obtain ⟨p, C', dx, vs, ev, hn, hs, hh, hlen, rp⟩ := (r1.view rel1 v1).o
        have := cls_inj hn F.ns
        subst this
        subst ev
        exact ⟨_, _, .ref C', .ref C', true, rfl, .own C', .base (.ins hh F.cl G.ha G.hn G.htk G.hm), G.self, q S1 _ H1 g1 rel1 (.bl _)⟩⟩
    · rw [if_neg hc] at e3
      cases e3
end
end DL

end

section
set_option autoImplicit false
/-! DLx: calls with defaults; methods. -/
namespace DL
open PySem L2
def As.app : As → As → As
  | .nil, b => b
  | .val e r, b => .val e (r.app b)
  | .ref e r, b => .ref e (r.app b)
/-- constants as arguments -/
def csts : List D → As
  | [] => .nil
  | d :: r => .val (.cst d) (csts r)
/-- a value that is frozen everywhere -/
def Cst (K : PySem.W.Frag) (v : V) (d : D) : Prop := ∀ S H, Rp K S H v d
inductive Csts (K : PySem.W.Frag) : List V → List D → Prop
  | nil : Csts K [] []
  | cons {v : V} {vs : List V} {d : D} {ds : List D} : Cst K v d → Csts K vs ds → Csts K (v :: vs) (d :: ds)
theorem Cst.int {K : PySem.W.Frag} {i : Int} : Cst K (.int i) (.int i) := fun _ _ => .int i
theorem Cst.non {K : PySem.W.Frag} : Cst K .non .non := fun _ _ => .non
theorem Cst.bl {K : PySem.W.Frag} {b : Bool} : Cst K (.bl b) (.bl b) := fun _ _ => .bl b
theorem Cst.unit {K : PySem.W.Frag} {a : Addr} {o : Obj} {n : Nat} (h : K.lookup a = some o) (hc : o.cls = .type "tuple") (hd : o.data = .seq #[] n) : Cst K (.ref a) (.tup []) := fun S H =>
  .tup (.inr ⟨o, #[], n, h, hc, fun z => (nomatch z), hd, Nat.zero_le _, .nil⟩) .nil
theorem csts_ev {Φ : Calls} : ∀ (ds : List D) (ρ : Ev), evas Φ (csts ds) ρ = .ok (ds.map .val) ρ
  | [], ρ => rfl
  | d :: r, ρ => by
    have ih := csts_ev (Φ := Φ) r ρ
    show evas Φ (.val (.cst d) (csts r)) ρ = _
    simp only [evas, ev]
    show (evas Φ (csts r) ρ).then _ = _
    rw [ih]
    rfl
theorem app_ev {Φ : Calls} {ds : List D} : ∀ (as : As) (ρ : Ev) {rs : List A} {ρ' : Ev}, evas Φ (as.app (csts ds)) ρ = .ok rs ρ' → ∃ qs, evas Φ as ρ = .ok qs ρ' ∧ rs = qs ++ ds.map .val
  | .nil, ρ, rs, ρ', e => by
    rw [show As.app .nil (csts ds) = csts ds from rfl, csts_ev] at e
    cases e
    exact ⟨[], rfl, rfl⟩
  | .val e r, ρ, rs, ρ', h => by
    rw [show As.app (.val e r) (csts ds) = .val e (r.app (csts ds)) from rfl] at h
    simp only [evas] at h
    obtain ⟨x, ρ1, e1, h1⟩ := bnd_eq h
    obtain ⟨d, ρ2, e2, h2⟩ := bnd_eq h1
    obtain ⟨ts, ρ3, e3, h3⟩ := bnd_eq h2
    obtain ⟨q1, q2⟩ := ret_eq h3
    subst q1 q2
    obtain ⟨qs, e4, rfl⟩ := app_ev r ρ2 e3
    refine ⟨.val d :: qs, ?_, rfl⟩
    simp only [evas]
    show (ev Φ e ρ).then _ = _
    rw [e1]
    show (DL.share x ρ1).then _ = _
    rw [e2]
    show (evas Φ r ρ2).then _ = _
    rw [e4]
    rfl
  | .ref e r, ρ, rs, ρ', h => by
    rw [show As.app (.ref e r) (csts ds) = .ref e (r.app (csts ds)) from rfl] at h
    simp only [evas] at h
    obtain ⟨x, ρ1, e1, h1⟩ := bnd_eq h
    obtain ⟨d, e2, h2⟩ := ofO_split h1
    obtain ⟨ts, ρ3, e3, h3⟩ := bnd_eq h2
    obtain ⟨q1, q2⟩ := ret_eq h3
    subst q1 q2
    obtain ⟨qs, e4, rfl⟩ := app_ev r ρ1 e3
    refine ⟨d :: qs, ?_, rfl⟩
    simp only [evas]
    show (ev Φ e ρ).then _ = _
    rw [e1]
    show (ofO (asRef x) ρ1).then _ = _
    rw [e2]
    show (evas Φ r ρ1).then _ = _
    rw [e4]
    rfl
theorem Csts.ras {K : PySem.W.Frag} {S : Addr → Prop} {H₀ H : Hp} {ρ : Ev} {σ : St} : ∀ {vs : List V} {ds : List D}, Csts K vs ds → Ras K S H₀ ρ σ H vs (ds.map .val)
  | _, _, .nil => .nil
  | _, _, .cons h r => .cons (h S H) r.ras
/-- how a call binds where defaults dws fill up -/
def BindPd (K : PySem.W.Frag) (fd : FuncData) (ps : List Str) (n : Nat) (ks : List Str) (dws : List Value) (perm : List Nat) : Prop :=
  ∀ (s : Shared) (us ws zs : List Value), K.In s.heap → us.length = n → ws.length = ks.length → pick perm (us ++ ws ++ dws) = some zs → BindsTo s fd ⟨us, ks.zip ws⟩ (ps.zip zs)
theorem BindP.d {K : PySem.W.Frag} {fd : FuncData} {ps : List Str} {n : Nat} {ks : List Str} {perm : List Nat} (b : BindP K fd ps n ks perm) : BindPd K fd ps n ks [] perm := fun s us ws zs k h1 h2 h3 => b s us ws zs k h1 h2 (by rw [List.append_nil] at h3; exact h3)
section
variable {X : Cx} {CX : CXT} {Φ : Calls} {k : Nat} {f : Addr} {fd : FuncData} {ps ks : List Str} {sp : Sp} {x m : Str} {p pos apos : Pos} {e o : Expr} {es : List Expr} {kws : List Keyword} {t tk : TA} {te ta : TE} {perm : List Nat} {n : Nat} {dws : List Value} {dvs : List V}
theorem run_fnGd {pins : List (Addr × Obj)} {σ : St} {H : Hp} {s : Shared} {Q : VK} {us ws : List Value} {vs ys zs : List V} (F : FnG X.prog X.w X.K X.mg X.base CX k f fd ps sp) (hr : Room k X.A) (hgd : X.A.guards = some []) (hb : BindPd X.K fd ps n ks dws perm) (hd : Vals dvs dws) (hx : Passes CX X E0)
    (I : L2.Inv X pins σ H s) (r : Vals vs us) (rz : Vals ys ws) (h1 : us.length = n) (h2 : ws.length = ks.length) (hp : pick perm (vs ++ ys ++ dvs) = some zs) (h : sp zs H Q E0) : wpAny (model X.prog X.w) X.A (call (.ref f) us (ks.zip ws)) (EP X pins σ Q) X.xe s := by
  obtain ⟨qs, eq, rq⟩ := pick_vals ((r.append rz).append hd) hp
  refine wpAny_call (codeAny_mono (F.run X.A X.stack s H ⟨us, ks.zip ws⟩ qs zs Q E0 hr hgd I.env0 (hb s us ws qs I.kIn h1 h2 eq) rq h) fun r s' hq => ?_)
  cases r with
  | error e => exact hx pins σ H s e s' I hq
  | ok fl => cases fl with
    | ret u => exact I.after hq
    | next => exact False.elim hq
    | brk => exact False.elim hq
    | cont => exact False.elim hq
def tCallPd (sp : Sp) (perm : List Nat) (n m : Nat) (dvs : List V) (t tk : TA) : TE := fun σ H Q => t σ H fun vs H1 => tk σ H1 fun ys H2 => vs.length = n ∧ ys.length = m ∧ ∃ zs, pick perm (vs ++ ys ++ dvs) = some zs ∧ sp zs H2 Q E0
theorem pe_callGd (F : FnG X.prog X.w X.K X.mg X.base CX k f fd ps sp) (hr : Room k X.A) (hgd : X.A.guards = some []) (hg : Gl X x) (hm : X.mg x = some (.ref f)) (hk : PySem.W.keepIn X.K (.ref f) = true) (hb : BindPd X.K fd ps n [] dws perm) (hd : Vals dvs dws) (hx : Passes CX X E0)
    (ha : PA X (e :: es) t) (hdb : (x == ("__debug__" : Str)) = false := by decide) (he : starEach (e :: es) X.env = (false, eval e X.env) :: starEach es X.env := by rfl) (hpl : (PySem.backTo pos (starEach es X.env)).any (·.1) = false := by rfl) :
    PE X (.Call (.Name x p) (e :: es) [] pos) (tCallPd sp perm n 0 dvs t tNil) := by
  refine ⟨fun pins s σ H Q I h => ?_⟩
  refine wpAny_Call_Name_kw (ld_glob I hg hm ?_ hdb)
  refine PySem.W.callWith_K (h₀ := X.base) I.ok.mod.kin hk (thn (ha.run pos pins s σ H _ I h) fun us s1 ⟨vs, H1, I1, r, l1, _, zs, hp, q⟩ => ⟨I1.kIn, ?_⟩) he hpl
  exact run_fnGd (us := us) (ks := []) (ws := []) (ys := []) F hr hgd hb hd hx I1 r .nil (by rw [← r.length]; exact l1) rfl hp q
theorem pe_callGd0 (F : FnG X.prog X.w X.K X.mg X.base CX k f fd ps sp) (hr : Room k X.A) (hgd : X.A.guards = some []) (hg : Gl X x) (hm : X.mg x = some (.ref f)) (hk : PySem.W.keepIn X.K (.ref f) = true) (hb : BindPd X.K fd ps 0 [] dws perm) (hd : Vals dvs dws) (hx : Passes CX X E0)
    (hdb : (x == ("__debug__" : Str)) = false := by decide) : PE X (.Call (.Name x p) [] [] pos) (tCallPd sp perm 0 0 dvs tNil tNil) := by
  refine ⟨fun pins s σ H Q I h => ?_⟩
  obtain ⟨_, _, zs, hp, q⟩ := h
  refine wpAny_Call_Name_kw (ld_glob I hg hm ?_ hdb)
  exact PySem.W.callWith_K0 I.kIn hk (run_fnGd (us := []) (vs := []) (ks := []) (ws := []) (ys := []) F hr hgd hb hd hx I .nil .nil rfl rfl hp q)
theorem pe_callGdk (F : FnG X.prog X.w X.K X.mg X.base CX k f fd ps sp) (hr : Room k X.A) (hgd : X.A.guards = some []) (hg : Gl X x) (hm : X.mg x = some (.ref f)) (hk : PySem.W.keepIn X.K (.ref f) = true) (hb : BindPd X.K fd ps n ks dws perm) (hd : Vals dvs dws) (hx : Passes CX X E0)
    (ha : PA X (e :: es) t) (hkw : PK X kws tk) (hall : (backToKw pos (keywordEach kws X.env)).all (·.1.isSome) = true := by rfl) (hks : (backToKw pos (keywordEach kws X.env)).filterMap (·.1) = ks := by rfl)
    (hdb : (x == ("__debug__" : Str)) = false := by decide) (he : starEach (e :: es) X.env = (false, eval e X.env) :: starEach es X.env := by rfl)
    (hpl : ((PySem.backTo pos (starEach (e :: es) X.env)).any (·.1) || (backToKw pos (keywordEach kws X.env)).any (·.1.isNone)) = false := by rfl) :
    PE X (.Call (.Name x p) (e :: es) kws pos) (tCallPd sp perm n ks.length dvs t tk) := by
  refine ⟨fun pins s σ H Q I h => ?_⟩
  refine wpAny_Call_Name_kw (ld_glob I hg hm ?_ hdb)
  refine PySem.W.callWith_KW (h₀ := X.base) I.ok.mod.kin hk hall (thn (ha.run pos pins s σ H _ I h) fun us s1 ⟨vs, H1, I1, r, q⟩ => ?_) hpl he
  refine thn (hkw.run pos pins s1 σ H1 _ I1 q) fun ws s2 ⟨ys, H2, I2, rz, l1, l2, zs, hp, q2⟩ => ⟨I2.kIn, ?_⟩
  rw [hks]
  exact run_fnGd (us := us) F hr hgd hb hd hx I2 r rz (by rw [← r.length]; exact l1) (by rw [← rz.length]; exact l2) hp q2
theorem pe_callGdk0 (F : FnG X.prog X.w X.K X.mg X.base CX k f fd ps sp) (hr : Room k X.A) (hgd : X.A.guards = some []) (hg : Gl X x) (hm : X.mg x = some (.ref f)) (hk : PySem.W.keepIn X.K (.ref f) = true) (hb : BindPd X.K fd ps 0 ks dws perm) (hd : Vals dvs dws) (hx : Passes CX X E0)
    (hkw : PK X kws tk) (hall : (backToKw pos (keywordEach kws X.env)).all (·.1.isSome) = true := by rfl) (hks : (backToKw pos (keywordEach kws X.env)).filterMap (·.1) = ks := by rfl)
    (hdb : (x == ("__debug__" : Str)) = false := by decide) (hpl : ((PySem.backTo pos (starEach [] X.env)).any (·.1) || (backToKw pos (keywordEach kws X.env)).any (·.1.isNone)) = false := by rfl) :
    PE X (.Call (.Name x p) [] kws pos) (tCallPd sp perm 0 ks.length dvs tNil tk) := by
  refine ⟨fun pins s σ H Q I h => ?_⟩
  refine wpAny_Call_Name_kw (ld_glob I hg hm ?_ hdb)
  refine PySem.W.callWith_KW0 (h₀ := X.base) I.ok.mod.kin hk hall ?_ hpl
  refine thn (hkw.run pos pins s σ H _ I h) fun ws s2 ⟨ys, H2, I2, rz, l1, l2, zs, hp, q2⟩ => ⟨I2.kIn, ?_⟩
  rw [hks]
  exact run_fnGd (us := []) (vs := []) F hr hgd hb hd hx I2 .nil rz rfl (by rw [← rz.length]; exact l2) hp q2
variable {ies iks : As} {dds : List D}
theorem call_readD {f : Nat} {perm : List Nat} {n m : Nat} {σ : St} {H : Hp} {Q : VK} (hc : Csts X.K dvs dds) (hn : ies.len = n) (hm : iks.len = m) (q : tD X.K (ev Φ (.call f perm ies (iks.app (csts dds)))) σ H Q) : tCallPd (spD X.K Φ f) perm n m dvs (tAs X.K (evas Φ ies)) (tAs X.K (evas Φ iks)) σ H Q := by
  obtain ⟨S, ρ, r, ρ', rel, e, q⟩ := q
  simp only [ev] at e
  obtain ⟨as, ρ1, e1, h1⟩ := bnd_eq e
  obtain ⟨ks', ρ2, e2, h2⟩ := bnd_eq h1
  obtain ⟨ks, e3, rfl⟩ := app_ev _ _ e2
  refine ⟨S, ρ, as, ρ1, rel, e1, fun S1 vs H1 g1 rel1 r1 => ⟨S1, ρ1, ks, ρ2, rel1, e3, fun S2 ys H2 g2 rel2 r2 => ⟨by rw [r1.length, evas_len e1]; exact hn, by rw [r2.length, evas_len e3]; exact hm, ?_⟩⟩⟩
  rw [List.append_assoc]
  exact At.call ⟨g1.trans g2, rel2⟩ ((r1.step rel1 g2).append ((r2.base g1.stay).append hc.ras)) h2 q
variable {fi : Nat}
theorem de_calld (F : FnG X.prog X.w X.K X.mg X.base CX k f fd ps (spD X.K Φ fi)) (hr : Room k X.A) (hgd : X.A.guards = some []) (hm : X.mg x = some (.ref f)) (hk : PySem.W.keepIn X.K (.ref f) = true) (hb : BindPd X.K fd ps n [] dws perm) (hd : Vals dvs dws) (hc : Csts X.K dvs dds) (hx : Passes CX X E0) (hg : Gl X x)
    (ha : PA X (e :: es) (tAs X.K (evas Φ ies))) (hn : ies.len = n := by rfl)
    (hdb : (x == ("__debug__" : Str)) = false := by decide) (he : starEach (e :: es) X.env = (false, eval e X.env) :: starEach es X.env := by rfl) (hpl : (PySem.backTo pos (starEach es X.env)).any (·.1) = false := by rfl) :
    PE X (.Call (.Name x p) (e :: es) [] pos) (tD X.K (ev Φ (.call fi perm ies (csts dds)))) :=
  peImp (pe_callGd F hr hgd hg hm hk hb hd hx ha hdb he hpl) fun σ H Q q => by
    obtain ⟨S, ρ, r, ρ', rel, e, q⟩ := call_readD (iks := .nil) (n := n) (m := 0) hc hn rfl q
    exact ⟨S, ρ, r, ρ', rel, e, fun S' vs H' g rel' r' => args_nil_read (q S' vs H' g rel' r')⟩
theorem de_calld0 (F : FnG X.prog X.w X.K X.mg X.base CX k f fd ps (spD X.K Φ fi)) (hr : Room k X.A) (hgd : X.A.guards = some []) (hm : X.mg x = some (.ref f)) (hk : PySem.W.keepIn X.K (.ref f) = true) (hb : BindPd X.K fd ps 0 [] dws perm) (hd : Vals dvs dws) (hc : Csts X.K dvs dds) (hx : Passes CX X E0) (hg : Gl X x)
    (hdb : (x == ("__debug__" : Str)) = false := by decide) : PE X (.Call (.Name x p) [] [] pos) (tD X.K (ev Φ (.call fi perm .nil (csts dds)))) :=
  peImp (pe_callGd0 F hr hgd hg hm hk hb hd hx hdb) fun σ H Q q => args_nil_read (args_nil_read (call_readD (iks := .nil) (n := 0) (m := 0) hc rfl rfl q))
theorem de_calldk (F : FnG X.prog X.w X.K X.mg X.base CX k f fd ps (spD X.K Φ fi)) (hr : Room k X.A) (hgd : X.A.guards = some []) (hm : X.mg x = some (.ref f)) (hk : PySem.W.keepIn X.K (.ref f) = true) (hb : BindPd X.K fd ps n ks dws perm) (hd : Vals dvs dws) (hc : Csts X.K dvs dds) (hx : Passes CX X E0) (hg : Gl X x)
    (ha : PA X (e :: es) (tAs X.K (evas Φ ies))) (hkw : PK X kws (tAs X.K (evas Φ iks)))
    (hn : ies.len = n := by rfl) (hl : iks.len = ks.length := by rfl) (hall : (backToKw pos (keywordEach kws X.env)).all (·.1.isSome) = true := by rfl) (hks : (backToKw pos (keywordEach kws X.env)).filterMap (·.1) = ks := by rfl)
    (hdb : (x == ("__debug__" : Str)) = false := by decide) (he : starEach (e :: es) X.env = (false, eval e X.env) :: starEach es X.env := by rfl)
    (hpl : ((PySem.backTo pos (starEach (e :: es) X.env)).any (·.1) || (backToKw pos (keywordEach kws X.env)).any (·.1.isNone)) = false := by rfl) :
    PE X (.Call (.Name x p) (e :: es) kws pos) (tD X.K (ev Φ (.call fi perm ies (iks.app (csts dds))))) :=
  peImp (pe_callGdk F hr hgd hg hm hk hb hd hx ha hkw hall hks hdb he hpl) fun σ H Q q => call_readD hc hn hl q
theorem de_calldk0 (F : FnG X.prog X.w X.K X.mg X.base CX k f fd ps (spD X.K Φ fi)) (hr : Room k X.A) (hgd : X.A.guards = some []) (hm : X.mg x = some (.ref f)) (hk : PySem.W.keepIn X.K (.ref f) = true) (hb : BindPd X.K fd ps 0 ks dws perm) (hd : Vals dvs dws) (hc : Csts X.K dvs dds) (hx : Passes CX X E0) (hg : Gl X x)
    (hkw : PK X kws (tAs X.K (evas Φ iks)))
    (hl : iks.len = ks.length := by rfl) (hall : (backToKw pos (keywordEach kws X.env)).all (·.1.isSome) = true := by rfl) (hks : (backToKw pos (keywordEach kws X.env)).filterMap (·.1) = ks := by rfl)
    (hdb : (x == ("__debug__" : Str)) = false := by decide) (hpl : ((PySem.backTo pos (starEach [] X.env)).any (·.1) || (backToKw pos (keywordEach kws X.env)).any (·.1.isNone)) = false := by rfl) :
    PE X (.Call (.Name x p) [] kws pos) (tD X.K (ev Φ (.call fi perm .nil (iks.app (csts dds))))) :=
  peImp (pe_callGdk0 F hr hgd hg hm hk hb hd hx hkw hall hks hdb hpl) fun σ H Q q => args_nil_read (call_readD (n := 0) hc rfl hl q)
/-! ### methods -/
/-- what the class's method asks: its def in the table, how the call binds -/
structure MethF (X : Cx) (Φ : Calls) (m : Str) (n : Nat) (perm : List Nat) (dds : List D) (c fi : Nat) : Prop where
  ex : ∃ (C f : Addr) (fd : FuncData) (ps : List Str) (k : Nat) (dws : List Value) (dvs : List V), ClsF X.K c C ∧ Meth X.K C m f ∧ FnG X.prog X.w X.K X.mg X.base L2.CX0 k f fd ps (spD X.K Φ fi) ∧ Room k X.A ∧ BindPd X.K fd ps (n + 1) [] dws perm ∧ Vals dvs dws ∧ Csts X.K dvs dds
  no : (cFlds c).contains m = false
def AllM (X : Cx) (Φ : Calls) (m : Str) (n : Nat) (perm : List Nat) (dds : List D) : List (Nat × Nat) → Prop
  | [] => True
  | (c, fi) :: r => MethF X Φ m n perm dds c fi ∧ AllM X Φ m n perm dds r
theorem AllM.at {m : Str} {n : Nat} {perm : List Nat} {dds : List D} {c fi : Nat} : ∀ {ms : List (Nat × Nat)}, AllM X Φ m n perm dds ms → ms.lookup c = some fi → MethF X Φ m n perm dds c fi
  | [], _, h => by cases h
  | (c', i') :: r, h, e => by
    unfold List.lookup at e
    cases q : c == c' with
    | true =>
      rw [q] at e
      cases e
      have := beq_iff_eq.mp q
      subst this
      exact h.1
    | false => rw [q] at e; exact AllM.at h.2 e
def tMethG (X : Cx) (Φ : Calls) (m : Str) (n : Nat) (perm : List Nat) (dds : List D) (ta : TE) (t : TA) : TE := fun σ H Q => ta σ H fun x H1 => ∃ a C dx fs c fi, x = .ref a ∧ H1 a = some (.ins C dx fs) ∧ fs.lookup m = none ∧ PySem.W.nsIn X.K mainGlobals (cName c) = some (some (.ref C)) ∧ MethF X Φ m n perm dds c fi ∧
  t σ H1 fun vs H2 => vs.length = n ∧ ∀ dvs, Csts X.K dvs dds → ∃ zs, pick perm (.ref a :: vs ++ dvs) = some zs ∧ spD X.K Φ fi zs H2 Q E0
theorem pe_methG {pl : Sem Bool} {dds : List D} (he : PE X o ta) (hgd : X.A.guards = some []) (hx : Passes L2.CX0 X E0) (ha : PA X (e :: es) t)
    (hst : starEach (e :: es) X.env = (false, eval e X.env) :: starEach es X.env := by rfl) (hpl : (PySem.backTo pos (starEach es X.env)).any (·.1) = false := by rfl)
    (ht : eval (.Call (.Attribute o m apos) (e :: es) [] pos) X.env = (do
      let ov ← eval o X.env
      standAt apos.atName
      let (f, first) ← holding [ov] (getMethod ov m pl)
      callWith pos f first (PySem.backTo pos (starEach (e :: es) X.env)) (backToKw pos (keywordEach [] X.env))) := by rfl) :
    PE X (.Call (.Attribute o m apos) (e :: es) [] pos) (tMethG X Φ m n perm dds ta t) := by
  refine ⟨fun pins s σ H Q I h => ?_⟩
  refine PySem.W.methodCall_KW (pl := pl) (thn (he.run pins s σ H _ I h) fun u s1 ⟨x, H1, I1, rx, a, C, dx, fs, c, fi, ex, ea, l, hn, M, q⟩ => ?_) ht
  subst ex
  obtain rfl : u = Value.ref a := rx
  obtain ⟨C', f, fd, ps, k, dws, dvs, F, hm, G, hr, hb, hd, hc⟩ := M.ex
  have := cls_inj hn F.ns
  subst this
  refine getmeth_ok I1 ea F.cl hm l ?_
  refine PySem.W.callWith_K (first := [.ref a]) (h₀ := X.base) I1.ok.mod.kin hm.kp (thn (ha.run pos pins s1 σ H1 _ I1 q) fun us s2 ⟨vs, H2, I2, r, hl, q2⟩ => ⟨I2.kIn, ?_⟩) hst hpl
  obtain ⟨zs, hp, q3⟩ := q2 dvs hc
  exact run_fnGd (us := .ref a :: us) (vs := .ref a :: vs) (ks := []) (ws := []) (ys := []) (n := n + 1) G hr hgd hb hd hx I2 (.cons rfl r) .nil (by rw [List.length_cons, ← r.length, hl]) rfl (by rw [List.append_nil]; exact hp) q3
theorem pe_methG0 {pl : Sem Bool} {dds : List D} (he : PE X o ta) (hgd : X.A.guards = some []) (hx : Passes L2.CX0 X E0)
    (ht : eval (.Call (.Attribute o m apos) [] [] pos) X.env = (do
      let ov ← eval o X.env
      standAt apos.atName
      let (f, first) ← holding [ov] (getMethod ov m pl)
      callWith pos f first (PySem.backTo pos (starEach [] X.env)) (backToKw pos (keywordEach [] X.env))) := by rfl) :
    PE X (.Call (.Attribute o m apos) [] [] pos) (tMethG X Φ m 0 perm dds ta tNil) := by
  refine ⟨fun pins s σ H Q I h => ?_⟩
  refine PySem.W.methodCall_KW (pl := pl) (thn (he.run pins s σ H _ I h) fun u s1 ⟨x, H1, I1, rx, a, C, dx, fs, c, fi, ex, ea, l, hn, M, hl, q⟩ => ?_) ht
  subst ex
  obtain rfl : u = Value.ref a := rx
  obtain ⟨C', f, fd, ps, k, dws, dvs, F, hm, G, hr, hb, hd, hc⟩ := M.ex
  have := cls_inj hn F.ns
  subst this
  refine getmeth_ok I1 ea F.cl hm l ?_
  obtain ⟨zs, hp, q3⟩ := q dvs hc
  exact PySem.W.callWith_K0 (first := [.ref a]) I1.kIn hm.kp (run_fnGd (us := [.ref a]) (vs := [.ref a]) (ks := []) (ws := []) (ys := []) (n := 1) G hr hgd hb hd hx I1 (.cons rfl .nil) .nil rfl rfl hp q3)
theorem meth_read {ms : List (Nat × Nat)} {io : E} {n : Nat} {σ : St} {H : Hp} {Q : VK} {dds : List D} (hM : AllM X Φ m n perm dds ms) (hn : ies.len = n) (q : tD X.K (ev Φ (.meth io ms perm ies (csts dds))) σ H Q) : tMethG X Φ m n perm dds (tD X.K (ev Φ io)) (tAs X.K (evas Φ ies)) σ H Q := by
  obtain ⟨S, ρ, r, ρ', rel, e, q⟩ := q
  simp only [ev] at e
  obtain ⟨x, ρ1, e1, h1⟩ := bnd_eq e
  obtain ⟨d, v1, h2⟩ := vw1_split h1
  cases d <;> (try (cases h2; done))
  rename_i c xs
  obtain ⟨fi, e2, h3⟩ := ofO_split h2
  obtain ⟨as, ρ2, e3, h4⟩ := bnd_eq h3
  obtain ⟨ks, ρ3, e4, h5⟩ := bnd_eq h4
  rw [csts_ev] at e4
  cases e4
  have M := hM.at e2
  refine ⟨S, ρ, x, ρ1, rel, e1, fun S1 v H1 g1 rel1 r1 => ?_⟩
  have w := r1.view rel1 v1
  have w2 : Rp X.K S1 H1 v (.obj c xs) := by cases w with | fz h => exact h
  obtain ⟨a, C, dx, vs, ev, hns, hs, hh, hlen, rp⟩ := w.o
  subst ev
  refine ⟨a, C, dx, _, c, fi, rfl, hh, zip_lookup_none M.no, hns, M, ?_⟩
  refine ⟨S1, ρ1, as, ρ2, rel1, e3, fun S2 us H2 g2 rel2 r2 => ⟨by rw [r2.length, evas_len e3]; exact hn, fun dvs hc => ?_⟩⟩
  refine At.call (as := .val (.obj c xs) :: (as ++ dds.map .val)) ⟨g1.trans g2, rel2⟩ ?_ h5 q
  exact .cons (show Ra X.K S2 H ρ2 σ H2 (.ref a) (.val (.obj c xs)) from w2.mono (g2.ke rel1)) ((r2.base g1.stay).append hc.ras)
theorem de_meth {ms : List (Nat × Nat)} {io : E} {pl : Sem Bool} {dds : List D} (ho : PE X o (tD X.K (ev Φ io))) (hM : AllM X Φ m n perm dds ms) (hgd : X.A.guards = some []) (hx : Passes L2.CX0 X E0) (ha : PA X (e :: es) (tAs X.K (evas Φ ies))) (hn : ies.len = n := by rfl)
    (hst : starEach (e :: es) X.env = (false, eval e X.env) :: starEach es X.env := by rfl) (hpl : (PySem.backTo pos (starEach es X.env)).any (·.1) = false := by rfl)
    (ht : eval (.Call (.Attribute o m apos) (e :: es) [] pos) X.env = (do
      let ov ← eval o X.env
      standAt apos.atName
      let (f, first) ← holding [ov] (getMethod ov m pl)
      callWith pos f first (PySem.backTo pos (starEach (e :: es) X.env)) (backToKw pos (keywordEach [] X.env))) := by rfl) :
    PE X (.Call (.Attribute o m apos) (e :: es) [] pos) (tD X.K (ev Φ (.meth io ms perm ies (csts dds)))) :=
  peImp (pe_methG (Φ := Φ) (n := n) (perm := perm) (dds := dds) ho hgd hx ha hst hpl ht) fun σ H Q q => meth_read hM hn q
theorem de_meth0 {ms : List (Nat × Nat)} {io : E} {pl : Sem Bool} {dds : List D} (ho : PE X o (tD X.K (ev Φ io))) (hM : AllM X Φ m 0 perm dds ms) (hgd : X.A.guards = some []) (hx : Passes L2.CX0 X E0)
    (ht : eval (.Call (.Attribute o m apos) [] [] pos) X.env = (do
      let ov ← eval o X.env
      standAt apos.atName
      let (f, first) ← holding [ov] (getMethod ov m pl)
      callWith pos f first (PySem.backTo pos (starEach [] X.env)) (backToKw pos (keywordEach [] X.env))) := by rfl) :
    PE X (.Call (.Attribute o m apos) [] [] pos) (tD X.K (ev Φ (.meth io ms perm .nil (csts dds)))) :=
  peImp (pe_methG0 (Φ := Φ) (perm := perm) (dds := dds) ho hgd hx ht) fun σ H Q q => by
    have q2 := meth_read (ies := .nil) hM rfl q
    obtain ⟨S, ρ, r, ρ', rel, e, q2⟩ := q2
    refine ⟨S, ρ, r, ρ', rel, e, fun S1 v H1 g1 rel1 r1 => ?_⟩
    obtain ⟨a, C, dx, fs, c, fi, h1, h2, h3, h4, h5, h6⟩ := q2 S1 v H1 g1 rel1 r1
    exact ⟨a, C, dx, fs, c, fi, h1, h2, h3, h4, h5, args_nil_read h6⟩
end
end DL

end

section
set_option autoImplicit false
/-! DLy: instances are made. -/
namespace DL
open PySem L2
/-- what __init__ of class c, the table's def f, promises -/
def spI (K : PySem.W.Frag) (Φ : Calls) (f c : Nat) : Sp := fun vs H Q _ => ∃ S ds us xs as' x dx C, vs = V.ref x :: us ∧ PySem.W.nsIn K mainGlobals (cName c) = some (some (.ref C)) ∧ H x = some (.ins C dx []) ∧ ¬ S x ∧ Dom S H ∧ Rps K S H us ds ∧
  Φ f (Sl.un :: ds.map Sl.fz) = some (R.fz (.tup xs), as') ∧ xs.length = (cFlds c).length ∧ ∀ S' H' vs', Gn S H S' H' → Rps K S' H' vs' xs → Q .non (upd H' x (.ins C dx ((cFlds c).zip vs')))
def tSI (K : PySem.W.Frag) (c : Nat) (m : M Fl) : TS := fun D σ H => ∃ S ρ ρ' xs x dx C, σ[0]? = some (some (V.ref x)) ∧ PySem.W.nsIn K mainGlobals (cName c) = some (some (.ref C)) ∧ H x = some (.ins C dx []) ∧ ¬ S x ∧ ¬ Own ρ σ x ∧ Rel K S ρ σ H ∧ m ρ = .ok (.rt (.fz (.tup xs))) ρ' ∧
  xs.length = (cFlds c).length ∧ ∀ S' σ' H' vs', Ac K S ρ σ H S' ρ' σ' H' → Rps K S' H' vs' xs → D.nx σ' (upd H' x (.ins C dx ((cFlds c).zip vs')))
theorem upd_upd {H : Hp} {a : Addr} {o u : HO} : upd (upd H a o) a u = upd H a u := by
  funext b
  by_cases e : b = a
  · subst e; rw [upd_same, upd_same]
  · rw [upd_ne e, upd_ne e, upd_ne e]
section
variable {X : Cx} {Φ : Calls} {a b cnd t : Expr} {pos : Pos} {ia ic : E} {is js : Ss} {sts rest : List Stmt} {c : Nat}
theorem dsi_if (hc : PT X cnd (tT X.K (evt Φ ic))) (h1 : PSs X sts (tS X.K (execs Φ is))) (no : ∀ ρ fl ρ', execs Φ is ρ ≠ .ok fl ρ') (h2 : PSs X rest (tSI X.K c (execs Φ js))) : PSs X (.If cnd sts [] pos :: rest) (tSI X.K c (execs Φ (.cons (.ifs ic is .nil) js))) :=
  pssImp (pss_cons (ps_if hc h1 pss_nil) h2) fun D σ H q => by
    obtain ⟨S, ρ, ρ', xs, x, dx, C, h0, hns, hx, nS, nO, rel, e, hl, q⟩ := q
    simp only [execs] at e
    obtain ⟨f, ρ1, e1, k1⟩ := bnd_eq e
    simp only [exec] at e1
    obtain ⟨y, ρ2, e2, k2⟩ := bnd_eq e1
    obtain ⟨d, v1, k3⟩ := vw1_split k2
    obtain ⟨k, e5, k4⟩ := ofO_split k3
    cases k with
    | true => exact absurd k4 (no _ _ _)
    | false =>
      simp only [execs] at k4
      obtain ⟨q1, q2⟩ := ret_eq (show DL.ret Fl.nx ρ2 = .ok f ρ1 from k4)
      subst q1 q2
      refine ⟨S, ρ, false, ρ1, rel, evt_mk e2 v1 e5, fun S1 b H1 g1 rel1 r1 => ?_⟩
      subst r1
      have a1 : Ac X.K S ρ σ H S1 ρ1 σ H1 := ⟨g1, rel1⟩
      refine iteF ⟨S1, ρ1, ρ', xs, x, dx, C, h0, hns, g1.keep x _ hx nO, fun z => ?_, fun z => ?_, rel1, k1, hl, fun S' σ' H' vs' ac rp => q S' σ' H' vs' (a1.trans ac) rp⟩
      · rcases g1.new x z with w | w | w
        · exact nS w
        · rw [hx] at w; cases w
        · exact nO w
      · rcases g1.own x z with w | w
        · rw [hx] at w; cases w
        · exact nO w
theorem dsi_nm {i : Nat} (hi : i ≠ 0) (ht : PG X t (gName i)) (ha : PE X a (tD X.K (ev Φ ia))) (h4 : PSs X rest (tSI X.K c (execs Φ js))) (h1 : swapsWithSole [t] a pos.line X.env = pure false := by rfl) (h2 : swappedStores [t] a X.env = pure none := by rfl)
    (h3 : (assignEach [t] X.env).map (fun x => x.2) = [assign t X.env] := by rfl) : PSs X (.Assign [t] a pos :: rest) (tSI X.K c (execs Φ (.cons (.asg (.nm i) ia) js))) :=
  pssImp (pss_cons (ps_asg ha ht h1 h2 h3) h4) fun D σ H q => by
    obtain ⟨S, ρ, ρ', xs, x, dx, C, h0, hns, hx, nS, nO, rel, e, hl, q⟩ := q
    simp only [execs] at e
    obtain ⟨f, ρ1, e1, k1⟩ := bnd_eq e
    simp only [exec] at e1
    obtain ⟨r, ρ2, e2, k2⟩ := bnd_eq e1
    obtain ⟨u, ρ3, e3, k3⟩ := bnd_eq k2
    obtain ⟨q1, q2⟩ := ret_eq k3
    subst q1 q2
    refine ⟨S, ρ, r, ρ2, rel, e2, fun S1 v H1 g1 rel1 r1 => ?_⟩
    obtain ⟨S2, a2, ke⟩ := Ac.setR ⟨g1, rel1⟩ r1 (show DL.setR i r ρ2 = .ok u _ from e3)
    refine ⟨S2, _, ρ', xs, x, dx, C, by rw [List.getElem?_set_ne hi]; exact h0, hns, g1.keep x _ hx nO, fun z => ?_, fun z => ?_, a2.rel, k1, hl, fun S' σ' H' vs' ac rp => q S' σ' H' vs' (a2.trans ac) rp⟩
    · rcases a2.go.new x z with w | w | w
      · exact nS w
      · rw [hx] at w; cases w
      · exact nO w
    · rcases a2.go.own x z with w | w
      · rw [hx] at w; cases w
      · exact nO w
theorem var_share {K : PySem.W.Frag} {S : Addr → Prop} {ρ ρ1 ρ2 : Ev} {σ : St} {H : Hp} {j : Nat} {r : R} {d : D} (rel : Rel K S ρ σ H) (e1 : ev Φ (.var j) ρ = .ok r ρ1) (e2 : DL.share r ρ1 = .ok d ρ2) : ∃ v S2, σ[j]? = some (some v) ∧ At K S ρ σ H S2 ρ2 H ∧ Rp K S2 H v d := by
  simp only [ev] at e1
  split at e1
  · rename_i d' q
    cases e1
    obtain ⟨v, e3, h⟩ := rel.atF q
    obtain ⟨S2, at2, rp, _⟩ := At.share (At.start rel) (x := .fz d') (v := v) h e2
    exact ⟨v, S2, e3, at2, rp⟩
  · rename_i k xs q
    cases e1
    obtain ⟨a, vs, e3, _⟩ := rel.atL q
    obtain ⟨S2, at2, rp, _⟩ := At.share (At.start rel) (x := .rf j) (v := .ref a) e3 e2
    exact ⟨_, S2, e3, at2, rp⟩
  · cases e1
theorem put2 {f1 f2 : Str} {u v : V} (h : f1 ≠ f2) : putF f2 v (putF f1 u []) = [(f1, u), (f2, v)] := by
  show (if f1 = f2 then _ else (f1, u) :: putF f2 v []) = _
  rw [if_neg h]
  rfl
/-- self.f = x; self.g = y -/
theorem dsi_end {f1 f2 : Str} {j1 j2 : Nat} {so1 so2 e1 e2 : Expr} {ap1 ap2 p1 p2 : Pos} (hf : cFlds c = [f1, f2]) (hne : f1 ≠ f2) (hF : ∃ C, ClsF X.K c C) (hs1 : PE X so1 (tVar 0)) (hv1 : PE X e1 (tVar j1)) (hs2 : PE X so2 (tVar 0)) (hv2 : PE X e2 (tVar j2))
    (w1 : swapsWith e1 (some (.Attribute so1 f1 ap1)) p1.line X.env = pure false := by rfl) (w2 : swapsWith e2 (some (.Attribute so2 f2 ap2)) p2.line X.env = pure false := by rfl) :
    PSs X [.Assign [.Attribute so1 f1 ap1] e1 p1, .Assign [.Attribute so2 f2 ap2] e2 p2] (tSI X.K c (execs Φ (.cons (.ret (.tup (.cons (.var j1) (.cons (.var j2) .nil)))) .nil))) :=
  pssImp (pss_cons (ps_fld hs1 hv1 w1) (pss_one (ps_fld hs2 hv2 w2))) fun D σ H q => by
    obtain ⟨S, ρ, ρ', xs, x, dx, C, h0, hns, hx, nS, nO, rel, e, hl, q⟩ := q
    obtain ⟨C', F⟩ := hF
    have := cls_inj hns F.ns
    subst this
    simp only [execs, exec, evs] at e
    obtain ⟨fl, ρ1, k1, k2⟩ := bnd_eq e
    obtain ⟨r, ρ2, k3, k4⟩ := bnd_eq k1
    obtain ⟨q1, q2⟩ := ret_eq k4
    subst q1 q2
    obtain ⟨q1, q2⟩ := ret_eq (show DL.ret (Fl.rt r) ρ1 = .ok (.rt (.fz (.tup xs))) ρ' from k2)
    cases q1
    subst q2
    have k3 : ev Φ (.tup (.cons (.var j1) (.cons (.var j2) .nil))) ρ = .ok (.fz (.tup xs)) ρ' := k3
    rw [show ev Φ (.tup (.cons (.var j1) (.cons (.var j2) .nil))) = (bnd (evs Φ (.cons (.var j1) (.cons (.var j2) .nil))) fun ds => if ds.length ≤ sizeLine then DL.ret (.fz (.tup ds)) else stuck) from by simp only [ev]] at k3
    obtain ⟨ds, ρ3, k5, k6⟩ := bnd_eq k3
    simp only [evs] at k5
    obtain ⟨y1, ρ4, m1, m2⟩ := bnd_eq k5
    obtain ⟨d1, ρ5, m3, m4⟩ := bnd_eq m2
    obtain ⟨ds2, ρ6, m5, m6⟩ := bnd_eq m4
    obtain ⟨y2, ρ7, m7, m8⟩ := bnd_eq m5
    obtain ⟨d2, ρ8, m9, m10⟩ := bnd_eq m8
    obtain ⟨ds3, ρ9, m11, m12⟩ := bnd_eq m10
    obtain ⟨q1, q2⟩ := ret_eq m11
    subst q1 q2
    obtain ⟨q1, q2⟩ := ret_eq m12
    subst q1 q2
    obtain ⟨q1, q2⟩ := ret_eq m6
    subst q1 q2
    split at k6
    · obtain ⟨q1, q2⟩ := ret_eq k6
      cases q1
      subst q2
      obtain ⟨v1, S1, z1, at1, rp1⟩ := var_share rel m1 m3
      obtain ⟨v2, S2, z2, at2, rp2⟩ := var_share at1.rel m7 m9
      have rp1 := rp1.mono (at2.go.ke at1.rel)
      refine ⟨v1, z1, V.ref x, h0, x, C, dx, [], rfl, hx, F.cl, F.na f1 (by rw [hf]; exact List.mem_cons_self ..), (by show 0 < 1000; decide), ?_⟩
      refine ⟨v2, z2, V.ref x, h0, x, C, dx, _, rfl, upd_same, F.cl, F.na f2 (by rw [hf]; exact List.mem_cons_of_mem _ (List.mem_cons_self ..)), (by show 1 < 1000; decide), ?_⟩
      rw [upd_upd, put2 hne]
      have := q S2 σ H [v1, v2] (at1.trans at2).ac (.cons rp1 (.cons rp2 .nil))
      rw [hf] at this
      exact this
    · cases k6
end
section
variable {P : Program} {w : World} {K : PySem.W.Frag} {mg : Str → Option Value} {base : Heap}
theorem rel_init {S : Addr → Prop} {H : Hp} {us : List V} {ds : List D} {x : Addr} (dom : Dom S H) (r : Rps K S H us ds) : Rel K S (Sl.un :: ds.map Sl.fz) ((V.ref x :: us).map some) H := by
  refine ⟨by simp [r.length], fun i s ov e1 e2 => ?_, fun i j k l xs ys a e1 => ?_, dom⟩
  · cases i with
    | zero => cases e1; trivial
    | succ i =>
      have e1 : (ds.map Sl.fz)[i]? = some s := e1
      have e2 : (us.map some)[i]? = some ov := e2
      rw [List.getElem?_map] at e1 e2
      cases q : ds[i]? with
      | none => rw [q] at e1; cases e1
      | some d =>
        rw [q] at e1
        cases e1
        obtain ⟨v, ev, rv⟩ := r.get q
        rw [ev] at e2
        cases e2
        exact ⟨v, rfl, rv⟩
  · cases i with
    | zero => cases e1
    | succ i =>
      have e1 : (ds.map Sl.fz)[i]? = some (.ls k xs) := e1
      rw [List.getElem?_map] at e1
      cases q : ds[i]? with
      | none => rw [q] at e1; cases e1
      | some d => rw [q] at e1; cases e1
theorem no_own {ds : List D} {σ : St} {n : Nat} {a : Addr} : ¬ Own ((Sl.un :: ds.map Sl.fz) ++ List.replicate n .un) σ a := by
  rintro ⟨i, k, xs, e, _⟩
  have e := un_at e
  cases i with
  | zero => cases e
  | succ i =>
    have e : (ds.map Sl.fz)[i]? = some (.ls k xs) := e
    rw [List.getElem?_map] at e
    cases q : ds[i]? with
    | none => rw [q] at e; cases e
    | some d => rw [q] at e; cases e
theorem leave_tup {ρ : Ev} {r : R} {xs : List D} (h : leave ρ r = some (.fz (.tup xs))) : r = .fz (.tup xs) := by
  cases r with
  | fz d => cases h; rfl
  | fr _ => cases h
  | rf i =>
    unfold leave at h
    simp only at h
    split at h <;> cases h
theorem read_init {T : List Df} {k f c : Nat} {d : Df} {N : List Str} {vs : List V} {H : Hp} {Q : VK} {E : XK} {D : Ends} (hd : T[f]? = some d) (hN : N.length = d.ns) (hD : ∀ σ H, Q .non H → D.nx σ H) (h : spI K (callN T (k + 1)) f c vs H Q E) : tSI K c (execs (callN T k) d.body) D (start N vs) H := by
  obtain ⟨S, ds, us, xs, as', x, dx, C, rfl, hns, hx, nS, dom, rp, e, hl, q⟩ := h
  obtain ⟨d2, fl, ρ', e1, hlen, e2, e4, e3⟩ := callN_split e
  rw [hd] at e1
  cases e1
  have rel := rel_init (x := x) dom rp
  have hv : (V.ref x :: us).length = d.np := by rw [← hlen]; simp [rp.length]
  have eN : N.length - (V.ref x :: us).length = d.ns - d.np := by rw [hN, hv]
  have rel0 := rel.begin (n := d.ns - d.np) (m := N.length - (V.ref x :: us).length) eN.symm
  rcases e3 with ⟨r0, rfl, e5⟩ | ⟨rfl, z⟩
  · have e6 := leave_tup e5
    subst e6
    refine ⟨S, _, ρ', xs, x, dx, C, rfl, hns, hx, nS, no_own, rel0, e2, hl, fun S' σ' H' vs' ac rp' => hD _ _ (q S' H' vs' ⟨ac.go.sub, fun a h => ?_, fun a o h => ac.go.keep a o h no_own, fun _ => ac.rel.dom⟩ rp')⟩
    rcases ac.go.new a h with w | w | w
    · exact .inl w
    · exact .inr w
    · exact absurd w no_own
  · cases z
open PySem.Spec PyProof.Rows in
theorem fnI_tab {T : List Df} {k j c : Nat} {d : Df} {N ps : List Str} {x qual : Str} {st : Stmt} {fa : Addr} {fd : FuncData} {dV : Value} (F : FunW K x qual st fa fd dV) (sc : FnScope N ps (defScope st)) (hd : T[j]? = some d) (hN : N.length = d.ns) (hp : ps.length = d.np)
    (body : ∀ (cd : Value) (A : Around) (out : List Env) (s : Shared) (H : Hp) (E : XK), Room (2 * k + 1) (A.deeper (envOfC qual (defScope st) s.heap.objs.size fa cd)) → A.guards = some [] →
      PSs (cxOf L2.CX0 P w K mg base N qual (defScope st) fa cd A out s H E).nox (defBody st) (tSI K c (execs (callN T k) d.body))) :
    FnG P w K mg base L2.CX0 (2 * (k + 1)) fa fd ps (spI K (callN T (k + 1)) j c) :=
  fnG_of (k := 2 * k + 1) F sc (fun vs H Q E h => by
    obtain ⟨S, ds, us, xs, as', x, dx, C, rfl, hns, hx, nS, dom, rp, e, hl, q⟩ := h
    obtain ⟨d2, fl, ρ', e1, hlen, _⟩ := callN_split e
    rw [hd] at e1
    cases e1
    rw [hp, ← hlen]
    simp [rp.length]) fun cd A out s H vs Q E room gd h => ⟨_, body cd A out s H E room gd, read_init hd hN (fun _ _ z => z) h⟩
theorem fnI_zero {T : List Df} {j c m : Nat} {fa : Addr} {fd : FuncData} {ps : List Str} : FnG P w K mg base L2.CX0 m fa fd ps (spI K (callN T 0) j c) := by
  constructor
  · intro vs H Q E h
    obtain ⟨S, ds, us, xs, as', x, dx, C, _, hns, hx, nS, dom, rp, e, hl, q⟩ := h
    cases e
  · intro A out s H args us vs Q E _ _ _ _ _ h
    obtain ⟨S, ds, us, xs, as', x, dx, C, _, hns, hx, nS, dom, rp, e, hl, q⟩ := h
    cases e
end
section
variable {X : Cx} {CX : CXT} {Φ : Calls} {k : Nat} {f C : Addr} {fd : FuncData} {ps : List Str} {sp : Sp} {x : Str} {p pos : Pos} {e : Expr} {es : List Expr} {t : TA} {perm : List Nat} {n c fi : Nat} {dws : List Value} {dvs : List V} {ies : As} {dds : List D}
theorem run_makeG {pins : List (Addr × Obj)} {σ : St} {H : Hp} {s : Shared} {Q : VK} {us : List Value} {vs zs : List V} (M : Mk X.K C f) (F : FnG X.prog X.w X.K X.mg X.base CX k f fd ps sp) (hr : Room (k + 1) X.A) (hgd : X.A.guards = some []) (hb : BindPd X.K fd ps (n + 1) [] dws (0 :: perm.map (· + 1))) (hd : Vals dvs dws) (hx : Passes CX X E0)
    (I : L2.Inv X pins σ H s) (r : Vals vs us) (h1 : vs.length = n) (hp : pick perm (vs ++ dvs) = some zs)
    (h : ∀ x dx, H x = none → H dx = none → dx ≠ x → sp (.ref x :: zs) (upd (upd H dx (.own x)) x (.ins C dx [])) (fun v H2 => v = .non ∧ Q (.ref x) H2) E0) :
    wpAny (model X.prog X.w) X.A (call (.ref C) us) (EP X pins σ Q) X.xe s := by
  have hq := h (s.heap.objs.size + 1) s.heap.objs.size (I.hok.fresh (Nat.le_succ _)) (I.hok.fresh (Nat.le_refl _)) (Nat.ne_of_lt (Nat.lt_succ_self _))
  have I2 := Inv.made (C := C) I
  have r2 : Vals (V.ref (s.heap.objs.size + 1) :: vs) (Value.ref (s.heap.objs.size + 1) :: us) := .cons rfl r
  have hp2 : pick (0 :: perm.map (· + 1)) ((V.ref (s.heap.objs.size + 1) :: vs) ++ [] ++ dvs) = some (V.ref (s.heap.objs.size + 1) :: zs) := by
    rw [List.append_nil]
    have : ∀ (q : List Nat) (l : List V) (z : V), DL.pick (q.map (· + 1)) (z :: l) = DL.pick q l := fun q l z => by
      unfold DL.pick
      rw [List.mapM_map]
      rfl
    rw [p_cons, show (V.ref (s.heap.objs.size + 1) :: vs ++ dvs) = V.ref (s.heap.objs.size + 1) :: (vs ++ dvs) from rfl, this, hp]
    rfl
  obtain ⟨qs, eq, rq⟩ := pick_vals ((r2.append .nil).append hd) hp2
  refine wpAny_call (make_map (f := f) I.kIn M.makes M.init (beq_iff_eq.mp M.fn) (codeAny_mono (F.run _ X.stack _ _ ⟨Value.ref (s.heap.objs.size + 1) :: us, []⟩ qs _ _ E0 (hr.make C us []) hgd
    (I2.env0.make C us []) (hb _ (Value.ref (s.heap.objs.size + 1) :: us) [] qs I2.kIn (by rw [List.length_cons, ← r.length, h1]) rfl eq) rq hq) fun r s' hq' => ?_))
  cases r with
  | error e => exact hx pins σ _ _ e s' I2 hq'
  | ok fl =>
    cases fl with
    | ret u =>
      obtain ⟨v, H', I3, rv, ev, q3⟩ := I2.after hq'
      subst ev
      exact ⟨rv, ⟨V.ref (s.heap.objs.size + 1), H', I3, rfl, q3⟩⟩
    | next => exact False.elim hq'
    | brk => exact False.elim hq'
    | cont => exact False.elim hq'
def tMakeG (C : Addr) (sp : Sp) (n : Nat) (perm : List Nat) (dvs : List V) (t : TA) : TE := fun σ H Q => t σ H fun vs H1 => vs.length = n ∧ ∃ zs, pick perm (vs ++ dvs) = some zs ∧ ∀ x dx, H1 x = none → H1 dx = none → dx ≠ x → sp (.ref x :: zs) (upd (upd H1 dx (.own x)) x (.ins C dx [])) (fun v H2 => v = .non ∧ Q (.ref x) H2) E0
theorem pe_makeG (M : Mk X.K C f) (F : FnG X.prog X.w X.K X.mg X.base CX k f fd ps sp) (hr : Room (k + 1) X.A) (hgd : X.A.guards = some []) (hg : Gl X x) (hm : X.mg x = some (.ref C)) (hb : BindPd X.K fd ps (n + 1) [] dws (0 :: perm.map (· + 1))) (hd : Vals dvs dws) (hx : Passes CX X E0)
    (ha : PA X (e :: es) t) (hdb : (x == ("__debug__" : Str)) = false := by decide) (he : starEach (e :: es) X.env = (false, eval e X.env) :: starEach es X.env := by rfl) (hpl : (PySem.backTo pos (starEach es X.env)).any (·.1) = false := by rfl) :
    PE X (.Call (.Name x p) (e :: es) [] pos) (tMakeG C sp n perm dvs t) := by
  refine ⟨fun pins s σ H Q I h => ?_⟩
  refine wpAny_Call_Name_kw (ld_glob I hg hm ?_ hdb)
  refine PySem.W.callWith_K (h₀ := X.base) I.ok.mod.kin M.kp (thn (ha.run pos pins s σ H _ I h) fun us s1 ⟨vs, H1, I1, r, hl, zs, hp, q⟩ => ⟨I1.kIn, ?_⟩) he hpl
  exact run_makeG M F hr hgd hb hd hx I1 r hl hp q
theorem vals_rps {K : PySem.W.Frag} {S : Addr → Prop} {H₀ H : Hp} {ρ : Ev} {σ : St} : ∀ {vs : List V} {as : List A} {ds : List D}, Ras K S H₀ ρ σ H vs as → valsOf as = some ds → Rps K S H vs ds
  | _, _, _, .nil, e => by cases e; exact .nil
  | _, _, _, .cons (r := .val d) (rs := rs) h r, e => by
    rw [show valsOf (.val d :: rs) = (valsOf rs).map (d :: ·) from rfl] at e
    cases q : valsOf rs with
    | none => rw [q] at e; cases e
    | some es => rw [q] at e; cases e; exact .cons h (vals_rps r q)
  | _, _, _, .cons (r := .rf i) (rs := rs) h r, e => by cases e
  | _, _, _, .cons (r := .fr i) (rs := rs) h r, e => by cases e
theorem de_make (hF : ClsF X.K c C) (M : Mk X.K C f) (F : FnG X.prog X.w X.K X.mg X.base CX k f fd ps (spI X.K Φ fi c)) (hr : Room (k + 1) X.A) (hgd : X.A.guards = some []) (hg : Gl X x) (hm : X.mg x = some (.ref C)) (hb : BindPd X.K fd ps (n + 1) [] dws (0 :: perm.map (· + 1))) (hd : Vals dvs dws) (hc : Csts X.K dvs dds) (hx : Passes CX X E0)
    (ha : PA X (e :: es) (tAs X.K (evas Φ ies))) (hn : ies.len = n := by rfl) (hdb : (x == ("__debug__" : Str)) = false := by decide) (he : starEach (e :: es) X.env = (false, eval e X.env) :: starEach es X.env := by rfl) (hpl : (PySem.backTo pos (starEach es X.env)).any (·.1) = false := by rfl) :
    PE X (.Call (.Name x p) (e :: es) [] pos) (tD X.K (ev Φ (.make c fi perm ies (csts dds)))) :=
  peImp (pe_makeG (n := n) (perm := perm) M F hr hgd hg hm hb hd hx ha hdb he hpl) fun σ H Q q => by
    obtain ⟨S, ρ, r, ρ', rel, e, q⟩ := q
    simp only [ev] at e
    obtain ⟨as, ρ1, e1, h1⟩ := bnd_eq e
    obtain ⟨ks, ρ2, e2, h2⟩ := bnd_eq h1
    rw [csts_ev] at e2
    cases e2
    refine ⟨S, ρ, as, ρ1, rel, e1, fun S1 vs H1 g1 rel1 r1 => ⟨by rw [r1.length, evas_len e1]; exact hn, ?_⟩⟩
    have ra : Ras X.K S1 H ρ1 σ H1 (vs ++ dvs) (as ++ dds.map .val) := r1.append hc.ras
    unfold makeM at h2
    cases ep : pick perm (as ++ dds.map .val) with
    | none => simp only [ep, Option.bind_none] at h2; cases h2
    | some bs =>
      simp only [ep, Option.bind_some] at h2
      cases eb : valsOf bs with
      | none => simp only [eb] at h2; cases h2
      | some ds =>
        simp only [eb] at h2
        obtain ⟨zs, ez, rz⟩ := ra.pick ep
        have rp := vals_rps rz eb
        refine ⟨zs, ez, fun x dx nx ndx ne => ?_⟩
        split at h2
        · rename_i xs as' eΦ
          split at h2
          · rename_i hl
            cases h2
            have nSx : ¬ S1 x := fun z => rel1.dom x z nx
            have nSdx : ¬ S1 dx := fun z => rel1.dom dx z ndx
            have keep0 : ∀ a o, H1 a = some o → upd (upd H1 dx (.own x)) x (.ins C dx []) a = some o := fun a o h => by rw [upd_ne (ne_of_none h nx), upd_ne (ne_of_none h ndx)]; exact h
            refine ⟨S1, ds, zs, xs, as', x, dx, C, rfl, hF.ns, upd_same, nSx, fun a h z => ?_, rp.mono ⟨fun _ h => h, fun a o _ h => keep0 a o h⟩, eΦ, hl, fun S' H' vs' g rp' => ⟨rfl, ?_⟩⟩
            · cases w : H1 a with
              | none => exact rel1.dom a h w
              | some o => rw [keep0 a o w] at z; cases z
            · have nS' : ¬ S' x := fun z => by
                rcases g.new x z with w | w
                · exact nSx w
                · rw [upd_same] at w; cases w
              have gn : Gn S1 H1 (fun a => S' a ∨ a = x) (upd H' x (.ins C dx ((cFlds c).zip vs'))) := by
                refine ⟨fun a h => .inl (g.sub a h), fun a h => ?_, fun a o h => ?_, fun _ a h => ?_⟩
                · rcases h with h | h
                  · rcases g.new a h with w | w
                    · exact .inl w
                    · refine .inr ?_
                      cases z : H1 a with
                      | none => rfl
                      | some o => rw [keep0 a o z] at w; cases w
                  · exact .inr (by rw [h]; exact nx)
                · rw [upd_ne (ne_of_none h nx)]
                  exact g.keep a o (keep0 a o h)
                · by_cases e : a = x
                  · rw [e, upd_same]; simp
                  · rw [upd_ne e]
                    refine g.dom (fun b hb => ?_) a (h.resolve_right e)
                    intro z
                    cases w : H1 b with
                    | none => exact rel1.dom b hb w
                    | some o => rw [keep0 b o w] at z; cases z
              have at2 := At.gn ⟨g1, rel1⟩ gn
              refine q _ _ _ at2.go at2.rel (show Rp X.K _ _ (.ref x) (.obj c xs) from .obj hF.ns (.inr rfl) upd_same (by rw [rp'.length, hl]) (rp'.mono ⟨fun _ h => .inl h, fun a o h1 h2 => ?_⟩))
              have : a ≠ x := fun e => nS' (e ▸ h1)
              rw [upd_ne this]
              exact h2
          · cases h2
        · cases h2
end
end DL

end

section
set_option autoImplicit false
/-! DLz: what the head gives: defs with defaults, classes. -/
namespace DL
open PySem L2
/-- the defaults of a def, as data -/
structure DfW (K : PySem.W.Frag) (dV : Value) (dds : List D) : Prop where
  ex : ∃ (T : Addr) (o : Obj) (its : List Value) (n : Nat) (dvs : List V), dV = .ref T ∧ K.lookup T = some o ∧ o.data = .seq its.toArray n ∧ Vals dvs its ∧ Csts K dvs dds
/-- a default -/
structure DfV (K : PySem.W.Frag) (u : Value) (d : D) : Prop where
  ex : ∃ v : V, RelV v u ∧ Cst K v d
theorem DfV.int {K : PySem.W.Frag} {i : Int} {t : Tok} : DfV K (.int i t) (.int i) := ⟨.int i, ⟨t, rfl⟩, .int⟩
theorem DfV.non {K : PySem.W.Frag} : DfV K .none .non := ⟨.non, rfl, .non⟩
theorem DfV.unit {K : PySem.W.Frag} {a : Addr} {od : Option Addr} {n : Nat} {sl : Array (Option Value)} (h : K.lookup a = some ⟨.type "tuple", od, .seq #[] n, sl⟩) : DfV K (.ref a) (.tup []) := ⟨.ref a, rfl, .unit h rfl rfl⟩
theorem dfw1 {K : PySem.W.Frag} {T : Addr} {oc : Value} {od : Option Addr} {u : Value} {n : Nat} {sl : Array (Option Value)} {d : D} (h : K.lookup T = some ⟨oc, od, .seq #[u] n, sl⟩) (h1 : DfV K u d) : DfW K (.ref T) [d] := by
  obtain ⟨v, r, c⟩ := h1.ex
  exact ⟨T, _, [u], n, [v], rfl, h, rfl, .cons r .nil, .cons c .nil⟩
theorem dfw2 {K : PySem.W.Frag} {T : Addr} {oc : Value} {od : Option Addr} {u u2 : Value} {n : Nat} {sl : Array (Option Value)} {d d2 : D} (h : K.lookup T = some ⟨oc, od, .seq #[u, u2] n, sl⟩) (h1 : DfV K u d) (h2 : DfV K u2 d2) : DfW K (.ref T) [d, d2] := by
  obtain ⟨v, r, c⟩ := h1.ex
  obtain ⟨v2, r2, c2⟩ := h2.ex
  exact ⟨T, _, [u, u2], n, [v, v2], rfl, h, rfl, .cons r (.cons r2 .nil), .cons c (.cons c2 .nil)⟩
/-- how a call binds that uses the defaults -/
def BindDf (K : PySem.W.Frag) (fd : FuncData) (ps : List Str) (n : Nat) (ks : List Str) (dds : List D) (perm : List Nat) : Prop :=
  ∃ (dws : List Value) (dvs : List V), BindPd K fd ps n ks dws perm ∧ Vals dvs dws ∧ Csts K dvs dds
end DL
namespace DL
open PySem L2
section
variable {X : Cx} {CX : CXT} {Φ : Calls} {k : Nat} {f C : Addr} {fd : FuncData} {ps ks : List Str} {x m : Str} {p pos apos : Pos} {e o : Expr} {es : List Expr} {kws : List Keyword} {perm : List Nat} {n fi c : Nat} {ies iks : As} {dds : List D}
theorem de_calldB (F : FnG X.prog X.w X.K X.mg X.base CX k f fd ps (spD X.K Φ fi)) (hr : Room k X.A) (hgd : X.A.guards = some []) (hm : X.mg x = some (.ref f)) (hk : PySem.W.keepIn X.K (.ref f) = true) (B : BindDf X.K fd ps n [] dds perm) (hx : Passes CX X E0) (hg : Gl X x)
    (ha : PA X (e :: es) (tAs X.K (evas Φ ies))) (hn : ies.len = n := by rfl)
    (hdb : (x == ("__debug__" : Str)) = false := by decide) (he : starEach (e :: es) X.env = (false, eval e X.env) :: starEach es X.env := by rfl) (hpl : (PySem.backTo pos (starEach es X.env)).any (·.1) = false := by rfl) :
    PE X (.Call (.Name x p) (e :: es) [] pos) (tD X.K (ev Φ (.call fi perm ies (csts dds)))) := by
  obtain ⟨dws, dvs, hb, hd, hc⟩ := B
  exact de_calld F hr hgd hm hk hb hd hc hx hg ha hn hdb he hpl
theorem de_calldB0 (F : FnG X.prog X.w X.K X.mg X.base CX k f fd ps (spD X.K Φ fi)) (hr : Room k X.A) (hgd : X.A.guards = some []) (hm : X.mg x = some (.ref f)) (hk : PySem.W.keepIn X.K (.ref f) = true) (B : BindDf X.K fd ps 0 [] dds perm) (hx : Passes CX X E0) (hg : Gl X x)
    (hdb : (x == ("__debug__" : Str)) = false := by decide) : PE X (.Call (.Name x p) [] [] pos) (tD X.K (ev Φ (.call fi perm .nil (csts dds)))) := by
  obtain ⟨dws, dvs, hb, hd, hc⟩ := B
  exact de_calld0 F hr hgd hm hk hb hd hc hx hg hdb
theorem de_calldBk (F : FnG X.prog X.w X.K X.mg X.base CX k f fd ps (spD X.K Φ fi)) (hr : Room k X.A) (hgd : X.A.guards = some []) (hm : X.mg x = some (.ref f)) (hk : PySem.W.keepIn X.K (.ref f) = true) (B : BindDf X.K fd ps n ks dds perm) (hx : Passes CX X E0) (hg : Gl X x)
    (ha : PA X (e :: es) (tAs X.K (evas Φ ies))) (hkw : PK X kws (tAs X.K (evas Φ iks)))
    (hn : ies.len = n := by rfl) (hl : iks.len = ks.length := by rfl) (hall : (backToKw pos (keywordEach kws X.env)).all (·.1.isSome) = true := by rfl) (hks : (backToKw pos (keywordEach kws X.env)).filterMap (·.1) = ks := by rfl)
    (hdb : (x == ("__debug__" : Str)) = false := by decide) (he : starEach (e :: es) X.env = (false, eval e X.env) :: starEach es X.env := by rfl)
    (hpl : ((PySem.backTo pos (starEach (e :: es) X.env)).any (·.1) || (backToKw pos (keywordEach kws X.env)).any (·.1.isNone)) = false := by rfl) :
    PE X (.Call (.Name x p) (e :: es) kws pos) (tD X.K (ev Φ (.call fi perm ies (iks.app (csts dds))))) := by
  obtain ⟨dws, dvs, hb, hd, hc⟩ := B
  exact de_calldk F hr hgd hm hk hb hd hc hx hg ha hkw hn hl hall hks hdb he hpl
theorem de_calldBk0 (F : FnG X.prog X.w X.K X.mg X.base CX k f fd ps (spD X.K Φ fi)) (hr : Room k X.A) (hgd : X.A.guards = some []) (hm : X.mg x = some (.ref f)) (hk : PySem.W.keepIn X.K (.ref f) = true) (B : BindDf X.K fd ps 0 ks dds perm) (hx : Passes CX X E0) (hg : Gl X x)
    (hkw : PK X kws (tAs X.K (evas Φ iks)))
    (hl : iks.len = ks.length := by rfl) (hall : (backToKw pos (keywordEach kws X.env)).all (·.1.isSome) = true := by rfl) (hks : (backToKw pos (keywordEach kws X.env)).filterMap (·.1) = ks := by rfl)
    (hdb : (x == ("__debug__" : Str)) = false := by decide) (hpl : ((PySem.backTo pos (starEach [] X.env)).any (·.1) || (backToKw pos (keywordEach kws X.env)).any (·.1.isNone)) = false := by rfl) :
    PE X (.Call (.Name x p) [] kws pos) (tD X.K (ev Φ (.call fi perm .nil (iks.app (csts dds))))) := by
  obtain ⟨dws, dvs, hb, hd, hc⟩ := B
  exact de_calldk0 F hr hgd hm hk hb hd hc hx hg hkw hl hall hks hdb hpl
theorem BindP.toDf {K : PySem.W.Frag} {fd : FuncData} {ps : List Str} {n : Nat} {ks : List Str} {perm : List Nat} (b : BindP K fd ps n ks perm) : BindDf K fd ps n ks [] perm := ⟨[], [], b.d, .nil, .nil⟩
theorem methF {ms : Str} (hF : ClsF X.K c C) (hm : Meth X.K C ms f) (G : FnG X.prog X.w X.K X.mg X.base L2.CX0 k f fd ps (spD X.K Φ fi)) (hr : Room k X.A) (B : BindDf X.K fd ps (n + 1) [] dds perm) (no : (cFlds c).contains ms = false := by decide) : MethF X Φ ms n perm dds c fi := by
  obtain ⟨dws, dvs, hb, hd, hc⟩ := B
  exact ⟨⟨C, f, fd, ps, k, dws, dvs, hF, hm, G, hr, hb, hd, hc⟩, no⟩
theorem de_makeB (hF : ClsF X.K c C) (M : Mk X.K C f) (hm : X.mg x = some (.ref C)) (F : FnG X.prog X.w X.K X.mg X.base CX k f fd ps (spI X.K Φ fi c)) (hr : Room (k + 1) X.A) (hgd : X.A.guards = some []) (B : BindDf X.K fd ps (n + 1) [] dds (0 :: perm.map (· + 1))) (hx : Passes CX X E0) (hg : Gl X x)
    (ha : PA X (e :: es) (tAs X.K (evas Φ ies))) (hn : ies.len = n := by rfl) (hdb : (x == ("__debug__" : Str)) = false := by decide) (he : starEach (e :: es) X.env = (false, eval e X.env) :: starEach es X.env := by rfl) (hpl : (PySem.backTo pos (starEach es X.env)).any (·.1) = false := by rfl) :
    PE X (.Call (.Name x p) (e :: es) [] pos) (tD X.K (ev Φ (.make c fi perm ies (csts dds)))) := by
  obtain ⟨dws, dvs, hb, hd, hc⟩ := B
  exact de_make hF M F hr hgd hg hm hb hd hc hx ha hn hdb he hpl
end
theorem Csts.len {K : PySem.W.Frag} : ∀ {vs : List V} {ds : List D}, Csts K vs ds → vs.length = ds.length
  | _, _, .nil => rfl
  | _, _, .cons _ r => congrArg (· + 1) r.len
/-- a call's binding by what the defaults' tuple holds -/
theorem bindDf_of {K : PySem.W.Frag} {x qual : Str} {st : Stmt} {f : Addr} {fd : FuncData} {dV : Value} {ps ks : List Str} {n : Nat} {dds : List D} {perm : List Nat} (F : FunW K x qual st f fd dV) (W : DfW K dV dds)
    (h : ∀ (T : Addr) (kV doc pm : Value) (an : Option Addr) (cdv ct : Value) (us ws its zs : List Value), us.length = n → ws.length = ks.length → its.length = dds.length → pick perm (us ++ ws ++ its) = some zs →
      ∃ k, bindArgs (PySem.W.fnOf x qual (defArgs st) (defBody st) (defScope st) (.ref T) kV doc pm an cdv ct) ⟨us, ks.zip ws⟩ = seqItems? (.ref T) >>= k ∧ k (some its.toArray) = pure (ps.zip zs)) : BindDf K fd ps n ks dds perm := by
  obtain ⟨T, o, its, m, dvs, rfl, hT, hd, hv, hc⟩ := W.ex
  obtain ⟨oc, od, kV, doc, pm, an, cdv, ct, osl, rfl, _, _⟩ := F.ex
  have hl : its.length = dds.length := by rw [← hv.length]; exact hc.len
  refine ⟨its, dvs, fun s us ws zs kin h1 h2 h3 => ?_, hv, hc⟩
  obtain ⟨k, e1, e2⟩ := h T kV doc pm an cdv ct us ws its zs h1 h2 hl h3
  refine BindsTo.of_looks fun M => ?_
  rw [e1]
  exact looks_items kin hT hd (.of_pure e2)
end DL
namespace DL
open PySem L2
theorem allM_nil {X : Cx} {Φ : Calls} {m : Str} {n : Nat} {perm : List Nat} {dds : List D} : AllM X Φ m n perm dds [] := trivial
theorem allM_cons {X : Cx} {Φ : Calls} {m : Str} {n : Nat} {perm : List Nat} {dds : List D} {c fi : Nat} {r : List (Nat × Nat)} (h : MethF X Φ m n perm dds c fi) (t : AllM X Φ m n perm dds r) : AllM X Φ m n perm dds ((c, fi) :: r) := ⟨h, t⟩
theorem allF_nil {K : PySem.W.Frag} {f : Str} : AllF K f [] := trivial
theorem allF_cons {K : PySem.W.Frag} {f : Str} {c i : Nat} {r : List (Nat × Nat)} {C : Addr} (h : ClsF K c C) (e : (cFlds c)[i]? = some f) (t : AllF K f r) : AllF K f ((c, i) :: r) := ⟨⟨C, h, e⟩, t⟩
end DL

end

section
set_option autoImplicit false
/-! DLz2: sequences backwards. -/
namespace DL
open PySem L2
section
variable {X : Cx} {Φ : Calls} {a : Expr} {pos : Pos} {ia : E}
theorem rps_rev {K : PySem.W.Frag} {S : Addr → Prop} {H : Hp} : ∀ {vs : List V} {ds : List D}, Rps K S H vs ds → Rps K S H vs.reverse ds.reverse
  | _, _, .nil => .nil
  | _, _, .cons h r => by
    rw [List.reverse_cons, List.reverse_cons]
    exact (rps_rev r).append (.cons h .nil)
theorem de_rvs {k : Nat} {p1 p2 p3 : Pos} (ha : PE X a (tD X.K (ev Φ ia))) : PE X (.Subscript a (.Slice none none (some (.UnaryOp .USub (.Constant (.int 1) k p1) p2)) p3) pos) (tD X.K (ev Φ (.bi .rvs (.cons ia .nil)))) :=
  peImp (pe_revS ha) fun σ H Q q => by
    obtain ⟨S, ρ, r, ρ', rel, e, q⟩ := q
    obtain ⟨rs, ds, e1, e2, e3⟩ := bi_split e
    simp only [evrs] at e1
    obtain ⟨y, ρ1, e4, h1⟩ := bnd_eq e1
    obtain ⟨zs, ρ3, e5, h3⟩ := bnd_eq h1
    obtain ⟨q1, q2⟩ := ret_eq e5
    subst q1 q2
    obtain ⟨q1, q2⟩ := ret_eq h3
    subst q1 q2
    obtain ⟨d, v1, e6⟩ : ∃ d, view ρ' y = some d ∧ ds = [d] := by
      rw [List.mapM_cons, List.mapM_nil] at e2
      cases q : view ρ' y with
      | none => rw [q] at e2; cases e2
      | some d => rw [q] at e2; exact ⟨d, rfl, (Option.some.inj e2).symm⟩
    subst e6
    cases d <;> (try (cases e3; done))
    · rename_i xs
      cases e3
      refine ⟨S, ρ, y, ρ', rel, e4, fun S1 v H1 g1 rel1 r1 => ?_⟩
      obtain ⟨l, vs, ea, hl, ra⟩ := (r1.view rel1 v1).t
      exact ⟨l, vs, ea, .inr ⟨hl, fun p hp => At.fin q ⟨g1, rel1⟩ _ _ _ (.tup hp) (Rp.mkTup hp (rps_rev ra))⟩⟩
    · rename_i xs
      cases e3
      refine ⟨S, ρ, y, ρ', rel, e4, fun S1 v H1 g1 rel1 r1 => ?_⟩
      obtain ⟨l, vs, ea, hl, ra⟩ := (r1.view rel1 v1).l
      exact ⟨l, vs, ea, .inl ⟨.inl (.inl hl), fun p hp => At.fin q ⟨g1, rel1⟩ _ _ _ (.lst hp) (.mkLst hp rel1.dom (rps_rev ra))⟩⟩
end
section
variable {Φ : Calls} {ρ : Ev} {a b : E} {i j : Int} {xs : List D} {x y : Bool}
@[simp] theorem o_rngD : evit Φ (.rngD a b) ρ = (ev Φ a ρ).then fun x => bnd (ev Φ b) fun y => bnd (vw x) fun d => bnd (vw y) fun e => match d, e with
    | .int i, .int j => if small62 i && small62 j then DL.ret (none, rngDL i j) else stuck
    | _, _ => stuck := rfl
@[simp] theorem b_rvsL : biD .rvs [.lst xs] = some (.fr xs.reverse) := rfl
@[simp] theorem b_rvsT : biD .rvs [.tup xs] = some (.fz (.tup xs.reverse)) := rfl
@[simp] theorem d_shr : binD .shr (.int i) (.int j) = if 0 ≤ j ∧ j ≤ 1000 then some (.fz (.int (i / 2 ^ j.toNat))) else none := rfl
@[simp] theorem d_band : binD .band (.int i) (.int j) = some (.fz (.int (Builtin.bitAnd i j))) := rfl
@[simp] theorem d_isb : cmpD .isN (.bl x) (.bl y) = some (decide (x = y)) := rfl
@[simp] theorem d_nsb : cmpD .notN (.bl x) (.bl y) = some (!decide (x = y)) := rfl
@[simp] theorem a_tpL {ts : Tgs} : asgn Φ (.tp ts) (.lst xs) = asgns Φ ts xs := rfl
end
end DL

end

section
set_option autoImplicit false
namespace DL
open PySem L2
def Pool (xs : List D) : Prop := ∃ s g c : Int, xs = [.int s, .int g, .int c] ∧ 0 ≤ s ∧ s < 1000000007 ∧ 0 ≤ g ∧ 0 ≤ c
structure Mk (n : Int) (ms : List Int) : Prop where
  pw : ms.Pairwise (· < ·)
  bd : ∀ m ∈ ms, 1 ≤ m ∧ m ≤ n
def cnt (ms : List Int) (x : Int) : Int := ((ms.filter (fun m => decide (m ≤ x))).length : Int)
def tots (ms : List Int) (n : Int) : List Int := (List.range n.toNat).map fun (i : Nat) => cnt ms ((i : Int) + 1)
theorem pw_get {ms : List Int} (h : ms.Pairwise (· < ·)) {i j : Nat} {a b : Int} (hij : i < j) (e1 : ms[i]? = some a) (e2 : ms[j]? = some b) : a < b := by
  obtain ⟨h1, rfl⟩ := List.getElem?_eq_some_iff.mp e1
  obtain ⟨h2, rfl⟩ := List.getElem?_eq_some_iff.mp e2
  exact List.pairwise_iff_getElem.mp h i j h1 h2 hij
theorem filt_succ : ∀ {ms : List Int}, ms.Pairwise (· < ·) → ∀ x : Int, ms.filter (fun m => decide (m ≤ x + 1)) = ms.filter (fun m => decide (m ≤ x)) ++ (if x + 1 ∈ ms then [x + 1] else [])
  | [], _, x => by simp
  | m :: ms, h, x => by
    obtain ⟨h1, h2⟩ := List.pairwise_cons.mp h
    have ih := filt_succ h2 x
    by_cases c1 : m ≤ x
    · have c2 : m ≤ x + 1 := by omega
      have c3 : x + 1 ≠ m := by omega
      simp [List.filter_cons, c1, c2, ih, c3]
    · by_cases c2 : m = x + 1
      · subst c2
        have e1 : ms.filter (fun m => decide (m ≤ x + 1)) = [] := List.filter_eq_nil_iff.mpr fun y hy => by
          have := h1 y hy
          simp; omega
        have e2 : ms.filter (fun m => decide (m ≤ x)) = [] := List.filter_eq_nil_iff.mpr fun y hy => by
          have := h1 y hy
          simp; omega
        have c1' : ¬ x + 1 ≤ x := by omega
        simp [List.filter_cons, e1, e2, c1']
      · have c3 : ¬ m ≤ x + 1 := by omega
        have c4 : x + 1 ≠ m := fun z => c2 z.symm
        simp [List.filter_cons, c1, c3, ih, c4]
theorem cnt_succ {ms : List Int} (h : ms.Pairwise (· < ·)) (x : Int) : cnt ms (x + 1) = cnt ms x + (if x + 1 ∈ ms then 1 else 0) := by
  unfold cnt
  rw [filt_succ h x, List.length_append]
  split <;> simp
theorem cnt_zero {n : Int} {ms : List Int} (h : Mk n ms) : cnt ms 0 = 0 := by
  unfold cnt
  rw [List.filter_eq_nil_iff.mpr fun y hy => by have := h.bd y hy; simp; omega]
  rfl
theorem filt_zero {n : Int} {ms : List Int} (h : Mk n ms) : ms.filter (fun m => decide (m ≤ 0)) = [] :=
  List.filter_eq_nil_iff.mpr fun y hy => by have := h.bd y hy; simp; omega
theorem filt_all {n : Int} {ms : List Int} (h : Mk n ms) : ms.filter (fun m => decide (m ≤ n)) = ms :=
  List.filter_eq_self.mpr fun y hy => by have := h.bd y hy; simp; omega
theorem mk_len {n : Int} {ms : List Int} (h : Mk n ms) (hn : 0 ≤ n) : (ms.length : Int) ≤ n := by
  have key : ∀ j : Nat, cnt ms j ≤ j := fun j => by
    induction j with
    | zero => rw [show ((0 : Nat) : Int) = 0 from rfl, cnt_zero h]; exact Int.le_refl _
    | succ j ih =>
      rw [show ((j + 1 : Nat) : Int) = (j : Int) + 1 from rfl, cnt_succ h.pw]
      split <;> omega
  have e := key n.toNat
  rw [Int.toNat_of_nonneg hn] at e
  unfold cnt at e
  rw [filt_all h] at e
  exact e
theorem cnt_nn {ms : List Int} {x : Int} : 0 ≤ cnt ms x := Int.natCast_nonneg _
theorem cnt_le {ms : List Int} {x : Int} : cnt ms x ≤ ms.length := Int.ofNat_le.mpr (List.length_filter_le _ _)
theorem in_ints {ms : List Int} {x : Int} : inD (.int x) (ms.map D.int) = decide (x ∈ ms) := by
  unfold inD
  induction ms with
  | nil => rfl
  | cons m ms ih =>
    rw [List.map_cons, List.any_cons, ih]
    have e : (toPy (.int m)).eqv (toPy (.int x)) = decide (x = m) := by
      show (m == x) = _
      rw [Bool.eq_iff_iff, beq_iff_eq, decide_eq_true_iff]
      exact eq_comm
    rw [e, Bool.eq_iff_iff, Bool.or_eq_true, decide_eq_true_iff, decide_eq_true_iff, decide_eq_true_iff, List.mem_cons]
theorem all_flat (ms : List Int) : (ms.map D.int).all flat = true := by
  rw [List.all_eq_true]
  intro d h
  obtain ⟨m, _, rfl⟩ := List.mem_map.mp h
  rfl
theorem rng_get {lo hi : Int} {j : Nat} {d : D} (h : (rngL lo hi)[j]? = some d) : d = .int (lo + j) ∧ (j : Int) < hi - lo := by
  unfold rngL at h
  rw [List.getElem?_map] at h
  cases e : (List.range (hi - lo).toNat)[j]? with
  | none => rw [e] at h; cases h
  | some i =>
    rw [e] at h
    obtain ⟨h1, h2⟩ := List.getElem?_eq_some_iff.mp e
    rw [List.getElem_range] at h2
    subst h2
    rw [List.length_range] at h1
    cases h
    exact ⟨rfl, by omega⟩
theorem rng_len {lo hi : Int} : (rngL lo hi).length = (hi - lo).toNat := by
  unfold rngL
  rw [List.length_map, List.length_range]
theorem int_get {ms : List Int} {j : Nat} {d : D} (h : (ms.map D.int)[j]? = some d) : ∃ m, ms[j]? = some m ∧ d = .int m := by
  rw [List.getElem?_map] at h
  cases e : ms[j]? with
  | none => rw [e] at h; cases h
  | some m => rw [e] at h; cases h; exact ⟨m, rfl, rfl⟩
abbrev cellB : Ss := .cons (.asg (.nm 2) (.bin .mod (.bin .add (.bin .mul (.var 2) (.cst (.int 30011))) (.var 3)) (.cst (.int 1000000007)))) .nil
abbrev body13 : Ss := .cons (.ifs (.cmp .inn (.var 4) (.var 1)) (.cons (.aug 2 .add (.cst (.int 1))) .nil) .nil) (.cons (.ex (.app 3 (.var 2))) .nil)
theorem inn_tup {ms : List Int} {x : Int} : cmpD .inn (.int x) (.tup (ms.map D.int)) = some (decide (x ∈ ms)) := by
  show (if (flat (.int x) && (ms.map D.int).all flat) = true then some (inD (.int x) (ms.map D.int)) else none) = _
  rw [all_flat, in_ints]
  rfl
theorem step13 (Φ : Calls) (n l t : Int) (ms : List Int) (fs : List D) (s4 : Sl) (h4 : s4 = .un ∨ ∃ d, s4 = .fz d) (hf : fs.length < 16777216) : (bnd (asgn Φ (.nm 4) (.int l)) fun _ => execs Φ body13) [.fz (.int n), .fz (.tup (ms.map .int)), .fz (.int t), .ls .own fs, s4] =
    .ok .nx [.fz (.int n), .fz (.tup (ms.map .int)), .fz (.int (t + if l ∈ ms then 1 else 0)), .ls .own (fs ++ [.int (t + if l ∈ ms then 1 else 0)]), .fz (.int l)] := by
  by_cases hl : l ∈ ms <;> rcases h4 with rfl | ⟨d, rfl⟩ <;> simp [inn_tup, hl, hf]
theorem enum_tots {ms : List Int} {n : Int} {j : Nat} {d : D} (h : (enumFrom 0 ((tots ms n).map D.int))[j]? = some d) : d = .tup [.int j, .int (cnt ms ((j : Int) + 1))] ∧ (j : Int) < n := by
  obtain ⟨e, h1, rfl⟩ := enum_getZ (k := 0) h
  obtain ⟨m, h2, rfl⟩ := int_get h1
  unfold tots at h2
  rw [List.getElem?_map] at h2
  cases q : (List.range n.toNat)[j]? with
  | none => rw [q] at h2; cases h2
  | some i =>
    rw [q] at h2
    obtain ⟨a1, a2⟩ := List.getElem?_eq_some_iff.mp q
    rw [List.getElem_range] at a2
    subst a2
    rw [List.length_range] at a1
    cases h2
    exact ⟨rfl, by omega⟩
theorem tots_len {ms : List Int} {n : Int} : (tots ms n).length = n.toNat := by
  unfold tots
  rw [List.length_map, List.length_range]
abbrev body15 : Ss := .cons (.ifs (.cmp .gt (.var 4) (.var 2)) (.cons (.ex (.app 1 (.bin .add (.var 3) (.cst (.int 1))))) .nil) .nil) (.cons (.asg (.nm 2) (.var 4)) .nil)
def Loose (s : Sl) : Prop := s = .un ∨ ∃ d, s = .fz d
theorem step15 (Φ : Calls) (t : D) (fs : List D) (last i c : Int) (s3 s4 : Sl) (h3 : Loose s3) (h4 : Loose s4) (hf : fs.length < 16777216) : (bnd (asgn Φ (.tp (.cons (.nm 3) (.cons (.nm 4) .nil))) (.tup [.int i, .int c])) fun _ => execs Φ body15) [.fz t, .ls .own fs, .fz (.int last), s3, s4] =
    .ok .nx [.fz t, .ls .own (fs ++ if last < c then [.int (i + 1)] else []), .fz (.int c), .fz (.int i), .fz (.int c)] := by
  by_cases hl : last < c <;> rcases h3 with rfl | ⟨d, rfl⟩ <;> rcases h4 with rfl | ⟨d, rfl⟩ <;> simp [hl, hf]
theorem filt_map {ms : List Int} (h : ms.Pairwise (· < ·)) (x : Int) : (ms.filter (fun m => decide (m ≤ x + 1))).map D.int = (ms.filter (fun m => decide (m ≤ x))).map D.int ++ (if cnt ms x < cnt ms (x + 1) then [D.int (x + 1)] else []) := by
  rw [cnt_succ h x, filt_succ h x, List.map_append]
  split
  · rw [if_pos (by omega)]; rfl
  · rw [if_neg (by omega)]; rfl
abbrev inE : DL.E := .comp [3] (.nm 3) (.val (.var 0)) (.some (.cmp .le (.var 3) (.var 2))) (.var 3)
def fIn (x : Int) : D → Option D
  | .int m => if m ≤ x then some (.int m) else none
  | _ => none
def fOut (ms : List Int) : D → Option D
  | .int x => some (.int (cnt ms x))
  | _ => none
theorem inStep (Φ : Calls) (t : D) (n x m : Int) : compStep Φ [3] (.nm 3) (.some (.cmp .le (.var 3) (.var 2))) (.var 3) (.int m) [.fz t, .fz (.int n), .fz (.int x), .un] = .ok (fIn x (.int m)) [.fz t, .fz (.int n), .fz (.int x), .un] := by
  by_cases h : m ≤ x <;> simp [compStep, fIn, h]
theorem fIn_len (x : Int) : ∀ ms : List Int, (((ms.map D.int).filterMap (fIn x)).length : Int) = cnt ms x
  | [] => rfl
  | m :: ms => by
    have ih := fIn_len x ms
    unfold cnt at ih ⊢
    by_cases h : m ≤ x
    · have e : fIn x (.int m) = some (.int m) := if_pos h
      rw [List.map_cons, List.filterMap_cons, e, List.filter_cons, if_pos (decide_eq_true h), List.length_cons]
      show (((ms.map D.int).filterMap (fIn x)).length + 1 : Int) = _
      rw [ih]; rfl
    · have e : fIn x (.int m) = none := if_neg h
      rw [List.map_cons, List.filterMap_cons, e, List.filter_cons, if_neg (by simp; omega)]
      exact ih
theorem inEv (Φ : Calls) {ms : List Int} (hl : ms.length ≤ 1000) (n x : Int) : ev Φ inE [.fz (.tup (ms.map .int)), .fz (.int n), .fz (.int x), .un] = .ok (.fr ((ms.map .int).filterMap (fIn x))) [.fz (.tup (ms.map .int)), .fz (.int n), .fz (.int x), .un] := by
  have e := cmpL_pure (step := compStep Φ [3] (.nm 3) (.some (.cmp .le (.var 3) (.var 2))) (.var 3)) (ρ := [.fz (.tup (ms.map .int)), .fz (.int n), .fz (.int x), .un]) (f := fIn x) (ms.map D.int) [] (by rw [List.length_map, sz_le]; simp; omega) (fun d hd => by
    obtain ⟨m, _, rfl⟩ := List.mem_map.mp hd
    exact inStep Φ _ n x m)
  simp [e]
theorem outStep (Φ : Calls) {ms : List Int} (hl : ms.length ≤ 1000) (n x : Int) : compStep Φ [2] (.nm 2) .none (.bi .len (.cons inE .nil)) (.int x) [.fz (.tup (ms.map .int)), .fz (.int n), .un, .un] = .ok (fOut ms (.int x)) [.fz (.tup (ms.map .int)), .fz (.int n), .un, .un] := by
  have e := inEv Φ hl n x
  have el := fIn_len x ms
  generalize (ms.map D.int).filterMap (fIn x) = ys at e el
  have eo : fOut ms (.int x) = some (.int (cnt ms x)) := rfl
  rw [eo, ← el]
  generalize inE = ie at e ⊢
  simp [compStep, e]
theorem fOut_rng (ms : List Int) (n : Int) : (rngL 1 (n + 1)).filterMap (fOut ms) = (tots ms n).map .int := by
  unfold rngL tots
  rw [show n + 1 - 1 = n from by omega, List.filterMap_map, List.map_map, ← List.filterMap_eq_map]
  refine congrArg (fun f => List.filterMap f (List.range n.toNat)) (funext fun i => ?_)
  show some (D.int (cnt ms (1 + (i : Int)))) = some (D.int (cnt ms ((i : Int) + 1)))
  rw [Int.add_comm]
def tupI (ms : List Int) : D := .tup (ms.map .int)
abbrev subC : DL.E := .comp [3] (.nm 3) (.val (.var 1)) .none (.bin .add (.var 3) (.tup (.cons (.var 2) .nil)))
abbrev body6 : Ss := .cons (.asg (.nm 1) (.bin .add (.var 1) subC)) .nil
def fSub (x : Int) : D → Option D
  | .tup xs => some (.tup (xs ++ [.int x]))
  | _ => none
theorem subStep (Φ : Calls) (n x : Int) (fs xs : List D) (hx : xs.length < 1000) : compStep Φ [3] (.nm 3) .none (.bin .add (.var 3) (.tup (.cons (.var 2) .nil))) (.tup xs) [.fz (.int n), .ls .lck fs, .fz (.int x), .un] = .ok (fSub x (.tup xs)) [.fz (.int n), .ls .lck fs, .fz (.int x), .un] := by
  have h : xs.length + 1 ≤ 16777216 := by omega
  simp [compStep, fSub, h]
theorem fSub_map (x : Int) : ∀ mss : List (List Int), (mss.map tupI).filterMap (fSub x) = (mss.map (· ++ [x])).map tupI
  | [] => rfl
  | ms :: mss => by
    have e : fSub x (tupI ms) = some (tupI (ms ++ [x])) := by
      show some (D.tup (ms.map .int ++ [.int x])) = some (D.tup ((ms ++ [x]).map .int))
      rw [List.map_append]; rfl
    rw [List.map_cons, List.filterMap_cons, e, fSub_map x mss]
    rfl
theorem subBody (Φ : Calls) (n x : Int) (mss : List (List Int)) (hm : ∀ ms ∈ mss, ms.length < 1000) (hl : mss.length < 1000) (s2 : Sl) (h2 : Loose s2) : (bnd (asgn Φ (.nm 2) (.int x)) fun _ => execs Φ body6) [.fz (.int n), .ls .own (mss.map tupI), s2, .un] =
    .ok .nx [.fz (.int n), .ls .own ((mss ++ mss.map (· ++ [x])).map tupI), .fz (.int x), .un] := by
  have e := cmpL_pure (step := compStep Φ [3] (.nm 3) .none (.bin .add (.var 3) (.tup (.cons (.var 2) .nil)))) (ρ := [.fz (.int n), .ls .lck (mss.map tupI), .fz (.int x), .un]) (f := fSub x) (mss.map tupI) [] (by rw [List.length_map, sz_le]; simp; omega) (fun d hd => by
    obtain ⟨ms, h, rfl⟩ := List.mem_map.mp hd
    exact subStep Φ n x _ _ (by rw [List.length_map]; exact hm ms h))
  rw [fSub_map, List.nil_append] at e
  rw [List.map_append]
  have hA : (mss.map tupI).length + ((mss.map (· ++ [x])).map tupI).length ≤ 16777216 := by rw [List.length_map, List.length_map, List.length_map]; omega
  generalize mss.map tupI = A at e hA ⊢
  generalize (mss.map (· ++ [x])).map tupI = B at e hA ⊢
  rcases h2 with rfl | ⟨d, rfl⟩ <;> simp [e, hA]
theorem mk_app {j : Int} {ms : List Int} (h : Mk j ms) (hj : 0 ≤ j) : Mk (j + 1) (ms ++ [j + 1]) := by
  refine ⟨List.pairwise_append.mpr ⟨h.pw, List.pairwise_singleton _ _, fun a ha b hb => ?_⟩, fun m hm => ?_⟩
  · rw [List.mem_singleton] at hb
    have := h.bd a ha
    omega
  · rcases List.mem_append.mp hm with z | z
    · have := h.bd m z; omega
    · rw [List.mem_singleton] at z; omega
theorem mk_up {j n : Int} {ms : List Int} (h : Mk j ms) (hj : j ≤ n) : Mk n ms := ⟨h.pw, fun m hm => by have := h.bd m hm; omega⟩
def rngI (v : Int) : List Int := (List.range v.toNat).map fun (i : Nat) => 1 + (i : Int)
theorem rngI_mk {v n : Int} (h : v ≤ n) : Mk n (rngI v) := by
  refine ⟨?_, fun m hm => ?_⟩
  · unfold rngI
    rw [List.pairwise_map]
    exact List.pairwise_lt_range.imp fun z => by omega
  · unfold rngI at hm
    obtain ⟨i, hi, rfl⟩ := List.mem_map.mp hm
    have := List.mem_range.mp hi
    omega
theorem rngI_rng (v : Int) : rngL 1 (v + 1) = (rngI v).map .int := by
  unfold rngL rngI
  rw [List.map_map, show v + 1 - 1 = v from by omega]
  rfl
theorem sm_ints {ms : List Int} (hl : ms.length ≤ 1000) (hb : ∀ m ∈ ms, -1000000 ≤ m ∧ m ≤ 1000000) : Sm (1000 * (40 + 1)) (0 + 1) (tupI ms) := Sm.tup (by rw [List.length_map]; exact hl) fun d hd => by
  obtain ⟨m, hm, rfl⟩ := List.mem_map.mp hd
  have := hb m hm
  exact Sm.int (by omega) (by omega)
theorem rep2 {d : D} (h : Sm (1000 * (40 + 1)) (0 + 1) d) : biD .repr [.lst [d, d]] = some (.fz (.str (toPy (.lst [d, d])).shown)) :=
  repr_ok (Sm.lst (n := 2) (by simp) fun x hx => by
    have : x = d := by simpa using hx
    rw [this]; exact h) (by decide) (by decide)
theorem bools_rep : ∀ j : Nat, boolsD (List.replicate j (.bl true)) = some (List.replicate j true)
  | 0 => rfl
  | j + 1 => by
    rw [List.replicate_succ, List.replicate_succ]
    show (boolsD (List.replicate j (.bl true))).map (true :: ·) = _
    rw [bools_rep j]; rfl
theorem cut_to (xs : List D) (j : Nat) : cut xs none (some (j : Int)) = xs.take j := by
  unfold cut
  rw [show HT.sIx xs.length xs.length (some (j : Int)) = min j xs.length from HT.sIx_nat xs.length xs.length j, HT.sIx_none, Nat.sub_zero, List.drop_zero]
  rcases Nat.le_total j xs.length with h | h
  · rw [Nat.min_eq_left h]
  · rw [Nat.min_eq_right h, List.take_of_length_le (Nat.le_refl _), List.take_of_length_le h]
theorem cut_from (xs : List D) (j : Nat) : cut xs (some (j : Int)) none = xs.drop j := by
  unfold cut
  rw [show HT.sIx xs.length 0 (some (j : Int)) = min j xs.length from HT.sIx_nat xs.length 0 j, HT.sIx_none]
  rcases Nat.le_total j xs.length with h | h
  · rw [Nat.min_eq_left h]
    exact List.take_of_length_le (by rw [List.length_drop]; omega)
  · rw [Nat.min_eq_right h, Nat.sub_self, List.drop_of_length_le h]
    rfl
theorem ints_of : ∀ ms : List Int, intsD (ms.map D.int) = some ms
  | [] => rfl
  | m :: ms => by
    show (intsD (ms.map D.int)).map (m :: ·) = _
    rw [ints_of ms]; rfl
def fP (p : Int → Bool) : D → Option D
  | .int m => if p m = true then some (.int m) else none
  | _ => none
theorem fP_map (p : Int → Bool) : ∀ ms : List Int, (ms.map D.int).filterMap (fP p) = (ms.filter p).map .int
  | [] => rfl
  | m :: ms => by
    cases h : p m with
    | true =>
      have e : fP p (.int m) = some (.int m) := if_pos h
      rw [List.map_cons, List.filterMap_cons, e, fP_map p ms, List.filter_cons, if_pos h]
      rfl
    | false =>
      have e : fP p (.int m) = none := if_neg (by rw [h]; simp)
      rw [List.map_cons, List.filterMap_cons, e, fP_map p ms, List.filter_cons, if_neg (by rw [h]; simp)]
theorem insI_le {a : Int} : ∀ {r : List Int}, (∀ y ∈ r, a ≤ y) → insI a r = a :: r
  | [], _ => rfl
  | y :: r, h => if_pos (h y (List.mem_cons_self ..))
theorem insI_mem {a y : Int} : ∀ {r : List Int}, y ∈ insI a r → y = a ∨ y ∈ r
  | [], h => by
    rw [show insI a [] = [a] from rfl, List.mem_singleton] at h
    exact .inl h
  | z :: r, h => by
    have h : y ∈ (if a ≤ z then a :: z :: r else z :: insI a r) := h
    split at h
    · rcases List.mem_cons.mp h with h | h
      · exact .inl h
      · exact .inr h
    · rcases List.mem_cons.mp h with h | h
      · exact .inr (by rw [h]; exact List.mem_cons_self ..)
      · rcases insI_mem h with h | h
        · exact .inl h
        · exact .inr (List.mem_cons_of_mem _ h)
theorem sortI_mem {y : Int} : ∀ {r : List Int}, y ∈ sortI r → y ∈ r
  | [], h => h
  | z :: r, h => by
    rcases insI_mem (show y ∈ insI z (sortI r) from h) with h | h
    · rw [h]; exact List.mem_cons_self ..
    · exact List.mem_cons_of_mem _ (sortI_mem h)
theorem sort_app : ∀ {lo r : List Int}, lo.Pairwise (· < ·) → (∀ a ∈ lo, ∀ y ∈ r, a ≤ y) → sortI (lo ++ r) = lo ++ sortI r
  | [], r, _, _ => rfl
  | a :: lo, r, h, hb => by
    obtain ⟨h1, h2⟩ := List.pairwise_cons.mp h
    show insI a (sortI (lo ++ r)) = _
    rw [sort_app h2 fun b hb' => hb b (List.mem_cons_of_mem _ hb')]
    exact insI_le fun y hy => by
      rcases List.mem_append.mp hy with z | z
      · have := h1 y z; omega
      · exact hb a (List.mem_cons_self ..) y (sortI_mem z)
theorem sort_last {x : Int} : ∀ {t : List Int}, t.Pairwise (· < ·) → (∀ a ∈ t, x < a) → sortI (t ++ [x]) = x :: t
  | [], _, _ => rfl
  | a :: t, h, hb => by
    obtain ⟨h1, h2⟩ := List.pairwise_cons.mp h
    show insI a (sortI (t ++ [x])) = _
    rw [sort_last h2 fun b hb' => hb b (List.mem_cons_of_mem _ hb')]
    have hx := hb a (List.mem_cons_self ..)
    show (if a ≤ x then _ else x :: insI a t) = _
    rw [if_neg (by omega), insI_le fun y hy => by have := h1 y hy; omega]
structure At2 (x : Int) (lo hi : List Int) : Prop where
  llo : ∀ m ∈ lo, m < x
  lhi : ∀ m ∈ hi, x ≤ m
  len : lo.length + hi.length ≤ 1000
variable {x : Int} {lo hi : List Int}
theorem At2.flt (h : At2 x lo hi) : (lo ++ hi).filter (fun m => decide (m < x)) = lo := by
  rw [List.filter_append, List.filter_eq_self.mpr fun m hm => decide_eq_true (h.llo m hm), List.filter_eq_nil_iff.mpr fun m hm => by have := h.lhi m hm; simp; omega, List.append_nil]
theorem At2.fge (h : At2 x lo hi) : (lo ++ hi).filter (fun m => decide (x ≤ m)) = hi := by
  rw [List.filter_append, List.filter_eq_self.mpr fun m hm => decide_eq_true (h.lhi m hm), List.filter_eq_nil_iff.mpr fun m hm => by have := h.llo m hm; simp; omega, List.nil_append]
theorem split_at2 {n : Int} {ms : List Int} (h : Mk n ms) (hl : ms.length ≤ 1000) (x : Int) : ∃ lo hi, ms = lo ++ hi ∧ At2 x lo hi := by
  have key : ∀ l : List Int, l.Pairwise (· < ·) → l = l.filter (fun m => decide (m < x)) ++ l.filter (fun m => decide (x ≤ m)) := fun l => by
    induction l with
    | nil => intro _; rfl
    | cons a l ih =>
      intro hp
      obtain ⟨h1, h2⟩ := List.pairwise_cons.mp hp
      by_cases c : a < x
      · have c2 : ¬ x ≤ a := by omega
        rw [List.filter_cons, List.filter_cons, if_pos (decide_eq_true c), if_neg (by simp; omega), List.cons_append, ← ih h2]
      · have e0 : l.filter (fun m => decide (m < x)) = [] := List.filter_eq_nil_iff.mpr fun m hm => by have := h1 m hm; simp; omega
        have e1 : l.filter (fun m => decide (x ≤ m)) = l := List.filter_eq_self.mpr fun m hm => decide_eq_true (by have := h1 m hm; omega)
        rw [List.filter_cons, List.filter_cons, if_neg (by simp; omega), if_pos (decide_eq_true (by omega)), e0, e1]
        rfl
  have e := key ms h.pw
  refine ⟨_, _, e, fun m hm => of_decide_eq_true (List.mem_filter.mp hm).2, fun m hm => of_decide_eq_true (List.mem_filter.mp hm).2, ?_⟩
  rw [← List.length_append, ← e]
  exact hl
abbrev ltC : DL.E := .comp [2] (.nm 2) (.val (.var 0)) (.some (.cmp .lt (.var 2) (.var 1))) (.var 2)
theorem ltStep (Φ : Calls) (t : D) (x m : Int) : compStep Φ [2] (.nm 2) (.some (.cmp .lt (.var 2) (.var 1))) (.var 2) (.int m) [.fz t, .fz (.int x), .un] = .ok (fP (fun m => decide (m < x)) (.int m)) [.fz t, .fz (.int x), .un] := by
  by_cases h : m < x <;> simp [compStep, fP, h]
abbrev geE : DL.E := .comp [3] (.nm 3) (.val (.var 0)) (.some (.cmp .ge (.var 3) (.var 1))) (.var 3)
theorem geStep (Φ : Calls) (t : D) (s2 : Sl) (x m : Int) : compStep Φ [3] (.nm 3) (.some (.cmp .ge (.var 3) (.var 1))) (.var 3) (.int m) [.fz t, .fz (.int x), s2, .un] = .ok (fP (fun m => decide (x ≤ m)) (.int m)) [.fz t, .fz (.int x), s2, .un] := by
  by_cases h : x ≤ m <;> simp [compStep, fP, h]
theorem geEv (Φ : Calls) (h : At2 x lo hi) (s2 : Sl) : ev Φ geE [.fz (tupI (lo ++ hi)), .fz (.int x), s2, .un] = .ok (.fr (hi.map .int)) [.fz (tupI (lo ++ hi)), .fz (.int x), s2, .un] := by
  have e := cmpL_pure (step := compStep Φ [3] (.nm 3) (.some (.cmp .ge (.var 3) (.var 1))) (.var 3)) (ρ := [.fz (tupI (lo ++ hi)), .fz (.int x), s2, .un]) (f := fP (fun m => decide (x ≤ m))) ((lo ++ hi).map D.int) [] (by have := h.len; rw [List.length_map, List.length_append, sz_le]; simp; omega) (fun d hd => by
    obtain ⟨m, _, rfl⟩ := List.mem_map.mp hd
    exact geStep _ _ s2 x m)
  rw [fP_map, h.fge, List.nil_append] at e
  unfold tupI at e ⊢
  generalize (lo ++ hi).map D.int = A at e ⊢
  simp [e]
theorem ninC {ns : List Int} {m : Int} : cmpD .nin (.int m) (.lst (ns.map D.int)) = some (!decide (m ∈ ns)) := by
  show (if ((flat (.int m) && (ns.map D.int).all flat) || (shapedD (.int m) && shapedD (.lst (ns.map D.int)))) = true then some (!inD (.int m) (ns.map D.int)) else none) = _
  rw [all_flat, in_ints]
  rfl
theorem ninStep (Φ : Calls) (t : D) (x m : Int) (ns : List Int) : compStep Φ [3] (.nm 3) (.some (.cmp .nin (.var 3) (.var 2))) (.var 3) (.int m) [.fz t, .fz (.int x), .ls .own (ns.map .int), .un] = .ok (fP (fun m => !decide (m ∈ ns)) (.int m)) [.fz t, .fz (.int x), .ls .own (ns.map .int), .un] := by
  by_cases h : m ∈ ns <;> simp [compStep, fP, ninC, h]
theorem filt_nin {n : Int} (hm : Mk n (lo ++ hi)) (h : At2 x lo hi) : (lo ++ hi).filter (fun m => !decide (m ∈ hi.take 1)) = lo ++ hi.tail := by
  have hp := List.pairwise_append.mp hm.pw
  rw [List.filter_append, List.filter_eq_self.mpr fun m hm' => ?_]
  · congr 1
    cases hi with
    | nil => rfl
    | cons y hi =>
      obtain ⟨h1, h2⟩ := List.pairwise_cons.mp hp.2.1
      rw [List.filter_cons, if_neg (by simp), List.tail_cons]
      refine List.filter_eq_self.mpr fun m hm' => ?_
      have := h1 m hm'
      simp
      omega
  · have h3 : m ∉ hi.take 1 := fun z => by
      have := hp.2.2 m hm' m (List.mem_of_mem_take z)
      omega
    simp [h3]
theorem mk_new {n : Int} (hm : Mk n (lo ++ hi)) (h : At2 x lo hi) (hx : 1 ≤ x) (hx2 : x ≤ n) (hn : n ≤ 12) : Mk n (lo ++ x :: hi.tail) ∧ At2 x lo (x :: hi.tail) ∧ ∀ m ∈ hi.tail, x < m := by
  have hp := List.pairwise_append.mp hm.pw
  have ht : ∀ m ∈ hi.tail, x < m := fun m hm' => by
    cases hi with
    | nil => cases hm'
    | cons y hi =>
      have := (List.pairwise_cons.mp hp.2.1).1 m hm'
      have := h.lhi y (List.mem_cons_self ..)
      omega
  refine ⟨⟨List.pairwise_append.mpr ⟨hp.1, List.pairwise_cons.mpr ⟨ht, hp.2.1.sublist (List.tail_sublist _)⟩, fun a ha b hb => ?_⟩, fun m hm' => ?_⟩, ⟨h.llo, fun m hm' => ?_, ?_⟩, ht⟩
  · have := h.llo a ha
    rcases List.mem_cons.mp hb with rfl | hb
    · exact this
    · have := ht b hb; omega
  · rcases List.mem_append.mp hm' with z | z
    · exact hm.bd m (List.mem_append.mpr (.inl z))
    · rcases List.mem_cons.mp z with rfl | z
      · exact ⟨hx, hx2⟩
      · exact hm.bd m (List.mem_append.mpr (.inr (List.mem_of_mem_tail z)))
  · rcases List.mem_cons.mp hm' with rfl | z
    · exact Int.le_refl _
    · exact Int.le_of_lt (ht m z)
  · have := h.len
    have hln : ((lo ++ hi).length : Int) ≤ n := mk_len hm (by omega)
    rw [List.length_cons, List.length_tail]
    rw [List.length_append] at hln
    omega
theorem rep3 {w : Nat} {h : Nat} {ds : List D} (hl : ds.length ≤ 3) (hs : ∀ d ∈ ds, Sm w h d) (hw : 3 * (w + 1) ≤ 1048576) (hh : h + 1 ≤ 64) : biD .repr [.lst ds] = some (.fz (.str (toPy (.lst ds)).shown)) :=
  repr_ok (Sm.lst (n := 3) hl hs) hw hh
theorem bools_const : ∀ xs : List D, boolsD (xs.filterMap fun _ => some (D.bl true)) = some (List.replicate xs.length true)
  | [] => rfl
  | x :: xs => by
    show (boolsD (xs.filterMap fun _ => some (D.bl true))).map (true :: ·) = _
    rw [bools_const xs]; rfl
def byT : List Int → Int → Int → List Int
  | [], _, _ => []
  | t :: r, last, i => (if last < t then [i + 1] else []) ++ byT r t (i + 1)
theorem loopT (Φ : Calls) (t : D) : ∀ (T : List Int) (j : Nat) (last : Int) (fs : List D) (s3 s4 : Sl), Loose s3 → Loose s4 → fs.length + T.length < 16777216 → ∃ last' s3' s4', forL (fun x => bnd (asgn Φ (.tp (.cons (.nm 3) (.cons (.nm 4) .nil))) x) fun _ => execs Φ body15) (enumFrom j (T.map .int)) [.fz t, .ls .own fs, .fz (.int last), s3, s4] =
    .ok .nx [.fz t, .ls .own (fs ++ (byT T last j).map .int), .fz (.int last'), s3', s4']
  | [], j, last, fs, s3, s4, _, _, _ => ⟨last, s3, s4, by
    show Out.ok Fl.nx _ = _
    rw [show (byT [] last j).map D.int = [] from rfl, List.append_nil]⟩
  | c :: T, j, last, fs, s3, s4, h3, h4, hl => by
    rw [List.length_cons] at hl
    have e := step15 Φ t fs last j c s3 s4 h3 h4 (by omega)
    have hl2 : (fs ++ if last < c then [D.int ((j : Int) + 1)] else []).length + T.length < 16777216 := by
      rw [List.length_append]
      split
      · simp; omega
      · simp; omega
    obtain ⟨last', s3', s4', ih⟩ := loopT Φ t T (j + 1) c (fs ++ if last < c then [D.int ((j : Int) + 1)] else []) (.fz (.int j)) (.fz (.int c)) (.inr ⟨_, rfl⟩) (.inr ⟨_, rfl⟩) hl2
    refine ⟨last', s3', s4', ?_⟩
    show ((bnd (asgn Φ (.tp (.cons (.nm 3) (.cons (.nm 4) .nil))) (.tup [.int (j : Nat), .int c])) fun _ => execs Φ body15) [.fz t, .ls .own fs, .fz (.int last), s3, s4]).then _ = _
    rw [e]
    refine ih.trans ?_
    have eb : (byT (c :: T) last j).map D.int = (if last < c then [D.int ((j : Int) + 1)] else []) ++ (byT T c ((j + 1 : Nat) : Int)).map D.int := by
      show ((if last < c then [(j : Int) + 1] else []) ++ byT T c ((j : Int) + 1)).map D.int = _
      rw [List.map_append]
      split <;> rfl
    rw [eb, List.append_assoc]
theorem at_nat {T : List Int} {k : Nat} {u : Int} (h : T[k]? = some u) : atI (T.map D.int) (k : Int) = some (.int u) := by
  have hk := (List.getElem?_eq_some_iff.mp h).1
  rw [x_atI, x_ixN, if_pos (by omega), if_pos (by rw [List.length_map]; omega)]
  show (T.map D.int)[(k : Int).toNat]? = _
  rw [Int.toNat_natCast, List.getElem?_map, h]
  rfl
def gT (T : List Int) (k : Nat) : Option Int := match (0 :: T)[k]?, T[k]? with
  | some v, some u => if v < u then some ((k : Int) + 1) else none
  | _, _ => none
theorem gT_by (T : List Int) : ∀ (suf : List Int) (j : Nat) (last : Int), (∀ i, T[j + i]? = suf[i]?) → (0 :: T)[j]? = some last → (List.range' j suf.length).filterMap (gT T) = byT suf last j
  | [], _, _, _, _ => rfl
  | c :: suf, j, last, h, hl => by
    have h0 : T[j]? = some c := h 0
    have ih := gT_by T suf (j + 1) c (fun i => by have := h (i + 1); rw [Nat.add_right_comm, Nat.add_assoc]; exact this) (by show T[j]? = _; exact h0)
    have eg : gT T j = if last < c then some ((j : Int) + 1) else none := by
      unfold gT
      rw [hl, h0]
    rw [List.length_cons, List.range'_succ, List.filterMap_cons, eg, ih]
    show _ = (if last < c then [(j : Int) + 1] else []) ++ byT suf c ((j : Int) + 1)
    split <;> (rename_i q; split at q <;> (first | cases q | skip))
    all_goals (first | rfl | simp_all)
abbrev byC : Eo := .some (.cmp .gt (.idx (.var 0) (.var 1)) (.idx (.bin .add (.lst (.cons (.cst (.int 0)) .nil)) (.var 0)) (.var 1)))
def fT (T : List Int) : D → Option D
  | .int z => (gT T z.toNat).map .int
  | _ => none
theorem byStep (Φ : Calls) (A : List D) (z u v : Int) (h1 : atI A z = some (.int u)) (h2 : atI (.int 0 :: A) z = some (.int v)) (hl : A.length ≤ 1000) : compStep Φ [1] (.nm 1) byC (.bin .add (.var 1) (.cst (.int 1))) (.int z) [.fz (.lst A), .un] = .ok (if v < u then some (.int (z + 1)) else none) [.fz (.lst A), .un] := by
  have h3 : A.length + 1 ≤ 16777216 := by omega
  have h4 : 1 + A.length ≤ 16777216 := by omega
  by_cases h : v < u <;> simp [compStep, h1, h2, h, h3, h4, -x_atI, -x_ixN]
theorem fT_rng (T : List Int) : (rngL 0 T.length).filterMap (fT T) = (byT T 0 0).map .int := by
  have h := gT_by T T 0 0 (fun i => by rw [Nat.zero_add]) rfl
  rw [show ((0 : Nat) : Int) = 0 from rfl] at h
  rw [← h]
  unfold rngL
  rw [List.filterMap_map, List.map_filterMap, ← List.range_eq_range', show ((T.length : Int) - 0).toNat = T.length from by omega]
  refine congrArg (fun f => List.filterMap f (List.range T.length)) (funext fun i => ?_)
  show (gT T ((0 : Int) + (i : Int)).toNat).map D.int = _
  rw [Int.zero_add, Int.toNat_natCast]
def mx (i j : Int) : Int := if j > i then j else i
def mn (i j : Int) : Int := if j < i then j else i
def fZ (g : Int → Int → Int) : D → Option D
  | .tup [.int u, .int l] => some (.int (g u l))
  | _ => none
theorem fZ_zip (g : Int → Int → Int) : ∀ U L : List Int, (zipD (U.map .int) (L.map .int)).filterMap (fZ g) = (List.zipWith g U L).map .int
  | [], _ => rfl
  | _ :: _, [] => rfl
  | u :: U, l :: L => by
    rw [show zipD ((u :: U).map .int) ((l :: L).map .int) = .tup [.int u, .int l] :: zipD (U.map .int) (L.map .int) from rfl, List.filterMap_cons]
    show D.int (g u l) :: (zipD (U.map .int) (L.map .int)).filterMap (fZ g) = _
    rw [fZ_zip g U L]; rfl
theorem zip_mem : ∀ {U L : List Int} {d : D}, d ∈ zipD (U.map .int) (L.map .int) → ∃ u l, d = .tup [.int u, .int l]
  | [], _, _, h => by cases h
  | _ :: _, [], _, h => by cases h
  | u :: U, l :: L, d, h => by
    rcases List.mem_cons.mp (show d ∈ D.tup [.int u, .int l] :: zipD (U.map .int) (L.map .int) from h) with h | h
    · exact ⟨u, l, h⟩
    · exact zip_mem h
theorem mxStep (Φ : Calls) (a b c u0 l0 : D) (u l : Int) : compStep Φ [5, 6] (.tp (.cons (.nm 5) (.cons (.nm 6) .nil))) .none (.bi .max2 (.cons (.var 5) (.cons (.var 6) .nil))) (.tup [.int u, .int l]) [.fz a, .fz b, .fz c, .fz u0, .fz l0, .un, .un] = .ok (some (.int (mx u l))) [.fz a, .fz b, .fz c, .fz u0, .fz l0, .un, .un] := by
  simp [compStep, mx]
theorem mnStep (Φ : Calls) (a b c u0 l0 : D) (u l : Int) : compStep Φ [5, 6] (.tp (.cons (.nm 5) (.cons (.nm 6) .nil))) .none (.bi .min2 (.cons (.var 5) (.cons (.var 6) .nil))) (.tup [.int u, .int l]) [.fz a, .fz b, .fz c, .fz u0, .fz l0, .un, .un] = .ok (some (.int (mn u l))) [.fz a, .fz b, .fz c, .fz u0, .fz l0, .un, .un] := by
  simp [compStep, mn]
theorem mx_comm (a b : Int) : mx a b = mx b a := by unfold mx; split <;> split <;> omega
theorem mn_comm (a b : Int) : mn a b = mn b a := by unfold mn; split <;> split <;> omega
theorem zw_comm (g : Int → Int → Int) (hg : ∀ a b, g a b = g b a) : ∀ U L : List Int, List.zipWith g U L = List.zipWith g L U
  | [], [] => rfl
  | [], _ :: _ => rfl
  | _ :: _, [] => rfl
  | u :: U, l :: L => by rw [List.zipWith_cons_cons, List.zipWith_cons_cons, hg u l, zw_comm g hg U L]
def fX (g : Int → Int → Int) (U L : List Int) : D → Option D
  | .int z => match U[z.toNat]?, L[z.toNat]? with
    | some u, some l => some (.int (g u l))
    | _, _ => none
  | _ => none
theorem fX_rng (g : Int → Int → Int) {U L : List Int} {n : Int} (hU : U.length = n.toNat) (hL : L.length = n.toNat) : (rngL 0 n).filterMap (fX g U L) = (List.zipWith g U L).map .int := by
  have key : ∀ (U' L' : List Int) (j : Nat), U'.length = L'.length → (∀ i, U[j + i]? = U'[i]?) → (∀ i, L[j + i]? = L'[i]?) → (List.range' j U'.length).filterMap (fun i : Nat => fX g U L (.int (0 + (i : Int)))) = (List.zipWith g U' L').map .int := by
    intro U'
    induction U' with
    | nil => intro L' j h _ _; cases L' with
      | nil => rfl
      | cons _ _ => cases h
    | cons u U' ih =>
      intro L' j h h1 h2
      cases L' with
      | nil => cases h
      | cons l L' =>
        have e1 : U[j]? = some u := h1 0
        have e2 : L[j]? = some l := h2 0
        have ef : fX g U L (.int (0 + (j : Int))) = some (.int (g u l)) := by
          show (match U[(0 + (j : Int)).toNat]?, L[(0 + (j : Int)).toNat]? with | some u, some l => some (D.int (g u l)) | _, _ => none) = _
          rw [Int.zero_add, Int.toNat_natCast, e1, e2]
        rw [List.length_cons, List.range'_succ, List.filterMap_cons, ef, List.zipWith_cons_cons, List.map_cons]
        show D.int (g u l) :: _ = _
        rw [ih L' (j + 1) (Nat.succ.inj h) (fun i => by have := h1 (i + 1); rw [Nat.add_right_comm, Nat.add_assoc]; exact this) (fun i => by have := h2 (i + 1); rw [Nat.add_right_comm, Nat.add_assoc]; exact this)]
  have e := key U L 0 (hU.trans hL.symm) (fun i => by rw [Nat.zero_add]) (fun i => by rw [Nat.zero_add])
  unfold rngL
  rw [List.filterMap_map, show (n - 0).toNat = U.length from by rw [hU]; congr 1; omega, List.range_eq_range']
  exact e
abbrev mxE : DL.E := .bi .max2 (.cons (.idx (.var 3) (.var 8)) (.cons (.idx (.var 4) (.var 8)) .nil))
abbrev mnE : DL.E := .bi .min2 (.cons (.idx (.var 3) (.var 8)) (.cons (.idx (.var 4) (.var 8)) .nil))
theorem xStep (Φ : Calls) (a b : D) (n : Int) (U L : List D) (s5 : Sl) (z u l : Int) (h1 : atI U z = some (.int u)) (h2 : atI L z = some (.int l)) : compStep Φ [8] (.nm 8) .none mxE (.int z) [.fz a, .fz b, .fz (.int n), .fz (.tup U), .fz (.tup L), s5, .un, .un, .un] = .ok (some (.int (mx u l))) [.fz a, .fz b, .fz (.int n), .fz (.tup U), .fz (.tup L), s5, .un, .un, .un] := by
  simp [compStep, mx, h1, h2, -x_atI, -x_ixN]
theorem nStep (Φ : Calls) (a b : D) (n : Int) (U L : List D) (s5 : Sl) (z u l : Int) (h1 : atI U z = some (.int u)) (h2 : atI L z = some (.int l)) : compStep Φ [8] (.nm 8) .none mnE (.int z) [.fz a, .fz b, .fz (.int n), .fz (.tup U), .fz (.tup L), s5, .un, .un, .un] = .ok (some (.int (mn u l))) [.fz a, .fz b, .fz (.int n), .fz (.tup U), .fz (.tup L), s5, .un, .un, .un] := by
  simp [compStep, mn, h1, h2, -x_atI, -x_ixN]
theorem xEv (Φ : Calls) (a b : D) {n : Int} {U L : List Int} (s5 : Sl) (hU : U.length = n.toNat) (hL : L.length = n.toNat) (hn : 0 ≤ n) (hn2 : n ≤ 12) (E : DL.E) (g : Int → Int → Int)
    (st : ∀ z u l : Int, atI (U.map D.int) z = some (.int u) → atI (L.map D.int) z = some (.int l) → compStep Φ [8] (.nm 8) .none E (.int z) [.fz a, .fz b, .fz (.int n), .fz (.tup (U.map .int)), .fz (.tup (L.map .int)), s5, .un, .un, .un] = .ok (some (.int (g u l))) [.fz a, .fz b, .fz (.int n), .fz (.tup (U.map .int)), .fz (.tup (L.map .int)), s5, .un, .un, .un]) :
    ev Φ (.comp [8] (.nm 8) (.rng1 (.var 2)) .none E) [.fz a, .fz b, .fz (.int n), .fz (.tup (U.map .int)), .fz (.tup (L.map .int)), s5, .un, .un, .un] = .ok (.fr ((List.zipWith g U L).map .int)) [.fz a, .fz b, .fz (.int n), .fz (.tup (U.map .int)), .fz (.tup (L.map .int)), s5, .un, .un, .un] := by
  have e := cmpL_pure (step := compStep Φ [8] (.nm 8) .none E) (ρ := [.fz a, .fz b, .fz (.int n), .fz (.tup (U.map .int)), .fz (.tup (L.map .int)), s5, .un, .un, .un]) (f := fX g U L) (rngL 0 n) [] (by rw [rng_len, sz_le]; simp; omega) (fun d hd => by
    obtain ⟨j, hj⟩ := List.getElem?_of_mem hd
    obtain ⟨rfl, hj⟩ := rng_get hj
    rw [Int.zero_add]
    have j1 : U[j]? = some (U[j]'(by omega)) := List.getElem?_eq_getElem _
    have j2 : L[j]? = some (L[j]'(by omega)) := List.getElem?_eq_getElem _
    rw [st _ _ _ (at_nat j1) (at_nat j2)]
    show _ = Out.ok (match U[(j : Int).toNat]?, L[(j : Int).toNat]? with | some u, some l => some (D.int (g u l)) | _, _ => none) _
    rw [Int.toNat_natCast, j1, j2])
  rw [fX_rng g hU hL, List.nil_append] at e
  have i1 : DL.small62 n = true := s62 (by omega) (by omega)
  generalize (List.zipWith g U L).map D.int = Z at e ⊢
  generalize U.map D.int = U' at e ⊢
  generalize L.map D.int = L' at e ⊢
  simp [i1, e]
theorem by_bd : ∀ (T : List Int) (last i : Int), 0 ≤ i → i + T.length ≤ 1000 → (byT T last i).length ≤ T.length ∧ ∀ m ∈ byT T last i, -1000000 ≤ m ∧ m ≤ 1000000
  | [], _, _, _, _ => ⟨Nat.le_refl _, fun _ h => nomatch h⟩
  | t :: T, last, i, h0, h1 => by
    rw [List.length_cons] at h1
    obtain ⟨a, b⟩ := by_bd T t (i + 1) (by omega) (by omega)
    show ((if last < t then [i + 1] else []) ++ byT T t (i + 1)).length ≤ _ ∧ ∀ m ∈ (if last < t then [i + 1] else []) ++ byT T t (i + 1), _
    split
    · refine ⟨by simp; omega, fun m hm => ?_⟩
      rcases List.mem_append.mp hm with z | z
      · rw [List.mem_singleton] at z; omega
      · exact b m z
    · refine ⟨by simp; omega, fun m hm => b m (by simpa using hm)⟩
theorem sm_by {T : List Int} (h : T.length ≤ 100) : Sm (1000 * (40 + 1)) (0 + 1) (tupI (byT T 0 0)) := by
  obtain ⟨a, b⟩ := by_bd T 0 0 (by omega) (by omega)
  exact sm_ints (by omega) b
theorem rep6 {w h : Nat} {X N : D} (hX : Sm w h X) (hN : Sm w h N) (hw : 6 * (w + 1) ≤ 1048576) (hh : h + 1 ≤ 64) : biD .repr [.lst [X, X, X, N, N, N]] = some (.fz (.str (toPy (.lst [X, X, X, N, N, N])).shown)) :=
  repr_ok (Sm.lst (n := 6) (by simp) fun d hd => by
    have : d = X ∨ d = N := by simpa using hd
    rcases this with rfl | rfl
    · exact hX
    · exact hN) hw hh
end DL

end

section
set_option autoImplicit false
/-! DLgb: loops over mapped lists; racks; trees of parts. -/
namespace DL
open PySem L2
/-! ### loops -/
section
variable {P : Type} {g : P → D}
theorem forL_map {step : D → M Fl} (g : P → D) (I : List P → Ev → Prop) : ∀ (ps done : List P) (ρ : Ev), I done ρ → (∀ (d : List P) (p : P) (ρ : Ev), p ∈ ps → I d ρ → ∃ ρ', (step (g p) ρ = .ok .nx ρ' ∨ step (g p) ρ = .ok .ct ρ') ∧ I (d ++ [p]) ρ') →
    ∃ ρ', forL step (ps.map g) ρ = .ok .nx ρ' ∧ I (done ++ ps) ρ'
  | [], done, ρ, h, _ => ⟨ρ, rfl, by rw [List.append_nil]; exact h⟩
  | p :: ps, done, ρ, h, hs => by
    obtain ⟨ρ1, e, h1⟩ := hs done p ρ (List.mem_cons_self ..) h
    obtain ⟨ρ2, e2, h2⟩ := forL_map g I ps (done ++ [p]) ρ1 h1 fun d q ρ hq hI => hs d q ρ (List.mem_cons_of_mem _ hq) hI
    refine ⟨ρ2, ?_, by rw [List.append_assoc] at h2; exact h2⟩
    show (step (g p) ρ).then _ = _
    rcases e with e | e <;> (rw [e]; exact e2)
theorem cmpL_map {step : D → M (Option D)} {ρ : Ev} {f : P → Option D} : ∀ (ps : List P) (acc : List D), acc.length + ps.length ≤ sizeLine → (∀ p ∈ ps, step (g p) ρ = .ok (f p) ρ) → cmpL step (ps.map g) acc ρ = .ok (acc ++ ps.filterMap f) ρ
  | [], acc, _, _ => by rw [List.filterMap_nil, List.append_nil]; rfl
  | p :: ps, acc, hl, hs => by
    rw [List.length_cons] at hl
    have e := hs p (List.mem_cons_self ..)
    show (step (g p) ρ).then _ = _
    rw [e, List.filterMap_cons]
    cases q : f p with
    | none => exact cmpL_map ps acc (by omega) fun d h => hs d (List.mem_cons_of_mem _ h)
    | some y =>
      show (if acc.length < sizeLine then cmpL step (ps.map g) (acc ++ [y]) else stuck) ρ = _
      rw [if_pos (by omega)]
      refine (cmpL_map ps (acc ++ [y]) (by rw [List.length_append, List.length_singleton]; omega) fun d h => hs d (List.mem_cons_of_mem _ h)).trans ?_
      rw [List.append_assoc]
      rfl
end
/-! ### racks -/
def putR (x : Int) (ms : List Int) : List Int := ms.filter (fun m => decide (m < x)) ++ x :: (ms.filter (fun m => decide (x ≤ m))).tail
theorem split_put {n : Int} {ms : List Int} (h : Mk n ms) (hl : ms.length ≤ 1000) (x : Int) : ∃ lo hi, ms = lo ++ hi ∧ At2 x lo hi ∧ putR x ms = lo ++ x :: hi.tail := by
  obtain ⟨lo, hi, rfl, a⟩ := split_at2 h hl x
  exact ⟨lo, hi, rfl, a, by unfold putR; rw [a.flt, a.fge]⟩
theorem mk_put {n x : Int} {ms : List Int} (h : Mk n ms) (hn : n ≤ 12) (h1 : 1 ≤ x) (h2 : x ≤ n) : Mk n (putR x ms) := by
  have hl : ms.length ≤ 1000 := by have := mk_len h (by omega); omega
  obtain ⟨lo, hi, rfl, a, e⟩ := split_put h hl x
  rw [e]
  exact (mk_new h a h1 h2 hn).1
theorem mk_nil {n : Int} : Mk n [] := ⟨.nil, fun _ z => nomatch z⟩
/-! ### parts -/
inductive Pt where
  | lv (i : Int)
  | pr (ps : List Pt) (t : Int)
mutual
def dP : Pt → D
  | .lv i => .int i
  | .pr ps t => .tup [.tup (dPs ps), .int t]
def dPs : List Pt → List D
  | [] => []
  | p :: ps => dP p :: dPs ps
end
theorem dPs_map : ∀ ps : List Pt, dPs ps = ps.map dP
  | [] => by simp [dPs]
  | p :: ps => by rw [dPs, dPs_map ps]; rfl
theorem dPs_app (ps qs : List Pt) : dPs (ps ++ qs) = dPs ps ++ dPs qs := by rw [dPs_map, dPs_map, dPs_map, List.map_append]
theorem dPs_len (ps : List Pt) : (dPs ps).length = ps.length := by rw [dPs_map, List.length_map]
/-- the size -/
def szP : Pt → Nat
  | .lv _ => 1
  | .pr ps _ => 1 + (ps.map szP).sum
def szPs (ps : List Pt) : Nat := (ps.map szP).sum
theorem szP_lv (i : Int) : szP (.lv i) = 1 := by unfold szP; rfl
theorem szP_pr (ps : List Pt) (t : Int) : szP (.pr ps t) = 1 + szPs ps := by unfold szP szPs; rfl
theorem szPs_nil : szPs [] = 0 := rfl
theorem szPs_cons (p : Pt) (ps : List Pt) : szPs (p :: ps) = szP p + szPs ps := by unfold szPs; rw [List.map_cons, List.sum_cons]
theorem szPs_app (ps qs : List Pt) : szPs (ps ++ qs) = szPs ps + szPs qs := by unfold szPs; rw [List.map_append, List.sum_append]
theorem szP_pos (p : Pt) : 1 ≤ szP p := by
  cases p with
  | lv i => rw [szP_lv]; exact Nat.le_refl _
  | pr ps t => rw [szP_pr]; omega
theorem len_sz (ps : List Pt) : ps.length ≤ szPs ps := by
  induction ps with
  | nil => exact Nat.le_refl _
  | cons p ps ih => rw [szPs_cons, List.length_cons]; have := szP_pos p; omega
/-- the depth -/
def maxN : List Nat → Nat
  | [] => 1
  | x :: xs => max x (maxN xs)
def dpP : Pt → Nat
  | .lv _ => 1
  | .pr ps _ => maxN (ps.map dpP) + 1
def dpPs (ps : List Pt) : Nat := maxN (ps.map dpP)
theorem dpP_lv (i : Int) : dpP (.lv i) = 1 := by unfold dpP; rfl
theorem dpP_pr (ps : List Pt) (t : Int) : dpP (.pr ps t) = dpPs ps + 1 := by unfold dpP dpPs; rfl
theorem dpPs_nil : dpPs [] = 1 := rfl
theorem dpPs_cons (p : Pt) (ps : List Pt) : dpPs (p :: ps) = max (dpP p) (dpPs ps) := by unfold dpPs; rw [List.map_cons]; rfl
theorem dpPs_pos (ps : List Pt) : 1 ≤ dpPs ps := by
  induction ps with
  | nil => exact Nat.le_refl _
  | cons p ps ih => rw [dpPs_cons]; omega
theorem dp_mem {p : Pt} {ps : List Pt} (h : p ∈ ps) : dpP p ≤ dpPs ps := by
  induction ps with
  | nil => cases h
  | cons q ps ih =>
    rw [dpPs_cons]
    rcases List.mem_cons.mp h with e | h
    · subst e; omega
    · have := ih h; omega
theorem dp_le {ps : List Pt} {d : Nat} (h1 : 1 ≤ d) (h : ∀ p ∈ ps, dpP p ≤ d) : dpPs ps ≤ d := by
  induction ps with
  | nil => exact h1
  | cons q ps ih =>
    rw [dpPs_cons]
    have := h q (List.mem_cons_self ..)
    have := ih fun p hp => h p (List.mem_cons_of_mem _ hp)
    omega
/-- levels from 1 to n, times from 1 to m -/
inductive OkP (n m : Int) : Pt → Prop
  | lv {i : Int} : 1 ≤ i → i ≤ n → OkP n m (.lv i)
  | pr {ps : List Pt} {t : Int} : (∀ p ∈ ps, OkP n m p) → 1 ≤ t → t ≤ m → OkP n m (.pr ps t)
abbrev OkPs (n m : Int) (ps : List Pt) : Prop := ∀ p ∈ ps, OkP n m p
theorem OkPs.app {n m : Int} {ps qs : List Pt} (h1 : OkPs n m ps) (h2 : OkPs n m qs) : OkPs n m (ps ++ qs) := fun p hp => (List.mem_append.mp hp).elim (h1 p) (h2 p)
theorem OkPs.one {n m : Int} {p : Pt} (h : OkP n m p) : OkPs n m [p] := fun q hq => by rw [List.mem_singleton] at hq; subst hq; exact h
/-- the length -/
def lnP : Pt → Int
  | .lv _ => 1
  | .pr ps t => (ps.map lnP).sum * t
def lnPs (ps : List Pt) : Int := (ps.map lnP).sum
theorem lnP_lv (i : Int) : lnP (.lv i) = 1 := by unfold lnP; rfl
theorem lnP_pr (ps : List Pt) (t : Int) : lnP (.pr ps t) = lnPs ps * t := by unfold lnP lnPs; rfl
theorem lnPs_nil : lnPs [] = 0 := rfl
theorem lnPs_cons (p : Pt) (ps : List Pt) : lnPs (p :: ps) = lnP p + lnPs ps := by unfold lnPs; rw [List.map_cons, List.sum_cons]
theorem lnPs_app (ps qs : List Pt) : lnPs (ps ++ qs) = lnPs ps + lnPs qs := by unfold lnPs; rw [List.map_append, List.sum_append]
/-- the levels that the parts stand for -/
def exP : Pt → List Int
  | .lv i => [i]
  | .pr ps t => (List.replicate t.toNat (ps.map exP).flatten).flatten
def exPs (ps : List Pt) : List Int := (ps.map exP).flatten
theorem exP_lv (i : Int) : exP (.lv i) = [i] := by unfold exP; rfl
theorem exP_pr (ps : List Pt) (t : Int) : exP (.pr ps t) = (List.replicate t.toNat (exPs ps)).flatten := by unfold exP exPs; rfl
theorem exPs_nil : exPs [] = [] := rfl
theorem exPs_cons (p : Pt) (ps : List Pt) : exPs (p :: ps) = exP p ++ exPs ps := by unfold exPs; rw [List.map_cons, List.flatten_cons]
theorem exPs_app (ps qs : List Pt) : exPs (ps ++ qs) = exPs ps ++ exPs qs := by unfold exPs; rw [List.map_append, List.flatten_append]
theorem exPs_one (p : Pt) : exPs [p] = exP p := by rw [exPs_cons, exPs_nil, List.append_nil]
theorem rep_len {α : Type} (n : Nat) (l : List α) : ((List.replicate n l).flatten).length = n * l.length := by
  induction n with
  | zero => simp
  | succ n ih => rw [List.replicate_succ, List.flatten_cons, List.length_append, ih, Nat.succ_mul]; omega
theorem ok_sub {n m : Int} {ps : List Pt} {t : Int} (h : OkP n m (.pr ps t)) : OkPs n m ps ∧ 1 ≤ t ∧ t ≤ m := by cases h with | pr a b c => exact ⟨a, b, c⟩
theorem ok_lv {n m i : Int} (h : OkP n m (.lv i)) : 1 ≤ i ∧ i ≤ n := by cases h with | lv a b => exact ⟨a, b⟩
/-- induction over trees -/
theorem Pt.ind {Q : List Pt → Prop} (h0 : Q []) (hl : ∀ i ps, Q ps → Q (.lv i :: ps)) (hp : ∀ qs t ps, Q qs → Q ps → Q (.pr qs t :: ps)) : ∀ ps, Q ps
  | [] => h0
  | .lv i :: ps => hl i ps (Pt.ind h0 hl hp ps)
  | .pr qs t :: ps => hp qs t ps (Pt.ind h0 hl hp qs) (Pt.ind h0 hl hp ps)
theorem ln_ex {n m : Int} : ∀ ps : List Pt, OkPs n m ps → ((exPs ps).length : Int) = lnPs ps := by
  refine Pt.ind (fun _ => rfl) (fun i ps ih h => ?_) (fun qs t ps ih1 ih2 h => ?_)
  · rw [exPs_cons, lnPs_cons, exP_lv, lnP_lv, List.length_append, ← ih fun p hp => h p (List.mem_cons_of_mem _ hp)]
    simp
  · obtain ⟨a, b, c⟩ := ok_sub (h _ (List.mem_cons_self ..))
    rw [exPs_cons, lnPs_cons, exP_pr, lnP_pr, List.length_append, rep_len, ← ih1 a, ← ih2 fun p hp => h p (List.mem_cons_of_mem _ hp)]
    have : ((t.toNat : Nat) : Int) = t := Int.toNat_of_nonneg (by omega)
    rw [Int.natCast_add, Int.natCast_mul, this, Int.mul_comm]
theorem ex_lv {n m : Int} : ∀ ps : List Pt, OkPs n m ps → ∀ x ∈ exPs ps, 1 ≤ x ∧ x ≤ n := by
  refine Pt.ind (fun _ x z => nomatch z) (fun i ps ih h x hx => ?_) (fun qs t ps ih1 ih2 h x hx => ?_)
  · rw [exPs_cons, exP_lv] at hx
    rcases List.mem_append.mp hx with e | e
    · rw [List.mem_singleton] at e; subst e; exact ok_lv (h _ (List.mem_cons_self ..))
    · exact ih (fun p hp => h p (List.mem_cons_of_mem _ hp)) x e
  · rw [exPs_cons, exP_pr] at hx
    rcases List.mem_append.mp hx with e | e
    · obtain ⟨l, hl, hx⟩ := List.mem_flatten.mp e
      have := List.eq_of_mem_replicate hl
      subst this
      exact ih1 (ok_sub (h _ (List.mem_cons_self ..))).1 x hx
    · exact ih2 (fun p hp => h p (List.mem_cons_of_mem _ hp)) x e
end DL
namespace DL
open PySem L2
theorem maxN_app (a b : List Nat) (ha : ∀ x ∈ a, 1 ≤ x) : maxN (a ++ b) = max (maxN a) (maxN b) := by
  have one : ∀ l : List Nat, 1 ≤ maxN l := fun l => by
    induction l with
    | nil => exact Nat.le_refl _
    | cons x l ih => show 1 ≤ max x (maxN l); omega
  induction a with
  | nil => show maxN b = max 1 (maxN b); have := one b; omega
  | cons x a ih =>
    show max x (maxN (a ++ b)) = max (max x (maxN a)) (maxN b)
    rw [ih fun y hy => ha y (List.mem_cons_of_mem _ hy)]
    omega
theorem dpP_pos (p : Pt) : 1 ≤ dpP p := by
  cases p with
  | lv i => rw [dpP_lv]; exact Nat.le_refl _
  | pr ps t => rw [dpP_pr]; omega
theorem dpPs_app (ps qs : List Pt) : dpPs (ps ++ qs) = max (dpPs ps) (dpPs qs) := by
  unfold dpPs
  rw [List.map_append, maxN_app]
  intro x hx
  obtain ⟨p, _, rfl⟩ := List.mem_map.mp hx
  exact dpP_pos p
theorem dpPs_one (p : Pt) : dpPs [p] = dpP p := by rw [dpPs_cons, dpPs_nil]; have := dpP_pos p; omega
theorem szPs_one (p : Pt) : szPs [p] = szP p := by rw [szPs_cons, szPs_nil]; rfl
theorem lnPs_one (p : Pt) : lnPs [p] = lnP p := by rw [lnPs_cons, lnPs_nil, Int.add_zero]
theorem szI (done : List Pt) (p : Pt) : ((szPs (done ++ [p]) : Nat) : Int) = (szPs done : Int) + (szP p : Int) := by rw [szPs_app, szPs_one]; rfl
theorem dpI (done : List Pt) (p : Pt) : ((dpPs (done ++ [p]) : Nat) : Int) = if (dpP p : Int) > (dpPs done : Int) then (dpP p : Int) else (dpPs done : Int) := by
  rw [dpPs_app, dpPs_one]
  split <;> omega
theorem lnI (done : List Pt) (p : Pt) : lnPs (done ++ [p]) = lnPs done + lnP p := by rw [lnPs_app, lnPs_one]
/-- levels below n, bounds of the length -/
theorem ln_nn {n m : Int} : ∀ ps : List Pt, OkPs n m ps → 0 ≤ lnPs ps := fun ps h => by rw [← ln_ex ps h]; exact Int.natCast_nonneg _
/-- the levels in the parts, ascending -/
def lvPs (ps : List Pt) : List Int := setI (exPs ps)
end DL
namespace DL
@[simp] theorem i_tupI {xs : List D} : isD (.tup xs) .int = false := rfl
@[simp] theorem i_tupB {xs : List D} : isD (.tup xs) .bool = false := rfl
@[simp] theorem i_lstI {xs : List D} : isD (.lst xs) .int = false := rfl
@[simp] theorem i_nonT : isD .non .tuple = false := rfl
@[simp] theorem i_nonI : isD .non .int = false := rfl
end DL
namespace DL
theorem forL_cons {step : D → M Fl} {x : D} {xs : List D} {ρ ρ1 : Ev} {r : Out Fl} (e : step x ρ = .ok .nx ρ1) (e2 : forL step xs ρ1 = r) : forL step (x :: xs) ρ = r := by
  show (step x ρ).then _ = _
  rw [e]
  exact e2
end DL
namespace DL
open PySem L2
/-! ### bounds -/
theorem ln_bd {n m : Int} (hm : 1 ≤ m) : ∀ ps : List Pt, OkPs n m ps → ∀ d : Nat, dpPs ps ≤ d → lnPs ps ≤ (szPs ps : Int) * m ^ d := by
  refine Pt.ind (fun _ d _ => by rw [lnPs_nil, szPs_nil]; simp) (fun i ps ih h d hd => ?_) (fun qs t ps ih1 ih2 h d hd => ?_)
  · rw [dpPs_cons] at hd
    have a := ih (fun p hp => h p (List.mem_cons_of_mem _ hp)) d (by omega)
    have b : 0 < m ^ d := Int.pow_pos (by omega)
    rw [lnPs_cons, szPs_cons, lnP_lv, szP_lv, Int.natCast_add, Int.add_mul]
    simp only [Int.natCast_one, Int.one_mul]
    omega
  · obtain ⟨o1, t1, t2⟩ := ok_sub (h _ (List.mem_cons_self ..))
    rw [dpPs_cons, dpP_pr] at hd
    have a := ih2 (fun p hp => h p (List.mem_cons_of_mem _ hp)) d (by omega)
    obtain ⟨e, rfl⟩ : ∃ e, d = e + 1 := ⟨d - 1, by omega⟩
    have c := ih1 o1 e (by omega)
    have b : 0 < m ^ e := Int.pow_pos (by omega)
    have z : 0 ≤ lnPs qs := ln_nn qs o1
    rw [lnPs_cons, szPs_cons, lnP_pr, szP_pr, Int.natCast_add, Int.add_mul]
    have k1 : lnPs qs * t ≤ (szPs qs : Int) * m ^ e * m := Int.mul_le_mul c t2 (by omega) (Int.mul_nonneg (Int.natCast_nonneg _) (Int.le_of_lt b))
    have k2 : (szPs qs : Int) * m ^ e * m ≤ ((1 + szPs qs : Nat) : Int) * m ^ (e + 1) := by
      rw [Int.mul_assoc, ← Int.pow_succ]
      exact Int.mul_le_mul_of_nonneg_right (by omega) (Int.le_of_lt (Int.pow_pos (by omega)))
    omega
theorem wide_of {i : Int} (h0 : 0 ≤ i) (h : i < 10 ^ 160) : wide i = true := by
  unfold wide
  refine decide_eq_true (Nat.lt_of_lt_of_le (show i.natAbs < 10 ^ 160 by omega) (by decide +kernel))
theorem ln_wide {n m : Int} (hm : m ≤ 1000000000000000000000000000000) {ps : List Pt} (h : OkPs n m ps) (hz : szPs ps ≤ 120) (hd : dpPs ps ≤ 5) : wide (lnPs ps) = true := by
  have o : OkPs n 1000000000000000000000000000000 ps := by
    have up : ∀ qs : List Pt, OkPs n m qs → OkPs n 1000000000000000000000000000000 qs := by
      refine Pt.ind (fun _ p z => nomatch z) (fun i ps ih h p hp => ?_) (fun qs t ps ih1 ih2 h p hp => ?_)
      · rcases List.mem_cons.mp hp with e | e
        · subst e; obtain ⟨a, b⟩ := ok_lv (h _ (List.mem_cons_self ..)); exact .lv a b
        · exact ih (fun p hp => h p (List.mem_cons_of_mem _ hp)) p e
      · rcases List.mem_cons.mp hp with e | e
        · subst e; obtain ⟨a, b, c⟩ := ok_sub (h _ (List.mem_cons_self ..)); exact .pr (ih1 a) b (by omega)
        · exact ih2 (fun p hp => h p (List.mem_cons_of_mem _ hp)) p e
    exact up ps h
  have a := ln_bd (by decide) ps o 5 hd
  refine wide_of (ln_nn ps o) (Int.lt_of_le_of_lt a ?_)
  have : (szPs ps : Int) * 1000000000000000000000000000000 ^ 5 ≤ 120 * 1000000000000000000000000000000 ^ 5 := Int.mul_le_mul_of_nonneg_right (by omega) (by decide +kernel)
  exact Int.lt_of_le_of_lt this (by decide +kernel)
theorem setI_ext {a b : List Int} (h : ∀ k, k ∈ a ↔ k ∈ b) : setI a = setI b := pw_ext (setI_pw a) (setI_pw b) fun k => by rw [setI_mem, setI_mem]; exact h k
theorem mk_setI {n : Int} {l : List Int} (h : ∀ x ∈ l, 1 ≤ x ∧ x ≤ n) : Mk n (setI l) := ⟨setI_pw l, fun m hm => h m ((setI_mem m l).mp hm)⟩
/-- the last of a list -/
theorem at_last {L : List D} {d : D} : atI (L ++ [d]) (-1) = some d := by
  unfold atI ixN
  rw [if_neg (by decide), if_pos (by rw [List.length_append]; simp; omega)]
  have : (-1 + ((L ++ [d]).length : Int)).toNat = L.length := by rw [List.length_append]; simp; omega
  show (L ++ [d])[(-1 + ((L ++ [d]).length : Int)).toNat]? = _
  rw [this, List.getElem?_append_right (Nat.le_refl _), Nat.sub_self]
  rfl
/-- the racks while levels are read -/
def trc : List Int → List Int → List (List Int)
  | ms, [] => [ms]
  | ms, x :: xs => ms :: trc (putR x ms) xs
def rdL (ms : List Int) (xs : List Int) : List Int := xs.foldl (fun m x => putR x m) ms
theorem rdL_app (ms xs ys : List Int) : rdL ms (xs ++ ys) = rdL (rdL ms xs) ys := List.foldl_append
theorem trc_snoc : ∀ (xs ms : List Int) (x : Int), trc ms (xs ++ [x]) = trc ms xs ++ [putR x (rdL ms xs)]
  | [], ms, x => rfl
  | y :: xs, ms, x => by
    show ms :: trc (putR y ms) (xs ++ [x]) = ms :: trc (putR y ms) xs ++ [putR x (rdL (putR y ms) xs)]
    rw [trc_snoc xs]
    rfl
theorem trc_last (xs ms : List Int) : ∃ L, trc ms xs = L ++ [rdL ms xs] := by
  induction xs generalizing ms with
  | nil => exact ⟨[], rfl⟩
  | cons x xs ih =>
    obtain ⟨L, e⟩ := ih (putR x ms)
    exact ⟨ms :: L, by show ms :: trc (putR x ms) xs = _; rw [e]; rfl⟩
theorem trc_len (xs ms : List Int) : (trc ms xs).length = xs.length + 1 := by
  induction xs generalizing ms with
  | nil => rfl
  | cons x xs ih => show (trc (putR x ms) xs).length + 1 = _; rw [ih, List.length_cons]
theorem mk_rdL {n : Int} (hn : n ≤ 12) : ∀ {xs ms : List Int}, Mk n ms → (∀ x ∈ xs, 1 ≤ x ∧ x ≤ n) → Mk n (rdL ms xs)
  | [], ms, h, _ => h
  | x :: xs, ms, h, hx => by
    obtain ⟨a, b⟩ := hx x (List.mem_cons_self ..)
    show Mk n (rdL (putR x ms) xs)
    exact mk_rdL hn (mk_put h hn a b) fun y hy => hx y (List.mem_cons_of_mem _ hy)
theorem mk_trc {n : Int} (hn : n ≤ 12) : ∀ {xs ms : List Int}, Mk n ms → (∀ x ∈ xs, 1 ≤ x ∧ x ≤ n) → ∀ m ∈ trc ms xs, Mk n m
  | [], ms, h, _, m, hm => by rw [show trc ms [] = [ms] from rfl, List.mem_singleton] at hm; subst hm; exact h
  | x :: xs, ms, h, hx, m, hm => by
    obtain ⟨a, b⟩ := hx x (List.mem_cons_self ..)
    rcases List.mem_cons.mp (show m ∈ ms :: trc (putR x ms) xs from hm) with e | e
    · subst e; exact h
    · exact mk_trc hn (mk_put h hn a b) (fun y hy => hx y (List.mem_cons_of_mem _ hy)) m e
theorem sz_mem {p : Pt} {ps : List Pt} (h : p ∈ ps) : szP p ≤ szPs ps := by
  induction ps with
  | nil => cases h
  | cons q ps ih =>
    rw [szPs_cons]
    rcases List.mem_cons.mp h with e | h
    · subst e; omega
    · have := ih h; omega
/-- a loop over a mapped list, with what is left -/
theorem forL_mapR {P : Type} {step : D → M Fl} (g : P → D) (I : List P → Ev → Prop) : ∀ (ps done : List P) (ρ : Ev), I done ρ → (∀ (d : List P) (p : P) (r : List P) (ρ : Ev), done ++ ps = d ++ p :: r → I d ρ → ∃ ρ', (step (g p) ρ = .ok .nx ρ' ∨ step (g p) ρ = .ok .ct ρ') ∧ I (d ++ [p]) ρ') →
    ∃ ρ', forL step (ps.map g) ρ = .ok .nx ρ' ∧ I (done ++ ps) ρ'
  | [], done, ρ, h, _ => ⟨ρ, rfl, by rw [List.append_nil]; exact h⟩
  | p :: ps, done, ρ, h, hs => by
    obtain ⟨ρ1, e, h1⟩ := hs done p ps ρ rfl h
    obtain ⟨ρ2, e2, h2⟩ := forL_mapR g I ps (done ++ [p]) ρ1 h1 fun d q r ρ hq hI => hs d q r ρ (by rw [List.append_assoc] at hq; exact hq) hI
    refine ⟨ρ2, ?_, by rw [List.append_assoc] at h2; exact h2⟩
    show (step (g p) ρ).then _ = _
    rcases e with e | e <;> (rw [e]; exact e2)
theorem mem_split {P : Type} {a d r : List P} {p : P} (h : a = d ++ p :: r) : p ∈ a := by rw [h]; exact List.mem_append_right _ (List.mem_cons_self ..)
theorem len_split {P : Type} {a d r : List P} {p : P} (h : a = d ++ p :: r) : d.length < a.length := by rw [h, List.length_append, List.length_cons]; omega
theorem sz_split {a d r : List Pt} {p : Pt} (h : a = d ++ p :: r) : szPs d + szP p ≤ szPs a := by rw [h, szPs_app, szPs_cons]; omega
end DL

end

section
set_option autoImplicit false
/-! DLgc: comparisons of tuples, counts and routes of racks. -/
namespace DL
open PySem L2
/-! ### == of plain values -/
structure Shp (h : Nat) (d : D) : Prop where
  pur : pureD d = true
  lay : (toPy d).canLay0 = true
  ht : (toPy d).depth ≤ h
structure Shps (h : Nat) (ds : List D) : Prop where
  pur : puresD ds = true
  lay : PyData.canLayAll0 (toPy.toPys ds) = true
  ht : PyData.depthAll (toPy.toPys ds) ≤ h
theorem Shp.int (i : Int) : Shp 0 (.int i) := ⟨rfl, rfl, Nat.le_refl _⟩
theorem Shp.non : Shp 0 .non := ⟨rfl, rfl, Nat.le_refl _⟩
theorem Shp.bl (b : Bool) : Shp 0 (.bl b) := ⟨rfl, rfl, Nat.le_refl _⟩
theorem Shp.mono {h g : Nat} {d : D} (s : Shp h d) (l : h ≤ g) : Shp g d := ⟨s.pur, s.lay, Nat.le_trans s.ht l⟩
theorem Shps.of {h : Nat} : ∀ {ds : List D}, (∀ d ∈ ds, Shp h d) → Shps h ds
  | [], _ => ⟨rfl, rfl, Nat.zero_le _⟩
  | d :: ds, hs => by
    have a := hs d (List.mem_cons_self ..)
    have b := Shps.of (ds := ds) fun x hx => hs x (List.mem_cons_of_mem _ hx)
    refine ⟨?_, ?_, ?_⟩
    · show (pureD d && puresD ds) = true
      rw [a.pur, b.pur]; rfl
    · show ((toPy d).canLay0 && PyData.canLayAll0 (toPy.toPys ds)) = true
      rw [a.lay, b.lay]; rfl
    · exact Nat.max_le.mpr ⟨a.ht, b.ht⟩
theorem Shp.tup {h : Nat} {ds : List D} (hs : ∀ d ∈ ds, Shp h d) : Shp (h + 1) (.tup ds) := by
  have b := Shps.of hs
  exact ⟨b.pur, b.lay, Nat.succ_le_succ b.ht⟩
theorem Shp.lst {h : Nat} {ds : List D} (hs : ∀ d ∈ ds, Shp h d) : Shp (h + 1) (.lst ds) := by
  have b := Shps.of hs
  exact ⟨b.pur, b.lay, Nat.succ_le_succ b.ht⟩
theorem Shp.ok {h : Nat} {d : D} (s : Shp h d) (hh : h ≤ 64) : shapedD d = true := by
  show (pureD d && ((toPy d).canLay0 && decide ((toPy d).depth ≤ 64))) = true
  rw [s.pur, s.lay, decide_eq_true (Nat.le_trans s.ht hh)]
  rfl
theorem shp_tupI (xs : List Int) : Shp 1 (tupI xs) := Shp.tup fun d hd => by
  obtain ⟨m, _, rfl⟩ := List.mem_map.mp hd
  exact Shp.int m
theorem eqvI (a b : Int) : (toPy (.int a)).eqv (toPy (.int b)) = decide (a = b) := by
  show (a == b) = _
  rw [Bool.eq_iff_iff, beq_iff_eq, decide_eq_true_iff]
theorem eqvIs : ∀ xs ys : List Int, PyData.eqvAll (toPy.toPys (xs.map .int)) (toPy.toPys (ys.map .int)) = decide (xs = ys)
  | [], [] => rfl
  | [], _ :: _ => rfl
  | _ :: _, [] => rfl
  | x :: xs, y :: ys => by
    show ((toPy (.int x)).eqv (toPy (.int y)) && PyData.eqvAll (toPy.toPys (xs.map .int)) (toPy.toPys (ys.map .int))) = _
    rw [eqvI, eqvIs xs ys, Bool.eq_iff_iff, Bool.and_eq_true, decide_eq_true_iff, decide_eq_true_iff, decide_eq_true_iff, List.cons.injEq]
theorem eqvT (xs ys : List Int) : (toPy (tupI xs)).eqv (toPy (tupI ys)) = decide (xs = ys) := eqvIs xs ys
theorem eqT (xs ys : List Int) : cmpD .eq (.tup (xs.map .int)) (.tup (ys.map .int)) = some (decide (xs = ys)) := by
  show (if shapedD (tupI xs) && shapedD (tupI ys) then some ((toPy (tupI xs)).eqv (toPy (tupI ys))) else none) = _
  rw [(shp_tupI xs).ok (by decide), (shp_tupI ys).ok (by decide), eqvT]
  rfl
theorem neT (xs ys : List Int) : cmpD .ne (.tup (xs.map .int)) (.tup (ys.map .int)) = some (!decide (xs = ys)) := by
  show (if shapedD (tupI xs) && shapedD (tupI ys) then some (!(toPy (tupI xs)).eqv (toPy (tupI ys))) else none) = _
  rw [(shp_tupI xs).ok (by decide), (shp_tupI ys).ok (by decide), eqvT]
  rfl
theorem eqL (xs ys : List Int) : cmpD .eq (.lst (xs.map .int)) (.lst (ys.map .int)) = some (decide (xs = ys)) := by
  have h : ∀ zs : List Int, Shp 1 (.lst (zs.map .int)) := fun zs => Shp.lst fun d hd => by
    obtain ⟨m, _, rfl⟩ := List.mem_map.mp hd
    exact Shp.int m
  show (if shapedD (.lst (xs.map .int)) && shapedD (.lst (ys.map .int)) then some ((toPy (.lst (xs.map .int))).eqv (toPy (.lst (ys.map .int)))) else none) = _
  rw [(h xs).ok (by decide), (h ys).ok (by decide), show (toPy (.lst (xs.map .int))).eqv (toPy (.lst (ys.map .int))) = _ from eqvIs xs ys]
  rfl
/-! ### one-item cuts -/
theorem cut_one (xs : List D) (j : Nat) : cut xs (some (j : Int)) (some ((j : Int) + 1)) = (xs[j]?).toList := by
  unfold cut
  rw [show HT.sIx xs.length 0 (some (j : Int)) = min j xs.length from HT.sIx_nat xs.length 0 j, show HT.sIx xs.length xs.length (some ((j : Int) + 1)) = min (j + 1) xs.length from HT.sIx_nat xs.length xs.length (j + 1)]
  by_cases h : j < xs.length
  · rw [Nat.min_eq_left (by omega), Nat.min_eq_left (by omega), List.getElem?_eq_getElem h, show j + 1 - j = 1 from by omega, List.drop_eq_getElem_cons h]
    rfl
  · rw [Nat.min_eq_right (by omega), Nat.min_eq_right (by omega), Nat.sub_self, List.getElem?_eq_none (by omega)]
    rfl
theorem cut_oneI (xs : List Int) (j : Nat) : cut (xs.map D.int) (some (j : Int)) (some ((j : Int) + 1)) = ((xs[j]?).toList).map .int := by
  rw [cut_one, List.getElem?_map]
  cases xs[j]? <;> rfl
theorem toList_inj {a b : Option Int} : (a.toList = b.toList) = (a = b) := by
  cases a <;> cases b <;> simp
/-! ### counts -/
theorem cnt_cons (a : Int) (as : List Int) (x : Int) : cnt (a :: as) x = (if a ≤ x then 1 else 0) + cnt as x := by
  unfold cnt
  by_cases h : a ≤ x
  · rw [List.filter_cons_of_pos (by simpa using h), if_pos h, List.length_cons]
    omega
  · rw [List.filter_cons_of_neg (by simpa using h), if_neg h]
    omega
theorem cnt_none (x : Int) : cnt [] x = 0 := rfl
theorem cnt_low {as : List Int} {x : Int} (h : ∀ m ∈ as, x < m) : cnt as x = 0 := by
  induction as with
  | nil => rfl
  | cons a as ih =>
    rw [cnt_cons, ih fun m hm => h m (List.mem_cons_of_mem _ hm), if_neg (by have := h a (List.mem_cons_self ..); omega)]
    rfl
/-- the other rack has more markers below -/
def LE : List Int → List Int → Prop
  | [], _ => True
  | _ :: _, [] => False
  | a :: as, b :: bs => b ≤ a ∧ LE as bs
theorem le_cnt : ∀ {xs ys : List Int}, LE xs ys → ∀ z, cnt xs z ≤ cnt ys z
  | [], ys, _, z => by rw [cnt_none]; exact cnt_nn
  | _ :: _, [], h, z => h.elim
  | a :: as, b :: bs, h, z => by
    have ih := le_cnt h.2 z
    have := h.1
    rw [cnt_cons, cnt_cons]
    split <;> split <;> omega
theorem cnt_le_of {n : Int} : ∀ {xs ys : List Int}, xs.Pairwise (· < ·) → ys.Pairwise (· < ·) → (∀ m ∈ xs, 1 ≤ m ∧ m ≤ n) → (∀ z, 1 ≤ z → z ≤ n → cnt xs z ≤ cnt ys z) → LE xs ys
  | [], _, _, _, _, _ => trivial
  | a :: as, [], _, _, hb, h => by
    obtain ⟨a1, a2⟩ := hb a (List.mem_cons_self ..)
    have := h a a1 a2
    have := @cnt_nn as a
    rw [cnt_cons, if_pos (Int.le_refl a), cnt_none] at *
    omega
  | a :: as, b :: bs, hx, hy, hb, h => by
    obtain ⟨x1, x2⟩ := List.pairwise_cons.mp hx
    obtain ⟨y1, y2⟩ := List.pairwise_cons.mp hy
    obtain ⟨a1, a2⟩ := hb a (List.mem_cons_self ..)
    have hba : b ≤ a := by
      have c := h a a1 a2
      rw [cnt_cons, if_pos (Int.le_refl a)] at c
      have := @cnt_nn as a
      by_cases z : b ≤ a
      · exact z
      · have e : cnt (b :: bs) a = 0 := cnt_low fun m hm => by
          rcases List.mem_cons.mp hm with e | e
          · omega
          · have := y1 m e; omega
        omega
    refine ⟨hba, cnt_le_of x2 y2 (fun m hm => hb m (List.mem_cons_of_mem _ hm)) fun z z1 z2 => ?_⟩
    by_cases c : a ≤ z
    · have := h z z1 z2
      rw [cnt_cons, cnt_cons, if_pos c, if_pos (by omega)] at this
      omega
    · rw [cnt_low fun m hm => by have := x1 m hm; omega]
      exact cnt_nn
/-- where the second is less -/
def abv : List Int → List Int → Int → List Int
  | u :: us, v :: vs, j => if v < u then (j + 1) :: abv us vs (j + 1) else abv us vs (j + 1)
  | _, _, _ => []
theorem abv_nil : ∀ {U V : List Int} {j : Int}, abv U V j = [] → ∀ (i : Nat) (u v : Int), U[i]? = some u → V[i]? = some v → u ≤ v
  | [], V, j, _, i, u, v, h1, _ => by cases h1
  | _ :: _, [], j, _, i, u, v, _, h2 => by cases h2
  | a :: U, b :: V, j, h, i, u, v, h1, h2 => by
    unfold abv at h
    split at h
    · cases h
    · rename_i c
      cases i with
      | zero => cases h1; cases h2; omega
      | succ i => exact abv_nil h i u v h1 h2
theorem abv_of : ∀ {U V : List Int} {j : Int}, (∀ (i : Nat) (u v : Int), U[i]? = some u → V[i]? = some v → u ≤ v) → abv U V j = []
  | [], V, j, _ => rfl
  | _ :: _, [], j, _ => rfl
  | a :: U, b :: V, j, h => by
    unfold abv
    have := h 0 a b rfl rfl
    rw [if_neg (by omega)]
    exact abv_of fun i u v h1 h2 => h (i + 1) u v h1 h2
theorem tots_get {ms : List Int} {n : Int} {i : Nat} {u : Int} (h : (tots ms n)[i]? = some u) : u = cnt ms ((i : Int) + 1) ∧ (i : Int) < n := by
  unfold tots at h
  rw [List.getElem?_map] at h
  cases e : (List.range n.toNat)[i]? with
  | none => rw [e] at h; cases h
  | some y =>
    rw [e] at h
    obtain ⟨hl, rfl⟩ := List.getElem?_eq_some_iff.mp e
    rw [List.length_range] at hl
    rw [List.getElem_range] at h
    cases h
    exact ⟨rfl, by omega⟩
theorem tots_at {ms : List Int} {n : Int} {i : Nat} (h : (i : Int) < n) : (tots ms n)[i]? = some (cnt ms ((i : Int) + 1)) := by
  unfold tots
  rw [List.getElem?_map, List.getElem?_eq_getElem (by rw [List.length_range]; omega), List.getElem_range]
  rfl
theorem abv_le {n : Int} {xs ys : List Int} (h : Mk n xs) (g : Mk n ys) : abv (tots xs n) (tots ys n) 0 = [] ↔ LE xs ys := by
  constructor
  · intro e
    refine cnt_le_of h.pw g.pw h.bd fun z z1 z2 => ?_
    have h1 : (tots xs n)[(z - 1).toNat]? = some (cnt xs z) := by
      rw [tots_at (by omega)]
      congr 2; omega
    have h2 : (tots ys n)[(z - 1).toNat]? = some (cnt ys z) := by
      rw [tots_at (by omega)]
      congr 2; omega
    exact abv_nil e _ _ _ h1 h2
  · intro l
    refine abv_of fun i u v h1 h2 => ?_
    obtain ⟨rfl, _⟩ := tots_get h1
    obtain ⟨rfl, _⟩ := tots_get h2
    exact le_cnt l _
/-! ### routes -/
def rt : List Int → List Int → List Int
  | _, [] => []
  | [], b :: bs => b :: rt [] bs
  | a :: as, b :: bs => if a = b then rt as bs else b :: rt as bs
def gn (n : Int) : List Int → List Int → Int
  | _, [] => 0
  | [], b :: bs => (n + 1 - b) + gn n [] bs
  | a :: as, b :: bs => (a - b) + gn n as bs
theorem rt_range : ∀ ys xs : List Int, (List.range ys.length).filterMap (fun i => if xs[i]? = ys[i]? then none else (ys[i]?).map D.int) = (rt xs ys).map .int
  | [], xs => by cases xs <;> rfl
  | b :: bs, [] => by
    have ih := rt_range bs []
    rw [List.length_cons, List.range_succ_eq_map, List.filterMap_cons, List.filterMap_map]
    show D.int b :: List.filterMap (fun i => if ([] : List Int)[i]? = bs[i]? then none else (bs[i]?).map D.int) (List.range bs.length) = D.int b :: _
    rw [ih]
  | b :: bs, a :: as => by
    rw [List.length_cons, List.range_succ_eq_map, List.filterMap_cons, List.filterMap_map]
    have ih := rt_range bs as
    by_cases h : a = b
    · subst h
      simp [rt] at ih ⊢
      exact ih
    · simp [rt, h] at ih ⊢
      exact ih
theorem rt_mem : ∀ {xs ys : List Int} {m : Int}, m ∈ rt xs ys → m ∈ ys
  | _, [], m, h => by cases ‹List Int› <;> cases h
  | [], b :: bs, m, h => by
    rcases List.mem_cons.mp (show m ∈ b :: rt [] bs from h) with e | e
    · rw [e]; exact List.mem_cons_self ..
    · exact List.mem_cons_of_mem _ (rt_mem e)
  | a :: as, b :: bs, m, h => by
    unfold rt at h
    split at h
    · exact List.mem_cons_of_mem _ (rt_mem h)
    · rcases List.mem_cons.mp h with e | e
      · rw [e]; exact List.mem_cons_self ..
      · exact List.mem_cons_of_mem _ (rt_mem e)
theorem rt_pw : ∀ {xs ys : List Int}, ys.Pairwise (· < ·) → (rt xs ys).Pairwise (· < ·)
  | _, [], h => by cases ‹List Int› <;> exact .nil
  | [], b :: bs, h => by
    obtain ⟨y1, y2⟩ := List.pairwise_cons.mp h
    exact List.pairwise_cons.mpr ⟨fun m hm => y1 m (rt_mem hm), rt_pw y2⟩
  | a :: as, b :: bs, h => by
    obtain ⟨y1, y2⟩ := List.pairwise_cons.mp h
    unfold rt
    split
    · exact rt_pw y2
    · exact List.pairwise_cons.mpr ⟨fun m hm => y1 m (rt_mem hm), rt_pw y2⟩
theorem rt_len : ∀ {xs ys : List Int}, (rt xs ys).length ≤ ys.length
  | _, [] => by cases ‹List Int› <;> exact Nat.le_refl _
  | [], b :: bs => by
    show (rt [] bs).length + 1 ≤ bs.length + 1
    have := @rt_len [] bs
    omega
  | a :: as, b :: bs => by
    unfold rt
    have := @rt_len as bs
    split
    · rw [List.length_cons]; omega
    · rw [List.length_cons, List.length_cons]; omega
/-! sums of counts -/
theorem sum_tots_cons {n a : Int} (as : List Int) (h1 : 1 ≤ a) (h2 : a ≤ n) : (tots (a :: as) n).sum = (n + 1 - a) + (tots as n).sum := by
  obtain ⟨N, rfl⟩ : ∃ N : Nat, n = N := ⟨n.toNat, by omega⟩
  have key : ∀ N : Nat, (tots (a :: as) (N : Int)).sum = (if a ≤ N then (N : Int) + 1 - a else 0) + (tots as (N : Int)).sum := fun N => by
    induction N with
    | zero =>
      rw [if_neg (by omega)]
      rfl
    | succ N ih =>
      have e : ∀ zs : List Int, (tots zs ((N + 1 : Nat) : Int)).sum = (tots zs (N : Int)).sum + cnt zs ((N : Int) + 1) := fun zs => by
        unfold tots
        rw [Int.toNat_natCast, Int.toNat_natCast, List.range_succ, List.map_append, List.sum_append]
        simp
      rw [e, e, ih, cnt_cons]
      split <;> split <;> split <;> omega
  rw [key N, if_pos h2]
theorem sum_tots_nil (n : Int) : (tots [] n).sum = 0 := by
  unfold tots
  have : ∀ l : List Nat, (l.map fun (i : Nat) => cnt [] ((i : Int) + 1)).sum = 0 := fun l => by
    induction l with
    | nil => rfl
    | cons a l ih => rw [List.map_cons, List.sum_cons, ih]; rfl
  exact this _
theorem gn_sum {n : Int} : ∀ {xs ys : List Int}, LE xs ys → (∀ m ∈ xs, 1 ≤ m ∧ m ≤ n) → (∀ m ∈ ys, 1 ≤ m ∧ m ≤ n) → (tots ys n).sum - (tots xs n).sum = gn n xs ys
  | [], [], _, _, _ => by rw [sum_tots_nil]; rfl
  | [], b :: bs, _, hx, hy => by
    obtain ⟨b1, b2⟩ := hy b (List.mem_cons_self ..)
    have ih := gn_sum (n := n) (xs := []) (ys := bs) trivial (fun _ z => nomatch z) fun m hm => hy m (List.mem_cons_of_mem _ hm)
    rw [sum_tots_cons bs b1 b2]
    show _ = (n + 1 - b) + gn n [] bs
    omega
  | _ :: _, [], h, _, _ => h.elim
  | a :: as, b :: bs, h, hx, hy => by
    obtain ⟨b1, b2⟩ := hy b (List.mem_cons_self ..)
    obtain ⟨a1, a2⟩ := hx a (List.mem_cons_self ..)
    have ih := gn_sum (n := n) h.2 (fun m hm => hx m (List.mem_cons_of_mem _ hm)) fun m hm => hy m (List.mem_cons_of_mem _ hm)
    rw [sum_tots_cons bs b1 b2, sum_tots_cons as a1 a2]
    show _ = (a - b) + gn n as bs
    omega
theorem gn_bd {n : Int} : ∀ {xs ys : List Int}, LE xs ys → (∀ m ∈ xs, 1 ≤ m ∧ m ≤ n) → (∀ m ∈ ys, 1 ≤ m ∧ m ≤ n) → 0 ≤ gn n xs ys ∧ gn n xs ys ≤ n * ys.length
  | [], [], _, _, _ => ⟨Int.le_refl 0, by show (0:Int) ≤ _; simp⟩
  | [], b :: bs, _, hx, hy => by
    obtain ⟨b1, b2⟩ := hy b (List.mem_cons_self ..)
    have ih := gn_bd (n := n) (xs := []) (ys := bs) trivial (fun _ z => nomatch z) fun m hm => hy m (List.mem_cons_of_mem _ hm)
    have e : n * ((b :: bs).length : Int) = n * (bs.length : Int) + n := by rw [List.length_cons, Int.natCast_add, Int.mul_add]; simp
    rw [e]
    show 0 ≤ (n + 1 - b) + gn n [] bs ∧ (n + 1 - b) + gn n [] bs ≤ _
    omega
  | _ :: _, [], h, _, _ => h.elim
  | a :: as, b :: bs, h, hx, hy => by
    obtain ⟨b1, b2⟩ := hy b (List.mem_cons_self ..)
    obtain ⟨a1, a2⟩ := hx a (List.mem_cons_self ..)
    have hb := h.1
    have ih := gn_bd (n := n) h.2 (fun m hm => hx m (List.mem_cons_of_mem _ hm)) fun m hm => hy m (List.mem_cons_of_mem _ hm)
    have e : n * ((b :: bs).length : Int) = n * (bs.length : Int) + n := by rw [List.length_cons, Int.natCast_add, Int.mul_add]; simp
    rw [e]
    show 0 ≤ (a - b) + gn n as bs ∧ (a - b) + gn n as bs ≤ _
    omega
end DL

end

section
set_option autoImplicit false
/-! DLgd: tables of band lengths as operators on counts. -/
namespace DL
open PySem L2
/-- the greatest of f j .. f (j + d) -/
def mxO (f : Nat → Int) (j : Nat) : Nat → Int
  | 0 => f j
  | d + 1 => max (mxO f j d) (f (j + d + 1))
theorem mxO_le (f : Nat → Int) (j : Nat) : ∀ d m, j ≤ m → m ≤ j + d → f m ≤ mxO f j d
  | 0, m, h1, h2 => by
    have : m = j := by omega
    subst this
    exact Int.le_refl _
  | d + 1, m, h1, h2 => by
    show f m ≤ max (mxO f j d) (f (j + d + 1))
    by_cases c : m ≤ j + d
    · have := mxO_le f j d m h1 c; omega
    · have : m = j + d + 1 := by omega
      subst this; omega
theorem mxO_ex (f : Nat → Int) (j : Nat) : ∀ d, ∃ m, j ≤ m ∧ m ≤ j + d ∧ mxO f j d = f m
  | 0 => ⟨j, by omega, by omega, rfl⟩
  | d + 1 => by
    obtain ⟨m, h1, h2, e⟩ := mxO_ex f j d
    show ∃ m, j ≤ m ∧ m ≤ j + (d + 1) ∧ max (mxO f j d) (f (j + d + 1)) = f m
    by_cases c : mxO f j d ≤ f (j + d + 1)
    · exact ⟨j + d + 1, by omega, by omega, by omega⟩
    · exact ⟨m, h1, by omega, by omega⟩
theorem mxO_eq {f : Nat → Int} {j d : Nat} {v : Int} (h1 : ∀ m, j ≤ m → m ≤ j + d → f m ≤ v) (h2 : ∃ m, j ≤ m ∧ m ≤ j + d ∧ v ≤ f m) : mxO f j d = v := by
  obtain ⟨m, a, b, e⟩ := mxO_ex f j d
  obtain ⟨m2, a2, b2, e2⟩ := h2
  have := h1 m a b
  have := mxO_le f j d m2 a2 b2
  omega
/-- tables as operators -/
def act (T : Nat → Nat → Int) (c : Nat → Int) (k : Nat) : Int := mxO (fun j => c j + T j k) 0 k
def appT (T : Nat → Nat → Int) (x : Nat) (j k : Nat) : Int := if j < x ∧ x ≤ k then max (T j k) (T j (x - 1) + 1) else T j k
def prT (A B : Nat → Nat → Int) (j k : Nat) : Int := if k < j then 0 else mxO (fun m => A j m + B m k) j (k - j)
def stp (x : Nat) (c : Nat → Int) (k : Nat) : Int := if k < x then c k else max (c k) (c (x - 1) + 1)
theorem act_le {T : Nat → Nat → Int} {c : Nat → Int} {j k : Nat} (h : j ≤ k) : c j + T j k ≤ act T c k := mxO_le (fun j => c j + T j k) 0 k j (by omega) (by omega)
theorem act_ex (T : Nat → Nat → Int) (c : Nat → Int) (k : Nat) : ∃ j, j ≤ k ∧ act T c k = c j + T j k := by
  obtain ⟨j, _, h, e⟩ := mxO_ex (fun j => c j + T j k) 0 k
  exact ⟨j, by omega, e⟩
theorem act_app {T : Nat → Nat → Int} {c : Nat → Int} {x : Nat} (hx : 1 ≤ x) (k : Nat) : act (appT T x) c k = stp x (act T c) k := by
  refine mxO_eq (fun m _ hm => ?_) ?_
  · have h1 := @act_le T c m k (by omega)
    show c m + appT T x m k ≤ _
    unfold appT stp
    by_cases c1 : m < x ∧ x ≤ k
    · have h2 := @act_le T c m (x - 1) (by omega)
      rw [if_pos c1, if_neg (by omega)]
      omega
    · rw [if_neg c1]
      split <;> omega
  · obtain ⟨j, hj, e⟩ := act_ex T c k
    obtain ⟨i, hi, e2⟩ := act_ex T c (x - 1)
    unfold stp
    split
    · rename_i hk
      refine ⟨j, by omega, by omega, ?_⟩
      show _ ≤ c j + appT T x j k
      unfold appT
      rw [if_neg (by omega)]
      omega
    · rename_i hk
      by_cases q : act T c (x - 1) + 1 ≤ act T c k
      · refine ⟨j, by omega, by omega, ?_⟩
        show _ ≤ c j + appT T x j k
        unfold appT
        split <;> omega
      · refine ⟨i, by omega, by omega, ?_⟩
        show _ ≤ c i + appT T x i k
        unfold appT
        rw [if_pos (by omega)]
        omega
theorem act_prod {A B : Nat → Nat → Int} {c : Nat → Int} (k : Nat) : act (prT A B) c k = act B (act A c) k := by
  refine mxO_eq (fun j _ hj => ?_) ?_
  · show c j + prT A B j k ≤ _
    unfold prT
    rw [if_neg (by omega)]
    obtain ⟨m, a, b, e⟩ := mxO_ex (fun m => A j m + B m k) j (k - j)
    rw [e]
    have h1 := @act_le A c j m (by omega)
    have h2 := @act_le B (act A c) m k (by omega)
    omega
  · obtain ⟨m, hm, e⟩ := act_ex B (act A c) k
    obtain ⟨j, hj, e2⟩ := act_ex A c m
    refine ⟨j, by omega, by omega, ?_⟩
    show _ ≤ c j + prT A B j k
    unfold prT
    rw [if_neg (by omega)]
    have := mxO_le (fun m => A j m + B m k) j (k - j) m (by omega) (by omega)
    omega
def Mono (c : Nat → Int) : Prop := ∀ i j, i ≤ j → c i ≤ c j
theorem act_zero {c : Nat → Int} (h : Mono c) (k : Nat) : act (fun _ _ => 0) c k = c k :=
  mxO_eq (fun j _ hj => by have := h j k (by omega); show c j + 0 ≤ c k; omega) ⟨k, by omega, by omega, by show c k ≤ c k + 0; omega⟩
theorem stp_mono {c : Nat → Int} (h : Mono c) (x : Nat) : Mono (stp x c) := fun i j hij => by
  have := h i j hij
  unfold stp
  split <;> split <;> omega
def stps (w : List Nat) (c : Nat → Int) : Nat → Int := w.foldl (fun c x => stp x c) c
theorem stps_app (w v : List Nat) (c : Nat → Int) : stps (w ++ v) c = stps v (stps w c) := List.foldl_append
theorem stps_mono : ∀ (w : List Nat) {c : Nat → Int}, Mono c → Mono (stps w c)
  | [], _, h => h
  | x :: w, _, h => stps_mono w (stp_mono h x)
theorem stp_ge (x : Nat) (c : Nat → Int) (k : Nat) : c k ≤ stp x c k := by unfold stp; split <;> omega
theorem stps_ge : ∀ (w : List Nat) (c : Nat → Int) (k : Nat), c k ≤ stps w c k
  | [], _, _ => Int.le_refl _
  | x :: w, c, k => Int.le_trans (stp_ge x c k) (stps_ge w (stp x c) k)
theorem stp_up {c e : Nat → Int} (h : ∀ k, c k ≤ e k) (x k : Nat) : stp x c k ≤ stp x e k := by
  have := h k
  have := h (x - 1)
  unfold stp
  split <;> omega
theorem stps_up : ∀ (w : List Nat) {c e : Nat → Int}, (∀ k, c k ≤ e k) → ∀ k, stps w c k ≤ stps w e k
  | [], _, _, h, k => h k
  | x :: w, _, _, h, k => stps_up w (fun k => stp_up h x k) k
/-! ### as often as there are levels -/
/-- the different levels of w in (j, k] -/
def dif (w : List Nat) (j k : Nat) : Nat := ((List.range (k + 1)).filter fun y => decide (j < y ∧ y ∈ w)).length
theorem dif_succ (w : List Nat) (j k : Nat) : dif w j (k + 1) = dif w j k + (if j < k + 1 ∧ k + 1 ∈ w then 1 else 0) := by
  unfold dif
  rw [List.range_succ (n := k + 1), List.filter_append, List.length_append]
  by_cases c : j < k + 1 ∧ k + 1 ∈ w
  · rw [if_pos c, List.filter_cons_of_pos (by simpa using c)]; rfl
  · rw [if_neg c, List.filter_cons_of_neg (by simpa using c)]; rfl
theorem dif_self (w : List Nat) (j : Nat) : ∀ k, k ≤ j → dif w j k = 0
  | 0, _ => by
    unfold dif
    rw [List.filter_eq_nil_iff.mpr fun y hy => by have := List.mem_range.mp hy; simp; omega]
    rfl
  | k + 1, h => by rw [dif_succ, dif_self w j k (by omega), if_neg (by omega)]
theorem dif_le (w : List Nat) (j : Nat) : ∀ k, dif w j k ≤ k - j
  | 0 => by rw [dif_self w j 0 (by omega)]; omega
  | k + 1 => by
    have := dif_le w j k
    rw [dif_succ]
    split <;> omega
theorem dif_mono (w : List Nat) (j : Nat) {k : Nat} : ∀ {l : Nat}, k ≤ l → dif w j k ≤ dif w j l
  | 0, h => by have : k = 0 := by omega
               subst this; exact Nat.le_refl _
  | l + 1, h => by
    by_cases c : k = l + 1
    · subst c; exact Nat.le_refl _
    · have := @dif_mono w j k l (by omega)
      rw [dif_succ]; omega
theorem dif_lt {w : List Nat} {j x k : Nat} (hx : x ∈ w) (h1 : j < x) (h2 : x ≤ k) : dif w j (x - 1) + 1 ≤ dif w j k := by
  obtain ⟨y, rfl⟩ : ∃ y, x = y + 1 := ⟨x - 1, by omega⟩
  have := @dif_mono w j (y + 1) k h2
  rw [dif_succ, if_pos ⟨h1, hx⟩] at this
  exact this
/-- what is reached in the end -/
def fin (w : List Nat) (c : Nat → Int) : Nat → Int := act (fun j k => (dif w j k : Int)) c
theorem fin_ge (w : List Nat) (c : Nat → Int) (k : Nat) : c k ≤ fin w c k := by
  have := @act_le (fun j k => (dif w j k : Int)) c k k (Nat.le_refl _)
  have e : (dif w k k : Int) = 0 := by rw [dif_self w k k (Nat.le_refl _)]; rfl
  show _ ≤ act _ c k
  omega
theorem fin_mono (w : List Nat) {c : Nat → Int} : Mono (fin w c) := fun i j hij => by
  obtain ⟨m, hm, e⟩ := act_ex (fun j k => (dif w j k : Int)) c i
  have := @act_le (fun j k => (dif w j k : Int)) c m j (by omega)
  have := @dif_mono w m i j hij
  show act _ c i ≤ act _ c j
  omega
theorem fin_stp {w : List Nat} (c : Nat → Int) {x : Nat} (hx : x ∈ w) (h1 : 1 ≤ x) (k : Nat) : stp x (fin w c) k = fin w c k := by
  unfold stp
  split
  · rfl
  · rename_i hk
    obtain ⟨m, hm, e⟩ := act_ex (fun j k => (dif w j k : Int)) c (x - 1)
    have h2 := @act_le (fun j k => (dif w j k : Int)) c m k (by omega)
    have h3 := @dif_lt w m x k hx (by omega) (by omega)
    have : fin w c (x - 1) + 1 ≤ fin w c k := by
      show act _ c (x - 1) + 1 ≤ act _ c k
      omega
    omega
theorem fin_stps {w : List Nat} (c : Nat → Int) (h1 : ∀ x ∈ w, 1 ≤ x) : ∀ v : List Nat, (∀ x ∈ v, x ∈ w) → stps v (fin w c) = fin w c
  | [], _ => rfl
  | x :: v, h => by
    show stps v (stp x (fin w c)) = _
    have hx := h x (List.mem_cons_self ..)
    rw [show stp x (fin w c) = fin w c from funext fun k => fin_stp c hx (h1 x hx) k]
    exact fin_stps c h1 v fun y hy => h y (List.mem_cons_of_mem _ hy)
def rep (w : List Nat) : Nat → (Nat → Int) → Nat → Int
  | 0, c => c
  | i + 1, c => stps w (rep w i c)
theorem rep_le {w : List Nat} (c : Nat → Int) (h1 : ∀ x ∈ w, 1 ≤ x) : ∀ i k, rep w i c k ≤ fin w c k
  | 0, k => fin_ge w c k
  | i + 1, k => by
    have := stps_up w (fun k => rep_le c h1 i k) k
    rw [fin_stps c h1 w fun x h => h] at this
    exact this
/-- while w is read, the value at a level of w is more than the one below was -/
theorem stps_hit {x : Nat} (h1 : 1 ≤ x) : ∀ (w : List Nat) (c : Nat → Int) (k : Nat), x ∈ w → x ≤ k → c (x - 1) + 1 ≤ stps w c k
  | y :: w, c, k, hx, hk => by
    by_cases e : x = y
    · subst e
      refine Int.le_trans ?_ (stps_ge w (stp x c) k)
      unfold stp
      rw [if_neg (by omega)]
      omega
    · have hx : x ∈ w := (List.mem_cons.mp hx).resolve_left e
      have := stps_hit h1 w (stp y c) k hx hk
      have := stp_ge y c (x - 1)
      show _ ≤ stps w (stp y c) k
      omega
theorem rep_ge {w : List Nat} (c : Nat → Int) : ∀ (i j k : Nat), j ≤ k → dif w j k ≤ i → c j + (dif w j k : Int) ≤ rep w i c (k : Nat) ∨ ¬ Mono c
  | i, j, k, hjk, hd => by
    by_cases hm : Mono c
    · left
      have mono : ∀ i, Mono (rep w i c) := fun i => by
        induction i with
        | zero => exact hm
        | succ i ih => exact stps_mono w ih
      have key : ∀ (i j k : Nat), j ≤ k → dif w j k ≤ i → c j + (dif w j k : Int) ≤ rep w i c k := fun i => by
        induction i with
        | zero =>
          intro j k hjk hd
          have := hm j k hjk
          show _ ≤ c k
          omega
        | succ i ih =>
          intro j k hjk hd
          by_cases q : dif w j k ≤ i
          · exact Int.le_trans (ih j k hjk q) (stps_ge w _ k)
          · have top : ∀ k, j ≤ k → 0 < dif w j k → ∃ x, x ∈ w ∧ j < x ∧ x ≤ k ∧ dif w j (x - 1) + 1 = dif w j k := fun k => by
              induction k with
              | zero => intro hj h0; rw [dif_self w j 0 (by omega)] at h0; omega
              | succ k ihk =>
                intro hj h0
                by_cases r : j < k + 1 ∧ k + 1 ∈ w
                · exact ⟨k + 1, r.2, r.1, Nat.le_refl _, by rw [dif_succ w j k, if_pos r]; rfl⟩
                · have ed : dif w j (k + 1) = dif w j k := by rw [dif_succ, if_neg r]; rfl
                  have hjk : j ≤ k := by
                    by_cases z : j ≤ k
                    · exact z
                    · rw [dif_self w j (k + 1) (by omega)] at h0; omega
                  obtain ⟨x, a, b, c', d⟩ := ihk hjk (by omega)
                  exact ⟨x, a, b, by omega, by omega⟩
            obtain ⟨x, hx, x1, x2, e⟩ := top k hjk (by omega)
            have a := ih j (x - 1) (by omega) (by omega)
            have b := stps_hit (by omega : 1 ≤ x) w (rep w i c) k hx x2
            show _ ≤ stps w (rep w i c) k
            omega
      exact key i j k hjk hd
    · exact .inr hm
/-- the end is reached after as many rounds as there are levels -/
theorem rep_fin {w : List Nat} {c : Nat → Int} (hm : Mono c) (h1 : ∀ x ∈ w, 1 ≤ x) {i n : Nat} (hi : n ≤ i) (k : Nat) (hk : k ≤ n) : rep w i c k = fin w c k := by
  have a := rep_le c h1 i k
  obtain ⟨j, hj, e⟩ := act_ex (fun j k => (dif w j k : Int)) c k
  have d := dif_le w j k
  have b := (rep_ge (w := w) c i j k hj (by omega)).resolve_right fun z => z hm
  show _ = act _ c k
  have a : rep w i c k ≤ act (fun j k => (dif w j k : Int)) c k := a
  omega
/-! ### racks -/
theorem cnt_app (a b : List Int) (x : Int) : cnt (a ++ b) x = cnt a x + cnt b x := by
  unfold cnt
  rw [List.filter_append, List.length_append]
  rfl
theorem cnt_all {as : List Int} {x : Int} (h : ∀ m ∈ as, m ≤ x) : cnt as x = as.length := by
  unfold cnt
  rw [List.filter_eq_self.mpr fun m hm => decide_eq_true (h m hm)]
theorem cnt_mono (ms : List Int) : Mono fun k => cnt ms (k : Int) := fun i j hij => by
  show cnt ms i ≤ cnt ms j
  induction ms with
  | nil => exact Int.le_refl _
  | cons a ms ih =>
    rw [cnt_cons, cnt_cons]
    split <;> split <;> omega
theorem cnt_put {n x : Int} {ms : List Int} (h : Mk n ms) (hn : n ≤ 12) (h1 : 1 ≤ x) (h2 : x ≤ n) (k : Nat) : cnt (putR x ms) (k : Int) = stp x.toNat (fun k => cnt ms (k : Int)) k := by
  have hl : ms.length ≤ 1000 := by have := mk_len h (by omega); omega
  obtain ⟨lo, hi, rfl, a, e⟩ := split_put h hl x
  have hp := (List.pairwise_append.mp h.pw).2.1
  rw [e]
  unfold stp
  have hx : ((x.toNat - 1 : Nat) : Int) = x - 1 := by omega
  have l1 : cnt lo (x - 1) = lo.length := cnt_all fun m hm => by have := a.llo m hm; omega
  have l2 : cnt hi (x - 1) = 0 := cnt_low fun m hm => by have := a.lhi m hm; omega
  show _ = if k < x.toNat then cnt (lo ++ hi) (k : Int) else max (cnt (lo ++ hi) (k : Int)) (cnt (lo ++ hi) ((x.toNat - 1 : Nat) : Int) + 1)
  rw [hx, cnt_app, cnt_app, cnt_app, cnt_cons, l1, l2]
  by_cases c : k < x.toNat
  · have z1 : cnt hi (k : Int) = 0 := cnt_low fun m hm => by have := a.lhi m hm; omega
    have z2 : cnt hi.tail (k : Int) = 0 := cnt_low fun m hm => by have := a.lhi m (List.mem_of_mem_tail hm); omega
    rw [if_pos c, if_neg (by omega), z1, z2]
    omega
  · have l3 : cnt lo (k : Int) = lo.length := cnt_all fun m hm => by have := a.llo m hm; omega
    rw [if_neg c, if_pos (by omega), l3]
    cases hi with
    | nil =>
      show _ + (1 + cnt [] (k : Int)) = _
      rw [cnt_none]
      omega
    | cons y t =>
      show _ + (1 + cnt t (k : Int)) = _
      rw [cnt_cons]
      have hc := @cnt_nn t (k : Int)
      by_cases q : y ≤ (k : Int)
      · rw [if_pos q]; omega
      · have : cnt t (k : Int) = 0 := cnt_low fun m hm => by have := (List.pairwise_cons.mp hp).1 m hm; omega
        rw [if_neg q, this]; omega
theorem cnt_rdL {n : Int} (hn : n ≤ 12) : ∀ {xs ms : List Int}, Mk n ms → (∀ x ∈ xs, 1 ≤ x ∧ x ≤ n) → ∀ k : Nat, cnt (rdL ms xs) (k : Int) = stps (xs.map Int.toNat) (fun k => cnt ms (k : Int)) k
  | [], _, _, _, _ => rfl
  | x :: xs, ms, h, hx, k => by
    obtain ⟨a, b⟩ := hx x (List.mem_cons_self ..)
    have ih := cnt_rdL hn (mk_put h hn a b) (fun y hy => hx y (List.mem_cons_of_mem _ hy)) k
    show cnt (rdL (putR x ms) xs) (k : Int) = stps (xs.map Int.toNat) (stp x.toNat fun k => cnt ms (k : Int)) k
    rw [ih, show (fun k : Nat => cnt (putR x ms) (k : Int)) = stp x.toNat (fun k => cnt ms (k : Int)) from funext fun k => cnt_put h hn a b k]
end DL

end

section
set_option autoImplicit false
/-! DLge: readings step by step. -/
namespace DL
open PySem L2
section
variable {Φ : Calls} {ρ ρ1 ρ2 : Ev} {s : S} {ss : Ss} {r : Out Fl} {P : Type}
theorem sq (e : exec Φ s ρ = .ok .nx ρ1) (e2 : execs Φ ss ρ1 = r) : execs Φ (.cons s ss) ρ = r := by
  show (exec Φ s ρ).then _ = _
  rw [e]; exact e2
theorem sq_rt {v : R} (e : exec Φ s ρ = .ok (.rt v) ρ1) : execs Φ (.cons s ss) ρ = .ok (.rt v) ρ1 := by
  show (exec Φ s ρ).then _ = _
  rw [e]; rfl
theorem x_brk (e : exec Φ s ρ = .ok .bk ρ1) : execs Φ (.cons s ss) ρ = .ok .bk ρ1 := by
  show (exec Φ s ρ).then _ = _
  rw [e]; rfl
theorem sq_end (e : exec Φ s ρ = .ok .nx ρ1) : execs Φ (.cons s .nil) ρ = .ok .nx ρ1 := sq e rfl
theorem x_ret {e : E} {v : R} (h : ev Φ e ρ = .ok v ρ1) : exec Φ (.ret e) ρ = .ok (.rt v) ρ1 := by
  show (ev Φ e ρ).then _ = _
  rw [h]; rfl
theorem x_if {c : E} {a b : Ss} {d : D} (k : Bool) (h : ev Φ c ρ = .ok (.fz d) ρ1) (ht : truthD d = some k) (e : execs Φ (if k then a else b) ρ1 = r) : exec Φ (.ifs c a b) ρ = r := by
  show (ev Φ c ρ).then _ = _
  rw [h]
  show ((ofO (truthD d) ρ1).then _) = _
  rw [ht]
  cases k <;> exact e
theorem x_ifv {c : E} {a b : Ss} {x : R} {d : D} (k : Bool) (h : ev Φ c ρ = .ok x ρ1) (hv : view ρ1 x = some d) (ht : truthD d = some k) (e : execs Φ (if k then a else b) ρ1 = r) : exec Φ (.ifs c a b) ρ = r := by
  show (ev Φ c ρ).then _ = _
  rw [h]
  show (((match view ρ1 x with | some d => Out.ok d ρ1 | none => .stk) : Out D).then _) = _
  rw [hv]
  show ((ofO (truthD d) ρ1).then _) = _
  rw [ht]
  cases k <;> exact e
theorem x_ift {c : E} {a b : Ss} (h : ev Φ c ρ = .ok (.fz (.bl true)) ρ1) (e : execs Φ a ρ1 = r) : exec Φ (.ifs c a b) ρ = r := x_if true h rfl e
theorem x_iff {c : E} {a b : Ss} (h : ev Φ c ρ = .ok (.fz (.bl false)) ρ1) (e : execs Φ b ρ1 = r) : exec Φ (.ifs c a b) ρ = r := x_if false h rfl e
/-- a name gets frozen data -/
theorem x_asgD {i : Nat} {e : E} {d : D} (h : ev Φ e ρ = .ok (.fz d) ρ1) (hw : setD i d ρ1 = .ok () (ρ1.set i (.fz d)) := by rfl) : exec Φ (.asg (.nm i) e) ρ = .ok .nx (ρ1.set i (.fz d)) := by
  show (ev Φ e ρ).then _ = _
  rw [h]
  show ((setD i d ρ1).then _) = _
  rw [hw]; rfl
/-- a name gets a fresh list -/
theorem x_asgL {i : Nat} {e : E} {xs : List D} (h : ev Φ e ρ = .ok (.fr xs) ρ1) (hw : setL i xs ρ1 = .ok () (ρ1.set i (.ls .own xs)) := by rfl) : exec Φ (.asg (.nm i) e) ρ = .ok .nx (ρ1.set i (.ls .own xs)) := by
  show (ev Φ e ρ).then _ = _
  rw [h]
  show ((setL i xs ρ1).then _) = _
  rw [hw]; rfl
theorem x_app {i : Nat} {e : E} {d : D} {xs : List D} {k : Lk} (h : ev Φ e ρ = .ok (.fz d) ρ) (hl : xs.length < sizeLine) (h1 : ρ[i]? = some (.ls k xs) := by rfl) (hk : putL i (xs ++ [d]) ρ = .ok () (ρ.set i (.ls k (xs ++ [d]))) := by rfl) : exec Φ (.ex (.app i e)) ρ = .ok .nx (ρ.set i (.ls k (xs ++ [d]))) := by
  have g : getL i ρ = .ok xs ρ := by show (match ρ[i]? with | some (.ls _ xs) => Out.ok xs ρ | _ => .stk) = _; rw [h1]
  show ((getL i ρ).then _).then _ = _
  rw [g]
  show ((ev Φ e ρ).then _).then _ = _
  rw [h]
  show ((getL i ρ).then _).then _ = _
  rw [g]
  show (((if xs.length < sizeLine then bnd (putL i (xs ++ [d])) fun _ => DL.ret (R.fz .non) else stuck) ρ)).then _ = _
  rw [if_pos hl]
  show ((putL i (xs ++ [d]) ρ).then _).then _ = _
  rw [hk]; rfl
theorem x_appR {i : Nat} {e : E} {ys xs : List D} {k : Lk} (h : ev Φ e ρ = .ok (.fr ys) ρ) (hl : xs.length < sizeLine) (h1 : ρ[i]? = some (.ls k xs) := by rfl) (hk : putL i (xs ++ [.lst ys]) ρ = .ok () (ρ.set i (.ls k (xs ++ [.lst ys]))) := by rfl) : exec Φ (.ex (.app i e)) ρ = .ok .nx (ρ.set i (.ls k (xs ++ [.lst ys]))) := by
  have g : getL i ρ = .ok xs ρ := by show (match ρ[i]? with | some (.ls _ xs) => Out.ok xs ρ | _ => .stk) = _; rw [h1]
  show ((getL i ρ).then _).then _ = _
  rw [g]
  show ((ev Φ e ρ).then _).then _ = _
  rw [h]
  show ((getL i ρ).then _).then _ = _
  rw [g]
  show (((if xs.length < sizeLine then bnd (putL i (xs ++ [.lst ys])) fun _ => DL.ret (R.fz .non) else stuck) ρ)).then _ = _
  rw [if_pos hl]
  show ((putL i (xs ++ [.lst ys]) ρ).then _).then _ = _
  rw [hk]; rfl
theorem x_ext {i : Nat} {e : E} {ys xs : List D} {k : Lk} {v : R} (h : ev Φ e ρ = .ok v ρ) (hv : view ρ v = some (.lst ys)) (hl : xs.length + ys.length ≤ sizeLine) (h1 : ρ[i]? = some (.ls k xs) := by rfl) (hk : putL i (xs ++ ys) ρ = .ok () (ρ.set i (.ls k (xs ++ ys))) := by rfl) : exec Φ (.ex (.ext i e)) ρ = .ok .nx (ρ.set i (.ls k (xs ++ ys))) := by
  have g : getL i ρ = .ok xs ρ := by show (match ρ[i]? with | some (.ls _ xs) => Out.ok xs ρ | _ => .stk) = _; rw [h1]
  show ((getL i ρ).then _).then _ = _
  rw [g]
  show ((ev Φ e ρ).then _).then _ = _
  rw [h]
  show ((((match view ρ v with | some d => Out.ok d ρ | none => .stk) : Out D)).then _).then _ = _
  rw [hv]
  show ((getL i ρ).then _).then _ = _
  rw [g]
  show (((if xs.length + ys.length ≤ sizeLine then bnd (putL i (xs ++ ys)) fun _ => DL.ret (R.fz .non) else stuck) ρ)).then _ = _
  rw [if_pos hl]
  show ((putL i (xs ++ ys) ρ).then _).then _ = _
  rw [hk]; rfl
/-! ### loops -/
theorem for_ps {t : Tg} {it : DL.It} {b : Ss} (g : P → D) (ps : List P) (st : List P → Ev) (hi : evit Φ it ρ = .ok (none, ps.map g) ρ1) (h0 : st [] = ρ1)
    (hs : ∀ done p rest, ps = done ++ p :: rest → (bnd (asgn Φ t (g p)) fun _ => execs Φ b) (st done) = .ok .nx (st (done ++ [p])) ∨ (bnd (asgn Φ t (g p)) fun _ => execs Φ b) (st done) = .ok .ct (st (done ++ [p]))) : exec Φ (.for_ t it b) ρ = .ok .nx (st ps) := by
  have key : ∀ (qs done : List P), ps = done ++ qs → forL (fun x => bnd (asgn Φ t x) fun _ => execs Φ b) (qs.map g) (st done) = .ok .nx (st ps) := fun qs => by
    induction qs with
    | nil => intro done h; rw [List.append_nil] at h; subst h; rfl
    | cons q qs ih =>
      intro done h
      show ((bnd (asgn Φ t (g q)) fun _ => execs Φ b) (st done)).then _ = _
      rcases hs done q qs h with e | e <;> (rw [e]; exact ih (done ++ [q]) (by rw [h, List.append_assoc]; rfl))
  show (evit Φ it ρ).then _ = _
  rw [hi, ← h0]
  exact key ps [] rfl
/-- the usual case: no continue -/
theorem for_nx {t : Tg} {it : DL.It} {b : Ss} (g : P → D) (ps : List P) (st : List P → Ev) (hi : evit Φ it ρ = .ok (none, ps.map g) ρ1) (h0 : st [] = ρ1)
    (hs : ∀ done p rest, ps = done ++ p :: rest → (bnd (asgn Φ t (g p)) fun _ => execs Φ b) (st done) = .ok .nx (st (done ++ [p]))) : exec Φ (.for_ t it b) ρ = .ok .nx (st ps) :=
  for_ps g ps st hi h0 fun a b c d => .inl (hs a b c d)
/-- a fold with an invariant -/
theorem for_fold {α : Type} {t : Tg} {it : DL.It} {b : Ss} (g : P → D) (ps : List P) (f : α → P → α) (a0 : α) (st : α → Ev) (J : α → Prop) (hi : evit Φ it ρ = .ok (none, ps.map g) ρ1) (h0 : st a0 = ρ1) (hJ : J a0)
    (hs : ∀ a p, p ∈ ps → J a → (bnd (asgn Φ t (g p)) fun _ => execs Φ b) (st a) = .ok .nx (st (f a p)) ∧ J (f a p)) : exec Φ (.for_ t it b) ρ = .ok .nx (st (ps.foldl f a0)) ∧ J (ps.foldl f a0) := by
  have key : ∀ (qs : List P) (a : α), (∀ q ∈ qs, q ∈ ps) → J a → forL (fun x => bnd (asgn Φ t x) fun _ => execs Φ b) (qs.map g) (st a) = .ok .nx (st (qs.foldl f a)) ∧ J (qs.foldl f a) := fun qs => by
    induction qs with
    | nil => intro a _ h; exact ⟨rfl, h⟩
    | cons q qs ih =>
      intro a h hJ
      obtain ⟨e, j⟩ := hs a q (h q (List.mem_cons_self ..)) hJ
      obtain ⟨e2, j2⟩ := ih (f a q) (fun x hx => h x (List.mem_cons_of_mem _ hx)) j
      refine ⟨?_, j2⟩
      show ((bnd (asgn Φ t (g q)) fun _ => execs Φ b) (st a)).then _ = _
      rw [e]; exact e2
  obtain ⟨e, j⟩ := key ps a0 (fun _ h => h) hJ
  refine ⟨?_, j⟩
  show (evit Φ it ρ).then _ = _
  rw [hi, ← h0]
  exact e
/-- a loop that may return: searched for the first p with a result -/
theorem for_find {t : Tg} {it : DL.It} {b : Ss} (g : P → D) (ps : List P) (f : P → Option R) (hi : evit Φ it ρ = .ok (none, ps.map g) ρ1)
    (hn : ∀ p ∈ ps, f p = none → (bnd (asgn Φ t (g p)) fun _ => execs Φ b) ρ1 = .ok .nx ρ1) (hr : ∀ p ∈ ps, ∀ v, f p = some v → ∃ ρ2, (bnd (asgn Φ t (g p)) fun _ => execs Φ b) ρ1 = .ok (.rt v) ρ2) :
    match ps.findSome? f with | none => exec Φ (.for_ t it b) ρ = .ok .nx ρ1 | some v => ∃ ρ2, exec Φ (.for_ t it b) ρ = .ok (.rt v) ρ2 := by
  have key : ∀ qs : List P, (∀ q ∈ qs, q ∈ ps) → match qs.findSome? f with | none => forL (fun x => bnd (asgn Φ t x) fun _ => execs Φ b) (qs.map g) ρ1 = .ok .nx ρ1 | some v => ∃ ρ2, forL (fun x => bnd (asgn Φ t x) fun _ => execs Φ b) (qs.map g) ρ1 = .ok (.rt v) ρ2 := fun qs => by
    induction qs with
    | nil => intro _; rfl
    | cons q qs ih =>
      intro h
      have hq := h q (List.mem_cons_self ..)
      rw [List.findSome?_cons]
      cases e : f q with
      | none =>
        have ih := ih fun x hx => h x (List.mem_cons_of_mem _ hx)
        have e1 : ∀ r, forL (fun x => bnd (asgn Φ t x) fun _ => execs Φ b) (qs.map g) ρ1 = r → forL (fun x => bnd (asgn Φ t x) fun _ => execs Φ b) ((q :: qs).map g) ρ1 = r := fun r hr => by
          show ((bnd (asgn Φ t (g q)) fun _ => execs Φ b) ρ1).then _ = _
          rw [hn q hq e]; exact hr
        show match qs.findSome? f with | none => _ | some v => _
        cases e2 : qs.findSome? f with
        | none => rw [e2] at ih; exact e1 _ ih
        | some v => rw [e2] at ih; obtain ⟨ρ2, ih⟩ := ih; exact ⟨ρ2, e1 _ ih⟩
      | some v =>
        obtain ⟨ρ2, e2⟩ := hr q hq v e
        refine ⟨ρ2, ?_⟩
        show ((bnd (asgn Φ t (g q)) fun _ => execs Φ b) ρ1).then _ = _
        rw [e2]; rfl
  have k := key ps fun _ h => h
  have e1 : exec Φ (.for_ t it b) ρ = forL (fun x => bnd (asgn Φ t x) fun _ => execs Φ b) (ps.map g) ρ1 := by
    show (evit Φ it ρ).then _ = _
    rw [hi]; rfl
  rw [e1]; exact k
/-! ### comprehensions -/
theorem e_comp {own : List Nat} {tg : Tg} {it : DL.It} {co : Eo} {e : E} (g : P → D) (ps : List P) (f : P → D) (hi : evit Φ it ρ = .ok (none, ps.map g) ρ) (hl : ps.length ≤ sizeLine)
    (hs : ∀ p ∈ ps, compStep Φ own tg co e (g p) ρ = .ok (some (f p)) ρ) (ho : ownOk ρ own = true := by rfl) (hw : wipeS ρ own = ρ := by rfl) (hb : backS ρ ρ own = ρ := by rfl) : ev Φ (.comp own tg it co e) ρ = .ok (.fr (ps.map f)) ρ := by
  rw [r_comp, hi]
  show ((wipeM own ρ).then _).then _ = _
  rw [show wipeM own ρ = if ownOk ρ own then .ok () (wipeS ρ own) else .stk from rfl, if_pos ho, hw]
  show (cmpL (compStep Φ own tg co e) (ps.map g) [] ρ).then _ = _
  rw [cmpL_map (f := fun p => some (f p)) ps [] (by rw [List.length_nil, Nat.zero_add]; exact hl) hs, List.nil_append, show ps.filterMap (fun p => some (f p)) = ps.map f from congrFun List.filterMap_eq_map' ps]
  show Out.ok _ (backS ρ ρ own) = _
  rw [hb]
theorem e_compF {own : List Nat} {tg : Tg} {it : DL.It} {co : Eo} {e : E} (g : P → D) (ps : List P) (f : P → Option D) (hi : evit Φ it ρ = .ok (none, ps.map g) ρ) (hl : ps.length ≤ sizeLine)
    (hs : ∀ p ∈ ps, compStep Φ own tg co e (g p) ρ = .ok (f p) ρ) (ho : ownOk ρ own = true := by rfl) (hw : wipeS ρ own = ρ := by rfl) (hb : backS ρ ρ own = ρ := by rfl) : ev Φ (.comp own tg it co e) ρ = .ok (.fr (ps.filterMap f)) ρ := by
  rw [r_comp, hi]
  show ((wipeM own ρ).then _).then _ = _
  rw [show wipeM own ρ = if ownOk ρ own then .ok () (wipeS ρ own) else .stk from rfl, if_pos ho, hw]
  show (cmpL (compStep Φ own tg co e) (ps.map g) [] ρ).then _ = _
  rw [cmpL_map (f := f) ps [] (by rw [List.length_nil, Nat.zero_add]; exact hl) hs, List.nil_append]
  show Out.ok _ (backS ρ ρ own) = _
  rw [hb]
/-- the comprehension's own names may hold something ahead -/
theorem e_compW {own : List Nat} {tg : Tg} {it : DL.It} {co : Eo} {e : E} {ρw : Ev} (g : P → D) (ps : List P) (f : P → D) (hi : evit Φ it ρ = .ok (none, ps.map g) ρ) (hl : ps.length ≤ sizeLine)
    (hs : ∀ p ∈ ps, compStep Φ own tg co e (g p) ρw = .ok (some (f p)) ρw) (hw : wipeS ρ own = ρw := by rfl) (ho : ownOk ρ own = true := by rfl) (hb : backS ρ ρw own = ρ := by rfl) : ev Φ (.comp own tg it co e) ρ = .ok (.fr (ps.map f)) ρ := by
  rw [r_comp, hi]
  show ((wipeM own ρ).then _).then _ = _
  rw [show wipeM own ρ = if ownOk ρ own then .ok () (wipeS ρ own) else .stk from rfl, if_pos ho, hw]
  show (cmpL (compStep Φ own tg co e) (ps.map g) [] ρw).then _ = _
  rw [cmpL_map (f := fun p => some (f p)) ps [] (by rw [List.length_nil, Nat.zero_add]; exact hl) hs, List.nil_append, show ps.filterMap (fun p => some (f p)) = ps.map f from congrFun List.filterMap_eq_map' ps]
  show Out.ok _ (backS ρ ρw own) = _
  rw [hb]
theorem c_some {own : List Nat} {tg : Tg} {e : E} {x d : D} {ρ ρ' : Ev} (h1 : asgn Φ tg x ρ = .ok () ρ') (h2 : ev Φ e ρ' = .ok (.fz d) ρ') (ho : ownOk ρ' own = true := by rfl) (hw : wipeS ρ' own = ρ := by rfl) : compStep Φ own tg .none e x ρ = .ok (some d) ρ := by
  show (asgn Φ tg x ρ).then _ = _
  rw [h1]
  show (ev Φ e ρ').then _ = _
  rw [h2]
  show ((wipeM own ρ').then _) = _
  rw [show wipeM own ρ' = if ownOk ρ' own then .ok () (wipeS ρ' own) else .stk from rfl, if_pos ho, hw]
  rfl
theorem c_someR {own : List Nat} {tg : Tg} {e : E} {x : D} {xs : List D} {ρ ρ' : Ev} (h1 : asgn Φ tg x ρ = .ok () ρ') (h2 : ev Φ e ρ' = .ok (.fr xs) ρ') (ho : ownOk ρ' own = true := by rfl) (hw : wipeS ρ' own = ρ := by rfl) : compStep Φ own tg .none e x ρ = .ok (some (.lst xs)) ρ := by
  show (asgn Φ tg x ρ).then _ = _
  rw [h1]
  show (ev Φ e ρ').then _ = _
  rw [h2]
  show ((wipeM own ρ').then _) = _
  rw [show wipeM own ρ' = if ownOk ρ' own then .ok () (wipeS ρ' own) else .stk from rfl, if_pos ho, hw]
  rfl
/-! ### expressions -/
theorem e_bi1 {b : Bi} {a : E} {v v2 : R} {d : D} (h : ev Φ a ρ = .ok v ρ1) (hv : view ρ1 v = some d) (hb : biD b [d] = some v2) : ev Φ (.bi b (.cons a .nil)) ρ = .ok v2 ρ1 := by
  rw [r_bi, r_evrs1, h]
  show (match List.mapM (view ρ1) [v] with | some ds => ofO (biD b ds) ρ1 | none => .stk) = _
  rw [r_mapM1, r_mapM0, hv]
  show ofO (biD b [d]) ρ1 = _
  rw [hb]; rfl
theorem i_rng1Z {e : E} {z : Int} {X : List D} (h : ev Φ e ρ = .ok (.fz (.int z)) ρ1) (h6 : DL.small62 z = true) (this : rngL 0 z = X) : evit Φ (.rng1 e) ρ = .ok (none, X) ρ1 := by
  simp [h, h6, this]
theorem i_rng2Z {a b : E} {y z : Int} {X : List D} (ha : ev Φ a ρ = .ok (.fz (.int y)) ρ1) (hb : ev Φ b ρ1 = .ok (.fz (.int z)) ρ2) (h6 : DL.small62 z = true) (h7 : DL.small62 y = true) (this : rngL y z = X) : evit Φ (.rng2 a b) ρ = .ok (none, X) ρ2 := by
  simp [ha, hb, h6, h7, this]
theorem s62N {q : Nat} (hq : q ≤ 1000000) : DL.small62 (q : Int) = true := s62 (by omega) (by omega)
theorem rng1_map (q : Nat) : rngL 0 (q : Int) = (List.range q).map fun i : Nat => D.int (i : Int) := by
  unfold rngL
  rw [show ((q : Int) - 0).toNat = q from by omega]
  refine congrArg (fun f => List.map f (List.range q)) (funext fun i => ?_)
  show D.int (0 + (i : Int)) = _
  rw [Int.zero_add]
theorem rng2_map (p q : Nat) : rngL (p : Int) (q : Int) = (List.range' p (q - p)).map fun i : Nat => D.int (i : Int) := by
  unfold rngL
  rw [show ((q : Int) - p).toNat = q - p from by omega, List.range'_eq_map_range, List.map_map]
  refine congrArg (fun f => List.map f (List.range (q - p))) (funext fun i => ?_)
  show D.int (p + (i : Int)) = D.int ((p + i : Nat) : Int)
  rw [Int.natCast_add]
theorem i_rng1 {e : E} {q : Nat} (h : ev Φ e ρ = .ok (.fz (.int q)) ρ1) (hq : q ≤ 1000000) : evit Φ (.rng1 e) ρ = .ok (none, (List.range q).map fun i : Nat => D.int (i : Int)) ρ1 := i_rng1Z h (s62N hq) (rng1_map q)
theorem i_rng2 {a b : E} {p q : Nat} (ha : ev Φ a ρ = .ok (.fz (.int p)) ρ1) (hb : ev Φ b ρ1 = .ok (.fz (.int q)) ρ2) (hp : p ≤ 1000000) (hq : q ≤ 1000000) : evit Φ (.rng2 a b) ρ = .ok (none, (List.range' p (q - p)).map fun i : Nat => D.int (i : Int)) ρ2 := i_rng2Z ha hb (s62N hq) (s62N hp) (rng2_map p q)
theorem bd {t : Tg} {b : Ss} {x : D} (h : asgn Φ t x ρ = .ok () ρ1) (e : execs Φ b ρ1 = r) : (bnd (asgn Φ t x) fun _ => execs Φ b) ρ = r := by
  show (asgn Φ t x ρ).then _ = _
  rw [h]; exact e
theorem e_nil : ev Φ (.lst .nil) ρ = .ok (.fr []) ρ := rfl
theorem x_wip {ws : List Nat} (h : dropOk ρ ws = true := by rfl) : exec Φ (.wip ws) ρ = .ok .nx (wipeS ρ ws) := by
  rw [s_wip, if_pos h]
theorem e_bin {o : Bop} {a b : E} {d d2 : D} {x y v : R} (ha : ev Φ a ρ = .ok x ρ) (hb : ev Φ b ρ = .ok y ρ) (h1 : view ρ x = some d) (h2 : view ρ y = some d2) (h : binD o d d2 = some v) : ev Φ (.bin o a b) ρ = .ok v ρ := by
  rw [r_bin, ha]
  show ((ev Φ b ρ).then _) = _
  rw [hb]
  show (((match view ρ x with | some d => Out.ok d ρ | none => .stk) : Out D).then _) = _
  rw [h1]
  show (((match view ρ y with | some d => Out.ok d ρ | none => .stk) : Out D).then _) = _
  rw [h2]
  show ofO (binD o d d2) ρ = _
  rw [h]; rfl
theorem e_idx {a b : E} {d d2 d3 : D} {x y : R} (ha : ev Φ a ρ = .ok x ρ) (hb : ev Φ b ρ = .ok y ρ) (h1 : view ρ x = some d) (h2 : view ρ y = some d2) (h : idxD d d2 = some d3) : ev Φ (.idx a b) ρ = .ok (.fz d3) ρ := by
  rw [r_idx, ha]
  show ((ev Φ b ρ).then _) = _
  rw [hb]
  show (((match view ρ x with | some d => Out.ok d ρ | none => .stk) : Out D).then _) = _
  rw [h1]
  show (((match view ρ y with | some d => Out.ok d ρ | none => .stk) : Out D).then _) = _
  rw [h2]
  show (ofO (idxD d d2) ρ).then _ = _
  rw [h]; rfl
theorem e_slc {a : E} {lo hi : Eo} {d : D} {x v : R} {l h : Option Int} (ha : ev Φ a ρ = .ok x ρ) (hl : evo Φ lo ρ = .ok l ρ) (hh : evo Φ hi ρ = .ok h ρ) (h1 : view ρ x = some d) (h2 : slcD d l h = some v) : ev Φ (.slc a lo hi) ρ = .ok v ρ := by
  rw [r_slc, ha]
  show ((evo Φ lo ρ).then _) = _
  rw [hl]
  show ((evo Φ hi ρ).then _) = _
  rw [hh]
  show (((match view ρ x with | some d => Out.ok d ρ | none => .stk) : Out D).then _) = _
  rw [h1]
  show ofO (slcD d l h) ρ = _
  rw [h2]; rfl
theorem o_some {a : E} {i : Int} (h : ev Φ a ρ = .ok (.fz (.int i)) ρ) : evo Φ (.some a) ρ = .ok (some i) ρ := by
  rw [r_evo1, h]; rfl
theorem e_call1 {f : Nat} {a : E} {d : D} {x v : R} (ha : ev Φ a ρ = .ok x ρ) (h : Φ f [.fz d] = some (v, [.fz d])) (h1 : DL.share x ρ = .ok d ρ := by rfl) : ev Φ (.call f [0] (.val a .nil) .nil) ρ = .ok v ρ := by
  have e : evas Φ (.val a .nil) ρ = .ok [.val d] ρ := by
    rw [r_evas1, ha]
    show ((DL.share x ρ).then _) = _
    rw [h1]; rfl
  rw [r_call, e]
  show callM Φ f [0] [.val d] ρ = _
  rw [c_call]
  show (match Φ f [.fz d] with | none => Out.stk | some (r, ss') => Out.ok r (putBack [.val d] ss' ρ)) = _
  rw [h]; rfl
theorem e_call2 {f : Nat} {a b : E} {d d2 : D} {x y v : R} (ha : ev Φ a ρ = .ok x ρ) (hb : ev Φ b ρ = .ok y ρ) (h : Φ f [.fz d, .fz d2] = some (v, [.fz d, .fz d2])) (h1 : DL.share x ρ = .ok d ρ := by rfl) (h2 : DL.share y ρ = .ok d2 ρ := by rfl) : ev Φ (.call f [0, 1] (.val a (.val b .nil)) .nil) ρ = .ok v ρ := by
  have e : evas Φ (.val a (.val b .nil)) ρ = .ok [.val d, .val d2] ρ := by
    rw [r_evas1, ha]
    show ((DL.share x ρ).then _) = _
    rw [h1]
    show (evas Φ (.val b .nil) ρ).then _ = _
    rw [r_evas1, hb]
    show ((DL.share y ρ).then _).then _ = _
    rw [h2]; rfl
  rw [r_call, e]
  show callM Φ f [0, 1] [.val d, .val d2] ρ = _
  rw [c_call]
  show (match Φ f [.fz d, .fz d2] with | none => Out.stk | some (r, ss') => Out.ok r (putBack [.val d, .val d2] ss' ρ)) = _
  rw [h]; rfl
theorem e_call3 {f : Nat} {a b c : E} {d d2 d3 : D} {x y z v : R} (ha : ev Φ a ρ = .ok x ρ) (hb : ev Φ b ρ = .ok y ρ) (hc : ev Φ c ρ = .ok z ρ) (h : Φ f [.fz d, .fz d2, .fz d3] = some (v, [.fz d, .fz d2, .fz d3])) (h1 : DL.share x ρ = .ok d ρ := by rfl) (h2 : DL.share y ρ = .ok d2 ρ := by rfl) (h3 : DL.share z ρ = .ok d3 ρ := by rfl) : ev Φ (.call f [0, 1, 2] (.val a (.val b (.val c .nil))) .nil) ρ = .ok v ρ := by
  have e : evas Φ (.val a (.val b (.val c .nil))) ρ = .ok [.val d, .val d2, .val d3] ρ := by
    rw [r_evas1, ha]
    show ((DL.share x ρ).then _) = _
    rw [h1]
    show (evas Φ (.val b (.val c .nil)) ρ).then _ = _
    rw [r_evas1, hb]
    show ((DL.share y ρ).then _).then _ = _
    rw [h2]
    show ((evas Φ (.val c .nil) ρ).then _).then _ = _
    rw [r_evas1, hc]
    show (((DL.share z ρ).then _).then _).then _ = _
    rw [h3]; rfl
  rw [r_call, e]
  show callM Φ f [0, 1, 2] [.val d, .val d2, .val d3] ρ = _
  rw [c_call]
  show (match Φ f [.fz d, .fz d2, .fz d3] with | none => Out.stk | some (r, ss') => Out.ok r (putBack [.val d, .val d2, .val d3] ss' ρ)) = _
  rw [h]; rfl
theorem e_cmp {o : Cop} {a b : E} {d d2 : D} {x y : R} {k : Bool} (ha : ev Φ a ρ = .ok x ρ) (hb : ev Φ b ρ = .ok y ρ) (h1 : view ρ x = some d) (h2 : view ρ y = some d2) (h : cmpD o d d2 = some k) : ev Φ (.cmp o a b) ρ = .ok (.fz (.bl k)) ρ := by
  rw [r_cmp, ha]
  show ((ev Φ b ρ).then _) = _
  rw [hb]
  show (((match view ρ x with | some d => Out.ok d ρ | none => .stk) : Out D).then _) = _
  rw [h1]
  show (((match view ρ y with | some d => Out.ok d ρ | none => .stk) : Out D).then _) = _
  rw [h2]
  show (ofO (cmpD o d d2) ρ).then _ = _
  rw [h]; rfl
theorem e_bi2 {b : Bi} {a c : E} {x y v : R} {d d2 : D} (ha : ev Φ a ρ = .ok x ρ) (hc : ev Φ c ρ = .ok y ρ) (h1 : view ρ x = some d) (h2 : view ρ y = some d2) (hb : biD b [d, d2] = some v) : ev Φ (.bi b (.cons a (.cons c .nil))) ρ = .ok v ρ := by
  rw [r_bi, r_evrs1, ha]
  show ((evrs Φ (.cons c .nil) ρ).then _).then _ = _
  rw [r_evrs1, hc]
  show (match List.mapM (view ρ) [x, y] with | some ds => ofO (biD b ds) ρ | none => .stk) = _
  rw [r_mapM1, r_mapM1, r_mapM0, h1, h2]
  show ofO (biD b [d, d2]) ρ = _
  rw [hb]; rfl
theorem e_and {a b : E} {k : Bool} {v : R} (ha : ev Φ a ρ = .ok (.fz (.bl k)) ρ) (hb : k = true → ev Φ b ρ = .ok v ρ) (hf : k = false → v = .fz (.bl false)) : ev Φ (.and a b) ρ = .ok v ρ := by
  rw [r_and, ha]
  cases k with
  | true => exact hb rfl
  | false => rw [hf rfl]; rfl
theorem e_or {a b : E} {k : Bool} {v : R} (ha : ev Φ a ρ = .ok (.fz (.bl k)) ρ) (hb : k = false → ev Φ b ρ = .ok v ρ) (hf : k = true → v = .fz (.bl true)) : ev Φ (.or a b) ρ = .ok v ρ := by
  rw [r_or, ha]
  cases k with
  | false => exact hb rfl
  | true => rw [hf rfl]; rfl
theorem e_not {a : E} {d : D} {x : R} {k : Bool} (ha : ev Φ a ρ = .ok x ρ) (h1 : view ρ x = some d) (ht : truthD d = some k) : ev Φ (.not a) ρ = .ok (.fz (.bl (!k))) ρ := by
  rw [r_not, ha]
  show (((match view ρ x with | some d => Out.ok d ρ | none => .stk) : Out D).then _) = _
  rw [h1]
  show (ofO (truthD d) ρ).then _ = _
  rw [ht]; rfl
theorem e_ite {t a b : E} {d : D} {x v : R} (k : Bool) (ha : ev Φ t ρ = .ok x ρ) (h1 : view ρ x = some d) (ht : truthD d = some k) (h : ev Φ (if k then a else b) ρ = .ok v ρ) : ev Φ (.ite t a b) ρ = .ok v ρ := by
  rw [r_ite, ha]
  show (((match view ρ x with | some d => Out.ok d ρ | none => .stk) : Out D).then _) = _
  rw [h1]
  show (ofO (truthD d) ρ).then _ = _
  rw [ht]
  cases k <;> exact h
/-- what is walked: frozen, or a fresh list -/
theorem i_val {e : E} {x : R} {d : D} {xs : List D} (h : ev Φ e ρ = .ok x ρ1) (h1 : view ρ1 x = some d) (h2 : itemsD d = some xs) (h3 : lockOf ρ1 x = none := by rfl) : evit Φ (.val e) ρ = .ok (none, xs) ρ1 := by
  show (ev Φ e ρ).then _ = _
  rw [h]
  show (((match view ρ1 x with | some d => Out.ok d ρ1 | none => .stk) : Out D).then _) = _
  rw [h1]
  show (ofO (itemsD d) ρ1).then _ = _
  rw [h2]
  show Out.ok (lockOf ρ1 x, xs) ρ1 = _
  rw [h3]
theorem i_enum {e : E} {x : R} {d : D} {xs : List D} (h : ev Φ e ρ = .ok x ρ1) (h1 : view ρ1 x = some d) (h2 : itemsD d = some xs) (h3 : lockOf ρ1 x = none := by rfl) : evit Φ (.enum e) ρ = .ok (none, enumFrom 0 xs) ρ1 := by
  show (ev Φ e ρ).then _ = _
  rw [h]
  show (((match view ρ1 x with | some d => Out.ok d ρ1 | none => .stk) : Out D).then _) = _
  rw [h1]
  show (ofO (itemsD d) ρ1).then _ = _
  rw [h2]
  show Out.ok (lockOf ρ1 x, enumFrom 0 xs) ρ1 = _
  rw [h3]
theorem enum_rng (f : Nat → D) : ∀ m a : Nat, enumFrom a ((List.range' a m).map f) = (List.range' a m).map fun i : Nat => D.tup [.int (i : Int), f i]
  | 0, _ => rfl
  | m + 1, a => by
    rw [List.range'_succ, List.map_cons, List.map_cons, ← enum_rng f m (a + 1)]
    rfl
theorem enum_rng0 (f : Nat → D) (m : Nat) : enumFrom 0 ((List.range m).map f) = (List.range m).map fun i : Nat => D.tup [.int (i : Int), f i] := by
  rw [List.range_eq_range']; exact enum_rng f m 0
end
/-! ### rows of numbers -/
theorem repl_one (d : D) (m : Nat) : repl [d] m = List.replicate m d := by
  unfold repl
  induction m with
  | zero => rfl
  | succ m ih => rw [List.replicate_succ, List.flatten_cons, ih, List.replicate_succ]; rfl
def cvD (n : Nat) (c : Nat → Int) : List D := (List.range (n + 1)).map fun k => .int (c k)
def rowD (n : Nat) (T : Nat → Nat → Int) (j : Nat) : D := .tup (cvD n (T j))
def tabD (n : Nat) (T : Nat → Nat → Int) : D := .tup ((List.range (n + 1)).map fun j => rowD n T j)
theorem maxL_ne : ∀ {l : List Int}, l ≠ [] → ∃ m, maxL l = some m
  | [], h => absurd rfl h
  | [x], _ => ⟨x, rfl⟩
  | x :: y :: r, _ => by
    obtain ⟨m, e⟩ := @maxL_ne (y :: r) (by simp)
    refine ⟨if m < x then x else m, ?_⟩
    show (maxL (y :: r)).map _ = _
    rw [e]; rfl
theorem maxL_rng (f : Nat → Int) (j d : Nat) : maxL ((List.range' j (d + 1)).map f) = some (mxO f j d) := by
  obtain ⟨m, e⟩ := @maxL_ne ((List.range' j (d + 1)).map f) (by simp [List.range'_succ])
  obtain ⟨h1, h2⟩ := maxL_ok e
  rw [e]
  congr 1
  obtain ⟨i, hi, rfl⟩ := List.mem_map.mp h1
  have hi := List.mem_range'_1.mp hi
  exact (mxO_eq (fun m a b => h2 _ (List.mem_map.mpr ⟨m, List.mem_range'_1.mpr (by omega), rfl⟩)) ⟨i, by omega, by omega, Int.le_refl _⟩).symm
theorem at_getN {α : Type} {l : List α} {i : Nat} {x : α} (e : l[i]? = some x) : L2.atI l (i : Int) = some x := by
  obtain ⟨hl, _⟩ := List.getElem?_eq_some_iff.mp e
  unfold L2.atI L2.ixN
  rw [if_pos (by omega), if_pos (by omega)]
  show l[(i : Int).toNat]? = _
  rw [Int.toNat_natCast, e]
theorem at_rng {α : Type} (f : Nat → α) {n i : Nat} (h : i < n) : L2.atI ((List.range n).map f) (i : Int) = some (f i) :=
  at_getN (by rw [List.getElem?_map, List.getElem?_eq_getElem (by rw [List.length_range]; exact h), List.getElem_range]; rfl)
theorem cv_at {n i : Nat} (c : Nat → Int) (h : i ≤ n) : L2.atI (cvD n c) (i : Int) = some (.int (c i)) := at_rng (fun k => D.int (c k)) (by omega)
theorem tab_at {n i : Nat} (T : Nat → Nat → Int) (h : i ≤ n) : idxD (tabD n T) (.int (i : Int)) = some (rowD n T i) := at_rng (fun k => rowD n T k) (by omega)
theorem row_at {n i j : Nat} (T : Nat → Nat → Int) (h : j ≤ n) : idxD (rowD n T i) (.int (j : Int)) = some (.int (T i j)) := cv_at (T i) h
theorem cv_len (n : Nat) (c : Nat → Int) : (cvD n c).length = n + 1 := by unfold cvD; rw [List.length_map, List.length_range]
theorem tab_len (n : Nat) (T : Nat → Nat → Int) : biD .len [tabD n T] = some (.fz (.int ((n + 1 : Nat) : Int))) := by
  show some (R.fz (.int (((List.range (n + 1)).map fun j => rowD n T j).length : Int))) = _
  rw [List.length_map, List.length_range]
theorem ints_map {P : Type} (f : P → Int) (l : List P) : intsD (l.map fun p => D.int (f p)) = some (l.map f) := by
  have := intsD_map (l.map f)
  rw [List.map_map] at this
  exact this
theorem max1_map {P : Type} (f : P → Int) (l : List P) {m : Int} (h : maxL (l.map f) = some m) : biD .max1 [.lst (l.map fun p => D.int (f p))] = some (.fz (.int m)) := by
  rw [b_max1, ints_map]
  show (maxL (l.map f)).map _ = _
  rw [h]; rfl
theorem rng_split {m l : Nat} {done rest : List Nat} (h : List.range m = done ++ l :: rest) : l < m ∧ done = List.range l := by
  have hl := congrArg List.length h
  have e : (List.range m)[done.length]? = some l := by rw [h, List.getElem?_append_right (Nat.le_refl _), Nat.sub_self]; rfl
  rw [List.length_append, List.length_cons, List.length_range] at hl
  rw [List.getElem?_eq_getElem (by rw [List.length_range]; omega), List.getElem_range] at e
  have e := Option.some.inj e
  have ht := congrArg (List.take done.length) h
  rw [List.take_append_of_le_length (Nat.le_refl _), List.take_length, List.take_range, Nat.min_eq_left (by omega), e] at ht
  exact ⟨by omega, ht.symm⟩
theorem rng'_split {a m l : Nat} {done rest : List Nat} (h : List.range' a m = done ++ l :: rest) : a ≤ l ∧ l < a + m ∧ done = List.range' a (l - a) := by
  have hl := congrArg List.length h
  have e : (List.range' a m)[done.length]? = some l := by rw [h, List.getElem?_append_right (Nat.le_refl _), Nat.sub_self]; rfl
  rw [List.length_append, List.length_cons, List.length_range'] at hl
  rw [List.getElem?_eq_getElem (by rw [List.length_range']; omega), List.getElem_range'] at e
  have e := Option.some.inj e
  have ht := congrArg (List.take done.length) h
  rw [List.take_append_of_le_length (Nat.le_refl _), List.take_length, List.range'_eq_map_range, ← List.map_take, List.take_range, Nat.min_eq_left (by omega), ← List.range'_eq_map_range] at ht
  exact ⟨by omega, by omega, by rw [← ht]; congr 1; omega⟩
theorem cv_pre (n x : Nat) (c : Nat → Int) (h : x ≤ n) : cut (cvD n c) none (some (x : Int)) = (List.range x).map fun k => .int (c k) := by
  unfold cvD
  rw [cut_to, ← List.map_take, List.take_range, Nat.min_eq_left (by omega)]
theorem rng_cutN (x m : Nat) (h : x ≤ m) : List.range m = List.range x ++ List.range' x (m - x) := by
  rw [List.range_eq_range', List.range_eq_range']
  have := @List.range'_append_1 0 x (m - x)
  rw [Nat.zero_add] at this
  rw [this]; congr 1; omega
theorem cv_suf (n x : Nat) (c : Nat → Int) (h : x ≤ n) : cut (cvD n c) (some (x : Int)) none = (List.range' x (n + 1 - x)).map fun k => .int (c k) := by
  unfold cvD
  rw [cut_from, ← List.map_drop, rng_cutN x (n + 1) (by omega), List.drop_left' (by rw [List.length_range])]
theorem rng_cut (x m : Nat) (f : Nat → D) (h : x ≤ m) : (List.range m).map f = (List.range x).map f ++ (List.range' x (m - x)).map f := by
  rw [rng_cutN x m h, List.map_append]
end DL

end

section
set_option autoImplicit false
/-! DLgf: equality of plain values; powers of tables. -/
namespace DL
open PySem L2
mutual
/-- no truths, no instances -/
def plain : D → Bool
  | .non => true
  | .int _ => true
  | .str _ => true
  | .tup xs => plains xs
  | .lst xs => plains xs
  | _ => false
def plains : List D → Bool
  | [] => true
  | x :: xs => plain x && plains xs
end
theorem plains_of : ∀ {xs : List D}, (∀ x ∈ xs, plain x = true) → plains xs = true
  | [], _ => rfl
  | x :: xs, h => by
    show (plain x && plains xs) = true
    rw [h x (List.mem_cons_self ..), plains_of fun y hy => h y (List.mem_cons_of_mem _ hy)]
    rfl
mutual
theorem eqv_iff : ∀ (x y : D), plain x = true → plain y = true → ((toPy x).eqv (toPy y) = true ↔ x = y)
  | .non, y, _, hy => by
    cases y with
    | non => exact ⟨fun _ => rfl, fun _ => rfl⟩
    | bl b => cases hy
    | scr b => cases hy
    | obj b _ => cases hy
    | _ => exact ⟨(by intro h; cases h), (by intro h; cases h)⟩
  | .int i, y, _, hy => by
    cases y with
    | int j =>
      show (i == j) = true ↔ _
      rw [beq_iff_eq]
      exact ⟨fun h => (by rw [h]), fun h => (by cases h; rfl)⟩
    | bl b => cases hy
    | scr b => cases hy
    | obj b _ => cases hy
    | _ => exact ⟨(by intro h; cases h), (by intro h; cases h)⟩
  | .str i, y, _, hy => by
    cases y with
    | str j =>
      show (i == j) = true ↔ _
      rw [beq_iff_eq]
      exact ⟨fun h => (by rw [h]), fun h => (by cases h; rfl)⟩
    | bl b => cases hy
    | scr b => cases hy
    | obj b _ => cases hy
    | _ => exact ⟨(by intro h; cases h), (by intro h; cases h)⟩
  | .tup xs, y, hx, hy => by
    cases y with
    | tup ys =>
      show PyData.eqvAll (toPy.toPys xs) (toPy.toPys ys) = true ↔ _
      rw [eqvs_iff xs ys hx hy]
      exact ⟨fun h => (by rw [h]), fun h => (by cases h; rfl)⟩
    | bl b => cases hy
    | scr b => cases hy
    | obj b _ => cases hy
    | _ => exact ⟨(by intro h; cases h), (by intro h; cases h)⟩
  | .lst xs, y, hx, hy => by
    cases y with
    | lst ys =>
      show PyData.eqvAll (toPy.toPys xs) (toPy.toPys ys) = true ↔ _
      rw [eqvs_iff xs ys hx hy]
      exact ⟨fun h => (by rw [h]), fun h => (by cases h; rfl)⟩
    | bl b => cases hy
    | scr b => cases hy
    | obj b _ => cases hy
    | _ => exact ⟨(by intro h; cases h), (by intro h; cases h)⟩
  | .bl _, _, hx, _ => by cases hx
  | .scr _, _, hx, _ => by cases hx
  | .obj _ _, _, hx, _ => by cases hx
theorem eqvs_iff : ∀ (xs ys : List D), plains xs = true → plains ys = true → (PyData.eqvAll (toPy.toPys xs) (toPy.toPys ys) = true ↔ xs = ys)
  | [], [], _, _ => ⟨fun _ => rfl, fun _ => rfl⟩
  | [], _ :: _, _, _ => ⟨(by intro h; cases h), (by intro h; cases h)⟩
  | _ :: _, [], _, _ => ⟨(by intro h; cases h), (by intro h; cases h)⟩
  | x :: xs, y :: ys, hx, hy => by
    obtain ⟨a, b⟩ := Bool.and_eq_true _ _ |>.mp (show (plain x && plains xs) = true from hx)
    obtain ⟨c, d⟩ := Bool.and_eq_true _ _ |>.mp (show (plain y && plains ys) = true from hy)
    show ((toPy x).eqv (toPy y) && PyData.eqvAll (toPy.toPys xs) (toPy.toPys ys)) = true ↔ _
    rw [Bool.and_eq_true, eqv_iff x y a c, eqvs_iff xs ys b d, List.cons.injEq]
end
/-- plain and not too deep -/
structure Pl (h : Nat) (d : D) : Prop where
  pl : plain d = true
  sh : Shp h d
theorem Pl.int (i : Int) : Pl 0 (.int i) := ⟨rfl, .int i⟩
theorem Pl.non : Pl 0 .non := ⟨rfl, .non⟩
theorem Pl.mono {h g : Nat} {d : D} (s : Pl h d) (l : h ≤ g) : Pl g d := ⟨s.pl, s.sh.mono l⟩
theorem Pl.tup {h : Nat} {ds : List D} (hs : ∀ d ∈ ds, Pl h d) : Pl (h + 1) (.tup ds) := ⟨plains_of fun d hd => (hs d hd).pl, .tup fun d hd => (hs d hd).sh⟩
theorem Pl.lst {h : Nat} {ds : List D} (hs : ∀ d ∈ ds, Pl h d) : Pl (h + 1) (.lst ds) := ⟨plains_of fun d hd => (hs d hd).pl, .lst fun d hd => (hs d hd).sh⟩
theorem Pl.tupM {P : Type} {h : Nat} {f : P → D} {l : List P} (hs : ∀ p ∈ l, Pl h (f p)) : Pl (h + 1) (.tup (l.map f)) := Pl.tup fun d hd => by
  obtain ⟨p, hp, rfl⟩ := List.mem_map.mp hd
  exact hs p hp
theorem Pl.lstM {P : Type} {h : Nat} {f : P → D} {l : List P} (hs : ∀ p ∈ l, Pl h (f p)) : Pl (h + 1) (.lst (l.map f)) := Pl.lst fun d hd => by
  obtain ⟨p, hp, rfl⟩ := List.mem_map.mp hd
  exact hs p hp
theorem Pl.tupI (xs : List Int) : Pl 1 (DL.tupI xs) := Pl.tupM fun p _ => .int p
theorem cmp_eqv {x y : D} (hx : shapedD x = true) (hy : shapedD y = true) : cmpD .eq x y = some ((toPy x).eqv (toPy y)) := by
  have e : (if shapedD x && shapedD y then some ((toPy x).eqv (toPy y)) else none) = some ((toPy x).eqv (toPy y)) := by rw [hx, hy]; rfl
  have s : ∀ a b : Str, decide (a = b) = (a == b) := fun a b => by rw [Bool.eq_iff_iff, beq_iff_eq, decide_eq_true_iff]
  have i : ∀ a b : Int, decide (a = b) = (a == b) := fun a b => by rw [Bool.eq_iff_iff, beq_iff_eq, decide_eq_true_iff]
  cases x with
  | int a => cases y with
    | int b => exact congrArg some (i a b)
    | _ => exact e
  | str a => cases y with
    | str b => exact congrArg some (s a b)
    | _ => exact e
  | _ => exact e
theorem cmp_neqv {x y : D} (hx : shapedD x = true) (hy : shapedD y = true) : cmpD .ne x y = some (!(toPy x).eqv (toPy y)) := by
  have e : (if shapedD x && shapedD y then some (!(toPy x).eqv (toPy y)) else none) = some (!(toPy x).eqv (toPy y)) := by rw [hx, hy]; rfl
  have s : ∀ a b : Str, decide (a = b) = (a == b) := fun a b => by rw [Bool.eq_iff_iff, beq_iff_eq, decide_eq_true_iff]
  have i : ∀ a b : Int, decide (a = b) = (a == b) := fun a b => by rw [Bool.eq_iff_iff, beq_iff_eq, decide_eq_true_iff]
  cases x with
  | int a => cases y with
    | int b => exact congrArg (fun z => some (!z)) (i a b)
    | _ => exact e
  | str a => cases y with
    | str b => exact congrArg (fun z => some (!z)) (s a b)
    | _ => exact e
  | _ => exact e
theorem cmp_eq {h : Nat} {x y : D} (hx : Pl h x) (hy : Pl h y) (hh : h ≤ 64) : ∃ k, cmpD .eq x y = some k ∧ (k = true ↔ x = y) :=
  ⟨_, cmp_eqv (hx.sh.ok hh) (hy.sh.ok hh), eqv_iff x y hx.pl hy.pl⟩
theorem cmp_ne {h : Nat} {x y : D} (hx : Pl h x) (hy : Pl h y) (hh : h ≤ 64) : ∃ k, cmpD .ne x y = some (!k) ∧ (k = true ↔ x = y) :=
  ⟨_, cmp_neqv (hx.sh.ok hh) (hy.sh.ok hh), eqv_iff x y hx.pl hy.pl⟩
theorem cmp_eqR {h : Nat} {x : D} (hx : Pl h x) (hh : h ≤ 64) : cmpD .eq x x = some true := by
  obtain ⟨k, e, hk⟩ := cmp_eq hx hx hh
  rw [e, hk.mpr rfl]
theorem cmp_neR {h : Nat} {x : D} (hx : Pl h x) (hh : h ≤ 64) : cmpD .ne x x = some false := by
  obtain ⟨k, e, hk⟩ := cmp_ne hx hx hh
  rw [e, hk.mpr rfl]; rfl
theorem pl_row (n : Nat) (T : Nat → Nat → Int) (j : Nat) : Pl 1 (rowD n T j) := Pl.tupM fun p _ => .int _
theorem pl_tab (n : Nat) (T : Nat → Nat → Int) : Pl 2 (tabD n T) := Pl.tupM fun p _ => pl_row n T p
/-! ### tables that agree up to n -/
def Eq2 (n : Nat) (A B : Nat → Nat → Int) : Prop := ∀ j k, j ≤ n → k ≤ n → A j k = B j k
theorem rng_ext {n : Nat} {f g : Nat → D} : (List.range n).map f = (List.range n).map g ↔ ∀ i, i < n → f i = g i := by
  rw [List.map_inj_left]
  exact ⟨fun h i hi => h i (List.mem_range.mpr hi), fun h i hi => h i (List.mem_range.mp hi)⟩
theorem tab_ext {n : Nat} {A B : Nat → Nat → Int} : tabD n A = tabD n B ↔ Eq2 n A B := by
  show D.tup _ = D.tup _ ↔ _
  rw [D.tup.injEq, rng_ext]
  constructor
  · intro h j k hj hk
    have := h j (by omega)
    rw [show (rowD n A j = rowD n B j) = (D.tup (cvD n (A j)) = D.tup (cvD n (B j))) from rfl, D.tup.injEq] at this
    have := rng_ext.mp this k (by omega)
    injection this
  · intro h j hj
    show D.tup (cvD n (A j)) = D.tup (cvD n (B j))
    rw [D.tup.injEq]
    exact rng_ext.mpr fun k hk => by rw [h j k (by omega) (by omega)]
theorem mxO_congr {f g : Nat → Int} {j : Nat} : ∀ {d : Nat}, (∀ m, j ≤ m → m ≤ j + d → f m = g m) → mxO f j d = mxO g j d
  | 0, h => h j (by omega) (by omega)
  | d + 1, h => by
    show max (mxO f j d) (f (j + d + 1)) = max (mxO g j d) (g (j + d + 1))
    rw [mxO_congr fun m a b => h m a (by omega), h (j + d + 1) (by omega) (by omega)]
theorem prT_congr {n : Nat} {A B C E : Nat → Nat → Int} (h1 : Eq2 n A B) (h2 : Eq2 n C E) : Eq2 n (prT A C) (prT B E) := fun j k hj hk => by
  unfold prT
  split
  · rfl
  · exact mxO_congr fun m a b => by rw [h1 j m hj (by omega), h2 m k (by omega) hk]
theorem Eq2.refl (n : Nat) (A : Nat → Nat → Int) : Eq2 n A A := fun _ _ _ _ => rfl
theorem Eq2.symm {n : Nat} {A B : Nat → Nat → Int} (h : Eq2 n A B) : Eq2 n B A := fun j k a b => (h j k a b).symm
theorem Eq2.trans {n : Nat} {A B C : Nat → Nat → Int} (h : Eq2 n A B) (g : Eq2 n B C) : Eq2 n A C := fun j k a b => (h j k a b).trans (g j k a b)
def pwT (T : Nat → Nat → Int) : Nat → Nat → Nat → Int
  | 0 => fun _ _ => 0
  | i + 1 => prT (pwT T i) T
/-- a power that changes nothing is the last one -/
theorem pwT_stop {n i : Nat} {T : Nat → Nat → Int} (h : Eq2 n (pwT T (i + 1)) (pwT T i)) : ∀ d, Eq2 n (pwT T (i + d)) (pwT T i)
  | 0 => Eq2.refl _ _
  | d + 1 => (prT_congr (pwT_stop h d) (Eq2.refl n T)).trans h
theorem mul_row (d : D) {l : Nat} (h : l ≤ 1000000) : binD .mul (.lst [d]) (.int (l : Int)) = some (.fr (List.replicate l d)) := by
  rw [d_mulL, if_pos ⟨by omega, by omega, by rw [sz_le, List.length_singleton]; omega⟩, repl_one, Int.toNat_natCast]
theorem prT_row (n l : Nat) (A B : Nat → Nat → Int) (h : l ≤ n) : List.replicate l (D.int 0) ++ (List.range' l (n + 1 - l)).map (fun k => D.int (prT A B l k)) = cvD n (prT A B l) := by
  unfold cvD
  rw [rng_cut l (n + 1) (fun k => D.int (prT A B l k)) (by omega)]
  congr 1
  rw [List.map_congr_left (g := fun _ => D.int 0) fun k hk => by
    have := List.mem_range.mp hk
    show D.int (prT A B l k) = _
    unfold prT; rw [if_pos (by omega)], List.map_const', List.length_range]
section
variable {Φ : Calls} {ρ ρ1 : Ev} {P : Type}
/-- a loop whose state depends on the place; each turn goes on, or returns a v with Q -/
theorem for_st {t : Tg} {it : DL.It} {b : Ss} (g : P → D) (ps : List P) (st : Nat → Ev) (Q : R → Ev → Prop) (hi : evit Φ it ρ = .ok (none, ps.map g) ρ1) (h0 : st 0 = ρ1)
    (hs : ∀ i p, ps[i]? = some p → (bnd (asgn Φ t (g p)) fun _ => execs Φ b) (st i) = .ok .nx (st (i + 1)) ∨ (∃ v ρ2, (bnd (asgn Φ t (g p)) fun _ => execs Φ b) (st i) = .ok (.rt v) ρ2 ∧ Q v ρ2)) :
    exec Φ (.for_ t it b) ρ = .ok .nx (st ps.length) ∨ ∃ v ρ2, exec Φ (.for_ t it b) ρ = .ok (.rt v) ρ2 ∧ Q v ρ2 := by
  have e1 : exec Φ (.for_ t it b) ρ = forL (fun x => bnd (asgn Φ t x) fun _ => execs Φ b) (ps.map g) (st 0) := by
    show (evit Φ it ρ).then _ = _
    rw [hi, h0]; rfl
  rw [e1]
  have key : ∀ (qs : List P) (i : Nat), ps.drop i = qs → forL (fun x => bnd (asgn Φ t x) fun _ => execs Φ b) (qs.map g) (st i) = .ok .nx (st (i + qs.length)) ∨ ∃ v ρ2, forL (fun x => bnd (asgn Φ t x) fun _ => execs Φ b) (qs.map g) (st i) = .ok (.rt v) ρ2 ∧ Q v ρ2 := fun qs => by
    induction qs with
    | nil => intro i _; exact .inl rfl
    | cons q qs ih =>
      intro i h
      have hq : ps[i]? = some q := by
        have := congrArg (fun l => l[0]?) h
        simpa using this
      have hd : ps.drop (i + 1) = qs := by
        have := congrArg List.tail h
        rw [List.tail_drop] at this
        exact this
      have go : ∀ r : Out Fl, forL (fun x => bnd (asgn Φ t x) fun _ => execs Φ b) ((q :: qs).map g) (st i) = ((bnd (asgn Φ t (g q)) fun _ => execs Φ b) (st i)).then fun
        | .nx => forL (fun x => bnd (asgn Φ t x) fun _ => execs Φ b) (qs.map g)
        | .ct => forL (fun x => bnd (asgn Φ t x) fun _ => execs Φ b) (qs.map g)
        | .bk => DL.ret .nx
        | .rt r => DL.ret (.rt r) := fun _ => rfl
      rw [go (.ok .nx ρ)]
      rcases hs i q hq with e | ⟨v, ρ2, e, hv⟩
      · rw [e, List.length_cons, show i + (qs.length + 1) = i + 1 + qs.length from by omega]
        exact ih (i + 1) hd
      · rw [e]; exact .inr ⟨v, ρ2, rfl, hv⟩
  have := key ps 0 rfl
  rw [Nat.zero_add] at this
  exact this
end
/-! ### tables of parts -/
mutual
def tbP (n : Nat) (T : Nat → Nat → Int) : Pt → Nat → Nat → Int
  | .lv i => appT T i.toNat
  | .pr ps t => if exPs ps = [] then T else prT T (pwT (tbL n (fun _ _ => 0) ps) (min t.toNat n))
def tbL (n : Nat) (T : Nat → Nat → Int) : List Pt → Nat → Nat → Int
  | [] => T
  | p :: ps => tbL n (tbP n T p) ps
end
def tbPs (n : Nat) (ps : List Pt) : Nat → Nat → Int := tbL n (fun _ _ => 0) ps
theorem tbP_lv (n : Nat) (T : Nat → Nat → Int) (i : Int) : tbP n T (.lv i) = appT T i.toNat := by unfold tbP; rfl
theorem tbP_pr (n : Nat) (T : Nat → Nat → Int) (ps : List Pt) (t : Int) : tbP n T (.pr ps t) = if exPs ps = [] then T else prT T (pwT (tbPs n ps) (min t.toNat n)) := by unfold tbP tbPs; rfl
theorem tbL_nil (n : Nat) (T : Nat → Nat → Int) : tbL n T [] = T := by unfold tbL; rfl
theorem tbL_cons (n : Nat) (T : Nat → Nat → Int) (p : Pt) (ps : List Pt) : tbL n T (p :: ps) = tbL n (tbP n T p) ps := by
  show tbL n T (p :: ps) = _
  rw [tbL.eq_2]
theorem tbL_app (n : Nat) : ∀ (ps qs : List Pt) (T : Nat → Nat → Int), tbL n T (ps ++ qs) = tbL n (tbL n T ps) qs
  | [], qs, T => by rw [tbL_nil]; rfl
  | p :: ps, qs, T => by rw [List.cons_append, tbL_cons, tbL_cons, tbL_app n ps qs]
theorem tbPs_snoc (n : Nat) (ps : List Pt) (p : Pt) : tbPs n (ps ++ [p]) = tbP n (tbPs n ps) p := by
  unfold tbPs
  rw [tbL_app, tbL_cons, tbL_nil]
theorem lvPs_nil {ps : List Pt} : lvPs ps = [] ↔ exPs ps = [] := by
  unfold lvPs
  constructor
  · intro h
    cases e : exPs ps with
    | nil => rfl
    | cons x xs =>
      have := (setI_mem x (exPs ps)).mpr (by rw [e]; exact List.mem_cons_self ..)
      rw [h] at this; cases this
  · intro h; rw [h]; rfl
end DL

end

section
set_option autoImplicit false
/-! DLgg: what the tables of parts do. -/
namespace DL
open PySem L2
def wd (ps : List Pt) : List Nat := (exPs ps).map Int.toNat
theorem act_congr {A B : Nat → Nat → Int} {c e : Nat → Int} {k : Nat} (h1 : ∀ j, j ≤ k → A j k = B j k) (h2 : ∀ j, j ≤ k → c j = e j) : act A c k = act B e k :=
  mxO_congr fun j _ hj => by rw [h1 j (by omega), h2 j (by omega)]
theorem stp_congr {c e : Nat → Int} {k : Nat} (h : ∀ j, j ≤ k → c j = e j) (x : Nat) : ∀ j, j ≤ k → stp x c j = stp x e j := fun j hj => by
  unfold stp
  by_cases q : j < x
  · rw [if_pos q, if_pos q, h j hj]
  · rw [if_neg q, if_neg q, h j hj, h (x - 1) (by omega)]
theorem stps_congr : ∀ (w : List Nat) {c e : Nat → Int} {k : Nat}, (∀ j, j ≤ k → c j = e j) → ∀ j, j ≤ k → stps w c j = stps w e j
  | [], _, _, _, h => h
  | x :: w, _, _, _, h => stps_congr w (stp_congr h x)
theorem rep_mono {w : List Nat} {c : Nat → Int} (hm : Mono c) : ∀ i, Mono (rep w i c)
  | 0 => hm
  | i + 1 => stps_mono w (rep_mono hm i)
theorem flat_snoc {α : Type} (w : List α) : ∀ i, (List.replicate i w).flatten ++ w = (List.replicate (i + 1) w).flatten
  | 0 => by simp
  | i + 1 => by rw [List.replicate_succ, List.flatten_cons, List.append_assoc, flat_snoc w i, ← List.flatten_cons, ← List.replicate_succ]
theorem rep_stps (w : List Nat) (c : Nat → Int) : ∀ i, rep w i c = stps (List.replicate i w).flatten c
  | 0 => rfl
  | i + 1 => by
    show stps w (rep w i c) = _
    rw [rep_stps w c i, ← stps_app, flat_snoc]
theorem rep_min {w : List Nat} {c : Nat → Int} (hm : Mono c) (h1 : ∀ x ∈ w, 1 ≤ x) {t n k : Nat} (hk : k ≤ n) : rep w (min t n) c k = rep w t c k := by
  by_cases q : t ≤ n
  · rw [Nat.min_eq_left q]
  · rw [Nat.min_eq_right (by omega), rep_fin hm h1 (Nat.le_refl n) k hk, rep_fin hm h1 (by omega : n ≤ t) k hk]
theorem act_pw {n : Nat} {A : Nat → Nat → Int} {w : List Nat} (hA : ∀ c, Mono c → ∀ k, k ≤ n → act A c k = stps w c k) {c : Nat → Int} (hm : Mono c) : ∀ i k, k ≤ n → act (pwT A i) c k = rep w i c k
  | 0, k, _ => act_zero hm k
  | i + 1, k, hk => by
    show act (prT (pwT A i) A) c k = stps w (rep w i c) k
    rw [act_prod, ← hA _ (rep_mono hm i) k hk]
    exact act_congr (fun _ _ => rfl) fun j hj => act_pw hA hm i j (by omega)
theorem map_rep {α β : Type} (f : α → β) (l : List α) : ∀ i, ((List.replicate i l).flatten).map f = (List.replicate i (l.map f)).flatten
  | 0 => rfl
  | i + 1 => by rw [List.replicate_succ, List.flatten_cons, List.map_append, map_rep f l i, List.replicate_succ, List.flatten_cons]
theorem wd_lv {n M : Int} {ps : List Pt} (ok : OkPs n M ps) : ∀ x ∈ wd ps, 1 ≤ x ∧ (x : Int) ≤ n := fun x hx => by
  obtain ⟨y, hy, rfl⟩ := List.mem_map.mp hx
  have := ex_lv ps ok y hy
  omega
theorem act_tbL {n : Nat} {M : Int} : ∀ ps : List Pt, OkPs n M ps → ∀ (T : Nat → Nat → Int) (c c1 : Nat → Int), Mono c1 → (∀ k, k ≤ n → act T c k = c1 k) → ∀ k, k ≤ n → act (tbL n T ps) c k = stps (wd ps) c1 k := by
  refine Pt.ind (fun _ T c c1 _ h k hk => ?_) (fun i ps ih ok T c c1 hm h k hk => ?_) (fun qs t ps ih1 ih2 ok T c c1 hm h k hk => ?_)
  · rw [tbL_nil]; exact h k hk
  · obtain ⟨a, b⟩ := ok_lv (ok _ (List.mem_cons_self ..))
    rw [tbL_cons, tbP_lv]
    have e : wd (.lv i :: ps) = i.toNat :: wd ps := by unfold wd; rw [exPs_cons, exP_lv]; rfl
    rw [e]
    refine ih (fun p hp => ok p (List.mem_cons_of_mem _ hp)) _ c (stp i.toNat c1) (stp_mono hm _) (fun j hj => ?_) k hk
    rw [act_app (by omega)]
    exact stp_congr (k := n) h i.toNat j hj
  · obtain ⟨o1, t1, t2⟩ := ok_sub (ok _ (List.mem_cons_self ..))
    have ok' : OkPs n M ps := fun p hp => ok p (List.mem_cons_of_mem _ hp)
    have e : wd (.pr qs t :: ps) = (List.replicate t.toNat (wd qs)).flatten ++ wd ps := by
      unfold wd
      rw [exPs_cons, exP_pr, List.map_append, map_rep]
    rw [tbL_cons, tbP_pr, e, stps_app, ← rep_stps]
    by_cases he : exPs qs = []
    · rw [if_pos he]
      have hw : wd qs = [] := by unfold wd; rw [he]; rfl
      have hr : ∀ i, rep (wd qs) i c1 = c1 := fun i => by
        induction i with
        | zero => rfl
        | succ i ih => show stps (wd qs) (rep (wd qs) i c1) = _; rw [ih, hw]; rfl
      rw [hr]
      exact ih2 ok' T c c1 hm h k hk
    · rw [if_neg he]
      refine ih2 ok' _ c (rep (wd qs) t.toNat c1) (rep_mono hm _) (fun j hj => ?_) k hk
      have hA : ∀ c, Mono c → ∀ k, k ≤ n → act (tbPs n qs) c k = stps (wd qs) c k := fun c hc k hk => ih1 o1 _ c c hc (fun k _ => act_zero hc k) k hk
      rw [act_prod, act_congr (k := j) (B := pwT (tbPs n qs) (min t.toNat n)) (fun _ _ => rfl) (fun i hi => h i (by omega)), act_pw hA hm _ j hj]
      exact rep_min hm (fun x hx => (wd_lv o1 x hx).1) hj
/-- the table of parts does what the levels do, one by one -/
theorem act_tb {n : Nat} {M : Int} {ps : List Pt} (ok : OkPs n M ps) {c : Nat → Int} (hm : Mono c) {k : Nat} (hk : k ≤ n) : act (tbPs n ps) c k = stps (wd ps) c k :=
  act_tbL ps ok _ c c hm (fun k _ => act_zero hm k) k hk
/-- .. racks -/
theorem act_rack {n : Nat} {M : Int} (n2 : n ≤ 12) {ps : List Pt} (ok : OkPs n M ps) {ms : List Int} (h : Mk n ms) {k : Nat} (hk : k ≤ n) : act (tbPs n ps) (fun k => cnt ms (k : Int)) k = cnt (rdL ms (exPs ps)) (k : Int) := by
  rw [act_tb ok (cnt_mono ms) hk, cnt_rdL (by omega) h (ex_lv ps ok)]
  rfl
/-- the rack of counts -/
def rkO (n : Nat) (c : Nat → Int) : List Int := (List.range n).filterMap fun j => if c j < c (j + 1) then some ((j : Int) + 1) else none
theorem byT_rng (c : Nat → Int) : ∀ (d i : Nat), byT ((List.range' i d).map fun j => c (j + 1)) (c i) i = (List.range' i d).filterMap fun j => if c j < c (j + 1) then some ((j : Int) + 1) else none
  | 0, _ => rfl
  | d + 1, i => by
    rw [List.range'_succ, List.map_cons, List.filterMap_cons]
    show (if c i < c (i + 1) then [(i : Int) + 1] else []) ++ byT ((List.range' (i + 1) d).map fun j => c (j + 1)) (c (i + 1)) ((i : Int) + 1) = _
    have := byT_rng c d (i + 1)
    rw [Int.natCast_add] at this
    rw [show ((i : Int) + 1) = (i : Int) + ((1 : Nat) : Int) from rfl, this]
    by_cases h : c i < c (i + 1)
    · rw [if_pos h, if_pos h]; rfl
    · rw [if_neg h, if_neg h]; rfl
theorem byT_rk {n : Nat} {c : Nat → Int} (h0 : c 0 = 0) : byT ((List.range n).map fun j => c (j + 1)) 0 0 = rkO n c := by
  have := byT_rng c n 0
  rw [h0] at this
  unfold rkO
  rw [List.range_eq_range']
  exact this
theorem rk_mem {n : Nat} {c : Nat → Int} {x : Int} : x ∈ rkO n c ↔ ∃ j : Nat, j < n ∧ c j < c (j + 1) ∧ x = (j : Int) + 1 := by
  unfold rkO
  rw [List.mem_filterMap]
  constructor
  · rintro ⟨j, hj, e⟩
    split at e
    · rename_i h; cases e; exact ⟨j, List.mem_range.mp hj, h, rfl⟩
    · cases e
  · rintro ⟨j, hj, h, rfl⟩
    exact ⟨j, List.mem_range.mpr hj, if_pos h⟩
theorem rk_pw (n : Nat) (c : Nat → Int) : (rkO n c).Pairwise (· < ·) := by
  unfold rkO
  rw [List.pairwise_filterMap]
  refine List.Pairwise.imp ?_ List.pairwise_lt_range
  intro a b hab x hx y hy
  split at hx
  · split at hy
    · cases hx; cases hy; omega
    · cases hy
  · cases hx
theorem rk_mk (n : Nat) (c : Nat → Int) : Mk n (rkO n c) := ⟨rk_pw n c, fun m hm => by
  obtain ⟨j, h1, _, rfl⟩ := rk_mem.mp hm
  omega⟩
theorem rk_cnt {n : Nat} {ms : List Int} (h : Mk n ms) : rkO n (fun k => cnt ms (k : Int)) = ms := pw_ext (rk_pw _ _) h.pw fun x => by
  rw [rk_mem]
  constructor
  · rintro ⟨j, h1, h2, rfl⟩
    have e := cnt_succ h.pw (x := (j : Int))
    rw [show ((j + 1 : Nat) : Int) = (j : Int) + 1 from rfl, e] at h2
    split at h2
    · assumption
    · omega
  · intro hx
    obtain ⟨a, b⟩ := h.bd x hx
    refine ⟨(x - 1).toNat, by omega, ?_, by omega⟩
    have e := cnt_succ h.pw (x := x - 1)
    rw [show x - 1 + 1 = x from by omega, if_pos hx] at e
    rw [show (((x - 1).toNat + 1 : Nat) : Int) = x from by omega, show (((x - 1).toNat : Nat) : Int) = x - 1 from by omega]
    omega
theorem fm_congr {α β : Type} {f g : α → Option β} : ∀ {l : List α}, (∀ a ∈ l, f a = g a) → l.filterMap f = l.filterMap g
  | [], _ => rfl
  | a :: l, h => by
    rw [List.filterMap_cons, List.filterMap_cons, h a (List.mem_cons_self ..), fm_congr fun b hb => h b (List.mem_cons_of_mem _ hb)]
theorem rk_congr {n : Nat} {c e : Nat → Int} (h : ∀ k, k ≤ n → c k = e k) : rkO n c = rkO n e := by
  unfold rkO
  refine fm_congr fun j hj => ?_
  have := List.mem_range.mp hj
  rw [h j (by omega), h (j + 1) (by omega)]
theorem cv_tots {n : Nat} {ms : List Int} (h : Mk n ms) : D.int 0 :: (tots ms n).map .int = cvD n fun k => cnt ms (k : Int) := by
  unfold cvD tots
  rw [List.range_succ_eq_map, List.map_cons, List.map_map, List.map_map, Int.toNat_natCast]
  congr 1
  exact congrArg D.int (cnt_zero h).symm
theorem cv_tail (n : Nat) (c : Nat → Int) : cut (cvD n c) (some 1) none = ((List.range n).map fun j => c (j + 1)).map .int := by
  rw [show (1 : Int) = ((1 : Nat) : Int) from rfl, cut_from]
  unfold cvD
  rw [List.range_succ_eq_map, List.map_cons, List.drop_one, List.tail_cons, List.map_map, List.map_map]
  rfl
theorem sum_cv (n : Nat) (ms : List Int) (h : Mk n ms) : ((List.range (n + 1)).map fun k : Nat => cnt ms (k : Int)).sum = (tots ms n).sum := by
  unfold tots
  rw [List.range_succ_eq_map, List.map_cons, List.sum_cons, List.map_map, Int.toNat_natCast, show cnt ms ((0 : Nat) : Int) = 0 from cnt_zero h, Int.zero_add]
  rfl
end DL

end

section
set_option autoImplicit false
/-! DLgh: what repr needs, with numbers of up to 31 digits. -/
namespace DL
open PySem L2
structure Rq (w h : Nat) (d : D) : Prop where
  pur : pureD d = true
  show_ : (toPy d).showable = true
  nod : (toPy d).hasDict = false
  short : (toPy d).leavesShort 32 = true
  ht : (toPy d).depth ≤ h
  wt : (toPy d).weight ≤ w
structure Rqs (w h : Nat) (ds : List D) : Prop where
  pur : puresD ds = true
  show_ : PyData.showableAll (toPy.toPys ds) = true
  nod : PyData.hasDictAll (toPy.toPys ds) = false
  short : PyData.leavesShortAll 32 (toPy.toPys ds) = true
  ht : PyData.depthAll (toPy.toPys ds) ≤ h
  wt : PyData.weightAll (toPy.toPys ds) ≤ w
theorem Rq.mono {w h w' h' : Nat} {d : D} (s : Rq w h d) (h1 : w ≤ w') (h2 : h ≤ h') : Rq w' h' d := ⟨s.pur, s.show_, s.nod, s.short, Nat.le_trans s.ht h2, Nat.le_trans s.wt h1⟩
theorem Rqs.mono {w h w' h' : Nat} {d : List D} (s : Rqs w h d) (h1 : w ≤ w') (h2 : h ≤ h') : Rqs w' h' d := ⟨s.pur, s.show_, s.nod, s.short, Nat.le_trans s.ht h2, Nat.le_trans s.wt h1⟩
theorem Rq.non : Rq 0 0 .non := ⟨rfl, rfl, rfl, rfl, Nat.le_refl _, Nat.le_refl _⟩
theorem Rq.bl (b : Bool) : Rq 0 0 (.bl b) := ⟨rfl, rfl, rfl, rfl, Nat.le_refl _, Nat.le_refl _⟩
theorem log2_31 {n : Nat} (h : n < 10 ^ 31) : n.log2 < 104 := by
  by_cases z : n = 0
  · subst z; decide
  · exact (Nat.log2_lt z).mpr (Nat.lt_of_lt_of_le h (by decide +kernel))
theorem Rq.int {i : Int} (h1 : -(10 ^ 31) < i) (h2 : i < 10 ^ 31) : Rq 104 0 (.int i) := by
  have h : i.natAbs < 10 ^ 31 := by omega
  have l := log2_31 h
  refine ⟨rfl, decide_eq_true (by omega), rfl, decide_eq_true ?_, Nat.le_refl _, ?_⟩
  · show (Str.ofString (toString i)).length ≤ 32
    rw [ofString_length]
    exact int_text_length_le10 (by decide) h
  · show (if (i == 0) = true then 0 else i.natAbs.log2 + 1) ≤ 104
    split <;> omega
theorem Rq.str {x : Str} (h : x.cps.toList.all (fun c => decide (c < 0x110000)) = true) : Rq x.length 0 (.str x) := by
  refine ⟨rfl, rfl, rfl, ?_, Nat.le_refl _, Nat.le_refl _⟩
  show (x.cps.toList.all fun c => decide (c < 16 ^ 8)) = true
  rw [List.all_eq_true] at h ⊢
  intro c hc
  have := of_decide_eq_true (h c hc)
  exact decide_eq_true (by omega)
theorem Rqs.nil (h : Nat) : Rqs 0 h [] := ⟨rfl, rfl, rfl, rfl, Nat.zero_le _, Nat.zero_le _⟩
theorem Rqs.cons {w v h : Nat} {d : D} {ds : List D} (a : Rq w h d) (b : Rqs v h ds) : Rqs (w + 1 + v) h (d :: ds) := by
  refine ⟨?_, ?_, ?_, ?_, ?_, ?_⟩
  · show (pureD d && puresD ds) = true
    rw [a.pur, b.pur]; rfl
  · show ((toPy d).showable && PyData.showableAll (toPy.toPys ds)) = true
    rw [a.show_, b.show_]; rfl
  · show ((toPy d).hasDict || PyData.hasDictAll (toPy.toPys ds)) = false
    rw [a.nod, b.nod]; rfl
  · show ((toPy d).leavesShort 32 && PyData.leavesShortAll 32 (toPy.toPys ds)) = true
    rw [a.short, b.short]; rfl
  · exact Nat.max_le.mpr ⟨a.ht, b.ht⟩
  · show (toPy d).weight + 1 + PyData.weightAll (toPy.toPys ds) ≤ _
    have := a.wt
    have := b.wt
    omega
theorem Rqs.tup {w h : Nat} {ds : List D} (b : Rqs w h ds) : Rq w (h + 1) (.tup ds) := ⟨b.pur, b.show_, b.nod, b.short, Nat.succ_le_succ b.ht, b.wt⟩
theorem Rqs.lst {w h : Nat} {ds : List D} (b : Rqs w h ds) : Rq w (h + 1) (.lst ds) := ⟨b.pur, b.show_, b.nod, b.short, Nat.succ_le_succ b.ht, b.wt⟩
theorem Rqs.of {w h : Nat} : ∀ {ds : List D}, (∀ d ∈ ds, Rq w h d) → Rqs (ds.length * (w + 1)) h ds
  | [], _ => (Rqs.nil h).mono (Nat.zero_le _) (Nat.le_refl _)
  | d :: ds, hs => (Rqs.cons (hs d (List.mem_cons_self ..)) (Rqs.of fun x hx => hs x (List.mem_cons_of_mem _ hx))).mono (by rw [List.length_cons, Nat.succ_mul]; omega) (Nat.le_refl _)
theorem Rq.tup {w h n : Nat} {ds : List D} (hn : ds.length ≤ n) (hs : ∀ d ∈ ds, Rq w h d) : Rq (n * (w + 1)) (h + 1) (.tup ds) := ((Rqs.of hs).mono (Nat.mul_le_mul_right _ hn) (Nat.le_refl _)).tup
theorem Rq.lst {w h n : Nat} {ds : List D} (hn : ds.length ≤ n) (hs : ∀ d ∈ ds, Rq w h d) : Rq (n * (w + 1)) (h + 1) (.lst ds) := ((Rqs.of hs).mono (Nat.mul_le_mul_right _ hn) (Nat.le_refl _)).lst
theorem rp_ok {w h : Nat} {d : D} (s : Rq w h d) (hw : w ≤ 400000) (hh : h ≤ 64) : biD .repr [d] = some (.fz (.str (toPy d).shown)) := by
  have l : (toPy d).shown.length ≤ sizeLine := by
    have h1 := PyData.shown_le 32 (by decide) (toPy d) s.short
    have h2 : (32 + 2) * (toPy d).weight ≤ 34 * 400000 := Nat.mul_le_mul (by omega) (Nat.le_trans s.wt hw)
    rw [sizeLine_eq]; omega
  show (if _ then _ else _) = _
  rw [if_pos]
  rw [s.pur, s.show_, s.nod, decide_eq_true (Nat.le_trans s.ht hh), decide_eq_true l]
  rfl
theorem rq_small {i : Int} (h1 : -1000000 ≤ i) (h2 : i ≤ 1000000) : Rq 104 0 (.int i) := Rq.int (by omega) (by omega)
theorem rq_rack {n : Int} (hn : n ≤ 12) {ms : List Int} (h : Mk n ms) : Rq 1260 1 (tupI ms) := by
  have hl : ms.length ≤ 12 := by
    by_cases h0 : 0 ≤ n
    · have := mk_len h h0; omega
    · cases ms with
      | nil => simp
      | cons m r => have := h.bd m (List.mem_cons_self ..); omega
  exact Rq.tup (n := 12) (ds := ms.map D.int) (by rw [List.length_map]; exact hl) fun d hd => by
    obtain ⟨m, hm, rfl⟩ := List.mem_map.mp hd
    have := h.bd m hm
    exact rq_small (by omega) (by omega)
theorem rq_pts {n M : Int} (hn : n ≤ 12) (hM : M ≤ 1000000000000000000000000000000) : ∀ ps : List Pt, OkPs n M ps → Rqs (240 * szPs ps) (2 * dpPs ps) (dPs ps) := by
  refine Pt.ind (fun _ => Rqs.nil _) (fun i ps ih ok => ?_) (fun qs t ps ih1 ih2 ok => ?_)
  · obtain ⟨a, b⟩ := ok_lv (ok _ (List.mem_cons_self ..))
    have i1 := ih fun p hp => ok p (List.mem_cons_of_mem _ hp)
    have i2 : Rq 104 (2 * dpPs (.lv i :: ps)) (.int i) := (rq_small (by omega) (by omega)).mono (Nat.le_refl _) (Nat.zero_le _)
    exact (Rqs.cons i2 (i1.mono (Nat.le_refl _) (by rw [dpPs_cons]; omega))).mono (by rw [szPs_cons, szP_lv]; omega) (Nat.le_refl _)
  · obtain ⟨o1, t1, t2⟩ := ok_sub (ok _ (List.mem_cons_self ..))
    have i1 := ih1 o1
    have i2 := ih2 fun p hp => ok p (List.mem_cons_of_mem _ hp)
    have i3 : Rq 104 (2 * dpPs qs + 1) (.int t) := (Rq.int (by omega) (by omega)).mono (Nat.le_refl _) (Nat.zero_le _)
    have i4 := (Rqs.cons i1.tup (Rqs.cons i3 (Rqs.nil _))).tup
    exact (Rqs.cons (i4.mono (Nat.le_refl _) (by rw [dpPs_cons, dpP_pr]; omega)) (i2.mono (Nat.le_refl _) (by rw [dpPs_cons]; omega))).mono (by rw [szPs_cons, szP_pr]; omega) (Nat.le_refl _)
theorem rq_parts {n M : Int} (hn : n ≤ 12) (hM : M ≤ 1000000000000000000000000000000) {ps : List Pt} (ok : OkPs n M ps) : Rq (240 * szPs ps) (2 * dpPs ps + 1) (.tup (dPs ps)) := (rq_pts hn hM ps ok).tup
theorem OkP.up {n m m' : Int} (h : m ≤ m') : ∀ qs : List Pt, OkPs n m qs → OkPs n m' qs := by
  refine Pt.ind (fun _ p z => nomatch z) (fun i ps ih h2 p hp => ?_) (fun qs t ps ih1 ih2 h2 p hp => ?_)
  · rcases List.mem_cons.mp hp with e | e
    · subst e; obtain ⟨a, b⟩ := ok_lv (h2 _ (List.mem_cons_self ..)); exact .lv a b
    · exact ih (fun p hp => h2 p (List.mem_cons_of_mem _ hp)) p e
  · rcases List.mem_cons.mp hp with e | e
    · subst e; obtain ⟨a, b, c⟩ := ok_sub (h2 _ (List.mem_cons_self ..)); exact .pr (ih1 a) b (by omega)
    · exact ih2 (fun p hp => h2 p (List.mem_cons_of_mem _ hp)) p e
/-- a sequence of levels as parts -/
theorem dPs_lv (fs : List Int) : dPs (fs.map Pt.lv) = fs.map D.int := by
  rw [dPs_map, List.map_map]; rfl
theorem ok_lvs' {n M : Int} {fs : List Int} (h : ∀ x ∈ fs, 1 ≤ x ∧ x ≤ n) : OkPs n M (fs.map Pt.lv) := fun p hp => by
  obtain ⟨x, hx, rfl⟩ := List.mem_map.mp hp
  exact .lv (h x hx).1 (h x hx).2
theorem ex_lvs (fs : List Int) : exPs (fs.map Pt.lv) = fs := by
  induction fs with
  | nil => rfl
  | cons x fs ih => rw [List.map_cons, exPs_cons, exP_lv, ih]; rfl
theorem sz_lvs (fs : List Int) : szPs (fs.map Pt.lv) = fs.length := by
  induction fs with
  | nil => rfl
  | cons x fs ih => rw [List.map_cons, szPs_cons, szP_lv, ih, List.length_cons]; omega
theorem dp_lvs (fs : List Int) : dpPs (fs.map Pt.lv) = 1 := by
  induction fs with
  | nil => rfl
  | cons x fs ih => rw [List.map_cons, dpPs_cons, dpP_lv, ih]; rfl
theorem ln_lvs (fs : List Int) : lnPs (fs.map Pt.lv) = fs.length := by
  induction fs with
  | nil => rfl
  | cons x fs ih => rw [List.map_cons, lnPs_cons, lnP_lv, ih, List.length_cons]; omega
end DL

end

section
set_option autoImplicit false
/-! DLgi: the law's own last lines. -/
namespace DL
open PySem L2
def lawN (q N : Nat) : Nat := max 2 (min q N)
theorem lawN_max {q N : Nat} : biD .max2 [.int 2, .int ((min q N : Nat) : Int)] = some (.fz (.int (lawN q N : Nat))) := by
  refine congrArg (fun z => some (R.fz (D.int z))) ?_
  unfold lawN
  show (if ((min q N : Nat) : Int) > 2 then ((min q N : Nat) : Int) else 2) = _
  split <;> omega
theorem lawN_min {q N : Nat} : biD .min2 [.int (q : Nat), .int (N : Nat)] = some (.fz (.int ((min q N : Nat) : Int))) := by
  refine congrArg (fun z => some (R.fz (D.int z))) ?_
  show (if (N : Int) < (q : Int) then (N : Int) else (q : Int)) = _
  split <;> omega
theorem boolsD_rep {P : Type} (l : List P) : boolsD (l.map fun _ => D.bl true) = some (l.map fun _ => true) := by
  have := boolsD_map (l.map fun _ => true)
  rw [List.map_map] at this
  exact this
theorem all_true {P : Type} (l : List P) : biD .all [.lst (l.map fun _ => D.bl true)] = some (.fz (.bl true)) := by
  rw [b_all, boolsD_rep]
  show some (R.fz (D.bl ((l.map fun _ => true).all id))) = _
  congr 3
  simp
section
variable {Φ : Calls}
theorem law_step (fc fp fr : Nat) (A : D) (i : Nat) (x : Int) (ps ys : List D) (e1 : Φ fc [.fz A, .fz (.int i)] = some (.fz (.int x), [.fz A, .fz (.int i)])) (e2 : Φ fp [.fz (.int x)] = some (.fr ps, [.fz (.int x)])) (e3 : Φ fr [.ls .bor ps] = some (.fz (.bl true), [.ls .bor ys])) :
    ev Φ (.call fr [0] (.ref (.call fp [0] (.val (.call fc [0, 1] (.val (.var 0) (.val (.var 1) .nil)) .nil) .nil) .nil) .nil) .nil) [.fz A, .fz (.int i)] = .ok (.fz (.bl true)) [.fz A, .fz (.int i)] := by
  simp [e1, e2, e3]
/-- all([right(pool(cell(script, k))) for k in range(max(2, min(len(script), N)))]) -/
theorem law_all (N fc fp fr : Nat) (hN : N ≤ 64) (A : List D)
    (hs : ∀ i : Nat, i < 2 ∨ i < N → ∃ (x : Int) (ps ys : List D), Φ fc [.fz (.scr A), .fz (.int i)] = some (.fz (.int x), [.fz (.scr A), .fz (.int i)]) ∧ Φ fp [.fz (.int x)] = some (.fr ps, [.fz (.int x)]) ∧ Φ fr [.ls .bor ps] = some (.fz (.bl true), [.ls .bor ys])) :
    execs Φ (.cons (.ret (.bi .all (.cons (.comp [1] (.nm 1) (.rng1 (.bi .max2 (.cons (.cst (.int 2)) (.cons (.bi .min2 (.cons (.bi .len (.cons (.var 0) .nil)) (.cons (.cst (.int (N : Nat))) .nil))) .nil)))) .none (.call fr [0] (.ref (.call fp [0] (.val (.call fc [0, 1] (.val (.var 0) (.val (.var 1) .nil)) .nil) .nil) .nil) .nil) .nil)) .nil))) .nil) [.fz (.scr A), .un]
      = .ok (.rt (.fz (.bl true))) [.fz (.scr A), .un] := by
  refine sq_rt (x_ret (e_bi1 (e_comp (fun i : Nat => .int (i : Int)) (List.range (lawN A.length N)) (fun _ => .bl true) (i_rng1 (e_bi2 rfl (e_bi2 (e_bi1 rfl rfl rfl) rfl rfl rfl lawN_min) rfl rfl lawN_max) (by unfold lawN; omega)) (by rw [List.length_range]; show lawN A.length N ≤ 16777216; unfold lawN; omega) fun i hi => ?_) rfl (all_true _)))
  have hi := List.mem_range.mp hi
  obtain ⟨x, ps, ys, e1, e2, e3⟩ := hs i (by unfold lawN at hi; omega)
  exact c_some rfl (law_step fc fp fr (.scr A) i x ps ys e1 e2 e3)
end
section
variable {Φ : Calls}
theorem room_step (fc fp fr : Nat) (A : D) (i : Nat) (x a b r : Int) (ps ys : List D) (hr : (if i = 0 then a else b) = r) (e1 : Φ fc [.fz A, .fz (.int i)] = some (.fz (.int x), [.fz A, .fz (.int i)])) (e2 : Φ fp [.fz (.int x)] = some (.fr ps, [.fz (.int x)])) (e3 : Φ fr [.ls .bor ps, .fz (.int r)] = some (.fz (.bl true), [.ls .bor ys, .fz (.int r)])) :
    (bnd (asgn Φ (.nm 1) (.int i)) fun _ => execs Φ (.cons (.ifs (.not (.call fr [0, 1] (.ref (.call fp [0] (.val (.call fc [0, 1] (.val (.var 0) (.val (.var 1) (.nil))) .nil) (.nil)) .nil) (.val (.ite (.cmp .eq (.var 1) (.cst (.int 0))) (.cst (.int a)) (.cst (.int b))) (.nil))) .nil)) (.cons (.ret (.cst (.bl false))) (.nil)) (.nil)) (.cons (.wip [1]) (.nil)))) [.fz A, .un] = .ok .nx [.fz A, .un] := by
  by_cases h : i = 0
  · subst h
    rw [if_pos rfl] at hr
    subst hr
    simp [e1, e2, e3]
    simp at e1
    simp [e1, e2, e3]
  · rw [if_neg h] at hr
    subst hr
    simp [e1, e2, e3, h]
/-- for k in range(max(2, min(len(script), N))): if not right(pool(cell(script, k)), a if k == 0 else b): return False; return True -/
theorem law_room (N : Nat) (a b : Int) (fc fp fr : Nat) (hN : N ≤ 64) (A : List D)
    (hs : ∀ i : Nat, i < 2 ∨ i < N → ∀ r : Int, r = a ∨ r = b → ∃ (x : Int) (ps ys : List D), Φ fc [.fz (.scr A), .fz (.int i)] = some (.fz (.int x), [.fz (.scr A), .fz (.int i)]) ∧ Φ fp [.fz (.int x)] = some (.fr ps, [.fz (.int x)]) ∧ Φ fr [.ls .bor ps, .fz (.int r)] = some (.fz (.bl true), [.ls .bor ys, .fz (.int r)])) :
    execs Φ (.cons (.for_ (.nm 1) (.rng1 (.bi .max2 (.cons (.cst (.int 2)) (.cons (.bi .min2 (.cons (.bi .len (.cons (.var 0) (.nil))) (.cons (.cst (.int (N : Nat))) (.nil)))) (.nil))))) (.cons (.ifs (.not (.call fr [0, 1] (.ref (.call fp [0] (.val (.call fc [0, 1] (.val (.var 0) (.val (.var 1) (.nil))) .nil) (.nil)) .nil) (.val (.ite (.cmp .eq (.var 1) (.cst (.int 0))) (.cst (.int a)) (.cst (.int b))) (.nil))) .nil)) (.cons (.ret (.cst (.bl false))) (.nil)) (.nil)) (.cons (.wip [1]) (.nil)))) (.cons (.ret (.cst (.bl true))) (.nil))) [.fz (.scr A), .un]
      = .ok (.rt (.fz (.bl true))) [.fz (.scr A), .un] := by
  refine sq (for_nx (fun i : Nat => .int (i : Int)) (List.range (lawN A.length N)) (fun _ => [.fz (.scr A), .un]) (i_rng1 (e_bi2 rfl (e_bi2 (e_bi1 rfl rfl rfl) rfl rfl rfl lawN_min) rfl rfl lawN_max) (by unfold lawN; omega)) rfl fun done i rest hp => ?_) (sq_rt (x_ret rfl))
  obtain ⟨hi, _⟩ := rng_split hp
  obtain ⟨x, ps, ys, e1, e2, e3⟩ := hs i (by unfold lawN at hi; omega) (if i = 0 then a else b) (by split <;> simp)
  exact room_step fc fp fr (.scr A) i x a b _ ps ys rfl e1 e2 e3
end
section
variable {Φ : Calls} {ρ ρ1 : Ev} {P : Type}
/-- a loop that may break where nothing more would change -/
theorem for_stb {t : Tg} {it : DL.It} {b : Ss} (g : P → D) (ps : List P) (st : Nat → Ev) (hi : evit Φ it ρ = .ok (none, ps.map g) ρ1) (h0 : st 0 = ρ1)
    (hs : ∀ i p, ps[i]? = some p → (bnd (asgn Φ t (g p)) fun _ => execs Φ b) (st i) = .ok .nx (st (i + 1)) ∨ (bnd (asgn Φ t (g p)) fun _ => execs Φ b) (st i) = .ok .bk (st ps.length)) :
    exec Φ (.for_ t it b) ρ = .ok .nx (st ps.length) := by
  have e1 : exec Φ (.for_ t it b) ρ = forL (fun x => bnd (asgn Φ t x) fun _ => execs Φ b) (ps.map g) (st 0) := by
    show (evit Φ it ρ).then _ = _
    rw [hi, h0]; rfl
  rw [e1]
  have key : ∀ (qs : List P) (i : Nat), ps.drop i = qs → i + qs.length = ps.length → forL (fun x => bnd (asgn Φ t x) fun _ => execs Φ b) (qs.map g) (st i) = .ok .nx (st ps.length) := fun qs => by
    induction qs with
    | nil => intro i _ h; rw [← h]; rfl
    | cons q qs ih =>
      intro i h hl
      have hq : ps[i]? = some q := by
        have := congrArg (fun l => l[0]?) h
        simpa using this
      have hd : ps.drop (i + 1) = qs := by
        have := congrArg List.tail h
        rw [List.tail_drop] at this
        exact this
      show ((bnd (asgn Φ t (g q)) fun _ => execs Φ b) (st i)).then _ = _
      rcases hs i q hq with e | e
      · rw [e]; exact ih (i + 1) hd (by rw [List.length_cons] at hl; omega)
      · rw [e]; rfl
  exact key ps 0 rfl (by omega)
end
/-- racks with the same counts -/
theorem rk_ext {n : Nat} {a b : List Int} (ha : Mk n a) (hb : Mk n b) (h : ∀ k : Nat, k ≤ n → cnt a k = cnt b k) : a = b := by
  rw [← rk_cnt ha, ← rk_cnt hb]
  exact rk_congr h
/-- reading w again and again -/
def itR (w : List Int) : Nat → List Int → List Int
  | 0, ms => ms
  | i + 1, ms => rdL (itR w i ms) w
theorem itR_rd (w ms : List Int) : ∀ i, itR w i ms = rdL ms (List.replicate i w).flatten
  | 0 => rfl
  | i + 1 => by
    show rdL (itR w i ms) w = _
    rw [itR_rd w ms i, ← rdL_app, flat_snoc]
theorem mk_itR {n : Int} (hn : n ≤ 12) {w ms : List Int} (hm : Mk n ms) (hw : ∀ x ∈ w, 1 ≤ x ∧ x ≤ n) : ∀ i, Mk n (itR w i ms)
  | 0 => hm
  | i + 1 => mk_rdL hn (mk_itR hn hm hw i) hw
theorem itR_stop {w ms : List Int} {i : Nat} (h : itR w (i + 1) ms = itR w i ms) : ∀ d, itR w (i + d) ms = itR w i ms
  | 0 => rfl
  | d + 1 => by
    show rdL (itR w (i + d) ms) w = _
    rw [itR_stop h d]; exact h
theorem cnt_itR {n : Nat} (hn : n ≤ 12) {w ms : List Int} (hm : Mk n ms) (hw : ∀ x ∈ w, 1 ≤ x ∧ x ≤ n) (i k : Nat) : cnt (itR w i ms) (k : Int) = rep (w.map Int.toNat) i (fun k => cnt ms (k : Int)) k := by
  have hx : ∀ x ∈ (List.replicate i w).flatten, 1 ≤ x ∧ x ≤ (n : Int) := fun x h => by
    obtain ⟨l, hl, h⟩ := List.mem_flatten.mp h
    rw [List.eq_of_mem_replicate hl] at h
    exact hw x h
  rw [itR_rd, cnt_rdL (by omega) hm hx, rep_stps, map_rep]
/-- after as many rounds as levels nothing changes -/
theorem itR_min {n : Nat} (hn : n ≤ 12) {w ms : List Int} (hm : Mk n ms) (hw : ∀ x ∈ w, 1 ≤ x ∧ x ≤ n) {m t : Nat} (hmn : n ≤ m) : itR w (min t m) ms = itR w t ms := by
  by_cases q : t ≤ m
  · rw [Nat.min_eq_left q]
  · have h1 : ∀ x ∈ w.map Int.toNat, 1 ≤ x := fun x h => by
      obtain ⟨y, hy, rfl⟩ := List.mem_map.mp h
      have := hw y hy
      omega
    rw [Nat.min_eq_right (by omega)]
    refine rk_ext (mk_itR (by omega) hm hw _) (mk_itR (by omega) hm hw _) fun k hk => ?_
    rw [cnt_itR hn hm hw, cnt_itR hn hm hw, rep_fin (cnt_mono ms) h1 hmn k hk, rep_fin (cnt_mono ms) h1 (by omega : n ≤ t) k hk]
end DL

end

section
set_option autoImplicit false
/-! DLgj: racks of counts; greater and smaller counts. -/
namespace DL
open PySem L2
/-- counts that rise by none or one -/
structure Cn (n : Nat) (c : Nat → Int) : Prop where
  z : c 0 = 0
  up : ∀ j, j < n → c j ≤ c (j + 1) ∧ c (j + 1) ≤ c j + 1
theorem rk_cntO {n : Nat} {c : Nat → Int} (h : Cn n c) : ∀ k, k ≤ n → cnt (rkO n c) (k : Int) = c k
  | 0, _ => by rw [h.z]; exact cnt_zero (rk_mk n c)
  | k + 1, hk => by
    have ih := rk_cntO h k (by omega)
    have e := cnt_succ (rk_mk n c).pw (x := (k : Int))
    rw [show ((k + 1 : Nat) : Int) = (k : Int) + 1 from rfl, e, ih]
    obtain ⟨a, b⟩ := h.up k (by omega)
    by_cases q : c k < c (k + 1)
    · rw [if_pos (rk_mem.mpr ⟨k, by omega, q, rfl⟩)]; omega
    · rw [if_neg fun z => by
        obtain ⟨j, h1, h2, h3⟩ := rk_mem.mp z
        have : j = k := by omega
        subst this; omega]
      omega
theorem cn_cnt {n : Nat} {ms : List Int} (h : Mk n ms) : Cn n fun k => cnt ms (k : Int) := ⟨cnt_zero h, fun j _ => by
  have e := cnt_succ h.pw (x := (j : Int))
  show cnt ms (j : Int) ≤ cnt ms ((j : Int) + 1) ∧ cnt ms ((j : Int) + 1) ≤ cnt ms (j : Int) + 1
  rw [e]
  split <;> omega⟩
theorem cn_max {n : Nat} {c e : Nat → Int} (h : Cn n c) (g : Cn n e) : Cn n fun k => max (c k) (e k) := ⟨by show max (c 0) (e 0) = 0; rw [h.z, g.z]; rfl, fun j hj => by
  have := h.up j hj
  have := g.up j hj
  show max (c j) (e j) ≤ max (c (j + 1)) (e (j + 1)) ∧ max (c (j + 1)) (e (j + 1)) ≤ max (c j) (e j) + 1
  omega⟩
theorem cn_min {n : Nat} {c e : Nat → Int} (h : Cn n c) (g : Cn n e) : Cn n fun k => min (c k) (e k) := ⟨by show min (c 0) (e 0) = 0; rw [h.z, g.z]; rfl, fun j hj => by
  have := h.up j hj
  have := g.up j hj
  show min (c j) (e j) ≤ min (c (j + 1)) (e (j + 1)) ∧ min (c (j + 1)) (e (j + 1)) ≤ min (c j) (e j) + 1
  omega⟩
theorem zw_map {α : Type} (g : Int → Int → Int) (f h : α → Int) : ∀ l : List α, List.zipWith g (l.map f) (l.map h) = l.map fun a => g (f a) (h a)
  | [] => rfl
  | a :: l => by rw [List.map_cons, List.map_cons, List.zipWith_cons_cons, zw_map g f h l, List.map_cons]
def mxR (n : Nat) (xs ys : List Int) : List Int := rkO n fun k => max (cnt xs (k : Int)) (cnt ys (k : Int))
def mnR (n : Nat) (xs ys : List Int) : List Int := rkO n fun k => min (cnt xs (k : Int)) (cnt ys (k : Int))
theorem by_mx {n : Nat} {xs ys : List Int} (h : Mk n xs) (g : Mk n ys) : byT (List.zipWith mx (tots xs n) (tots ys n)) 0 0 = mxR n xs ys := by
  have := byT_rk (n := n) (c := fun k => max (cnt xs (k : Int)) (cnt ys (k : Int))) (by show max (cnt xs 0) (cnt ys 0) = 0; rw [cnt_zero h, cnt_zero g]; rfl)
  unfold mxR
  rw [← this]
  unfold tots
  rw [Int.toNat_natCast, zw_map]
  congr 2
  funext i
  unfold mx
  show (if cnt ys ((i : Int) + 1) > cnt xs ((i : Int) + 1) then _ else _) = max (cnt xs ((i : Int) + 1)) (cnt ys ((i : Int) + 1))
  split <;> omega
theorem by_mn {n : Nat} {xs ys : List Int} (h : Mk n xs) (g : Mk n ys) : byT (List.zipWith mn (tots xs n) (tots ys n)) 0 0 = mnR n xs ys := by
  have := byT_rk (n := n) (c := fun k => min (cnt xs (k : Int)) (cnt ys (k : Int))) (by show min (cnt xs 0) (cnt ys 0) = 0; rw [cnt_zero h, cnt_zero g]; rfl)
  unfold mnR
  rw [← this]
  unfold tots
  rw [Int.toNat_natCast, zw_map]
  congr 2
  funext i
  unfold mn
  show (if cnt ys ((i : Int) + 1) < cnt xs ((i : Int) + 1) then _ else _) = min (cnt xs ((i : Int) + 1)) (cnt ys ((i : Int) + 1))
  split <;> omega
theorem stps_max : ∀ (w : List Nat) (c e : Nat → Int), stps w (fun k => max (c k) (e k)) = fun k => max (stps w c k) (stps w e k)
  | [], _, _ => rfl
  | x :: w, c, e => by
    show stps w (stp x fun k => max (c k) (e k)) = _
    have : stp x (fun k => max (c k) (e k)) = fun k => max (stp x c k) (stp x e k) := funext fun k => by
      unfold stp
      split
      · rfl
      · show max (max (c k) (e k)) (max (c (x - 1)) (e (x - 1)) + 1) = _
        omega
    rw [this, stps_max w]
    rfl
/-- reading keeps the greater counts -/
theorem rd_max {n : Nat} (hn : n ≤ 12) {xs ys w : List Int} (h : Mk n xs) (g : Mk n ys) (hw : ∀ x ∈ w, 1 ≤ x ∧ x ≤ (n : Int)) : rdL (mxR n xs ys) w = mxR n (rdL xs w) (rdL ys w) := by
  have a := mk_rdL (by omega) h hw
  have b := mk_rdL (by omega) g hw
  refine rk_ext (n := n) (mk_rdL (by omega) (rk_mk n _) hw) (rk_mk n _) fun k hk => ?_
  have e1 : cnt (rdL (mxR n xs ys) w) (k : Int) = stps (w.map Int.toNat) (fun k => cnt (mxR n xs ys) (k : Int)) k := cnt_rdL (by omega) (rk_mk n _) hw k
  have e2 : cnt (mxR n (rdL xs w) (rdL ys w)) (k : Int) = max (cnt (rdL xs w) (k : Int)) (cnt (rdL ys w) (k : Int)) := rk_cntO (cn_max (cn_cnt a) (cn_cnt b)) k hk
  rw [e1, e2, cnt_rdL (by omega) h hw, cnt_rdL (by omega) g hw]
  have e3 := congrFun (stps_max (w.map Int.toNat) (fun k => cnt xs (k : Int)) (fun k => cnt ys (k : Int))) k
  rw [← e3]
  exact stps_congr _ (fun j hj => rk_cntO (cn_max (cn_cnt h) (cn_cnt g)) j (by omega)) k (Nat.le_refl k)
theorem rd_le {n : Nat} (hn : n ≤ 12) {xs ys w : List Int} (h : Mk n xs) (g : Mk n ys) (hw : ∀ x ∈ w, 1 ≤ x ∧ x ≤ (n : Int)) (hle : ∀ k : Nat, k ≤ n → cnt xs (k : Int) ≤ cnt ys (k : Int)) {k : Nat} (hk : k ≤ n) : cnt (rdL xs w) (k : Int) ≤ cnt (rdL ys w) (k : Int) := by
  rw [cnt_rdL (by omega) h hw, cnt_rdL (by omega) g hw]
  have e1 : stps (w.map Int.toNat) (fun k => cnt xs (k : Int)) k = stps (w.map Int.toNat) (fun j => if j ≤ n then cnt xs (j : Int) else cnt ys (j : Int)) k := stps_congr _ (fun j hj => by rw [if_pos (show j ≤ n by omega)]) k (Nat.le_refl k)
  rw [e1]
  exact stps_up _ (fun j => by
    show (if j ≤ n then _ else _) ≤ _
    by_cases q : j ≤ n
    · rw [if_pos q]; exact hle j q
    · rw [if_neg q]; exact Int.le_refl _) k
theorem le_of_cnt {n : Nat} {xs ys : List Int} (h : Mk n xs) (g : Mk n ys) (hle : ∀ k : Nat, k ≤ n → cnt xs (k : Int) ≤ cnt ys (k : Int)) : abv (tots xs n) (tots ys n) 0 = [] := (abv_le h g).mpr (cnt_le_of h.pw g.pw h.bd fun z a b => by
  have := hle z.toNat (by omega)
  rw [Int.toNat_of_nonneg (by omega)] at this
  exact this)
theorem mn_le {n : Nat} {xs ys : List Int} (h : Mk n xs) (g : Mk n ys) (k : Nat) (hk : k ≤ n) : cnt (mnR n xs ys) (k : Int) ≤ cnt xs (k : Int) ∧ cnt (mnR n xs ys) (k : Int) ≤ cnt ys (k : Int) := by
  have : cnt (mnR n xs ys) (k : Int) = min (cnt xs (k : Int)) (cnt ys (k : Int)) := rk_cntO (cn_min (cn_cnt h) (cn_cnt g)) k hk
  omega
theorem mx_ge {n : Nat} {xs ys : List Int} (h : Mk n xs) (g : Mk n ys) (k : Nat) (hk : k ≤ n) : cnt xs (k : Int) ≤ cnt (mxR n xs ys) (k : Int) ∧ cnt ys (k : Int) ≤ cnt (mxR n xs ys) (k : Int) := by
  have : cnt (mxR n xs ys) (k : Int) = max (cnt xs (k : Int)) (cnt ys (k : Int)) := rk_cntO (cn_max (cn_cnt h) (cn_cnt g)) k hk
  omega
end DL

end

section
set_option autoImplicit false
/-! DLgk: the entries of the table of parts are lengths of longest ascending subsequences. -/
namespace DL
open PySem L2
/-- the length in the band (b, k] -/
def lis (w : List Nat) (b k : Nat) : Int := stps (w.filter fun x => decide (b < x)) (fun _ => 0) k
/-- decreasing in the lower end, never negative, nothing below the diagonal -/
structure Tb (T : Nat → Nat → Int) : Prop where
  nn : ∀ j k, 0 ≤ T j k
  an : ∀ j k, T (j + 1) k ≤ T j k
  lo : ∀ j k, k < j → T j k = 0
theorem tb_zero : Tb fun _ _ => 0 := ⟨fun _ _ => Int.le_refl _, fun _ _ => Int.le_refl _, fun _ _ _ => rfl⟩
theorem tb_app {T : Nat → Nat → Int} (h : Tb T) (x : Nat) : Tb (appT T x) := by
  refine ⟨fun j k => ?_, fun j k => ?_, fun j k hk => ?_⟩
  · have := h.nn j k
    unfold appT
    split <;> omega
  · have := h.an j k
    have := h.an j (x - 1)
    unfold appT
    by_cases a : j + 1 < x ∧ x ≤ k
    · rw [if_pos a, if_pos (show j < x ∧ x ≤ k by omega)]; omega
    · rw [if_neg a]
      split <;> omega
  · unfold appT
    rw [if_neg (by omega)]
    exact h.lo j k hk
theorem tb_pr {A B : Nat → Nat → Int} (ha : Tb A) (hb : Tb B) : Tb (prT A B) := by
  have nn : ∀ j k, 0 ≤ prT A B j k := fun j k => by
    unfold prT
    split
    · exact Int.le_refl _
    · have := mxO_le (fun m => A j m + B m k) j (k - j) j (Nat.le_refl _) (by omega)
      have := ha.nn j j
      have := hb.nn j k
      have h : A j j + B j k ≤ mxO (fun m => A j m + B m k) j (k - j) := by assumption
      omega
  refine ⟨nn, fun j k => ?_, fun j k hk => by unfold prT; rw [if_pos hk]⟩
  by_cases q : k < j + 1
  · have := nn j k
    have e : prT A B (j + 1) k = 0 := by unfold prT; rw [if_pos q]
    omega
  · unfold prT
    rw [if_neg q, if_neg (by omega)]
    obtain ⟨m, h1, h2, e⟩ := mxO_ex (fun m => A (j + 1) m + B m k) (j + 1) (k - (j + 1))
    rw [e]
    have := mxO_le (fun m => A j m + B m k) j (k - j) m (by omega) (by omega)
    have h3 : A j m + B m k ≤ mxO (fun m => A j m + B m k) j (k - j) := this
    have := ha.an j m
    show A (j + 1) m + B m k ≤ _
    omega
theorem tb_pw {T : Nat → Nat → Int} (h : Tb T) : ∀ i, Tb (pwT T i)
  | 0 => tb_zero
  | i + 1 => tb_pr (tb_pw h i) h
theorem tb_tbL (n : Nat) : ∀ (ps : List Pt) (T : Nat → Nat → Int), Tb T → Tb (tbL n T ps) := by
  refine Pt.ind (fun T h => by rw [tbL_nil]; exact h) (fun i ps ih T h => ?_) (fun qs t ps ih1 ih2 T h => ?_)
  · rw [tbL_cons, tbP_lv]
    exact ih _ (tb_app h _)
  · rw [tbL_cons, tbP_pr]
    split
    · exact ih2 _ h
    · exact ih2 _ (tb_pr h (tb_pw (ih1 _ tb_zero) _))
theorem tb_tbPs (n : Nat) (ps : List Pt) : Tb (tbPs n ps) := tb_tbL n ps _ tb_zero
theorem tb_anti {T : Nat → Nat → Int} (h : Tb T) (k j : Nat) : ∀ d, T (j + d) k ≤ T j k
  | 0 => Int.le_refl _
  | d + 1 => Int.le_trans (h.an (j + d) k) (tb_anti h k j d)
theorem stps_low {b : Nat} : ∀ (w : List Nat) (c e : Nat → Int), (∀ k, k < b → c k ≤ -(w.length : Int)) → (∀ k, b ≤ k → c k = e k ∧ 0 ≤ e k) → (∀ x ∈ w, 1 ≤ x) → ∀ k, b ≤ k → stps w c k = stps (w.filter fun x => decide (b < x)) e k
  | [], c, e, _, h, _, k, hk => (h k hk).1
  | x :: w, c, e, hl, h, h1, k, hk => by
    have hx := h1 x (List.mem_cons_self ..)
    show stps w (stp x c) k = _
    by_cases q : b < x
    · rw [List.filter_cons_of_pos (by simpa using q)]
      show _ = stps (w.filter _) (stp x e) k
      refine stps_low w _ _ (fun k hk => ?_) (fun k hk => ?_) (fun y hy => h1 y (List.mem_cons_of_mem _ hy)) k hk
      · have := hl k hk
        rw [List.length_cons] at this
        unfold stp
        rw [if_pos (by omega)]
        omega
      · obtain ⟨a, b1⟩ := h k hk
        obtain ⟨a2, b2⟩ := h (x - 1) (by omega)
        unfold stp
        rw [a, a2]
        refine ⟨rfl, ?_⟩
        split <;> omega
    · rw [List.filter_cons_of_neg (by simpa using q)]
      have hx2 := hl (x - 1) (by omega)
      rw [List.length_cons] at hx2
      refine stps_low w _ _ (fun k hk => ?_) (fun k hk => ?_) (fun y hy => h1 y (List.mem_cons_of_mem _ hy)) k hk
      · have := hl k hk
        rw [List.length_cons] at this
        unfold stp
        split <;> omega
      · obtain ⟨a, b1⟩ := h k hk
        unfold stp
        rw [if_neg (by omega), a]
        refine ⟨?_, b1⟩
        omega
theorem stps_hi {b : Nat} : ∀ (w : List Nat) (c : Nat → Int), (∀ x ∈ w, b < x) → ∀ k, k ≤ b → stps w c k = c k
  | [], c, _, k, _ => rfl
  | x :: w, c, h, k, hk => by
    show stps w (stp x c) k = _
    rw [stps_hi w _ (fun y hy => h y (List.mem_cons_of_mem _ hy)) k hk]
    unfold stp
    rw [if_pos (by have := h x (List.mem_cons_self ..); omega)]
theorem lis_low (w : List Nat) {b k : Nat} (h : k ≤ b) : lis w b k = 0 := stps_hi _ _ (fun x hx => of_decide_eq_true (List.mem_filter.mp hx).2) k h
/-- an operator's table by its rows -/
theorem row_of {n : Nat} {T : Nat → Nat → Int} {w : List Nat} (h : Tb T) (hT : ∀ c, Mono c → ∀ k, k ≤ n → act T c k = stps w c k) (h1 : ∀ x ∈ w, 1 ≤ x) {j k : Nat} (hk : k ≤ n) : T j k = lis w j k := by
  by_cases q : k < j
  · rw [h.lo j k q, lis_low w (by omega)]
  · let K : Int := T 0 k + 1 + w.length
    have hK : 0 ≤ T 0 k := h.nn 0 k
    let c : Nat → Int := fun i => if i < j then -K else 0
    have hm : Mono c := fun a b hab => by
      show (if a < j then -K else 0) ≤ (if b < j then -K else (0 : Int))
      split <;> split <;> (try simp only [K]) <;> omega
    have e := hT c hm k hk
    have e1 : act T c k = T j k := mxO_eq (fun m _ hm => by
      show (if m < j then -K else 0) + T m k ≤ T j k
      by_cases r : m < j
      · rw [if_pos r]
        have a := tb_anti h k 0 m
        have b := h.nn j k
        rw [Nat.zero_add] at a
        simp only [K]; omega
      · rw [if_neg r]
        have a := tb_anti h k j (m - j)
        rw [show j + (m - j) = m from by omega] at a
        omega) ⟨j, by omega, by omega, by
      show T j k ≤ (if j < j then -K else 0) + T j k
      rw [if_neg (by omega)]; omega⟩
    rw [e1] at e
    rw [e]
    exact stps_low w c _ (fun i hi => by show (if i < j then -K else 0) ≤ _; rw [if_pos hi]; simp only [K]; omega) (fun i hi => ⟨by show (if i < j then -K else 0) = _; rw [if_neg (by omega)], Int.le_refl _⟩) h1 k (by omega)
/-- the table of parts -/
theorem tb_lis {n : Nat} {M : Int} {ps : List Pt} (ok : OkPs n M ps) {j k : Nat} (hk : k ≤ n) : tbPs n ps j k = lis (wd ps) j k :=
  row_of (tb_tbPs n ps) (fun c hc k hk => act_tb ok hc hk) (fun x hx => (wd_lv ok x hx).1) hk
theorem tabD_lis {n : Nat} {M : Int} {ps : List Pt} (ok : OkPs n M ps) : tabD n (tbPs n ps) = tabD n (lis (wd ps)) := tab_ext.mpr fun j k _ hk => tb_lis ok hk
theorem whl_inv {test : M Bool} {body : M Fl} (I : Nat → Ev → Prop) (J : Ev → Prop) (hs : ∀ m ρ, I m ρ → (∃ ρ1, test ρ = .ok false ρ1 ∧ J ρ1) ∨ (∃ ρ1 ρ2 m', test ρ = .ok true ρ1 ∧ (body ρ1 = .ok .nx ρ2 ∨ body ρ1 = .ok .ct ρ2) ∧ m' < m ∧ I m' ρ2)) :
    ∀ (n m : Nat) (ρ : Ev), m < n → I m ρ → ∃ ρ', whileN test body n ρ = .ok .nx ρ' ∧ J ρ'
  | 0, m, ρ, h, _ => absurd h (Nat.not_lt_zero _)
  | n + 1, m, ρ, h, hI => by
    rcases hs m ρ hI with ⟨ρ1, e, hj⟩ | ⟨ρ1, ρ2, m', e, eb, hm, hI2⟩
    · refine ⟨ρ1, ?_, hj⟩
      show (test ρ).then _ = _
      rw [e]; rfl
    · obtain ⟨ρ', e2, hj⟩ := whl_inv I J hs n m' ρ2 (by omega) hI2
      refine ⟨ρ', ?_, hj⟩
      show (test ρ).then _ = _
      rw [e]
      show (body ρ1).then _ = _
      rcases eb with eb | eb <;> (rw [eb]; exact e2)
end DL

end

section
set_option autoImplicit false
/-! DLgl: tables of words. -/
namespace DL
open PySem L2
theorem lis_nil : lis [] = fun _ _ => 0 := rfl
theorem lis_snoc (w : List Nat) (x : Nat) : lis (w ++ [x]) = appT (lis w) x := by
  funext j k
  unfold lis appT
  rw [List.filter_append, stps_app]
  by_cases h : j < x
  · rw [List.filter_cons_of_pos (by simpa using h)]
    show stp x _ k = _
    unfold stp
    by_cases q : k < x
    · rw [if_pos q, if_neg (by omega)]
    · rw [if_neg q, if_pos (by omega)]
  · rw [List.filter_cons_of_neg (by simpa using h), if_neg (by omega)]
    rfl
theorem snoc_ind {α : Type} {Q : List α → Prop} (h0 : Q []) (hs : ∀ w x, Q w → Q (w ++ [x])) (w : List α) : Q w := by
  have key : ∀ n (w : List α), w.length = n → Q w := fun n => by
    induction n with
    | zero => intro w h; rw [List.eq_nil_of_length_eq_zero h]; exact h0
    | succ n ih =>
      intro w h
      have hne : w ≠ [] := fun z => by rw [z] at h; cases h
      rw [← List.dropLast_concat_getLast hne]
      exact hs _ _ (ih _ (by rw [List.length_dropLast]; omega))
  exact key _ w rfl
theorem tb_lisT (w : List Nat) : Tb (lis w) := snoc_ind (Q := fun w => Tb (lis w)) tb_zero (fun w x h => by rw [lis_snoc]; exact tb_app h x) w
theorem act_lis (w : List Nat) : (∀ x ∈ w, 1 ≤ x) → ∀ {c : Nat → Int}, Mono c → ∀ k, act (lis w) c k = stps w c k := by
  refine snoc_ind (Q := fun w => (∀ x ∈ w, 1 ≤ x) → ∀ {c : Nat → Int}, Mono c → ∀ k, act (lis w) c k = stps w c k) (fun _ c hc k => act_zero hc k) (fun w x ih h1 c hc k => ?_) w
  rw [lis_snoc, act_app (h1 x (List.mem_append_right _ (List.mem_cons_self ..))), stps_app]
  exact stp_congr (k := k) (fun j _ => ih (fun y hy => h1 y (List.mem_append_left _ hy)) hc j) x k (Nat.le_refl k)
theorem lis_eq {n : Nat} {w v : List Nat} (hw : ∀ x ∈ w, 1 ≤ x) (hv : ∀ x ∈ v, 1 ≤ x) (h : ∀ c, Mono c → ∀ k, k ≤ n → stps w c k = stps v c k) : ∀ j k, k ≤ n → lis w j k = lis v j k := fun j k hk =>
  row_of (tb_lisT w) (fun c hc k hk => (act_lis w hw hc k).trans (h c hc k hk)) hv hk
theorem pr_lis {w v : List Nat} (hw : ∀ x ∈ w, 1 ≤ x) (hv : ∀ x ∈ v, 1 ≤ x) (j k : Nat) : prT (lis w) (lis v) j k = lis (w ++ v) j k :=
  row_of (n := k) (tb_pr (tb_lisT w) (tb_lisT v)) (fun c hc k _ => by
    rw [act_prod, stps_app, ← act_lis v hv (stps_mono w hc) k]
    exact act_congr (fun _ _ => rfl) fun j _ => act_lis w hw hc j) (fun x hx => (List.mem_append.mp hx).elim (hw x) (hv x)) (Nat.le_refl k)
/-- a word repeated as often as there are levels -/
theorem lis_rep {n t : Nat} {w v : List Nat} (hw : ∀ x ∈ w, 1 ≤ x) (hv : ∀ x ∈ v, 1 ≤ x) (j k : Nat) (hk : k ≤ n) : lis (w ++ (List.replicate (min t n) v).flatten) j k = lis (w ++ (List.replicate t v).flatten) j k := by
  have up : ∀ i, ∀ x ∈ w ++ (List.replicate i v).flatten, 1 ≤ x := fun i x hx => by
    rcases List.mem_append.mp hx with h | h
    · exact hw x h
    · obtain ⟨l, hl, h⟩ := List.mem_flatten.mp h
      rw [List.eq_of_mem_replicate hl] at h
      exact hv x h
  refine lis_eq (up _) (up _) (fun c hc k hk => ?_) j k hk
  rw [stps_app, stps_app, ← rep_stps, ← rep_stps]
  exact rep_min (stps_mono w hc) hv hk
/-! ### tables as lists of lists -/
def tabL (n : Nat) (T : Nat → Nat → Int) : List D := (List.range (n + 1)).map fun j => .lst (cvD n (T j))
theorem tabL_ext {n : Nat} {A B : Nat → Nat → Int} : tabL n A = tabL n B ↔ Eq2 n A B := by
  unfold tabL
  rw [rng_ext]
  constructor
  · intro h j k hj hk
    have := h j (by omega)
    rw [D.lst.injEq] at this
    have := rng_ext.mp this k (by omega)
    injection this
  · intro h j hj
    rw [D.lst.injEq]
    exact rng_ext.mpr fun k hk => by rw [h j k (by omega) (by omega)]
theorem tabL_len (n : Nat) (T : Nat → Nat → Int) : (tabL n T).length = n + 1 := by unfold tabL; rw [List.length_map, List.length_range]
theorem tabL_at {n i : Nat} (T : Nat → Nat → Int) (h : i ≤ n) : idxD (.lst (tabL n T)) (.int (i : Int)) = some (.lst (cvD n (T i))) := at_rng (fun k => D.lst (cvD n (T k))) (by omega)
theorem rowL_at {n j : Nat} (c : Nat → Int) (h : j ≤ n) : idxD (.lst (cvD n c)) (.int (j : Int)) = some (.int (c j)) := cv_at c h
theorem pl_tabL (n : Nat) (T : Nat → Nat → Int) : Pl 2 (.lst (tabL n T)) := Pl.lstM fun p _ => Pl.lstM fun q _ => .int _
theorem cv_set {n x : Nat} (c : Nat → Int) (v : Int) (h : x ≤ n) : (cvD n c).set x (.int v) = cvD n fun k => if k = x then v else c k := by
  unfold cvD
  refine List.ext_getElem? fun i => ?_
  rw [List.getElem?_set]
  by_cases q : x = i
  · subst q
    rw [if_pos rfl, if_pos (by rw [List.length_map, List.length_range]; omega), List.getElem?_map, List.getElem?_eq_getElem (by rw [List.length_range]; omega), List.getElem_range]
    show _ = some (D.int (if x = x then v else c x))
    rw [if_pos rfl]
  · rw [if_neg q, List.getElem?_map, List.getElem?_map]
    cases e : (List.range (n + 1))[i]? with
    | none => rfl
    | some k =>
      obtain ⟨h1, h2⟩ := List.getElem?_eq_some_iff.mp e
      rw [List.getElem_range] at h2
      subst h2
      show some (D.int (c i)) = some (D.int (if i = x then v else c i))
      rw [if_neg (fun z => q z.symm)]
theorem cv_pre1 (n x : Nat) (c : Nat → Int) (h : x ≤ n + 1) : cut (cvD n c) none (some (x : Int)) = (List.range x).map fun k => .int (c k) := by
  unfold cvD
  rw [cut_to, ← List.map_take, List.take_range, Nat.min_eq_left h]
theorem max1_pre {n x : Nat} (c : Nat → Int) (h : x + 1 ≤ n + 1) : biD .max1 [.lst ((List.range (x + 1)).map fun k => .int (c k))] = some (.fz (.int (mxO c 0 x))) :=
  max1_map _ _ (by rw [List.range_eq_range']; exact maxL_rng c 0 x)
theorem mul_cv (n : Nat) (h : n ≤ 1000) : binD .mul (.lst [.int 0]) (.int ((n : Int) + 1)) = some (.fr (cvD n fun _ => 0)) := by
  have := mul_row (.int 0) (l := n + 1) (by omega)
  rw [show ((n + 1 : Nat) : Int) = (n : Int) + 1 from rfl] at this
  rw [this]
  unfold cvD
  rw [List.map_const', List.length_range]
/-- the longest ascending subsequence that ends at each level -/
def bstp (b : Nat) (c : Nat → Int) (x : Nat) : Nat → Int := if b < x then (fun k => if k = x then max (c x) (1 + mxO c 0 (x - 1)) else c k) else c
theorem mxO_bstp {b x : Nat} (hx : 1 ≤ x) (c : Nat → Int) (k : Nat) : mxO (bstp b c x) 0 k = if b < x then stp x (fun k => mxO c 0 k) k else mxO c 0 k := by
  unfold bstp
  by_cases h : b < x
  · rw [if_pos h, if_pos h]
    unfold stp
    by_cases q : k < x
    · rw [if_pos q]
      exact mxO_congr fun m _ hm => by
        show (if m = x then _ else c m) = _
        rw [if_neg (by omega)]
    · rw [if_neg q]
      show _ = max (mxO c 0 k) (mxO c 0 (x - 1) + 1)
      refine mxO_eq (fun m _ hm => ?_) ?_
      · show (if m = x then max (c x) (1 + mxO c 0 (x - 1)) else c m) ≤ _
        have h1 := mxO_le c 0 k m (by omega) hm
        by_cases r : m = x
        · rw [if_pos r]; subst r; omega
        · rw [if_neg r]; omega
      · obtain ⟨m, _, h2, e⟩ := mxO_ex c 0 k
        by_cases r : mxO c 0 (x - 1) + 1 ≤ mxO c 0 k
        · refine ⟨m, by omega, h2, ?_⟩
          show _ ≤ if m = x then max (c x) (1 + mxO c 0 (x - 1)) else c m
          by_cases z : m = x
          · rw [if_pos z]; subst z; omega
          · rw [if_neg z]; omega
        · refine ⟨x, by omega, by omega, ?_⟩
          show _ ≤ if x = x then max (c x) (1 + mxO c 0 (x - 1)) else c x
          rw [if_pos rfl]; omega
  · rw [if_neg h, if_neg h]
theorem bst_lis (b : Nat) (w : List Nat) : (∀ x ∈ w, 1 ≤ x) → ∀ k, mxO (w.foldl (bstp b) fun _ => 0) 0 k = lis w b k := by
  refine snoc_ind (Q := fun w => (∀ x ∈ w, 1 ≤ x) → ∀ k, mxO (w.foldl (bstp b) fun _ => 0) 0 k = lis w b k) (fun _ k => ?_) (fun w x ih h1 k => ?_) w
  · exact mxO_eq (fun _ _ _ => Int.le_refl 0) ⟨0, by omega, by omega, Int.le_refl _⟩
  · have ih := ih fun y hy => h1 y (List.mem_append_left _ hy)
    rw [List.foldl_append]
    show mxO (bstp b _ x) 0 k = _
    rw [mxO_bstp (h1 x (List.mem_append_right _ (List.mem_cons_self ..))), show (fun k => mxO (List.foldl (bstp b) (fun _ => 0) w) 0 k) = lis w b from funext ih, ih k]
    unfold lis
    rw [List.filter_append, stps_app]
    by_cases h : b < x
    · rw [if_pos h, List.filter_cons_of_pos (by simpa using h)]; rfl
    · rw [if_neg h, List.filter_cons_of_neg (by simpa using h)]; rfl
theorem maxL_0 (f : Nat → Int) (j d : Nat) : maxL ((List.range' j d).map f ++ [0]) = some (if d = 0 then 0 else max (mxO f j (d - 1)) 0) := by
  obtain ⟨m, e⟩ := @maxL_ne ((List.range' j d).map f ++ [0]) (by simp)
  obtain ⟨h1, h2⟩ := maxL_ok e
  rw [e]
  congr 1
  have z := h2 0 (List.mem_append_right _ (List.mem_cons_self ..))
  by_cases hd : d = 0
  · subst hd
    rw [if_pos rfl]
    rcases List.mem_append.mp h1 with h | h
    · cases h
    · exact List.mem_singleton.mp h
  · rw [if_neg hd]
    obtain ⟨i, a, b, ei⟩ := mxO_ex f j (d - 1)
    have h3 := h2 (f i) (List.mem_append_left _ (List.mem_map.mpr ⟨i, List.mem_range'_1.mpr (by omega), rfl⟩))
    rcases List.mem_append.mp h1 with h | h
    · obtain ⟨i2, hi2, e2⟩ := List.mem_map.mp h
      have hi2 := List.mem_range'_1.mp hi2
      have h4 := mxO_le f j (d - 1) i2 (by omega) (by omega)
      omega
    · have := List.mem_singleton.mp h
      omega
section
variable {Φ : Calls} {ρ ρ1 : Ev}
theorem x_asgS {i k : Nat} {b e : E} {d : D} {xs : List D} {lk : Lk} (he : ev Φ e ρ = .ok (.fz d) ρ) (hb : ev Φ b ρ = .ok (.fz (.int (k : Nat))) ρ) (hk : k < xs.length) (h1 : ρ[i]? = some (.ls lk xs) := by rfl) (hw : putL i (xs.set k d) ρ = .ok () (ρ.set i (.ls lk (xs.set k d))) := by rfl) : exec Φ (.asg (.sub i b) e) ρ = .ok .nx (ρ.set i (.ls lk (xs.set k d))) := by
  have g : getL i ρ = .ok xs ρ := by show (match ρ[i]? with | some (.ls _ xs) => Out.ok xs ρ | _ => .stk) = _; rw [h1]
  have hix : ixN xs.length (k : Int) = some k := by
    unfold ixN
    rw [if_pos (by omega), if_pos (by omega), Int.toNat_natCast]
  show (ev Φ e ρ).then _ = _
  rw [he]
  show ((asgn Φ (.sub i b) d ρ).then _) = _
  have : asgn Φ (.sub i b) d ρ = .ok () (ρ.set i (.ls lk (xs.set k d))) := by
    show ((getL i ρ).then _) = _
    rw [g]
    show ((ev Φ b ρ).then _) = _
    rw [hb]
    show ((getL i ρ).then fun xs => match ixN xs.length (k : Int) with | some j => putL i (xs.set j d) | none => stuck) = _
    rw [g]
    show (match ixN xs.length (k : Int) with | some j => putL i (xs.set j d) | none => stuck) ρ = _
    rw [hix]; exact hw
  rw [this]; rfl
theorem x_par {i j : Nat} {a b : E} {x y : R} {ρ2 ρ3 : Ev} (ha : ev Φ a ρ = .ok x ρ1) (hb : ev Φ b ρ1 = .ok y ρ2) (h1 : setR i x ρ2 = .ok () ρ3) {ρ4 : Ev} (h2 : setR j y ρ3 = .ok () ρ4) (hx : unref x ρ2 = .ok x ρ2 := by rfl) (hy : unref y ρ2 = .ok y ρ2 := by rfl) : exec Φ (.par i j a b) ρ = .ok .nx ρ4 := by
  show (ev Φ a ρ).then _ = _
  rw [ha]
  show (ev Φ b ρ1).then _ = _
  rw [hb]
  show (unref x ρ2).then _ = _
  rw [hx]
  show (unref y ρ2).then _ = _
  rw [hy]
  show (setR i x ρ2).then _ = _
  rw [h1]
  show (setR j y ρ3).then _ = _
  rw [h2]; rfl
/-- a call whose arguments may be own lists: they are frozen -/
theorem e_call2S {f : Nat} {a b : E} {d d2 : D} {x y v : R} {ρ2 ρ3 ρ4 : Ev} (ha : ev Φ a ρ = .ok x ρ1) (h1 : DL.share x ρ1 = .ok d ρ2) (hb : ev Φ b ρ2 = .ok y ρ3) (h2 : DL.share y ρ3 = .ok d2 ρ4) (h : Φ f [.fz d, .fz d2] = some (v, [.fz d, .fz d2])) : ev Φ (.call f [0, 1] (.val a (.val b .nil)) .nil) ρ = .ok v ρ4 := by
  have e : evas Φ (.val a (.val b .nil)) ρ = .ok [.val d, .val d2] ρ4 := by
    rw [r_evas1, ha]
    show ((DL.share x ρ1).then _) = _
    rw [h1]
    show (evas Φ (.val b .nil) ρ2).then _ = _
    rw [r_evas1, hb]
    show ((DL.share y ρ3).then _).then _ = _
    rw [h2]; rfl
  rw [r_call, e]
  show callM Φ f [0, 1] [.val d, .val d2] ρ4 = _
  rw [c_call]
  show (match Φ f [.fz d, .fz d2] with | none => Out.stk | some (r, ss') => Out.ok r (putBack [.val d, .val d2] ss' ρ4)) = _
  rw [h]; rfl
end
/-- the product of two tables, as laws write it -/
theorem joined_el {A B : Nat → Nat → Int} (ha : ∀ j k, 0 ≤ A j k) (hb : ∀ j k, 0 ≤ B j k) (j k : Nat) : maxL ((List.range' j (k + 1 - j)).map (fun m => A j m + B m k) ++ [0]) = some (prT A B j k) := by
  rw [maxL_0]
  unfold prT
  by_cases h : k < j
  · rw [if_pos (by omega), if_pos h]
  · rw [if_neg (by omega), if_neg h, show k + 1 - j - 1 = k - j from by omega]
    congr 1
    obtain ⟨m, _, _, e⟩ := mxO_ex (fun m => A j m + B m k) j (k - j)
    have := ha j m
    have := hb m k
    have e : mxO (fun m => A j m + B m k) j (k - j) = A j m + B m k := e
    omega
theorem intsD_app : ∀ {xs : List D} {ns : List Int}, intsD xs = some ns → ∀ {ys : List D} {ms : List Int}, intsD ys = some ms → intsD (xs ++ ys) = some (ns ++ ms)
  | [], ns, h, _, _, g => by cases h; exact g
  | .int i :: xs, ns, h, _, _, g => by
    have h : (intsD xs).map (i :: ·) = some ns := h
    cases q : intsD xs with
    | none => rw [q] at h; cases h
    | some ls =>
      rw [q] at h
      cases h
      show (intsD (xs ++ _)).map (i :: ·) = _
      rw [intsD_app q g]; rfl
  | .non :: _, _, h, _, _, _ => by cases h
  | .bl _ :: _, _, h, _, _, _ => by cases h
  | .str _ :: _, _, h, _, _, _ => by cases h
  | .tup _ :: _, _, h, _, _, _ => by cases h
  | .lst _ :: _, _, h, _, _, _ => by cases h
  | .scr _ :: _, _, h, _, _, _ => by cases h
  | .obj _ _ :: _, _, h, _, _, _ => by cases h
theorem max1_0 {P : Type} (f : P → Int) (l : List P) {m : Int} (h : maxL (l.map f ++ [0]) = some m) : biD .max1 [.lst (l.map (fun p => D.int (f p)) ++ [.int 0])] = some (.fz (.int m)) := by
  rw [b_max1, intsD_app (ints_map f l) (ms := [0]) rfl]
  show (maxL (l.map f ++ [0])).map _ = _
  rw [h]; rfl
theorem addL {xs ys : List D} (h : xs.length + ys.length ≤ 1000000) : binD .add (.lst xs) (.lst ys) = some (.fr (xs ++ ys)) := by
  rw [d_addL, if_pos (by show _ ≤ 16777216; omega)]
theorem addT {xs ys : List D} (h : xs.length + ys.length ≤ 1000000) : binD .add (.tup xs) (.tup ys) = some (.fz (.tup (xs ++ ys))) := by
  rw [d_addT, if_pos (by show _ ≤ 16777216; omega)]
section
variable {Φ : Calls} {ρ : Ev}
theorem c_cond {own : List Nat} {tg : Tg} {c e : E} {x d : D} {k : Bool} {ρ ρ' : Ev} (h1 : asgn Φ tg x ρ = .ok () ρ') (hc : ev Φ c ρ' = .ok (.fz (.bl k)) ρ') (h2 : k = true → ev Φ e ρ' = .ok (.fz d) ρ') (ho : ownOk ρ' own = true := by rfl) (hw : wipeS ρ' own = ρ := by rfl) : compStep Φ own tg (.some c) e x ρ = .ok (if k then some d else none) ρ := by
  show (asgn Φ tg x ρ).then _ = _
  rw [h1]
  show ((ev Φ c ρ').then _).then _ = _
  rw [hc]
  have hwm : wipeM own ρ' = .ok () ρ := by rw [show wipeM own ρ' = if ownOk ρ' own then .ok () (wipeS ρ' own) else .stk from rfl, if_pos ho, hw]
  cases k with
  | true =>
    show (ev Φ e ρ').then _ = _
    rw [h2 rfl]
    show ((wipeM own ρ').then _) = _
    rw [hwm]; rfl
  | false =>
    show ((wipeM own ρ').then _) = _
    rw [hwm]; rfl
end
theorem fm_if {α : Type} (p : α → Bool) (f : α → D) : ∀ l : List α, l.filterMap (fun a => if p a then some (f a) else none) = (l.filter p).map f
  | [] => rfl
  | a :: l => by
    rw [List.filterMap_cons, List.filter_cons]
    cases p a with
    | true => show f a :: _ = _; rw [fm_if p f l]; rfl
    | false => exact fm_if p f l
theorem rk_rng1 (n : Nat) (c : Nat → Int) : (List.range' 1 n).filterMap (fun k : Nat => if decide (c k > c (k - 1)) then some (D.int (k : Int)) else none) = (rkO n c).map .int := by
  have e : List.range' 1 n = (List.range n).map (· + 1) := by
    rw [List.range'_eq_map_range]
    exact List.map_congr_left fun a _ => Nat.add_comm 1 a
  unfold rkO
  rw [e, List.filterMap_map, List.map_filterMap]
  refine fm_congr fun j _ => ?_
  show (if decide (c (j + 1) > c (j + 1 - 1)) = true then some (D.int ((j + 1 : Nat) : Int)) else none) = Option.map D.int (if c j < c (j + 1) then some ((j : Int) + 1) else none)
  rw [Nat.add_sub_cancel]
  by_cases h : c j < c (j + 1)
  · rw [if_pos (decide_eq_true h), if_pos h]; rfl
  · rw [if_neg (by simpa using h), if_neg h]; rfl
end DL

end

section
set_option autoImplicit false
/-! DLgm: initial racks; where two tables differ. -/
namespace DL
open PySem L2
def rkI (m : Nat) : List Int := (List.range m).map fun i : Nat => 1 + (i : Int)
theorem rkI_mk {m n : Nat} (h : m ≤ n) : Mk n (rkI m) := ⟨by
  unfold rkI
  rw [List.pairwise_map]
  exact List.pairwise_lt_range.imp fun {a b} hab => by omega, fun x hx => by
  obtain ⟨i, hi, rfl⟩ := List.mem_map.mp hx
  have := List.mem_range.mp hi
  omega⟩
theorem rkI_len (m : Nat) : (rkI m).length = m := by unfold rkI; rw [List.length_map, List.length_range]
theorem rkI_rng (m : Nat) (h : m ≤ 1000) : biD .tupRng2 [.int 1, .int ((m : Int) + 1)] = some (.fz (tupI (rkI m))) := by
  show (if small62 1 && small62 ((m : Int) + 1) && decide (((m : Int) + 1 - 1).toNat ≤ 16777216) then some (R.fz (.tup (rngL 1 ((m : Int) + 1)))) else none) = _
  have e2 : DL.small62 ((m : Int) + 1) = true := s62 (by omega) (by omega)
  rw [show DL.small62 1 = true from by decide, e2, decide_eq_true (by omega)]
  show some (R.fz (.tup (rngL 1 ((m : Int) + 1)))) = _
  unfold rngL rkI tupI
  rw [List.map_map, show ((m : Int) + 1 - 1).toNat = m from by omega]
  rfl
theorem cnt_rkI (m : Nat) : ∀ k : Nat, cnt (rkI m) (k : Int) = ((min k m : Nat) : Int)
  | 0 => by rw [show ((0 : Nat) : Int) = 0 from rfl, cnt_zero (rkI_mk (Nat.le_refl m))]; simp
  | k + 1 => by
    have e := cnt_succ (rkI_mk (Nat.le_refl m)).pw (x := (k : Int))
    rw [show ((k + 1 : Nat) : Int) = (k : Int) + 1 from rfl, e, cnt_rkI m k]
    by_cases h : k < m
    · rw [if_pos (show (k : Int) + 1 ∈ rkI m from List.mem_map.mpr ⟨k, List.mem_range.mpr h, Int.add_comm 1 (k : Int)⟩)]; omega
    · rw [if_neg fun z => by
        obtain ⟨i, hi, e⟩ := List.mem_map.mp z
        have := List.mem_range.mp hi
        omega]
      omega
theorem lis_lip (w : List Nat) : ∀ j k, lis w j k ≤ lis w (j + 1) k + 1 := by
  refine snoc_ind (Q := fun w => ∀ j k, lis w j k ≤ lis w (j + 1) k + 1) (fun j k => by rw [lis_nil]; show (0 : Int) ≤ 0 + 1; omega) (fun w x ih j k => ?_) w
  rw [lis_snoc]
  have a := ih j k
  have b := ih j (x - 1)
  have c := (tb_lisT w).nn (j + 1) k
  have e := lis_low w (b := j) (k := j) (Nat.le_refl _)
  unfold appT
  by_cases h : j + 1 < x ∧ x ≤ k
  · rw [if_pos h, if_pos (by omega)]; omega
  · rw [if_neg h]
    by_cases g : j < x ∧ x ≤ k
    · rw [if_pos g, show x - 1 = j from by omega, e]; omega
    · rw [if_neg g]; exact a
theorem lis_lipN (w : List Nat) (k j : Nat) : ∀ d, (j : Int) + lis w j k ≤ ((j + d : Nat) : Int) + lis w (j + d) k
  | 0 => Int.le_refl _
  | d + 1 => by
    have := lis_lipN w k j d
    have := lis_lip w (j + d) k
    rw [show j + (d + 1) = j + d + 1 from rfl]
    omega
/-- reading from an initial rack tells a row -/
theorem act_rkI (w : List Nat) (m k : Nat) : act (lis w) (fun k => cnt (rkI m) (k : Int)) k = if k ≤ m then (k : Int) else (m : Int) + lis w m k := by
  refine mxO_eq (fun j _ hj => ?_) ?_
  · show cnt (rkI m) (j : Int) + lis w j k ≤ _
    rw [cnt_rkI]
    by_cases h : k ≤ m
    · rw [if_pos h]
      have a := lis_lipN w k j (k - j)
      rw [show j + (k - j) = k from by omega, lis_low w (Nat.le_refl k)] at a
      omega
    · rw [if_neg h]
      by_cases q : j ≤ m
      · have a := lis_lipN w k j (m - j)
        rw [show j + (m - j) = m from by omega] at a
        omega
      · have a := tb_anti (tb_lisT w) k m (j - m)
        rw [show m + (j - m) = j from by omega] at a
        omega
  · by_cases h : k ≤ m
    · refine ⟨k, by omega, by omega, ?_⟩
      show _ ≤ cnt (rkI m) (k : Int) + lis w k k
      rw [if_pos h, cnt_rkI, lis_low w (Nat.le_refl k)]
      omega
    · refine ⟨m, by omega, by omega, ?_⟩
      show _ ≤ cnt (rkI m) (m : Int) + lis w m k
      rw [if_neg h, cnt_rkI]
      omega
/-- the rows differ just if the racks do -/
theorem rk_rows {n m : Nat} (w v : List Nat) : rkO n (act (lis w) fun k => cnt (rkI m) (k : Int)) = rkO n (act (lis v) fun k => cnt (rkI m) (k : Int)) ↔ ∀ k, k < n + 1 → lis w m k = lis v m k := by
  constructor
  · intro h k
    induction k with
    | zero => intro _; rw [lis_low w (by omega), lis_low v (by omega)]
    | succ k ih =>
      intro hk
      have ih := ih (by omega)
      by_cases q : k + 1 ≤ m
      · rw [lis_low w q, lis_low v q]
      · have a := (rk_mem (n := n) (c := act (lis w) fun k => cnt (rkI m) (k : Int)) (x := (k : Int) + 1))
        have b := (rk_mem (n := n) (c := act (lis v) fun k => cnt (rkI m) (k : Int)) (x := (k : Int) + 1))
        rw [h] at a
        have ab := a.symm.trans b
        have st : ∀ u : List Nat, (∃ j : Nat, j < n ∧ act (lis u) (fun k => cnt (rkI m) (k : Int)) j < act (lis u) (fun k => cnt (rkI m) (k : Int)) (j + 1) ∧ (k : Int) + 1 = (j : Int) + 1) ↔ lis u m k < lis u m (k + 1) := fun u => by
          have e1 : act (lis u) (fun k => cnt (rkI m) (k : Int)) (k + 1) = (m : Int) + lis u m (k + 1) := by rw [act_rkI, if_neg q]
          have e0 : act (lis u) (fun k => cnt (rkI m) (k : Int)) k = (m : Int) + lis u m k := by
            rw [act_rkI]
            by_cases r : k ≤ m
            · rw [if_pos r, lis_low u r]; omega
            · rw [if_neg r]
          constructor
          · rintro ⟨j, h1, h2, h3⟩
            have : j = k := by omega
            subst this
            omega
          · intro h2
            exact ⟨k, by omega, by omega, rfl⟩
        rw [st w, st v] at ab
        have up : ∀ u : List Nat, lis u m k ≤ lis u m (k + 1) ∧ lis u m (k + 1) ≤ lis u m k + 1 := fun u => by
          refine snoc_ind (Q := fun u => lis u m k ≤ lis u m (k + 1) ∧ lis u m (k + 1) ≤ lis u m k + 1) (by rw [lis_nil]; show (0 : Int) ≤ 0 ∧ (0 : Int) ≤ 0 + 1; omega) (fun u x ih => ?_) u
          rw [lis_snoc]
          unfold appT
          by_cases c1 : m < x ∧ x ≤ k
          · rw [if_pos c1, if_pos (by omega)]; omega
          · rw [if_neg c1]
            by_cases c2 : m < x ∧ x ≤ k + 1
            · rw [if_pos c2, show x - 1 = k from by omega]; omega
            · rw [if_neg c2]; exact ih
        have u1 := up w
        have u2 := up v
        by_cases z : lis w m k < lis w m (k + 1)
        · have := ab.mp z; omega
        · have : ¬ lis v m k < lis v m (k + 1) := fun y => z (ab.mpr y)
          omega
  · intro h
    refine rk_congr fun k hk => ?_
    rw [act_rkI, act_rkI, h k (by omega)]
def rowNe (n : Nat) (A B : Nat → Nat → Int) (m : Nat) : Bool := !decide (∀ k, k < n + 1 → A m k = B m k)
theorem cv_ext {n : Nat} {c e : Nat → Int} : cvD n c = cvD n e ↔ ∀ k, k < n + 1 → c k = e k := by
  unfold cvD
  rw [rng_ext]
  exact ⟨fun h k hk => D.int.inj (h k hk), fun h k hk => by rw [h k hk]⟩
theorem row_ne {n : Nat} (A B : Nat → Nat → Int) (m : Nat) : cmpD .ne (rowD n A m) (rowD n B m) = some (rowNe n A B m) := by
  obtain ⟨k, e, hk⟩ := cmp_ne (pl_row n A m) (pl_row n B m) (by decide)
  rw [e]
  unfold rowNe
  have : k = decide (∀ k, k < n + 1 → A m k = B m k) := by
    rw [Bool.eq_iff_iff, hk, decide_eq_true_iff]
    show D.tup _ = D.tup _ ↔ _
    rw [D.tup.injEq, cv_ext]
  rw [this]
theorem tupI_ne (a b : List Int) : cmpD .ne (tupI a) (tupI b) = some (!decide (a = b)) := neT a b
/-- the first place where two tables differ -/
def bandF (n : Nat) (A B : Nat → Nat → Int) (l : Nat) : Option (Nat × Nat) := (List.range' (l + 1) (n - l)).findSome? fun k => if A l k ≠ B l k then some (l, k) else none
def rackF (n : Nat) (A B : Nat → Nat → Int) : Option Nat := (List.range n).findSome? fun m => if rowNe n A B m then some m else none
def bandA (n : Nat) (A B : Nat → Nat → Int) : Option (Nat × Nat) := (List.range n).findSome? (bandF n A B)
def rackD : Option Nat → D
  | none => .non
  | some m => tupI (rkI m)
def bandD : Option (Nat × Nat) → D
  | none => .non
  | some (l, k) => .tup [.int (l : Int), .int (k : Int)]
theorem fs_map {α β γ : Type} (g : β → γ) (f : α → Option β) : ∀ l : List α, l.findSome? (fun a => (f a).map g) = (l.findSome? f).map g
  | [] => rfl
  | a :: l => by
    rw [List.findSome?_cons, List.findSome?_cons]
    cases f a with
    | some b => rfl
    | none => exact fs_map g f l
theorem fs_congr {α β : Type} {f g : α → Option β} : ∀ {l : List α}, (∀ a ∈ l, f a = g a) → l.findSome? f = l.findSome? g
  | [], _ => rfl
  | a :: l, h => by
    rw [List.findSome?_cons, List.findSome?_cons, h a (List.mem_cons_self ..), fs_congr fun b hb => h b (List.mem_cons_of_mem _ hb)]
theorem rackF_none {n : Nat} {w v : List Nat} : rackF n (lis w) (lis v) = none ↔ Eq2 n (lis w) (lis v) := by
  unfold rackF
  rw [List.findSome?_eq_none_iff]
  constructor
  · intro h j k hj hk
    by_cases q : j < n
    · have := h j (List.mem_range.mpr q)
      by_cases r : rowNe n (lis w) (lis v) j = true
      · rw [if_pos r] at this; cases this
      · have r : rowNe n (lis w) (lis v) j = false := by simpa using r
        unfold rowNe at r
        have r := of_decide_eq_true (by simpa using r : decide (∀ k, k < n + 1 → lis w j k = lis v j k) = true)
        exact r k (by omega)
    · rw [lis_low w (by omega), lis_low v (by omega)]
  · intro h m hm
    have hm := List.mem_range.mp hm
    have : rowNe n (lis w) (lis v) m = false := by
      unfold rowNe
      rw [decide_eq_true fun k hk => h m k (by omega) (by omega)]; rfl
    rw [if_neg (by rw [this]; exact Bool.false_ne_true)]
theorem bandA_none {n : Nat} {w v : List Nat} : bandA n (lis w) (lis v) = none ↔ Eq2 n (lis w) (lis v) := by
  unfold bandA bandF
  rw [List.findSome?_eq_none_iff]
  constructor
  · intro h j k hj hk
    by_cases q : j < k
    · have := List.findSome?_eq_none_iff.mp (h j (List.mem_range.mpr (by omega))) k (List.mem_range'_1.mpr (by omega))
      by_cases r : lis w j k = lis v j k
      · exact r
      · rw [if_pos r] at this; cases this
    · rw [lis_low w (by omega), lis_low v (by omega)]
  · intro h l hl
    have hl := List.mem_range.mp hl
    rw [List.findSome?_eq_none_iff]
    intro k hk
    have := List.mem_range'_1.mp hk
    rw [if_neg (fun z => z (h l k (by omega) (by omega)))]
theorem bandA_bd {n l k : Nat} {A B : Nat → Nat → Int} (h : bandA n A B = some (l, k)) : l < n ∧ k ≤ n := by
  unfold bandA bandF at h
  obtain ⟨a, ha, h⟩ := List.exists_of_findSome?_eq_some h
  obtain ⟨b, hb, h⟩ := List.exists_of_findSome?_eq_some h
  have := List.mem_range.mp ha
  have := List.mem_range'_1.mp hb
  split at h
  · cases h; omega
  · cases h
theorem rackF_bd {n m : Nat} {A B : Nat → Nat → Int} (h : rackF n A B = some m) : m < n := by
  unfold rackF at h
  obtain ⟨a, ha, h⟩ := List.exists_of_findSome?_eq_some h
  have := List.mem_range.mp ha
  split at h
  · cases h; omega
  · cases h
theorem behind_fz : ∀ (ds : List D) (ρ : Ev), behind (ds.map Sl.fz) ρ = ds.map Sl.fz
  | [], _ => rfl
  | d :: ds, ρ => by
    show Sl.fz d :: behind (ds.map Sl.fz) ρ.tail = _
    rw [behind_fz ds]; rfl
theorem call_fzD {T : List Df} {k f : Nat} (ds : List D) (d : Df) {x : D} {ρ' : Ev} (he : execs (callN T k) d.body (ds.map Sl.fz ++ List.replicate (d.ns - d.np) .un) = .ok (.rt (.fz x)) ρ') (hd : T[f]? = some d := by rfl) (hl : (ds.map Sl.fz).length = d.np := by rfl) :
    callN T (k + 1) f (ds.map Sl.fz) = some (.fz x, ds.map Sl.fz) := call_fz d he hd hl (behind_fz ds ρ')
section
variable {Φ : Calls} {ρ ρ1 : Ev} {P β : Type}
theorem x_ex {e : E} {v : R} (h : ev Φ e ρ = .ok v ρ1) : exec Φ (.ex e) ρ = .ok .nx ρ1 := by
  show (ev Φ e ρ).then _ = _
  rw [h]; rfl
/-- a loop that returns G of the first find -/
theorem for_first {t : Tg} {it : DL.It} {b : Ss} (g : P → D) (ps : List P) (F : P → Option β) (G : β → D) (hi : evit Φ it ρ = .ok (none, ps.map g) ρ1)
    (hn : ∀ p ∈ ps, F p = none → (bnd (asgn Φ t (g p)) fun _ => execs Φ b) ρ1 = .ok .nx ρ1) (hr : ∀ p ∈ ps, ∀ v, F p = some v → ∃ ρ2, (bnd (asgn Φ t (g p)) fun _ => execs Φ b) ρ1 = .ok (.rt (.fz (G v))) ρ2) :
    (ps.findSome? F = none → exec Φ (.for_ t it b) ρ = .ok .nx ρ1) ∧ ∀ v, ps.findSome? F = some v → ∃ ρ2, exec Φ (.for_ t it b) ρ = .ok (.rt (.fz (G v))) ρ2 := by
  have := for_find (Φ := Φ) (t := t) (b := b) g ps (fun p => (F p).map fun v => R.fz (G v)) hi (fun p hp h => hn p hp (by cases q : F p with | none => rfl | some v => rw [q] at h; cases h)) (fun p hp v h => by
    cases q : F p with
    | none => rw [q] at h; cases h
    | some w => rw [q] at h; cases h; exact hr p hp w q)
  rw [fs_map] at this
  constructor
  · intro h
    rw [h] at this
    exact this
  · intro v h
    rw [h] at this
    exact this
def orNon {β : Type} (o : Option β) (G : β → D) : D := (o.map G).getD .non
/-- .. and none at the end -/
theorem first_end {t : Tg} {it : DL.It} {b : Ss} {o : Option β} {G : β → D} (h : (o = none → exec Φ (.for_ t it b) ρ = .ok .nx ρ1) ∧ ∀ v, o = some v → ∃ ρ2, exec Φ (.for_ t it b) ρ = .ok (.rt (.fz (G v))) ρ2) :
    ∃ ρ2, execs Φ (.cons (.for_ t it b) (.cons (.ret (.cst .non)) .nil)) ρ = .ok (.rt (.fz (orNon o G))) ρ2 := by
  cases o with
  | none => exact ⟨_, sq (h.1 rfl) (sq_rt (x_ret rfl))⟩
  | some v =>
    obtain ⟨ρ2, e⟩ := h.2 v rfl
    exact ⟨ρ2, sq_rt e⟩
end
section
variable {Φ : Calls} {ρ ρ1 ρ2 : Ev}
/-- a draw: the pool in slot i -/
theorem e_draw {f i : Nat} {e : E} {d : D} {x v : R} {xs ys : List D} (he : ev Φ e ρ = .ok x ρ) (h : Φ f [.ls .bor xs, .fz d] = some (v, [.ls .bor ys, .fz d])) (h0 : ρ[i]? = some (.ls .bor xs) := by rfl) (hx : DL.share x ρ = .ok d ρ := by rfl) : ev Φ (.call f [0, 1] (.ref (.var i) (.val e .nil)) .nil) ρ = .ok v (ρ.set i (.ls .bor ys)) := by
  have hv : ev Φ (.var i) ρ = .ok (.rf i) ρ := by rw [r_var, h0]
  have e1 : evas Φ (.ref (.var i) (.val e .nil)) ρ = .ok [.rf i, .val d] ρ := by
    rw [r_evas2, hv]
    show (evas Φ (.val e .nil) ρ).then _ = _
    rw [r_evas1, he]
    show ((DL.share x ρ).then _).then _ = _
    rw [hx]; rfl
  rw [r_call, e1]
  show callM Φ f [0, 1] [.rf i, .val d] ρ = _
  rw [c_call]
  have hs : slotsOf ρ [.rf i, .val d] = some [.ls .bor xs, .fz d] := by
    show (match slotOf ρ (.rf i), slotsOf ρ [.val d] with | some s, some ss => some (s :: ss) | _, _ => none) = _
    rw [show slotOf ρ (.rf i) = some (.ls .bor xs) from by rw [so_4, h0]]
    rfl
  have hd : (refs [A.rf i, A.val d]).Nodup ∧ frs [A.rf i, A.val d] ≤ 1 := ⟨by show [i].Nodup; simp, Nat.zero_le _⟩
  show (if (refs [A.rf i, A.val d]).Nodup ∧ frs [A.rf i, A.val d] ≤ 1 then match slotsOf ρ [.rf i, .val d] with | none => Out.stk | some ss => match Φ f ss with | none => .stk | some (r, ss') => .ok r (putBack [.rf i, .val d] ss' ρ) else .stk) = _
  rw [if_pos hd, hs]
  show (match Φ f [.ls .bor xs, .fz d] with | none => Out.stk | some (r, ss') => .ok r (putBack [.rf i, .val d] ss' ρ)) = _
  rw [h]
  show Out.ok v (putBack [.val d] [.fz d] (match ρ[i]? with | some (.ls k _) => ρ.set i (.ls k ys) | _ => ρ)) = _
  rw [h0]; rfl
theorem e_binS {o : Bop} {a b : E} {d d2 : D} {x y v : R} (ha : ev Φ a ρ = .ok x ρ1) (hb : ev Φ b ρ1 = .ok y ρ2) (h1 : view ρ2 x = some d) (h2 : view ρ2 y = some d2) (h : binD o d d2 = some v) : ev Φ (.bin o a b) ρ = .ok v ρ2 := by
  rw [r_bin, ha]
  show ((ev Φ b ρ1).then _) = _
  rw [hb]
  show (((match view ρ2 x with | some d => Out.ok d ρ2 | none => .stk) : Out D).then _) = _
  rw [h1]
  show (((match view ρ2 y with | some d => Out.ok d ρ2 | none => .stk) : Out D).then _) = _
  rw [h2]
  show ofO (binD o d d2) ρ2 = _
  rw [h]; rfl
theorem es_cons {e : E} {es : Es} {x : R} {d : D} {ds : List D} (h : ev Φ e ρ = .ok x ρ1) {ρ3 : Ev} (h2 : evs Φ es ρ2 = .ok ds ρ3) (hs : DL.share x ρ1 = .ok d ρ2 := by rfl) : evs Φ (.cons e es) ρ = .ok (d :: ds) ρ3 := by
  rw [r_evs1, h]
  show ((DL.share x ρ1).then _) = _
  rw [hs]
  show (evs Φ es ρ2).then _ = _
  rw [h2]; rfl
theorem es_nil : evs Φ .nil ρ = .ok [] ρ := rfl
theorem e_tup {es : Es} {ds : List D} (h : evs Φ es ρ = .ok ds ρ1) (hl : ds.length ≤ sizeLine := by exact Nat.le_of_ble_eq_true rfl) : ev Φ (.tup es) ρ = .ok (.fz (.tup ds)) ρ1 := by
  rw [r_tup, h]
  show (if ds.length ≤ sizeLine then DL.ret (R.fz (.tup ds)) else stuck) ρ1 = _
  rw [if_pos hl]; rfl
theorem e_lst {es : Es} {ds : List D} (h : evs Φ es ρ = .ok ds ρ1) (hl : ds.length ≤ sizeLine := by exact Nat.le_of_ble_eq_true rfl) : ev Φ (.lst es) ρ = .ok (.fr ds) ρ1 := by
  rw [r_lst, h]
  show (if ds.length ≤ sizeLine then DL.ret (R.fr ds) else stuck) ρ1 = _
  rw [if_pos hl]; rfl
end
theorem cut_mid (xs : List D) (a b : Nat) (h : a ≤ b) : cut xs (some (a : Int)) (some (b : Int)) = (xs.drop a).take (b - a) := by
  unfold cut
  rw [HT.sIx_nat, HT.sIx_nat]
  by_cases q : a ≤ xs.length
  · rw [Nat.min_eq_left q]
    by_cases r : b ≤ xs.length
    · rw [Nat.min_eq_left r]
    · rw [Nat.min_eq_right (by omega), List.take_of_length_le (by rw [List.length_drop]; omega), List.take_of_length_le (by rw [List.length_drop]; omega)]
  · rw [List.drop_eq_nil_of_le (by omega), List.drop_eq_nil_of_le (by omega)]
    simp
theorem cutP_to (ps : List Pt) (l : Nat) : cut (dPs ps) none (some (l : Int)) = dPs (ps.take l) := by rw [cut_to, dPs_map, dPs_map, List.map_take]
theorem cutP_from (ps : List Pt) (l : Nat) : cut (dPs ps) (some (l : Int)) none = dPs (ps.drop l) := by rw [cut_from, dPs_map, dPs_map, List.map_drop]
theorem cutP_mid (ps : List Pt) (a b : Nat) (h : a ≤ b) : cut (dPs ps) (some (a : Int)) (some (b : Int)) = dPs ((ps.drop a).take (b - a)) := by rw [cut_mid _ _ _ h, dPs_map, dPs_map, List.map_take, List.map_drop]
theorem sz_take (ps : List Pt) (l : Nat) : szPs (ps.take l) + szPs (ps.drop l) = szPs ps := by rw [← szPs_app, List.take_append_drop]
theorem sz_drop (ps : List Pt) (l : Nat) : szPs (ps.drop l) ≤ szPs ps := by have := sz_take ps l; omega
theorem sz_tk (ps : List Pt) (l : Nat) : szPs (ps.take l) ≤ szPs ps := by have := sz_take ps l; omega
theorem dPs_repl (ps : List Pt) : repl (dPs ps) 2 = dPs (ps ++ ps) := by
  rw [dPs_app]
  show (List.replicate 2 (dPs ps)).flatten = _
  simp
theorem pl_pts : ∀ ps : List Pt, ∀ d ∈ dPs ps, Pl (2 * dpPs ps) d := by
  refine Pt.ind (fun d z => nomatch z) (fun i ps ih d hd => ?_) (fun qs t ps ih1 ih2 d hd => ?_)
  · rcases List.mem_cons.mp hd with e | e
    · subst e; exact (Pl.int i).mono (Nat.zero_le _)
    · exact (ih d e).mono (by rw [dpPs_cons]; omega)
  · rcases List.mem_cons.mp hd with e | e
    · subst e
      refine (Pl.tup (h := 2 * dpPs qs + 1) fun x hx => ?_).mono (by rw [dpPs_cons, dpP_pr]; omega)
      rcases List.mem_cons.mp hx with e | e
      · subst e; exact Pl.tup (ih1)
      · rw [List.mem_singleton] at e; subst e; exact (Pl.int t).mono (Nat.zero_le _)
    · exact (ih2 d e).mono (by rw [dpPs_cons]; omega)
theorem pl_parts (ps : List Pt) : Pl (2 * dpPs ps + 1) (.tup (dPs ps)) := Pl.tup (pl_pts ps)
theorem eq_nilP (ps : List Pt) (hd : dpPs ps ≤ 5) : cmpD .eq (.tup (dPs ps)) (.tup []) = some (decide (ps = [])) := by
  obtain ⟨k, e, hk⟩ := cmp_eq ((pl_parts ps).mono (show 2 * dpPs ps + 1 ≤ 11 by omega)) ((Pl.tup (h := 0) (ds := []) fun _ z => nomatch z).mono (by decide)) (by decide)
  rw [e]
  congr 1
  rw [Bool.eq_iff_iff, hk, decide_eq_true_iff]
  cases ps with
  | nil => exact ⟨fun _ => rfl, fun _ => rfl⟩
  | cons p ps => exact ⟨fun h => (by cases h), fun h => (by cases h)⟩
theorem rack_band (n : Nat) (w v : List Nat) : rackF n (lis w) (lis v) = (bandA n (lis w) (lis v)).map Prod.fst := by
  unfold bandA
  rw [← fs_map]
  refine fs_congr fun l hl => ?_
  have hl := List.mem_range.mp hl
  by_cases h : rowNe n (lis w) (lis v) l = true
  · rw [if_pos h]
    cases q : bandF n (lis w) (lis v) l with
    | none =>
      exfalso
      unfold bandF at q
      rw [List.findSome?_eq_none_iff] at q
      unfold rowNe at h
      have : ∀ k, k < n + 1 → lis w l k = lis v l k := fun k hk => by
        by_cases r : k ≤ l
        · rw [lis_low w r, lis_low v r]
        · have := q k (List.mem_range'_1.mpr (by omega))
          by_cases z : lis w l k = lis v l k
          · exact z
          · rw [if_pos z] at this; cases this
      rw [decide_eq_true this] at h
      cases h
    | some p =>
      unfold bandF at q
      obtain ⟨b, hb, h2⟩ := List.exists_of_findSome?_eq_some q
      split at h2
      · cases h2; rfl
      · cases h2
  · rw [if_neg h]
    have h : rowNe n (lis w) (lis v) l = false := by simpa using h
    unfold rowNe at h
    have r := of_decide_eq_true (by simpa using h : decide (∀ k, k < n + 1 → lis w l k = lis v l k) = true)
    have : bandF n (lis w) (lis v) l = none := by
      unfold bandF
      rw [List.findSome?_eq_none_iff]
      intro k hk
      have := List.mem_range'_1.mp hk
      rw [if_neg (fun z => z (r k (by omega)))]
    rw [this]; rfl
theorem sh_no : (toPy (.lst [.non, .non])).shown = "[None, None]" := by decide +kernel
theorem sh_dif : ∀ m : Fin 12, ∀ k : Fin 13, (toPy (.lst [rackD (some m.val), bandD (some (m.val, k.val))])).shown ≠ "[None, None]" := by decide +kernel
theorem sh_iff {n : Nat} (n2 : n ≤ 12) (w v : List Nat) : (toPy (.lst [rackD (rackF n (lis w) (lis v)), bandD (bandA n (lis w) (lis v))])).shown = "[None, None]" ↔ Eq2 n (lis w) (lis v) := by
  rw [← bandA_none, rack_band]
  cases e : bandA n (lis w) (lis v) with
  | none => exact ⟨fun _ => rfl, fun _ => sh_no⟩
  | some p =>
    obtain ⟨l, k⟩ := p
    obtain ⟨a, b⟩ := bandA_bd e
    exact ⟨fun h => absurd h (sh_dif ⟨l, by omega⟩ ⟨k, by omega⟩), fun h => (by cases h)⟩
theorem eq_bl (a b : Bool) : cmpD .eq (.bl a) (.bl b) = some (a == b) := by cases a <;> cases b <;> rfl
section
variable {Φ : Calls} {ρ ρ1 : Ev} {P : Type}
theorem i_lk {i : Nat} {k : Lk} {xs : List D} (h : ρ[i]? = some (.ls k xs)) : evit Φ (.val (.var i)) ρ = .ok (some (i, k), xs) ρ := by
  have hv : ev Φ (.var i) ρ = .ok (.rf i) ρ := by rw [r_var, h]
  show (ev Φ (.var i) ρ).then _ = _
  rw [hv]
  show (vw (.rf i) ρ).then _ = _
  rw [r_vwi, h]
  show Out.ok (lockOf ρ (.rf i), xs) ρ = _
  rw [show lockOf ρ (.rf i) = some (i, k) from by show (match ρ[i]? with | some (.ls k _) => some (i, k) | _ => none) = _; rw [h]]
/-- a comprehension over an own list, which is locked meanwhile -/
theorem e_compK {own : List Nat} {tg : Tg} {co : Eo} {e : E} {i : Nat} {k : Lk} {ρL : Ev} (g : P → D) (ps : List P) (f : P → D) (hl : ps.length ≤ sizeLine)
    (hs : ∀ p ∈ ps, compStep Φ own tg co e (g p) ρL = .ok (some (f p)) ρL) (h0 : ρ[i]? = some (.ls k (ps.map g)) := by rfl) (ho : ownOk ρ own = true := by rfl) (hwi : (wipeS ρ own)[i]? = some (.ls k (ps.map g)) := by rfl) (hw : (wipeS ρ own).set i (.ls .lck (ps.map g)) = ρL := by rfl)
    (hL : ρL[i]? = some (.ls .lck (ps.map g)) := by rfl) (hb : backS ρ (ρL.set i (.ls k (ps.map g))) own = ρ := by rfl) : ev Φ (.comp own tg (.val (.var i)) co e) ρ = .ok (.fr (ps.map f)) ρ := by
  rw [r_comp, i_lk h0]
  show ((wipeM own ρ).then _).then _ = _
  rw [show wipeM own ρ = if ownOk ρ own then .ok () (wipeS ρ own) else .stk from rfl, if_pos ho]
  show (withLock (some (i, k)) (cmpL (compStep Φ own tg co e) (ps.map g) []) (wipeS ρ own)).then _ = _
  rw [w_some, hwi]
  show (((cmpL (compStep Φ own tg co e) (ps.map g) [] ((wipeS ρ own).set i (.ls .lck (ps.map g)))).then _).then _) = _
  rw [hw, cmpL_map (f := fun p => some (f p)) ps [] (by rw [List.length_nil, Nat.zero_add]; exact hl) hs, List.nil_append, show ps.filterMap (fun p => some (f p)) = ps.map f from congrFun List.filterMap_eq_map' ps]
  show (match ρL[i]? with | some (.ls _ ys) => Out.ok (ps.map f) (ρL.set i (.ls k ys)) | _ => .stk).then _ = _
  rw [hL]
  show Out.ok _ (backS ρ (ρL.set i (.ls k (ps.map g))) own) = _
  rw [hb]
/-- a loop over an own list, which is locked meanwhile -/
theorem for_nxK {t : Tg} {b : Ss} {i : Nat} {k : Lk} {ρ2 : Ev} (g : P → D) (ps : List P) (st : List P → Ev)
    (hs : ∀ done p rest, ps = done ++ p :: rest → (bnd (asgn Φ t (g p)) fun _ => execs Φ b) (st done) = .ok .nx (st (done ++ [p]))) (h0 : ρ[i]? = some (.ls k (ps.map g)) := by rfl) (hst : st [] = ρ.set i (.ls .lck (ps.map g)) := by rfl) (hL : (st ps)[i]? = some (.ls .lck (ps.map g)) := by rfl) (h2 : (st ps).set i (.ls k (ps.map g)) = ρ2 := by rfl) : exec Φ (.for_ t (.val (.var i)) b) ρ = .ok .nx ρ2 := by
  have key : ∀ (qs done : List P), ps = done ++ qs → forL (fun x => bnd (asgn Φ t x) fun _ => execs Φ b) (qs.map g) (st done) = .ok .nx (st ps) := fun qs => by
    induction qs with
    | nil => intro done h; rw [List.append_nil] at h; subst h; rfl
    | cons q qs ih =>
      intro done h
      show ((bnd (asgn Φ t (g q)) fun _ => execs Φ b) (st done)).then _ = _
      rw [hs done q qs h]
      exact ih (done ++ [q]) (by rw [h, List.append_assoc]; rfl)
  show (evit Φ (.val (.var i)) ρ).then _ = _
  rw [i_lk h0]
  show withLock (some (i, k)) (forL (fun x => bnd (asgn Φ t x) fun _ => execs Φ b) (ps.map g)) ρ = _
  rw [w_some, h0]
  show ((forL (fun x => bnd (asgn Φ t x) fun _ => execs Φ b) (ps.map g) (ρ.set i (.ls .lck (ps.map g)))).then _) = _
  rw [← hst, key ps [] rfl]
  show (match (st ps)[i]? with | some (.ls _ ys) => Out.ok Fl.nx ((st ps).set i (.ls k ys)) | _ => .stk) = _
  rw [hL]
  show Out.ok Fl.nx ((st ps).set i (.ls k (ps.map g))) = _
  rw [h2]
/-- a loop by an invariant -/
theorem for_ex {t : Tg} {it : DL.It} {b : Ss} (g : P → D) (ps : List P) (I : List P → Ev → Prop) (hi : evit Φ it ρ = .ok (none, ps.map g) ρ1) (h0 : I [] ρ1)
    (hs : ∀ done p ρ, p ∈ ps → I done ρ → ∃ ρ', (bnd (asgn Φ t (g p)) fun _ => execs Φ b) ρ = .ok .nx ρ' ∧ I (done ++ [p]) ρ') : ∃ ρ', exec Φ (.for_ t it b) ρ = .ok .nx ρ' ∧ I ps ρ' := by
  obtain ⟨ρ', e, h⟩ := forL_map (step := fun x => bnd (asgn Φ t x) fun _ => execs Φ b) g I ps [] ρ1 h0 fun d p ρ hp hI => by
    obtain ⟨ρ', e, h⟩ := hs d p ρ hp hI
    exact ⟨ρ', .inl e, h⟩
  refine ⟨ρ', ?_, h⟩
  show (evit Φ it ρ).then _ = _
  rw [hi]; exact e
end
end DL

end

section
set_option autoImplicit false
/-! DLgn: the same parts with small times; comprehensions that draw. -/
namespace DL
open PySem L2
mutual
def fwP (m : Int) : Pt → Pt
  | .lv i => .lv i
  | .pr ps t => .pr (fwL m ps) (1 + t % m)
def fwL (m : Int) : List Pt → List Pt
  | [] => []
  | p :: ps => fwP m p :: fwL m ps
end
theorem fwL_map (m : Int) : ∀ ps : List Pt, fwL m ps = ps.map (fwP m)
  | [] => by rw [fwL]; rfl
  | p :: ps => by rw [fwL, fwL_map m ps]; rfl
theorem fwP_lv (m i : Int) : fwP m (.lv i) = .lv i := by rw [fwP]
theorem fwP_pr (m t : Int) (ps : List Pt) : fwP m (.pr ps t) = .pr (fwL m ps) (1 + t % m) := by rw [fwP]
theorem fwL_nil (m : Int) : fwL m [] = [] := by rw [fwL]
theorem fwL_cons (m : Int) (p : Pt) (ps : List Pt) : fwL m (p :: ps) = fwP m p :: fwL m ps := by rw [fwL]
theorem fw_ok {n M m : Int} (hm : 0 < m) : ∀ ps : List Pt, OkPs n M ps → OkPs n m (fwL m ps) := by
  refine Pt.ind (fun _ => ?_) (fun i ps ih ok => ?_) (fun qs t ps ih1 ih2 ok => ?_)
  · rw [fwL_nil]; exact fun p z => nomatch z
  · rw [fwL_cons, fwP_lv]
    obtain ⟨a, b⟩ := ok_lv (ok _ (List.mem_cons_self ..))
    exact fun p hp => (List.mem_cons.mp hp).elim (fun e => by subst e; exact .lv a b) (ih (fun p hp => ok p (List.mem_cons_of_mem _ hp)) p)
  · rw [fwL_cons, fwP_pr]
    obtain ⟨o, a, b⟩ := ok_sub (ok _ (List.mem_cons_self ..))
    have h1 := Int.emod_nonneg t (show m ≠ 0 by omega)
    have h2 := Int.emod_lt_of_pos t hm
    exact fun p hp => (List.mem_cons.mp hp).elim (fun e => by subst e; exact .pr (ih1 o) (by omega) (by omega)) (ih2 (fun p hp => ok p (List.mem_cons_of_mem _ hp)) p)
theorem fw_sz (m : Int) : ∀ ps : List Pt, szPs (fwL m ps) = szPs ps := by
  refine Pt.ind (by rw [fwL_nil]) (fun i ps ih => ?_) (fun qs t ps ih1 ih2 => ?_)
  · rw [fwL_cons, fwP_lv, szPs_cons, szPs_cons, ih]
  · rw [fwL_cons, fwP_pr, szPs_cons, szPs_cons, szP_pr, szP_pr, ih1, ih2]
theorem fw_dp (m : Int) : ∀ ps : List Pt, dpPs (fwL m ps) = dpPs ps := by
  refine Pt.ind (by rw [fwL_nil]) (fun i ps ih => ?_) (fun qs t ps ih1 ih2 => ?_)
  · rw [fwL_cons, fwP_lv, dpPs_cons, dpPs_cons, ih]
  · rw [fwL_cons, fwP_pr, dpPs_cons, dpPs_cons, dpP_pr, dpP_pr, ih1, ih2]
section
variable {Φ : Calls} {ρ : Ev} {P : Type}
/-- a comprehension that changes the state: an invariant I, each item with Q -/
theorem e_compE {own : List Nat} {tg : Tg} {it : DL.It} {co : Eo} {e : E} (g : P → D) (ps : List P) (I : Ev → Prop) (Q : D → Prop) (hi : evit Φ it ρ = .ok (none, ps.map g) ρ) (hl : ps.length ≤ sizeLine) (h0 : I ρ)
    (hs : ∀ p ∈ ps, ∀ ρ, I ρ → ∃ d ρ', compStep Φ own tg co e (g p) ρ = .ok (some d) ρ' ∧ I ρ' ∧ Q d) (hb : ∀ ρ', I ρ' → backS ρ ρ' own = ρ') (ho : ownOk ρ own = true := by rfl) (hw : wipeS ρ own = ρ := by rfl) : ∃ ds ρ', ev Φ (.comp own tg it co e) ρ = .ok (.fr ds) ρ' ∧ I ρ' ∧ (∀ d ∈ ds, Q d) ∧ ds.length = ps.length := by
  have key : ∀ (qs : List P) (acc : List D) (ρ : Ev), (∀ q ∈ qs, q ∈ ps) → acc.length + qs.length ≤ sizeLine → I ρ → (∀ d ∈ acc, Q d) → ∃ ds ρ', cmpL (compStep Φ own tg co e) (qs.map g) acc ρ = .ok ds ρ' ∧ I ρ' ∧ (∀ d ∈ ds, Q d) ∧ ds.length = acc.length + qs.length := fun qs => by
    induction qs with
    | nil => intro acc ρ _ _ hI hQ; exact ⟨acc, ρ, rfl, hI, hQ, rfl⟩
    | cons q qs ih =>
      intro acc ρ hm hl hI hQ
      rw [List.length_cons] at hl
      obtain ⟨d, ρ1, e1, hI1, hd⟩ := hs q (hm q (List.mem_cons_self ..)) ρ hI
      obtain ⟨ds, ρ2, e2, a, b, c⟩ := ih (acc ++ [d]) ρ1 (fun x hx => hm x (List.mem_cons_of_mem _ hx)) (by rw [List.length_append, List.length_singleton]; omega) hI1 (fun x hx => (List.mem_append.mp hx).elim (hQ x) fun z => by rw [List.mem_singleton] at z; subst z; exact hd)
      refine ⟨ds, ρ2, ?_, a, b, by rw [c, List.length_append, List.length_singleton, List.length_cons]; omega⟩
      show (compStep Φ own tg co e (g q) ρ).then _ = _
      rw [e1]
      show (if acc.length < sizeLine then cmpL _ (qs.map g) (acc ++ [d]) else stuck) ρ1 = _
      rw [if_pos (by omega)]; exact e2
  obtain ⟨ds, ρ', e1, a, b, c⟩ := key ps [] ρ (fun _ h => h) (by rw [List.length_nil, Nat.zero_add]; exact hl) h0 (fun _ z => nomatch z)
  refine ⟨ds, ρ', ?_, a, b, by rw [c, List.length_nil, Nat.zero_add]⟩
  rw [r_comp, hi]
  show ((wipeM own ρ).then _).then _ = _
  rw [show wipeM own ρ = if ownOk ρ own then .ok () (wipeS ρ own) else .stk from rfl, if_pos ho, hw]
  show (cmpL (compStep Φ own tg co e) (ps.map g) [] ρ).then _ = _
  rw [e1]
  show Out.ok _ (backS ρ ρ' own) = _
  rw [hb ρ' a]
theorem e_idxS {a b : E} {d d2 d3 : D} {x y : R} {ρ1 ρ2 : Ev} (ha : ev Φ a ρ = .ok x ρ1) (hb : ev Φ b ρ1 = .ok y ρ2) (h1 : view ρ2 x = some d) (h2 : view ρ2 y = some d2) (h : idxD d d2 = some d3) : ev Φ (.idx a b) ρ = .ok (.fz d3) ρ2 := by
  rw [r_idx, ha]
  show ((ev Φ b ρ1).then _) = _
  rw [hb]
  show (((match view ρ2 x with | some d => Out.ok d ρ2 | none => .stk) : Out D).then _) = _
  rw [h1]
  show (((match view ρ2 y with | some d => Out.ok d ρ2 | none => .stk) : Out D).then _) = _
  rw [h2]
  show (ofO (idxD d d2) ρ2).then _ = _
  rw [h]; rfl
/-- one item, the state changed by the element -/
theorem c_someS {own : List Nat} {tg : Tg} {e : E} {x d : D} {ρ ρ1 ρ2 ρ3 : Ev} (h1 : asgn Φ tg x ρ = .ok () ρ1) (h2 : ev Φ e ρ1 = .ok (.fz d) ρ2) (ho : ownOk ρ2 own = true := by rfl) (hw : wipeS ρ2 own = ρ3 := by rfl) : compStep Φ own tg .none e x ρ = .ok (some d) ρ3 := by
  show (asgn Φ tg x ρ).then _ = _
  rw [h1]
  show (ev Φ e ρ1).then _ = _
  rw [h2]
  show ((wipeM own ρ2).then _) = _
  rw [show wipeM own ρ2 = if ownOk ρ2 own then .ok () (wipeS ρ2 own) else .stk from rfl, if_pos ho, hw]
  rfl
end
def pD (b : Nat × Nat) : D := .tup [.int (b.1 : Int), .int (b.2 : Int)]
def bandsN (n : Nat) : List (Nat × Nat) := (List.range (n + 1)).flatMap fun l => (List.range' l (n + 1 - l)).map fun h => (l, h)
theorem bandsN_ok {n : Nat} : ∀ b ∈ bandsN n, b.1 ≤ b.2 ∧ b.2 ≤ n := fun b hb => by
  unfold bandsN at hb
  obtain ⟨l, hl, hb⟩ := List.mem_flatMap.mp hb
  obtain ⟨h, hh, rfl⟩ := List.mem_map.mp hb
  have := List.mem_range.mp hl
  have := List.mem_range'_1.mp hh
  show l ≤ h ∧ h ≤ n
  omega
theorem bandsN_len {n : Nat} (h : n ≤ 12) : (bandsN n).length ≤ 91 ∧ 3 ≤ (bandsN (n + 1)).length ∧ 1 ≤ (bandsN n).length := by
  have : ∀ m : Fin 13, (bandsN m.val).length ≤ 91 ∧ 3 ≤ (bandsN (m.val + 1)).length ∧ 1 ≤ (bandsN m.val).length := by decide +kernel
  exact this ⟨n, by omega⟩
section
variable {Φ : Calls} {ρ ρ1 : Ev} {P : Type}
/-- a loop by an invariant, with what is still to come -/
theorem for_exR {t : Tg} {it : DL.It} {b : Ss} (g : P → D) (ps : List P) (I : List P → Ev → Prop) (hi : evit Φ it ρ = .ok (none, ps.map g) ρ1) (h0 : I [] ρ1)
    (hs : ∀ done p rest ρ, ps = done ++ p :: rest → I done ρ → ∃ ρ', (bnd (asgn Φ t (g p)) fun _ => execs Φ b) ρ = .ok .nx ρ' ∧ I (done ++ [p]) ρ') : ∃ ρ', exec Φ (.for_ t it b) ρ = .ok .nx ρ' ∧ I ps ρ' := by
  obtain ⟨ρ', e, h⟩ := forL_mapR (step := fun x => bnd (asgn Φ t x) fun _ => execs Φ b) g I ps [] ρ1 h0 fun d p r ρ hp hI => by
    obtain ⟨ρ', e, h⟩ := hs d p r ρ hp hI
    exact ⟨ρ', .inl e, h⟩
  refine ⟨ρ', ?_, h⟩
  show (evit Φ it ρ).then _ = _
  rw [hi]; exact e
end
theorem len_lt {α : Type} {a d r : List α} {p : α} (h : a = d ++ p :: r) : d.length < a.length := by
  rw [h, List.length_append, List.length_cons]; omega
end DL

end

namespace Q_bandlinks_k21_band_table
open PySem PySem.Spec PyProof.Rows L2 DL
/-! the text -/
def top (i : Nat) : Stmt := PySem.Challenge.pw_bandlinks_k21_band_table.main.body.getD i (.Pass ⟨0, 0, 0, 0⟩)
/- 0: law(_law_script); slots _law_script, _law_k -/
abbrev st0 : Stmt := top 58
abbrev N0 : List Str := ["_law_script", "_law_k"]
abbrev p0 : List Str := ["_law_script"]
theorem sc0 : FnScope N0 p0 (defScope st0) := ⟨rfl, rfl, rfl, by decide +kernel, rfl, by decide +kernel, by decide +kernel⟩
/- 1: _law_right(_law_pool_here); slots _law_pool_here, _law_cases, _law_turn, _law_levels_here, _law_parts_here, _law_subject, _law_paired, _law_rows_here, _law_empty -/
abbrev st1 : Stmt := top 57
abbrev N1 : List Str := ["_law_pool_here", "_law_cases", "_law_turn", "_law_levels_here", "_law_parts_here", "_law_subject", "_law_paired", "_law_rows_here", "_law_empty"]
abbrev p1 : List Str := ["_law_pool_here"]
theorem sc1 : FnScope N1 p1 (defScope st1) := ⟨rfl, rfl, rfl, by decide +kernel, rfl, by decide +kernel, by decide +kernel⟩
/- 2: _law_pool(_law_cell_here); slots _law_cell_here, _law_digits -/
abbrev st2 : Stmt := top 45
abbrev N2 : List Str := ["_law_cell_here", "_law_digits"]
abbrev p2 : List Str := ["_law_cell_here"]
theorem sc2 : FnScope N2 p2 (defScope st2) := ⟨rfl, rfl, rfl, by decide +kernel, rfl, by decide +kernel, by decide +kernel⟩
/- 3: _law_cell(_law_script, _law_k); slots _law_script, _law_k, _law_state, _law_cell_here -/
abbrev st3 : Stmt := top 44
abbrev N3 : List Str := ["_law_script", "_law_k", "_law_state", "_law_cell_here"]
abbrev p3 : List Str := ["_law_script", "_law_k"]
theorem sc3 : FnScope N3 p3 (defScope st3) := ⟨rfl, rfl, rfl, by decide +kernel, rfl, by decide +kernel, by decide +kernel⟩
/- 4: _law_levels(_law_pool_here, _law_most); slots _law_pool_here, _law_most, _law_wide -/
abbrev st4 : Stmt := top 47
abbrev N4 : List Str := ["_law_pool_here", "_law_most", "_law_wide"]
abbrev p4 : List Str := ["_law_pool_here", "_law_most"]
theorem sc4 : FnScope N4 p4 (defScope st4) := ⟨rfl, rfl, rfl, by decide +kernel, rfl, by decide +kernel, by decide +kernel⟩
/- 5: _law_some_parts(_law_pool_here, _law_levels_here); slots _law_pool_here, _law_levels_here -/
abbrev st5 : Stmt := top 55
abbrev N5 : List Str := ["_law_pool_here", "_law_levels_here"]
abbrev p5 : List Str := ["_law_pool_here", "_law_levels_here"]
theorem sc5 : FnScope N5 p5 (defScope st5) := ⟨rfl, rfl, rfl, by decide +kernel, rfl, by decide +kernel, by decide +kernel⟩
/- 6: _law_rows(_law_word_here, _law_levels_here); slots _law_word_here, _law_levels_here, _law_table, _law_first -/
abbrev st6 : Stmt := top 56
abbrev N6 : List Str := ["_law_word_here", "_law_levels_here", "_law_table", "_law_first"]
abbrev p6 : List Str := ["_law_word_here", "_law_levels_here"]
theorem sc6 : FnScope N6 p6 (defScope st6) := ⟨rfl, rfl, rfl, by decide +kernel, rfl, by decide +kernel, by decide +kernel⟩
/- 7: _law_expanded(_law_parts_here); slots _law_parts_here, _law_word_here, _law_part -/
abbrev st7 : Stmt := top 54
abbrev N7 : List Str := ["_law_parts_here", "_law_word_here", "_law_part"]
abbrev p7 : List Str := ["_law_parts_here"]
theorem sc7 : FnScope N7 p7 (defScope st7) := ⟨rfl, rfl, rfl, by decide +kernel, rfl, by decide +kernel, by decide +kernel⟩
/- 8: Log.__init__(self, levels, parts); slots self, levels, parts, invalid -/
abbrev st8 : Stmt := inClass (top 32) 0
abbrev N8 : List Str := ["self", "levels", "parts", "invalid"]
abbrev p8 : List Str := ["self", "levels", "parts"]
theorem sc8 : FnScope N8 p8 (defScope st8) := ⟨rfl, rfl, rfl, by decide +kernel, rfl, by decide +kernel, by decide +kernel⟩
/- 9: band_table(log); slots log, table, low -/
abbrev st9 : Stmt := top 42
abbrev N9 : List Str := ["log", "table", "low"]
abbrev p9 : List Str := ["log"]
theorem sc9 : FnScope N9 p9 (defScope st9) := ⟨rfl, rfl, rfl, by decide +kernel, rfl, by decide +kernel, by decide +kernel⟩
/- 10: _law_draw(_law_pool_here, _law_count); slots _law_pool_here, _law_count, _law_state, _law_digit -/
abbrev st10 : Stmt := top 46
abbrev N10 : List Str := ["_law_pool_here", "_law_count", "_law_state", "_law_digit"]
abbrev p10 : List Str := ["_law_pool_here", "_law_count"]
theorem sc10 : FnScope N10 p10 (defScope st10) := ⟨rfl, rfl, rfl, by decide +kernel, rfl, by decide +kernel, by decide +kernel⟩
/- 11: _law_word(_law_pool_here, _law_height, _law_most); slots _law_pool_here, _law_height, _law_most, _law_word_here, _law_way, _law_begin, _law_k, _law_mark -/
abbrev st11 : Stmt := top 48
abbrev N11 : List Str := ["_law_pool_here", "_law_height", "_law_most", "_law_word_here", "_law_way", "_law_begin", "_law_k", "_law_mark"]
abbrev p11 : List Str := ["_law_pool_here", "_law_height", "_law_most"]
theorem sc11 : FnScope N11 p11 (defScope st11) := ⟨rfl, rfl, rfl, by decide +kernel, rfl, by decide +kernel, by decide +kernel⟩
/- 12: _law_few(_law_parts_here, _law_most); slots _law_parts_here, _law_most, _law_part -/
abbrev st12 : Stmt := top 53
abbrev N12 : List Str := ["_law_parts_here", "_law_most", "_law_part"]
abbrev p12 : List Str := ["_law_parts_here", "_law_most"]
theorem sc12 : FnScope N12 p12 (defScope st12) := ⟨rfl, rfl, rfl, by decide +kernel, rfl, by decide +kernel, by decide +kernel⟩
/- 13: _law_parts(_law_pool_here, _law_height, _law_room, _law_deep); slots _law_pool_here, _law_height, _law_room, _law_deep, _law_pieces, _law_inner -/
abbrev st13 : Stmt := top 51
abbrev N13 : List Str := ["_law_pool_here", "_law_height", "_law_room", "_law_deep", "_law_pieces", "_law_inner"]
abbrev p13 : List Str := ["_law_pool_here", "_law_height", "_law_room", "_law_deep"]
theorem sc13 : FnScope N13 p13 (defScope st13) := ⟨rfl, rfl, rfl, by decide +kernel, rfl, by decide +kernel, by decide +kernel⟩
/- 14: _law_lengths(_law_word_here, _law_levels_here); slots _law_word_here, _law_levels_here, _law_table, _law_bottom, _law_best, _law_level, _law_top -/
abbrev st14 : Stmt := top 52
abbrev N14 : List Str := ["_law_word_here", "_law_levels_here", "_law_table", "_law_bottom", "_law_best", "_law_level", "_law_top"]
abbrev p14 : List Str := ["_law_word_here", "_law_levels_here"]
theorem sc14 : FnScope N14 p14 (defScope st14) := ⟨rfl, rfl, rfl, by decide +kernel, rfl, by decide +kernel, by decide +kernel⟩
/- 15: is_level_count(thing); slots thing -/
abbrev st15 : Stmt := top 19
abbrev N15 : List Str := ["thing"]
abbrev p15 : List Str := ["thing"]
theorem sc15 : FnScope N15 p15 (defScope st15) := ⟨rfl, rfl, rfl, by decide +kernel, rfl, by decide +kernel, by decide +kernel⟩
/- 16: first_invalid(levels, parts); slots levels, parts, size, index, part, found -/
abbrev st16 : Stmt := top 24
abbrev N16 : List Str := ["levels", "parts", "size", "index", "part", "found"]
abbrev p16 : List Str := ["levels", "parts"]
theorem sc16 : FnScope N16 p16 (defScope st16) := ⟨rfl, rfl, rfl, by decide +kernel, rfl, by decide +kernel, by decide +kernel⟩
/- 17: check_log(thing); slots thing -/
abbrev st17 : Stmt := top 34
abbrev N17 : List Str := ["thing"]
abbrev p17 : List Str := ["thing"]
theorem sc17 : FnScope N17 p17 (defScope st17) := ⟨rfl, rfl, rfl, by decide +kernel, rfl, by decide +kernel, by decide +kernel⟩
/- 18: table_of(levels, parts); slots levels, parts, found, part -/
abbrev st18 : Stmt := top 40
abbrev N18 : List Str := ["levels", "parts", "found", "part"]
abbrev p18 : List Str := ["levels", "parts"]
theorem sc18 : FnScope N18 p18 (defScope st18) := ⟨rfl, rfl, rfl, by decide +kernel, rfl, by decide +kernel, by decide +kernel⟩
/- 19: _law_size(_law_pieces); slots _law_pieces, _law_piece -/
abbrev st19 : Stmt := top 50
abbrev N19 : List Str := ["_law_pieces", "_law_piece"]
abbrev p19 : List Str := ["_law_pieces"]
theorem sc19 : FnScope N19 p19 (defScope st19) := ⟨rfl, rfl, rfl, by decide +kernel, rfl, by decide +kernel, by decide +kernel⟩
/- 20: _law_times(_law_pool_here); slots _law_pool_here -/
abbrev st20 : Stmt := top 49
abbrev N20 : List Str := ["_law_pool_here"]
abbrev p20 : List Str := ["_law_pool_here"]
theorem sc20 : FnScope N20 p20 (defScope st20) := ⟨rfl, rfl, rfl, by decide +kernel, rfl, by decide +kernel, by decide +kernel⟩
/- 21: is_between(thing, least, most); slots thing, least, most -/
abbrev st21 : Stmt := top 18
abbrev N21 : List Str := ["thing", "least", "most"]
abbrev p21 : List Str := ["thing", "least", "most"]
theorem sc21 : FnScope N21 p21 (defScope st21) := ⟨rfl, rfl, rfl, by decide +kernel, rfl, by decide +kernel, by decide +kernel⟩
/- 22: measure_part(levels, part); slots levels, part, inner -/
abbrev st22 : Stmt := top 22
abbrev N22 : List Str := ["levels", "part", "inner"]
abbrev p22 : List Str := ["levels", "part"]
theorem sc22 : FnScope N22 p22 (defScope st22) := ⟨rfl, rfl, rfl, by decide +kernel, rfl, by decide +kernel, by decide +kernel⟩
/- 23: is_log(thing); slots thing -/
abbrev st23 : Stmt := top 33
abbrev N23 : List Str := ["thing"]
abbrev p23 : List Str := ["thing"]
theorem sc23 : FnScope N23 p23 (defScope st23) := ⟨rfl, rfl, rfl, by decide +kernel, rfl, by decide +kernel, by decide +kernel⟩
/- 24: empty_table(levels); slots levels -/
abbrev st24 : Stmt := top 36
abbrev N24 : List Str := ["levels"]
abbrev p24 : List Str := ["levels"]
theorem sc24 : FnScope N24 p24 (defScope st24) := ⟨rfl, rfl, rfl, by decide +kernel, rfl, by decide +kernel, by decide +kernel⟩
/- 25: appended(table, level); slots table, level, rows, low, row, length -/
abbrev st25 : Stmt := top 37
abbrev N25 : List Str := ["table", "level", "rows", "low", "row", "length"]
abbrev p25 : List Str := ["table", "level"]
theorem sc25 : FnScope N25 p25 (defScope st25) := ⟨rfl, rfl, rfl, by decide +kernel, rfl, by decide +kernel, by decide +kernel⟩
/- 26: levels_in(parts); slots parts, found, part -/
abbrev st26 : Stmt := top 26
abbrev N26 : List Str := ["parts", "found", "part"]
abbrev p26 : List Str := ["parts"]
theorem sc26 : FnScope N26 p26 (defScope st26) := ⟨rfl, rfl, rfl, by decide +kernel, rfl, by decide +kernel, by decide +kernel⟩
/- 27: product(first, second); slots first, second, rows, low, row, high, k -/
abbrev st27 : Stmt := top 38
abbrev N27 : List Str := ["first", "second", "rows", "low", "row", "high", "k"]
abbrev p27 : List Str := ["first", "second"]
theorem sc27 : FnScope N27 p27 (defScope st27) := ⟨rfl, rfl, rfl, by decide +kernel, rfl, by decide +kernel, by decide +kernel⟩
/- 28: power(table, times); slots table, times, found, turn, longer -/
abbrev st28 : Stmt := top 39
abbrev N28 : List Str := ["table", "times", "found", "turn", "longer"]
abbrev p28 : List Str := ["table", "times"]
theorem sc28 : FnScope N28 p28 (defScope st28) := ⟨rfl, rfl, rfl, by decide +kernel, rfl, by decide +kernel, by decide +kernel⟩
/- 29: is_whole(thing); slots thing -/
abbrev st29 : Stmt := top 17
abbrev N29 : List Str := ["thing"]
abbrev p29 : List Str := ["thing"]
theorem sc29 : FnScope N29 p29 (defScope st29) := ⟨rfl, rfl, rfl, by decide +kernel, rfl, by decide +kernel, by decide +kernel⟩
/- 30: is_level(levels, thing); slots levels, thing -/
abbrev st30 : Stmt := top 20
abbrev N30 : List Str := ["levels", "thing"]
abbrev p30 : List Str := ["levels", "thing"]
theorem sc30 : FnScope N30 p30 (defScope st30) := ⟨rfl, rfl, rfl, by decide +kernel, rfl, by decide +kernel, by decide +kernel⟩
/- 31: measure(levels, parts); slots levels, parts, size, depth, part, found -/
abbrev st31 : Stmt := top 23
abbrev N31 : List Str := ["levels", "parts", "size", "depth", "part", "found"]
abbrev p31 : List Str := ["levels", "parts"]
theorem sc31 : FnScope N31 p31 (defScope st31) := ⟨rfl, rfl, rfl, by decide +kernel, rfl, by decide +kernel, by decide +kernel⟩
/-! the table -/
def ir0 : Ss := .cons (.ret (.bi .all (.cons (.comp [1] (.nm 1) (.rng1 (.bi .max2 (.cons (.cst (.int 2)) (.cons (.bi .min2 (.cons (.bi .len (.cons (.var 0) (.nil))) (.cons (.cst (.int 4)) (.nil)))) (.nil))))) (.none) (.call 1 [0] (.ref (.call 2 [0] (.val (.call 3 [0, 1] (.val (.var 0) (.val (.var 1) (.nil))) .nil) (.nil)) .nil) (.nil)) .nil)) (.nil))))
    (.nil)
abbrev co0_0 : List Nat := [1]
abbrev ct0_0 : Tg := .nm 1
abbrev cc0_0 : Eo := .none
abbrev ce0_0 : DL.E := .call 1 [0] (.ref (.call 2 [0] (.val (.call 3 [0, 1] (.val (.var 0) (.val (.var 1) (.nil))) .nil) (.nil)) .nil) (.nil)) .nil
def ir1 : Ss := .cons (.asg (.nm 1) (.lst (.nil)))
    (.cons (.for_ (.nm 2) (.rng1 (.cst (.int 2))) (.cons (.asg (.nm 3) (.call 4 [0, 1] (.ref (.var 0) (.val (.cst (.int 12)) (.nil))) .nil))
    (.cons (.asg (.nm 4) (.call 5 [0, 1] (.ref (.var 0) (.val (.var 3) (.nil))) .nil))
    (.cons (.ex (.app 1 (.tup (.cons (.make 0 8 [0, 1] (.val (.var 3) (.val (.var 4) (.nil))) (.val (.cst (.tup [])) (.nil))) (.cons (.make 0 8 [0, 1] (.val (.var 3) (.val (.tup (.cons (.tup (.cons (.var 4) (.cons (.cst (.int 1)) (.nil)))) (.nil))) (.nil))) (.val (.cst (.tup [])) (.nil))) (.cons (.call 6 [0, 1] (.val (.call 7 [0] (.val (.var 4) (.nil)) .nil) (.val (.var 3) (.nil))) .nil) (.nil)))))))
    (.cons (.wip [4, 2])
    (.nil))))))
    (.cons (.for_ (.tp (.cons (.nm 5) (.cons (.nm 6) (.cons (.nm 7) (.nil))))) (.val (.bin .add (.var 1) (.bi .rvs (.cons (.var 1) .nil)))) (.cons (.ifs (.cmp .ne (.bi .repr (.cons (.lst (.cons (.call 9 [0] (.val (.var 5) (.nil)) .nil) (.cons (.call 9 [0] .nil (.val (.var 5) (.nil))) (.cons (.call 9 [0] (.val (.var 6) (.nil)) .nil) (.nil))))) (.nil))) (.bi .repr (.cons (.bin .mul (.lst (.cons (.var 7) (.nil))) (.cst (.int 3))) (.nil)))) (.cons (.ret (.cst (.bl false)))
    (.nil)) (.nil))
    (.cons (.wip [5, 6, 7])
    (.nil))))
    (.cons (.asg (.nm 8) (.make 0 8 [0, 1] (.val (.var 3) (.nil)) (.val (.cst (.tup [])) (.nil))))
    (.cons (.ret (.and (.cmp .eq (.bi .repr (.cons (.call 9 [0] (.val (.var 8) (.nil)) .nil) (.nil))) (.bi .repr (.cons (.call 6 [0, 1] (.val (.lst (.nil)) (.val (.var 3) (.nil))) .nil) (.nil)))) (.cmp .eq (.fld (.var 8) [(0, 1)]) (.tup (.nil)))))
    (.nil)))))
abbrev lt1_0 : Tg := .nm 2
abbrev lb1_0 : Ss := .cons (.asg (.nm 3) (.call 4 [0, 1] (.ref (.var 0) (.val (.cst (.int 12)) (.nil))) .nil))
    (.cons (.asg (.nm 4) (.call 5 [0, 1] (.ref (.var 0) (.val (.var 3) (.nil))) .nil))
    (.cons (.ex (.app 1 (.tup (.cons (.make 0 8 [0, 1] (.val (.var 3) (.val (.var 4) (.nil))) (.val (.cst (.tup [])) (.nil))) (.cons (.make 0 8 [0, 1] (.val (.var 3) (.val (.tup (.cons (.tup (.cons (.var 4) (.cons (.cst (.int 1)) (.nil)))) (.nil))) (.nil))) (.val (.cst (.tup [])) (.nil))) (.cons (.call 6 [0, 1] (.val (.call 7 [0] (.val (.var 4) (.nil)) .nil) (.val (.var 3) (.nil))) .nil) (.nil)))))))
    (.cons (.wip [4, 2])
    (.nil))))
abbrev lt1_1 : Tg := .tp (.cons (.nm 5) (.cons (.nm 6) (.cons (.nm 7) (.nil))))
abbrev lb1_1 : Ss := .cons (.ifs (.cmp .ne (.bi .repr (.cons (.lst (.cons (.call 9 [0] (.val (.var 5) (.nil)) .nil) (.cons (.call 9 [0] .nil (.val (.var 5) (.nil))) (.cons (.call 9 [0] (.val (.var 6) (.nil)) .nil) (.nil))))) (.nil))) (.bi .repr (.cons (.bin .mul (.lst (.cons (.var 7) (.nil))) (.cst (.int 3))) (.nil)))) (.cons (.ret (.cst (.bl false)))
    (.nil)) (.nil))
    (.cons (.wip [5, 6, 7])
    (.nil))
def ir2 : Ss := .cons (.asg (.nm 1) (.cst (.int 0)))
    (.cons (.ifs (.or (.cmp .lt (.var 0) (.cst (.int 0))) (.cmp .ge (.var 0) (.bin .pow (.cst (.int 10)) (.cst (.int 18))))) (.cons (.asg (.nm 1) (.bi .abs (.cons (.var 0) (.nil))))
    (.nil)) (.nil))
    (.cons (.ret (.lst (.cons (.bin .mod (.var 0) (.cst (.int 1000000007))) (.cons (.var 1) (.cons (.cst (.int 0)) (.nil))))))
    (.nil)))
def ir3 : Ss := .cons (.ifs (.cmp .lt (.var 1) (.bi .len (.cons (.var 0) (.nil)))) (.cons (.ret (.idx (.var 0) (.var 1)))
    (.nil)) (.nil))
    (.cons (.asg (.nm 2) (.bin .mod (.bin .mul (.cst (.int 50021)) (.bin .add (.bin .add (.bin .mul (.var 1) (.var 1)) (.bin .mul (.cst (.int 7)) (.var 1))) (.cst (.int 3)))) (.cst (.int 1000000007))))
    (.cons (.for_ (.nm 3) (.val (.slc (.var 0) (.none) (.some (.cst (.int 3))))) (.cons (.asg (.nm 2) (.bin .mod (.bin .add (.bin .mul (.var 2) (.cst (.int 30011))) (.var 3)) (.cst (.int 1000000007))))
    (.nil)))
    (.cons (.ret (.var 2))
    (.nil))))
abbrev lt3_0 : Tg := .nm 3
abbrev lb3_0 : Ss := .cons (.asg (.nm 2) (.bin .mod (.bin .add (.bin .mul (.var 2) (.cst (.int 30011))) (.var 3)) (.cst (.int 1000000007))))
    (.nil)
def ir4 : Ss := .cons (.asg (.nm 2) (.cmp .eq (.call 10 [0, 1] (.ref (.var 0) (.val (.cst (.int 3)) (.nil))) .nil) (.cst (.int 0))))
    (.cons (.ret (.bin .add (.cst (.int 1)) (.call 10 [0, 1] (.ref (.var 0) (.val (.ite (.var 2) (.var 1) (.bi .min2 (.cons (.cst (.int 5)) (.cons (.var 1) (.nil))))) (.nil))) .nil)))
    (.nil))
def ir5 : Ss := .cons (.ifs (.cmp .eq (.call 10 [0, 1] (.ref (.var 0) (.val (.cst (.int 2)) (.nil))) .nil) (.cst (.int 0))) (.cons (.ret (.bi .tuple (.cons (.call 11 [0, 1, 2] (.ref (.var 0) (.val (.var 1) (.val (.cst (.int 30)) (.nil)))) .nil) (.nil))))
    (.nil)) (.nil))
    (.cons (.ret (.call 12 [0, 1] (.val (.call 13 [0, 1, 2, 3] (.ref (.var 0) (.val (.var 1) (.val (.cst (.int 24)) (.val (.cst (.int 3)) (.nil))))) .nil) (.val (.cst (.int 3)) (.nil))) .nil))
    (.nil))
def ir6 : Ss := .cons (.asg (.nm 2) (.call 14 [0, 1] (.val (.var 0) (.val (.var 1) (.nil))) .nil))
    (.cons (.ret (.bi .tuple (.cons (.comp [3] (.nm 3) (.rng1 (.var 1)) (.none) (.bi .tuple (.cons (.slc (.idx (.var 2) (.var 3)) (.some (.bin .add (.var 3) (.cst (.int 1)))) (.none)) (.nil)))) (.nil))))
    (.nil))
abbrev co6_0 : List Nat := [3]
abbrev ct6_0 : Tg := .nm 3
abbrev cc6_0 : Eo := .none
abbrev ce6_0 : DL.E := .bi .tuple (.cons (.slc (.idx (.var 2) (.var 3)) (.some (.bin .add (.var 3) (.cst (.int 1)))) (.none)) (.nil))
def ir7 : Ss := .cons (.asg (.nm 1) (.lst (.nil)))
    (.cons (.for_ (.nm 2) (.val (.var 0)) (.cons (.ifs (.bi (.isi .int) (.cons (.var 2) .nil)) (.cons (.ex (.app 1 (.var 2)))
    (.nil)) (.cons (.ex (.ext 1 (.bin .mul (.call 7 [0] (.val (.idx (.var 2) (.cst (.int 0))) (.nil)) .nil) (.idx (.var 2) (.cst (.int 1))))))
    (.nil)))
    (.cons (.wip [2])
    (.nil))))
    (.cons (.ret (.var 1))
    (.nil)))
abbrev lt7_0 : Tg := .nm 2
abbrev lb7_0 : Ss := .cons (.ifs (.bi (.isi .int) (.cons (.var 2) .nil)) (.cons (.ex (.app 1 (.var 2)))
    (.nil)) (.cons (.ex (.ext 1 (.bin .mul (.call 7 [0] (.val (.idx (.var 2) (.cst (.int 0))) (.nil)) .nil) (.idx (.var 2) (.cst (.int 1))))))
    (.nil)))
    (.cons (.wip [2])
    (.nil))
def ir8 : Ss := .cons (.ifs (.not (.call 15 [0] (.val (.var 1) (.nil)) .nil)) (.cons (.ex stkE) .nil) .nil)
    (.cons (.ifs (.not (.bi (.isi .tuple) (.cons (.var 2) .nil))) (.cons (.ex stkE) .nil) .nil)
    (.cons (.asg (.nm 3) (.call 16 [0, 1] (.val (.var 1) (.val (.var 2) (.nil))) .nil))
    (.cons (.ifs (.cmp .notN (.var 3) (.cst .non)) (.cons (.ex stkE) .nil) .nil)
    (.cons (.ret (.tup (.cons (.var 1) (.cons (.var 2) .nil)))) .nil))))
def ir9 : Ss := .cons (.ex (.call 17 [0] (.val (.var 0) (.nil)) .nil))
    (.cons (.asg (.nm 1) (.call 18 [0, 1] (.val (.fld (.var 0) [(0, 0)]) (.val (.fld (.var 0) [(0, 1)]) (.nil))) .nil))
    (.cons (.ret (.bi .tuple (.cons (.comp [2] (.nm 2) (.rng1 (.fld (.var 0) [(0, 0)])) (.none) (.slc (.idx (.var 1) (.var 2)) (.some (.bin .add (.var 2) (.cst (.int 1)))) (.none))) (.nil))))
    (.nil)))
abbrev co9_0 : List Nat := [2]
abbrev ct9_0 : Tg := .nm 2
abbrev cc9_0 : Eo := .none
abbrev ce9_0 : DL.E := .slc (.idx (.var 1) (.var 2)) (.some (.bin .add (.var 2) (.cst (.int 1)))) (.none)
def ir10 : Ss := .cons (.asg (.sub 0 (.cst (.int 2))) (.bin .add (.idx (.var 0) (.cst (.int 2))) (.cst (.int 1))))
    (.cons (.asg (.nm 2) (.idx (.var 0) (.cst (.int 0))))
    (.cons (.asg (.sub 0 (.cst (.int 0))) (.bin .mod (.bin .add (.bin .add (.bin .mul (.var 2) (.bin .add (.bin .mod (.bi .int1 (.cons (.var 2) (.nil))) (.cst (.int 46007))) (.cst (.int 20011)))) (.bin .mul (.cst (.int 60013)) (.idx (.var 0) (.cst (.int 2))))) (.cst (.int 5))) (.cst (.int 1000000007))))
    (.cons (.ifs (.cmp .gt (.idx (.var 0) (.cst (.int 1))) (.cst (.int 0))) (.cons (.asg (.tp (.cons (.sub 0 (.cst (.int 1))) (.cons (.nm 3) (.nil)))) (.bi .divmod (.cons (.idx (.var 0) (.cst (.int 1))) (.cons (.var 1) (.nil)))))
    (.cons (.ret (.var 3))
    (.nil))) (.nil))
    (.cons (.ret (.bin .mod (.bin .fdiv (.idx (.var 0) (.cst (.int 0))) (.cst (.int 32))) (.var 1)))
    (.nil)))))
def ir11 : Ss := .cons (.par3 3 4 5 (.lst (.nil)) (.call 10 [0, 1] (.ref (.var 0) (.val (.cst (.int 4)) (.nil))) .nil) (.call 10 [0, 1] (.ref (.var 0) (.val (.var 1) (.nil))) .nil))
    (.cons (.for_ (.nm 6) (.rng1 (.call 10 [0, 1] (.ref (.var 0) (.val (.bin .add (.var 2) (.cst (.int 1))) (.nil))) .nil)) (.cons (.asg (.nm 7) (.idx (.lst (.cons (.call 10 [0, 1] (.ref (.var 0) (.val (.var 1) (.nil))) .nil) (.cons (.bin .add (.var 5) (.var 6)) (.cons (.bin .sub (.var 5) (.var 6)) (.cons (.bin .add (.var 5) (.call 10 [0, 1] (.ref (.var 0) (.val (.cst (.int 2)) (.nil))) .nil)) (.nil)))))) (.var 4)))
    (.cons (.ex (.app 3 (.bin .add (.cst (.int 1)) (.bin .mod (.bi .int1 (.cons (.var 7) (.nil))) (.var 1)))))
    (.nil))))
    (.cons (.ret (.var 3))
    (.nil)))
abbrev lt11_0 : Tg := .nm 6
abbrev lb11_0 : Ss := .cons (.asg (.nm 7) (.idx (.lst (.cons (.call 10 [0, 1] (.ref (.var 0) (.val (.var 1) (.nil))) .nil) (.cons (.bin .add (.var 5) (.var 6)) (.cons (.bin .sub (.var 5) (.var 6)) (.cons (.bin .add (.var 5) (.call 10 [0, 1] (.ref (.var 0) (.val (.cst (.int 2)) (.nil))) .nil)) (.nil)))))) (.var 4)))
    (.cons (.ex (.app 3 (.bin .add (.cst (.int 1)) (.bin .mod (.bi .int1 (.cons (.var 7) (.nil))) (.var 1)))))
    (.nil))
def ir12 : Ss := .cons (.ret (.bi .tuple (.cons (.comp [2] (.nm 2) (.val (.var 0)) (.none) (.ite (.bi (.isi .int) (.cons (.var 2) .nil)) (.var 2) (.tup (.cons (.call 12 [0, 1] (.val (.idx (.var 2) (.cst (.int 0))) (.val (.var 1) (.nil))) .nil) (.cons (.bin .add (.cst (.int 1)) (.bin .mod (.bi .int1 (.cons (.idx (.var 2) (.cst (.int 1))) (.nil))) (.var 1))) (.nil)))))) (.nil))))
    (.nil)
abbrev co12_0 : List Nat := [2]
abbrev ct12_0 : Tg := .nm 2
abbrev cc12_0 : Eo := .none
abbrev ce12_0 : DL.E := .ite (.bi (.isi .int) (.cons (.var 2) .nil)) (.var 2) (.tup (.cons (.call 12 [0, 1] (.val (.idx (.var 2) (.cst (.int 0))) (.val (.var 1) (.nil))) .nil) (.cons (.bin .add (.cst (.int 1)) (.bin .mod (.bi .int1 (.cons (.idx (.var 2) (.cst (.int 1))) (.nil))) (.var 1))) (.nil))))
def ir13 : Ss := .cons (.asg (.nm 4) (.lst (.nil)))
    (.cons (.whl (.and (.cmp .gt (.var 2) (.cst (.int 0))) (.cmp .gt (.call 10 [0, 1] (.ref (.var 0) (.val (.cst (.int 9)) (.nil))) .nil) (.cst (.int 0)))) (.cons (.asg (.nm 2) (.bin .sub (.var 2) (.cst (.int 1))))
    (.cons (.ifs (.and (.cmp .gt (.var 3) (.cst (.int 1))) (.cmp .eq (.call 10 [0, 1] (.ref (.var 0) (.val (.cst (.int 4)) (.nil))) .nil) (.cst (.int 0)))) (.cons (.asg (.nm 5) (.call 13 [0, 1, 2, 3] (.ref (.var 0) (.val (.var 1) (.val (.call 10 [0, 1] (.ref (.var 0) (.val (.bin .add (.var 2) (.cst (.int 1))) (.nil))) .nil) (.val (.bin .sub (.var 3) (.cst (.int 1))) (.nil))))) .nil))
    (.cons (.asg (.nm 2) (.bin .sub (.var 2) (.call 19 [0] (.val (.var 5) (.nil)) .nil)))
    (.cons (.ex (.app 4 (.tup (.cons (.var 5) (.cons (.call 20 [0] (.ref (.var 0) (.nil)) .nil) (.nil))))))
    (.nil)))) (.cons (.ex (.app 4 (.bin .add (.cst (.int 1)) (.call 10 [0, 1] (.ref (.var 0) (.val (.var 1) (.nil))) .nil))))
    (.nil)))
    (.cons (.wip [5])
    (.nil)))))
    (.cons (.wip [2])
    (.cons (.ret (.bi .tuple (.cons (.var 4) (.nil))))
    (.nil))))
abbrev wc13_0 : DL.E := .and (.cmp .gt (.var 2) (.cst (.int 0))) (.cmp .gt (.call 10 [0, 1] (.ref (.var 0) (.val (.cst (.int 9)) (.nil))) .nil) (.cst (.int 0)))
abbrev wb13_0 : Ss := .cons (.asg (.nm 2) (.bin .sub (.var 2) (.cst (.int 1))))
    (.cons (.ifs (.and (.cmp .gt (.var 3) (.cst (.int 1))) (.cmp .eq (.call 10 [0, 1] (.ref (.var 0) (.val (.cst (.int 4)) (.nil))) .nil) (.cst (.int 0)))) (.cons (.asg (.nm 5) (.call 13 [0, 1, 2, 3] (.ref (.var 0) (.val (.var 1) (.val (.call 10 [0, 1] (.ref (.var 0) (.val (.bin .add (.var 2) (.cst (.int 1))) (.nil))) .nil) (.val (.bin .sub (.var 3) (.cst (.int 1))) (.nil))))) .nil))
    (.cons (.asg (.nm 2) (.bin .sub (.var 2) (.call 19 [0] (.val (.var 5) (.nil)) .nil)))
    (.cons (.ex (.app 4 (.tup (.cons (.var 5) (.cons (.call 20 [0] (.ref (.var 0) (.nil)) .nil) (.nil))))))
    (.nil)))) (.cons (.ex (.app 4 (.bin .add (.cst (.int 1)) (.call 10 [0, 1] (.ref (.var 0) (.val (.var 1) (.nil))) .nil))))
    (.nil)))
    (.cons (.wip [5])
    (.nil)))
def ir14 : Ss := .cons (.asg (.nm 2) (.lst (.nil)))
    (.cons (.for_ (.nm 3) (.rng1 (.bin .add (.var 1) (.cst (.int 1)))) (.cons (.asg (.nm 4) (.bin .mul (.lst (.cons (.cst (.int 0)) (.nil))) (.bin .add (.var 1) (.cst (.int 1)))))
    (.cons (.wip [5])
    (.cons (.for_ (.nm 5) (.val (.var 0)) (.cons (.ifs (.cmp .gt (.var 5) (.var 3)) (.cons (.asg (.sub 4 (.var 5)) (.bi .max2 (.cons (.idx (.var 4) (.var 5)) (.cons (.bin .add (.cst (.int 1)) (.bi .max1 (.cons (.slc (.var 4) (.none) (.some (.var 5))) (.nil)))) (.nil)))))
    (.nil)) (.nil))
    (.cons (.wip [5])
    (.nil))))
    (.cons (.ex (.app 2 (.comp [6] (.nm 6) (.rng1 (.bin .add (.var 1) (.cst (.int 1)))) (.none) (.bi .max1 (.cons (.slc (.var 4) (.none) (.some (.bin .add (.var 6) (.cst (.int 1))))) (.nil))))))
    (.cons (.wip [4, 5, 3])
    (.nil)))))))
    (.cons (.ret (.var 2))
    (.nil)))
abbrev lt14_1 : Tg := .nm 5
abbrev lb14_1 : Ss := .cons (.ifs (.cmp .gt (.var 5) (.var 3)) (.cons (.asg (.sub 4 (.var 5)) (.bi .max2 (.cons (.idx (.var 4) (.var 5)) (.cons (.bin .add (.cst (.int 1)) (.bi .max1 (.cons (.slc (.var 4) (.none) (.some (.var 5))) (.nil)))) (.nil)))))
    (.nil)) (.nil))
    (.cons (.wip [5])
    (.nil))
abbrev co14_0 : List Nat := [6]
abbrev ct14_0 : Tg := .nm 6
abbrev cc14_0 : Eo := .none
abbrev ce14_0 : DL.E := .bi .max1 (.cons (.slc (.var 4) (.none) (.some (.bin .add (.var 6) (.cst (.int 1))))) (.nil))
abbrev lt14_0 : Tg := .nm 3
abbrev lb14_0 : Ss := .cons (.asg (.nm 4) (.bin .mul (.lst (.cons (.cst (.int 0)) (.nil))) (.bin .add (.var 1) (.cst (.int 1)))))
    (.cons (.wip [5])
    (.cons (.for_ (.nm 5) (.val (.var 0)) (.cons (.ifs (.cmp .gt (.var 5) (.var 3)) (.cons (.asg (.sub 4 (.var 5)) (.bi .max2 (.cons (.idx (.var 4) (.var 5)) (.cons (.bin .add (.cst (.int 1)) (.bi .max1 (.cons (.slc (.var 4) (.none) (.some (.var 5))) (.nil)))) (.nil)))))
    (.nil)) (.nil))
    (.cons (.wip [5])
    (.nil))))
    (.cons (.ex (.app 2 (.comp [6] (.nm 6) (.rng1 (.bin .add (.var 1) (.cst (.int 1)))) (.none) (.bi .max1 (.cons (.slc (.var 4) (.none) (.some (.bin .add (.var 6) (.cst (.int 1))))) (.nil))))))
    (.cons (.wip [4, 5, 3])
    (.nil)))))
def ir15 : Ss := .cons (.ret (.call 21 [0, 1, 2] (.val (.var 0) (.val (.cst (.int 1)) (.val (.cst (.int 12)) (.nil)))) .nil))
    (.nil)
def ir16 : Ss := .cons (.asg (.nm 2) (.cst (.int 0)))
    (.cons (.for_ (.tp (.cons (.nm 3) (.cons (.nm 4) (.nil)))) (.enum (.var 1)) (.cons (.asg (.nm 5) (.call 22 [0, 1] (.val (.var 0) (.val (.var 4) (.nil))) .nil))
    (.cons (.ifs (.or (.cmp .isN (.var 5) (.cst .non)) (.or (.cmp .gt (.bin .add (.var 2) (.idx (.var 5) (.cst (.int 0)))) (.cst (.int 120))) (.cmp .gt (.idx (.var 5) (.cst (.int 1))) (.cst (.int 5))))) (.cons (.ret (.var 3))
    (.nil)) (.nil))
    (.cons (.aug 2 .add (.idx (.var 5) (.cst (.int 0))))
    (.nil)))))
    (.cons (.ret (.cst .non))
    (.nil)))
abbrev lt16_0 : Tg := .tp (.cons (.nm 3) (.cons (.nm 4) (.nil)))
abbrev lb16_0 : Ss := .cons (.asg (.nm 5) (.call 22 [0, 1] (.val (.var 0) (.val (.var 4) (.nil))) .nil))
    (.cons (.ifs (.or (.cmp .isN (.var 5) (.cst .non)) (.or (.cmp .gt (.bin .add (.var 2) (.idx (.var 5) (.cst (.int 0)))) (.cst (.int 120))) (.cmp .gt (.idx (.var 5) (.cst (.int 1))) (.cst (.int 5))))) (.cons (.ret (.var 3))
    (.nil)) (.nil))
    (.cons (.aug 2 .add (.idx (.var 5) (.cst (.int 0))))
    (.nil)))
def ir17 : Ss := .cons (.ifs (.not (.call 23 [0] (.val (.var 0) (.nil)) .nil)) (.cons (.ex stkE)
    (.nil)) (.nil))
    (.nil)
def ir18 : Ss := .cons (.asg (.nm 2) (.call 24 [0] (.val (.var 0) (.nil)) .nil))
    (.cons (.for_ (.nm 3) (.val (.var 1)) (.cons (.ifs (.not (.bi (.isi .tuple) (.cons (.var 3) .nil))) (.cons (.asg (.nm 2) (.call 25 [0, 1] (.val (.var 2) (.val (.var 3) (.nil))) .nil))
    (.nil)) (.cons (.ifs (.call 26 [0] (.val (.idx (.var 3) (.cst (.int 0))) (.nil)) .nil) (.cons (.asg (.nm 2) (.call 27 [0, 1] (.val (.var 2) (.val (.call 28 [0, 1] (.val (.call 18 [0, 1] (.val (.var 0) (.val (.idx (.var 3) (.cst (.int 0))) (.nil))) .nil) (.val (.idx (.var 3) (.cst (.int 1))) (.nil))) .nil) (.nil))) .nil))
    (.nil)) (.nil))
    (.nil)))
    (.cons (.wip [3])
    (.nil))))
    (.cons (.ret (.var 2))
    (.nil)))
abbrev lt18_0 : Tg := .nm 3
abbrev lb18_0 : Ss := .cons (.ifs (.not (.bi (.isi .tuple) (.cons (.var 3) .nil))) (.cons (.asg (.nm 2) (.call 25 [0, 1] (.val (.var 2) (.val (.var 3) (.nil))) .nil))
    (.nil)) (.cons (.ifs (.call 26 [0] (.val (.idx (.var 3) (.cst (.int 0))) (.nil)) .nil) (.cons (.asg (.nm 2) (.call 27 [0, 1] (.val (.var 2) (.val (.call 28 [0, 1] (.val (.call 18 [0, 1] (.val (.var 0) (.val (.idx (.var 3) (.cst (.int 0))) (.nil))) .nil) (.val (.idx (.var 3) (.cst (.int 1))) (.nil))) .nil) (.nil))) .nil))
    (.nil)) (.nil))
    (.nil)))
    (.cons (.wip [3])
    (.nil))
def ir19 : Ss := .cons (.ret (.bi .sum (.cons (.comp [1] (.nm 1) (.val (.var 0)) (.none) (.ite (.bi (.isi .int) (.cons (.var 1) .nil)) (.cst (.int 1)) (.bin .add (.cst (.int 1)) (.call 19 [0] (.val (.idx (.var 1) (.cst (.int 0))) (.nil)) .nil)))) (.nil))))
    (.nil)
abbrev co19_0 : List Nat := [1]
abbrev ct19_0 : Tg := .nm 1
abbrev cc19_0 : Eo := .none
abbrev ce19_0 : DL.E := .ite (.bi (.isi .int) (.cons (.var 1) .nil)) (.cst (.int 1)) (.bin .add (.cst (.int 1)) (.call 19 [0] (.val (.idx (.var 1) (.cst (.int 0))) (.nil)) .nil))
def ir20 : Ss := .cons (.ret (.idx (.lst (.cons (.cst (.int 1)) (.cons (.cst (.int 2)) (.cons (.bin .add (.cst (.int 3)) (.call 10 [0, 1] (.ref (.var 0) (.val (.cst (.int 12)) (.nil))) .nil)) (.cons (.bin .add (.cst (.int 1)) (.call 10 [0, 1] (.ref (.var 0) (.val (.bin .pow (.cst (.int 10)) (.cst (.int 30))) (.nil))) .nil)) (.cons (.bin .pow (.cst (.int 10)) (.cst (.int 30))) (.nil))))))) (.call 10 [0, 1] (.ref (.var 0) (.val (.cst (.int 5)) (.nil))) .nil)))
    (.nil)
def ir21 : Ss := .cons (.ret (.and (.call 29 [0] (.val (.var 0) (.nil)) .nil) (.chn .le .le (.var 1) (.var 0) (.var 2))))
    (.nil)
def ir22 : Ss := .cons (.ifs (.call 30 [0, 1] (.val (.var 0) (.val (.var 1) (.nil))) .nil) (.cons (.ret (.tup (.cons (.cst (.int 1)) (.cons (.cst (.int 1)) (.nil)))))
    (.nil)) (.nil))
    (.cons (.ifs (.or (.not (.bi (.isi .tuple) (.cons (.var 1) .nil))) (.or (.cmp .ne (.bi .len (.cons (.var 1) (.nil))) (.cst (.int 2))) (.not (.call 21 [0, 1, 2] (.val (.idx (.var 1) (.cst (.int 1))) (.val (.cst (.int 1)) (.val (.cst (.int 1000000000000000000000000000000)) (.nil)))) .nil)))) (.cons (.ret (.cst .non))
    (.nil)) (.nil))
    (.cons (.asg (.nm 2) (.call 31 [0, 1] (.val (.var 0) (.val (.idx (.var 1) (.cst (.int 0))) (.nil))) .nil))
    (.cons (.ret (.ite (.cmp .isN (.var 2) (.cst .non)) (.cst .non) (.tup (.cons (.bin .add (.idx (.var 2) (.cst (.int 0))) (.cst (.int 1))) (.cons (.bin .add (.idx (.var 2) (.cst (.int 1))) (.cst (.int 1))) (.nil))))))
    (.nil))))
def ir23 : Ss := .cons (.ret (.bi (.iso 0) (.cons (.var 0) .nil)))
    (.nil)
def ir24 : Ss := .cons (.ret (.bin .mul (.tup (.cons (.bin .mul (.tup (.cons (.cst (.int 0)) (.nil))) (.bin .add (.var 0) (.cst (.int 1)))) (.nil))) (.bin .add (.var 0) (.cst (.int 1)))))
    (.nil)
def ir25 : Ss := .cons (.asg (.nm 2) (.lst (.nil)))
    (.cons (.for_ (.tp (.cons (.nm 3) (.cons (.nm 4) (.nil)))) (.enum (.var 0)) (.cons (.ifs (.cmp .lt (.var 3) (.var 1)) (.cons (.asg (.nm 4) (.bin .add (.slc (.var 4) (.none) (.some (.var 1))) (.bi .tuple (.cons (.comp [5] (.nm 5) (.val (.slc (.var 4) (.some (.var 1)) (.none))) (.none) (.bi .max2 (.cons (.var 5) (.cons (.bin .add (.idx (.var 4) (.bin .sub (.var 1) (.cst (.int 1)))) (.cst (.int 1))) (.nil))))) (.nil)))))
    (.nil)) (.nil))
    (.cons (.ex (.app 2 (.var 4)))
    (.cons (.wip [4, 3])
    (.nil)))))
    (.cons (.ret (.bi .tuple (.cons (.var 2) (.nil))))
    (.nil)))
abbrev co25_0 : List Nat := [5]
abbrev ct25_0 : Tg := .nm 5
abbrev cc25_0 : Eo := .none
abbrev ce25_0 : DL.E := .bi .max2 (.cons (.var 5) (.cons (.bin .add (.idx (.var 4) (.bin .sub (.var 1) (.cst (.int 1)))) (.cst (.int 1))) (.nil)))
abbrev lt25_0 : Tg := .tp (.cons (.nm 3) (.cons (.nm 4) (.nil)))
abbrev lb25_0 : Ss := .cons (.ifs (.cmp .lt (.var 3) (.var 1)) (.cons (.asg (.nm 4) (.bin .add (.slc (.var 4) (.none) (.some (.var 1))) (.bi .tuple (.cons (.comp [5] (.nm 5) (.val (.slc (.var 4) (.some (.var 1)) (.none))) (.none) (.bi .max2 (.cons (.var 5) (.cons (.bin .add (.idx (.var 4) (.bin .sub (.var 1) (.cst (.int 1)))) (.cst (.int 1))) (.nil))))) (.nil)))))
    (.nil)) (.nil))
    (.cons (.ex (.app 2 (.var 4)))
    (.cons (.wip [4, 3])
    (.nil)))
def ir26 : Ss := .cons (.asg (.nm 1) (.lst (.nil)))
    (.cons (.for_ (.nm 2) (.val (.var 0)) (.cons (.ex (.ext 1 (.ite (.bi (.isi .tuple) (.cons (.var 2) .nil)) (.call 26 [0] (.val (.idx (.var 2) (.cst (.int 0))) (.nil)) .nil) (.lst (.cons (.var 2) (.nil))))))
    (.nil)))
    (.cons (.ret (.bi .sset (.cons (.var 1) .nil)))
    (.nil)))
abbrev lt26_0 : Tg := .nm 2
abbrev lb26_0 : Ss := .cons (.ex (.ext 1 (.ite (.bi (.isi .tuple) (.cons (.var 2) .nil)) (.call 26 [0] (.val (.idx (.var 2) (.cst (.int 0))) (.nil)) .nil) (.lst (.cons (.var 2) (.nil))))))
    (.nil)
def ir27 : Ss := .cons (.asg (.nm 2) (.lst (.nil)))
    (.cons (.for_ (.nm 3) (.rng1 (.bi .len (.cons (.var 0) (.nil)))) (.cons (.asg (.nm 4) (.bin .mul (.lst (.cons (.cst (.int 0)) (.nil))) (.var 3)))
    (.cons (.wip [5])
    (.cons (.for_ (.nm 5) (.rng2 (.var 3) (.bi .len (.cons (.var 0) (.nil)))) (.cons (.ex (.app 4 (.bi .max1 (.cons (.comp [6] (.nm 6) (.rng2 (.var 3) (.bin .add (.var 5) (.cst (.int 1)))) (.none) (.bin .add (.idx (.idx (.var 0) (.var 3)) (.var 6)) (.idx (.idx (.var 1) (.var 6)) (.var 5)))) (.nil)))))
    (.cons (.wip [5])
    (.nil))))
    (.cons (.ex (.app 2 (.bi .tuple (.cons (.var 4) (.nil)))))
    (.cons (.wip [4, 5, 3])
    (.nil)))))))
    (.cons (.ret (.bi .tuple (.cons (.var 2) (.nil))))
    (.nil)))
abbrev co27_0 : List Nat := [6]
abbrev ct27_0 : Tg := .nm 6
abbrev cc27_0 : Eo := .none
abbrev ce27_0 : DL.E := .bin .add (.idx (.idx (.var 0) (.var 3)) (.var 6)) (.idx (.idx (.var 1) (.var 6)) (.var 5))
abbrev lt27_1 : Tg := .nm 5
abbrev lb27_1 : Ss := .cons (.ex (.app 4 (.bi .max1 (.cons (.comp [6] (.nm 6) (.rng2 (.var 3) (.bin .add (.var 5) (.cst (.int 1)))) (.none) (.bin .add (.idx (.idx (.var 0) (.var 3)) (.var 6)) (.idx (.idx (.var 1) (.var 6)) (.var 5)))) (.nil)))))
    (.cons (.wip [5])
    (.nil))
abbrev lt27_0 : Tg := .nm 3
abbrev lb27_0 : Ss := .cons (.asg (.nm 4) (.bin .mul (.lst (.cons (.cst (.int 0)) (.nil))) (.var 3)))
    (.cons (.wip [5])
    (.cons (.for_ (.nm 5) (.rng2 (.var 3) (.bi .len (.cons (.var 0) (.nil)))) (.cons (.ex (.app 4 (.bi .max1 (.cons (.comp [6] (.nm 6) (.rng2 (.var 3) (.bin .add (.var 5) (.cst (.int 1)))) (.none) (.bin .add (.idx (.idx (.var 0) (.var 3)) (.var 6)) (.idx (.idx (.var 1) (.var 6)) (.var 5)))) (.nil)))))
    (.cons (.wip [5])
    (.nil))))
    (.cons (.ex (.app 2 (.bi .tuple (.cons (.var 4) (.nil)))))
    (.cons (.wip [4, 5, 3])
    (.nil)))))
def ir28 : Ss := .cons (.asg (.nm 2) (.call 24 [0] (.val (.bin .sub (.bi .len (.cons (.var 0) (.nil))) (.cst (.int 1))) (.nil)) .nil))
    (.cons (.for_ (.nm 3) (.rng1 (.bi .min2 (.cons (.var 1) (.cons (.bin .sub (.bi .len (.cons (.var 0) (.nil))) (.cst (.int 1))) (.nil))))) (.cons (.asg (.nm 4) (.call 27 [0, 1] (.val (.var 2) (.val (.var 0) (.nil))) .nil))
    (.cons (.ifs (.cmp .eq (.var 4) (.var 2)) (.cons (.ret (.var 2))
    (.nil)) (.nil))
    (.cons (.asg (.nm 2) (.var 4))
    (.cons (.wip [4, 3])
    (.nil))))))
    (.cons (.ret (.var 2))
    (.nil)))
abbrev lt28_0 : Tg := .nm 3
abbrev lb28_0 : Ss := .cons (.asg (.nm 4) (.call 27 [0, 1] (.val (.var 2) (.val (.var 0) (.nil))) .nil))
    (.cons (.ifs (.cmp .eq (.var 4) (.var 2)) (.cons (.ret (.var 2))
    (.nil)) (.nil))
    (.cons (.asg (.nm 2) (.var 4))
    (.cons (.wip [4, 3])
    (.nil))))
def ir29 : Ss := .cons (.ret (.and (.bi (.isi .int) (.cons (.var 0) .nil)) (.not (.bi (.isi .bool) (.cons (.var 0) .nil)))))
    (.nil)
def ir30 : Ss := .cons (.ret (.call 21 [0, 1, 2] (.val (.var 1) (.val (.cst (.int 1)) (.val (.var 0) (.nil)))) .nil))
    (.nil)
def ir31 : Ss := .cons (.ifs (.not (.bi (.isi .tuple) (.cons (.var 1) .nil))) (.cons (.ret (.cst .non))
    (.nil)) (.nil))
    (.cons (.asg (.tp (.cons (.nm 2) (.cons (.nm 3) (.nil)))) (.tup (.cons (.cst (.int 0)) (.cons (.cst (.int 1)) (.nil)))))
    (.cons (.for_ (.nm 4) (.val (.var 1)) (.cons (.asg (.nm 5) (.call 22 [0, 1] (.val (.var 0) (.val (.var 4) (.nil))) .nil))
    (.cons (.ifs (.cmp .isN (.var 5) (.cst .non)) (.cons (.ret (.cst .non))
    (.nil)) (.nil))
    (.cons (.par 2 3 (.bin .add (.var 2) (.idx (.var 5) (.cst (.int 0)))) (.bi .max2 (.cons (.var 3) (.cons (.idx (.var 5) (.cst (.int 1))) (.nil)))))
    (.nil)))))
    (.cons (.ret (.tup (.cons (.var 2) (.cons (.var 3) (.nil)))))
    (.nil))))
abbrev lt31_0 : Tg := .nm 4
abbrev lb31_0 : Ss := .cons (.asg (.nm 5) (.call 22 [0, 1] (.val (.var 0) (.val (.var 4) (.nil))) .nil))
    (.cons (.ifs (.cmp .isN (.var 5) (.cst .non)) (.cons (.ret (.cst .non))
    (.nil)) (.nil))
    (.cons (.par 2 3 (.bin .add (.var 2) (.idx (.var 5) (.cst (.int 0)))) (.bi .max2 (.cons (.var 3) (.cons (.idx (.var 5) (.cst (.int 1))) (.nil)))))
    (.nil)))
def tbl : List Df := [⟨1, 2, ir0⟩,
  ⟨1, 9, ir1⟩,
  ⟨1, 2, ir2⟩,
  ⟨2, 4, ir3⟩,
  ⟨2, 3, ir4⟩,
  ⟨2, 2, ir5⟩,
  ⟨2, 4, ir6⟩,
  ⟨1, 3, ir7⟩,
  ⟨3, 4, ir8⟩,
  ⟨1, 3, ir9⟩,
  ⟨2, 4, ir10⟩,
  ⟨3, 8, ir11⟩,
  ⟨2, 3, ir12⟩,
  ⟨4, 6, ir13⟩,
  ⟨2, 7, ir14⟩,
  ⟨1, 1, ir15⟩,
  ⟨2, 6, ir16⟩,
  ⟨1, 1, ir17⟩,
  ⟨2, 4, ir18⟩,
  ⟨1, 2, ir19⟩,
  ⟨1, 1, ir20⟩,
  ⟨3, 3, ir21⟩,
  ⟨2, 3, ir22⟩,
  ⟨1, 1, ir23⟩,
  ⟨1, 1, ir24⟩,
  ⟨2, 6, ir25⟩,
  ⟨1, 3, ir26⟩,
  ⟨2, 7, ir27⟩,
  ⟨2, 5, ir28⟩,
  ⟨1, 1, ir29⟩,
  ⟨2, 2, ir30⟩,
  ⟨2, 6, ir31⟩]
def psn (j : Nat) : List Str := [p0, p1, p2, p3, p4, p5, p6, p7, p8, p9, p10, p11, p12, p13, p14, p15, p16, p17, p18, p19, p20, p21, p22, p23, p24, p25, p26, p27, p28, p29, p30, p31].getD j []
def sps (K : PySem.W.Frag) (Φ : Calls) (j : Nat) : Sp := ([spD K Φ 0, spD K Φ 1, spD K Φ 2, spD K Φ 3, spD K Φ 4, spD K Φ 5, spD K Φ 6, spD K Φ 7, spI K Φ 8 0, spD K Φ 9, spD K Φ 10, spD K Φ 11, spD K Φ 12, spD K Φ 13, spD K Φ 14, spD K Φ 15, spD K Φ 16, spD K Φ 17, spD K Φ 18, spD K Φ 19, spD K Φ 20, spD K Φ 21, spD K Φ 22, spD K Φ 23, spD K Φ 24, spD K Φ 25, spD K Φ 26, spD K Φ 27, spD K Φ 28, spD K Φ 29, spD K Φ 30, spD K Φ 31] : List Sp).getD j (spD K Φ j)
/-! what the top has written -/
structure Fx (K : PySem.W.Frag) (mg : Str → Option Value) (fa : Nat → Addr) (fd : Nat → FuncData) (ca : Nat → Addr) (dv : Nat → Value) : Prop where
  f0 : FunW K "law" "law" st0 (fa 0) (fd 0) .none
  m0 : mg "law" = some (.ref (fa 0))
  f1 : FunW K "_law_right" "_law_right" st1 (fa 1) (fd 1) .none
  m1 : mg "_law_right" = some (.ref (fa 1))
  f2 : FunW K "_law_pool" "_law_pool" st2 (fa 2) (fd 2) .none
  m2 : mg "_law_pool" = some (.ref (fa 2))
  f3 : FunW K "_law_cell" "_law_cell" st3 (fa 3) (fd 3) .none
  m3 : mg "_law_cell" = some (.ref (fa 3))
  f4 : FunW K "_law_levels" "_law_levels" st4 (fa 4) (fd 4) .none
  m4 : mg "_law_levels" = some (.ref (fa 4))
  f5 : FunW K "_law_some_parts" "_law_some_parts" st5 (fa 5) (fd 5) .none
  m5 : mg "_law_some_parts" = some (.ref (fa 5))
  f6 : FunW K "_law_rows" "_law_rows" st6 (fa 6) (fd 6) .none
  m6 : mg "_law_rows" = some (.ref (fa 6))
  f7 : FunW K "_law_expanded" "_law_expanded" st7 (fa 7) (fd 7) .none
  m7 : mg "_law_expanded" = some (.ref (fa 7))
  f8 : FunW K "__init__" "Log.__init__" st8 (fa 8) (fd 8) (dv 8)
  e8 : DfW K (dv 8) [.tup []]
  f9 : FunW K "band_table" "band_table" st9 (fa 9) (fd 9) .none
  m9 : mg "band_table" = some (.ref (fa 9))
  f10 : FunW K "_law_draw" "_law_draw" st10 (fa 10) (fd 10) .none
  m10 : mg "_law_draw" = some (.ref (fa 10))
  f11 : FunW K "_law_word" "_law_word" st11 (fa 11) (fd 11) .none
  m11 : mg "_law_word" = some (.ref (fa 11))
  f12 : FunW K "_law_few" "_law_few" st12 (fa 12) (fd 12) .none
  m12 : mg "_law_few" = some (.ref (fa 12))
  f13 : FunW K "_law_parts" "_law_parts" st13 (fa 13) (fd 13) .none
  m13 : mg "_law_parts" = some (.ref (fa 13))
  f14 : FunW K "_law_lengths" "_law_lengths" st14 (fa 14) (fd 14) .none
  m14 : mg "_law_lengths" = some (.ref (fa 14))
  f15 : FunW K "is_level_count" "is_level_count" st15 (fa 15) (fd 15) .none
  m15 : mg "is_level_count" = some (.ref (fa 15))
  f16 : FunW K "first_invalid" "first_invalid" st16 (fa 16) (fd 16) .none
  m16 : mg "first_invalid" = some (.ref (fa 16))
  f17 : FunW K "check_log" "check_log" st17 (fa 17) (fd 17) .none
  m17 : mg "check_log" = some (.ref (fa 17))
  f18 : FunW K "table_of" "table_of" st18 (fa 18) (fd 18) .none
  m18 : mg "table_of" = some (.ref (fa 18))
  f19 : FunW K "_law_size" "_law_size" st19 (fa 19) (fd 19) .none
  m19 : mg "_law_size" = some (.ref (fa 19))
  f20 : FunW K "_law_times" "_law_times" st20 (fa 20) (fd 20) .none
  m20 : mg "_law_times" = some (.ref (fa 20))
  f21 : FunW K "is_between" "is_between" st21 (fa 21) (fd 21) .none
  m21 : mg "is_between" = some (.ref (fa 21))
  f22 : FunW K "measure_part" "measure_part" st22 (fa 22) (fd 22) .none
  m22 : mg "measure_part" = some (.ref (fa 22))
  f23 : FunW K "is_log" "is_log" st23 (fa 23) (fd 23) .none
  m23 : mg "is_log" = some (.ref (fa 23))
  f24 : FunW K "empty_table" "empty_table" st24 (fa 24) (fd 24) .none
  m24 : mg "empty_table" = some (.ref (fa 24))
  f25 : FunW K "appended" "appended" st25 (fa 25) (fd 25) .none
  m25 : mg "appended" = some (.ref (fa 25))
  f26 : FunW K "levels_in" "levels_in" st26 (fa 26) (fd 26) .none
  m26 : mg "levels_in" = some (.ref (fa 26))
  f27 : FunW K "product" "product" st27 (fa 27) (fd 27) .none
  m27 : mg "product" = some (.ref (fa 27))
  f28 : FunW K "power" "power" st28 (fa 28) (fd 28) .none
  m28 : mg "power" = some (.ref (fa 28))
  f29 : FunW K "is_whole" "is_whole" st29 (fa 29) (fd 29) .none
  m29 : mg "is_whole" = some (.ref (fa 29))
  f30 : FunW K "is_level" "is_level" st30 (fa 30) (fd 30) .none
  m30 : mg "is_level" = some (.ref (fa 30))
  f31 : FunW K "measure" "measure" st31 (fa 31) (fd 31) .none
  m31 : mg "measure" = some (.ref (fa 31))
  c0 : ClsF K 0 (ca 0)
  k0 : Mk K (ca 0) (fa 8)
  i0 : IsiF K (ca 0)
  q0 : mg "Log" = some (.ref (ca 0))
  b_abs : mg "abs" = none
  b_all : mg "all" = none
  b_bool : mg "bool" = none
  b_divmod : mg "divmod" = none
  b_enumerate : mg "enumerate" = none
  b_int : mg "int" = none
  b_isinstance : mg "isinstance" = none
  b_len : mg "len" = none
  b_max : mg "max" = none
  b_min : mg "min" = none
  b_range : mg "range" = none
  b_repr : mg "repr" = none
  b_set : mg "set" = none
  b_sorted : mg "sorted" = none
  b_sum : mg "sum" = none
  b_tuple : mg "tuple" = none
  g_MAX_LEVELS : ∃ t : Tok, mg "MAX_LEVELS" = some (.int 12 t)
  g_MAX_DEPTH : ∃ t : Tok, mg "MAX_DEPTH" = some (.int 5 t)
  g_MAX_PARTS : ∃ t : Tok, mg "MAX_PARTS" = some (.int 120 t)
  g_MAX_TIMES : ∃ t : Tok, mg "MAX_TIMES" = some (.int 1000000000000000000000000000000 t)
/-! how the calls bind -/
theorem bp_1_1_ {K : PySem.W.Frag} {f : Addr} {fd : FuncData} (F : FunW K "_law_right" "_law_right" st1 f fd .none) : BindP K fd p1 1 [] [0] := by
  obtain ⟨oc, od, kv, dc, pm, an, cd, ct, sl, rfl, _, _⟩ := F.ex
  intro s us ws zs _ h1 h2 h3
  match us, h1, ws, h2, h3 with
  | [u0], _, [], _, h3 =>
    have e : [u0] = zs := Option.some.inj h3
    subst e
    exact .of_eq rfl
theorem bp_2_1_ {K : PySem.W.Frag} {f : Addr} {fd : FuncData} (F : FunW K "_law_pool" "_law_pool" st2 f fd .none) : BindP K fd p2 1 [] [0] := by
  obtain ⟨oc, od, kv, dc, pm, an, cd, ct, sl, rfl, _, _⟩ := F.ex
  intro s us ws zs _ h1 h2 h3
  match us, h1, ws, h2, h3 with
  | [u0], _, [], _, h3 =>
    have e : [u0] = zs := Option.some.inj h3
    subst e
    exact .of_eq rfl
theorem bp_3_2_ {K : PySem.W.Frag} {f : Addr} {fd : FuncData} (F : FunW K "_law_cell" "_law_cell" st3 f fd .none) : BindP K fd p3 2 [] [0, 1] := by
  obtain ⟨oc, od, kv, dc, pm, an, cd, ct, sl, rfl, _, _⟩ := F.ex
  intro s us ws zs _ h1 h2 h3
  match us, h1, ws, h2, h3 with
  | [u0, u1], _, [], _, h3 =>
    have e : [u0, u1] = zs := Option.some.inj h3
    subst e
    exact .of_eq rfl
theorem bp_4_2_ {K : PySem.W.Frag} {f : Addr} {fd : FuncData} (F : FunW K "_law_levels" "_law_levels" st4 f fd .none) : BindP K fd p4 2 [] [0, 1] := by
  obtain ⟨oc, od, kv, dc, pm, an, cd, ct, sl, rfl, _, _⟩ := F.ex
  intro s us ws zs _ h1 h2 h3
  match us, h1, ws, h2, h3 with
  | [u0, u1], _, [], _, h3 =>
    have e : [u0, u1] = zs := Option.some.inj h3
    subst e
    exact .of_eq rfl
theorem bp_5_2_ {K : PySem.W.Frag} {f : Addr} {fd : FuncData} (F : FunW K "_law_some_parts" "_law_some_parts" st5 f fd .none) : BindP K fd p5 2 [] [0, 1] := by
  obtain ⟨oc, od, kv, dc, pm, an, cd, ct, sl, rfl, _, _⟩ := F.ex
  intro s us ws zs _ h1 h2 h3
  match us, h1, ws, h2, h3 with
  | [u0, u1], _, [], _, h3 =>
    have e : [u0, u1] = zs := Option.some.inj h3
    subst e
    exact .of_eq rfl
theorem bp_6_2_ {K : PySem.W.Frag} {f : Addr} {fd : FuncData} (F : FunW K "_law_rows" "_law_rows" st6 f fd .none) : BindP K fd p6 2 [] [0, 1] := by
  obtain ⟨oc, od, kv, dc, pm, an, cd, ct, sl, rfl, _, _⟩ := F.ex
  intro s us ws zs _ h1 h2 h3
  match us, h1, ws, h2, h3 with
  | [u0, u1], _, [], _, h3 =>
    have e : [u0, u1] = zs := Option.some.inj h3
    subst e
    exact .of_eq rfl
theorem bp_7_1_ {K : PySem.W.Frag} {f : Addr} {fd : FuncData} (F : FunW K "_law_expanded" "_law_expanded" st7 f fd .none) : BindP K fd p7 1 [] [0] := by
  obtain ⟨oc, od, kv, dc, pm, an, cd, ct, sl, rfl, _, _⟩ := F.ex
  intro s us ws zs _ h1 h2 h3
  match us, h1, ws, h2, h3 with
  | [u0], _, [], _, h3 =>
    have e : [u0] = zs := Option.some.inj h3
    subst e
    exact .of_eq rfl
theorem bd_8_3_ {K : PySem.W.Frag} {f : Addr} {fd : FuncData} {dV : Value} (F : FunW K "__init__" "Log.__init__" st8 f fd dV) (W : DfW K dV [.tup []]) : BindDf K fd p8 3 [] [.tup []] [0, 1, 2] := by
  refine bindDf_of F W fun T kV doc pm an cdv ct us ws its zs h1 h2 h0 h3 => ?_
  match us, h1, ws, h2, its, h0, h3 with
  | [u0, u1, u2], _, [], _, [d0], _, h3 =>
    have e : [u0, u1, u2] = zs := Option.some.inj h3
    subst e
    exact ⟨_, rfl, rfl⟩
theorem bp_9_1_ {K : PySem.W.Frag} {f : Addr} {fd : FuncData} (F : FunW K "band_table" "band_table" st9 f fd .none) : BindP K fd p9 1 [] [0] := by
  obtain ⟨oc, od, kv, dc, pm, an, cd, ct, sl, rfl, _, _⟩ := F.ex
  intro s us ws zs _ h1 h2 h3
  match us, h1, ws, h2, h3 with
  | [u0], _, [], _, h3 =>
    have e : [u0] = zs := Option.some.inj h3
    subst e
    exact .of_eq rfl
theorem bp_9_0_log {K : PySem.W.Frag} {f : Addr} {fd : FuncData} (F : FunW K "band_table" "band_table" st9 f fd .none) : BindP K fd p9 0 ["log"] [0] := by
  obtain ⟨oc, od, kv, dc, pm, an, cd, ct, sl, rfl, _, _⟩ := F.ex
  intro s us ws zs _ h1 h2 h3
  match us, h1, ws, h2, h3 with
  | [], _, [w0], _, h3 =>
    have e : [w0] = zs := Option.some.inj h3
    subst e
    exact .of_eq rfl
theorem bd_8_2_ {K : PySem.W.Frag} {f : Addr} {fd : FuncData} {dV : Value} (F : FunW K "__init__" "Log.__init__" st8 f fd dV) (W : DfW K dV [.tup []]) : BindDf K fd p8 2 [] [.tup []] [0, 1, 2] := by
  refine bindDf_of F W fun T kV doc pm an cdv ct us ws its zs h1 h2 h0 h3 => ?_
  match us, h1, ws, h2, its, h0, h3 with
  | [u0, u1], _, [], _, [d0], _, h3 =>
    have e : [u0, u1, d0] = zs := Option.some.inj h3
    subst e
    exact ⟨_, rfl, rfl⟩
theorem bp_10_2_ {K : PySem.W.Frag} {f : Addr} {fd : FuncData} (F : FunW K "_law_draw" "_law_draw" st10 f fd .none) : BindP K fd p10 2 [] [0, 1] := by
  obtain ⟨oc, od, kv, dc, pm, an, cd, ct, sl, rfl, _, _⟩ := F.ex
  intro s us ws zs _ h1 h2 h3
  match us, h1, ws, h2, h3 with
  | [u0, u1], _, [], _, h3 =>
    have e : [u0, u1] = zs := Option.some.inj h3
    subst e
    exact .of_eq rfl
theorem bp_11_3_ {K : PySem.W.Frag} {f : Addr} {fd : FuncData} (F : FunW K "_law_word" "_law_word" st11 f fd .none) : BindP K fd p11 3 [] [0, 1, 2] := by
  obtain ⟨oc, od, kv, dc, pm, an, cd, ct, sl, rfl, _, _⟩ := F.ex
  intro s us ws zs _ h1 h2 h3
  match us, h1, ws, h2, h3 with
  | [u0, u1, u2], _, [], _, h3 =>
    have e : [u0, u1, u2] = zs := Option.some.inj h3
    subst e
    exact .of_eq rfl
theorem bp_12_2_ {K : PySem.W.Frag} {f : Addr} {fd : FuncData} (F : FunW K "_law_few" "_law_few" st12 f fd .none) : BindP K fd p12 2 [] [0, 1] := by
  obtain ⟨oc, od, kv, dc, pm, an, cd, ct, sl, rfl, _, _⟩ := F.ex
  intro s us ws zs _ h1 h2 h3
  match us, h1, ws, h2, h3 with
  | [u0, u1], _, [], _, h3 =>
    have e : [u0, u1] = zs := Option.some.inj h3
    subst e
    exact .of_eq rfl
theorem bp_13_4_ {K : PySem.W.Frag} {f : Addr} {fd : FuncData} (F : FunW K "_law_parts" "_law_parts" st13 f fd .none) : BindP K fd p13 4 [] [0, 1, 2, 3] := by
  obtain ⟨oc, od, kv, dc, pm, an, cd, ct, sl, rfl, _, _⟩ := F.ex
  intro s us ws zs _ h1 h2 h3
  match us, h1, ws, h2, h3 with
  | [u0, u1, u2, u3], _, [], _, h3 =>
    have e : [u0, u1, u2, u3] = zs := Option.some.inj h3
    subst e
    exact .of_eq rfl
theorem bp_14_2_ {K : PySem.W.Frag} {f : Addr} {fd : FuncData} (F : FunW K "_law_lengths" "_law_lengths" st14 f fd .none) : BindP K fd p14 2 [] [0, 1] := by
  obtain ⟨oc, od, kv, dc, pm, an, cd, ct, sl, rfl, _, _⟩ := F.ex
  intro s us ws zs _ h1 h2 h3
  match us, h1, ws, h2, h3 with
  | [u0, u1], _, [], _, h3 =>
    have e : [u0, u1] = zs := Option.some.inj h3
    subst e
    exact .of_eq rfl
theorem bp_15_1_ {K : PySem.W.Frag} {f : Addr} {fd : FuncData} (F : FunW K "is_level_count" "is_level_count" st15 f fd .none) : BindP K fd p15 1 [] [0] := by
  obtain ⟨oc, od, kv, dc, pm, an, cd, ct, sl, rfl, _, _⟩ := F.ex
  intro s us ws zs _ h1 h2 h3
  match us, h1, ws, h2, h3 with
  | [u0], _, [], _, h3 =>
    have e : [u0] = zs := Option.some.inj h3
    subst e
    exact .of_eq rfl
theorem bp_16_2_ {K : PySem.W.Frag} {f : Addr} {fd : FuncData} (F : FunW K "first_invalid" "first_invalid" st16 f fd .none) : BindP K fd p16 2 [] [0, 1] := by
  obtain ⟨oc, od, kv, dc, pm, an, cd, ct, sl, rfl, _, _⟩ := F.ex
  intro s us ws zs _ h1 h2 h3
  match us, h1, ws, h2, h3 with
  | [u0, u1], _, [], _, h3 =>
    have e : [u0, u1] = zs := Option.some.inj h3
    subst e
    exact .of_eq rfl
theorem bp_17_1_ {K : PySem.W.Frag} {f : Addr} {fd : FuncData} (F : FunW K "check_log" "check_log" st17 f fd .none) : BindP K fd p17 1 [] [0] := by
  obtain ⟨oc, od, kv, dc, pm, an, cd, ct, sl, rfl, _, _⟩ := F.ex
  intro s us ws zs _ h1 h2 h3
  match us, h1, ws, h2, h3 with
  | [u0], _, [], _, h3 =>
    have e : [u0] = zs := Option.some.inj h3
    subst e
    exact .of_eq rfl
theorem bp_18_2_ {K : PySem.W.Frag} {f : Addr} {fd : FuncData} (F : FunW K "table_of" "table_of" st18 f fd .none) : BindP K fd p18 2 [] [0, 1] := by
  obtain ⟨oc, od, kv, dc, pm, an, cd, ct, sl, rfl, _, _⟩ := F.ex
  intro s us ws zs _ h1 h2 h3
  match us, h1, ws, h2, h3 with
  | [u0, u1], _, [], _, h3 =>
    have e : [u0, u1] = zs := Option.some.inj h3
    subst e
    exact .of_eq rfl
theorem bp_19_1_ {K : PySem.W.Frag} {f : Addr} {fd : FuncData} (F : FunW K "_law_size" "_law_size" st19 f fd .none) : BindP K fd p19 1 [] [0] := by
  obtain ⟨oc, od, kv, dc, pm, an, cd, ct, sl, rfl, _, _⟩ := F.ex
  intro s us ws zs _ h1 h2 h3
  match us, h1, ws, h2, h3 with
  | [u0], _, [], _, h3 =>
    have e : [u0] = zs := Option.some.inj h3
    subst e
    exact .of_eq rfl
theorem bp_20_1_ {K : PySem.W.Frag} {f : Addr} {fd : FuncData} (F : FunW K "_law_times" "_law_times" st20 f fd .none) : BindP K fd p20 1 [] [0] := by
  obtain ⟨oc, od, kv, dc, pm, an, cd, ct, sl, rfl, _, _⟩ := F.ex
  intro s us ws zs _ h1 h2 h3
  match us, h1, ws, h2, h3 with
  | [u0], _, [], _, h3 =>
    have e : [u0] = zs := Option.some.inj h3
    subst e
    exact .of_eq rfl
theorem bp_21_3_ {K : PySem.W.Frag} {f : Addr} {fd : FuncData} (F : FunW K "is_between" "is_between" st21 f fd .none) : BindP K fd p21 3 [] [0, 1, 2] := by
  obtain ⟨oc, od, kv, dc, pm, an, cd, ct, sl, rfl, _, _⟩ := F.ex
  intro s us ws zs _ h1 h2 h3
  match us, h1, ws, h2, h3 with
  | [u0, u1, u2], _, [], _, h3 =>
    have e : [u0, u1, u2] = zs := Option.some.inj h3
    subst e
    exact .of_eq rfl
theorem bp_22_2_ {K : PySem.W.Frag} {f : Addr} {fd : FuncData} (F : FunW K "measure_part" "measure_part" st22 f fd .none) : BindP K fd p22 2 [] [0, 1] := by
  obtain ⟨oc, od, kv, dc, pm, an, cd, ct, sl, rfl, _, _⟩ := F.ex
  intro s us ws zs _ h1 h2 h3
  match us, h1, ws, h2, h3 with
  | [u0, u1], _, [], _, h3 =>
    have e : [u0, u1] = zs := Option.some.inj h3
    subst e
    exact .of_eq rfl
theorem bp_23_1_ {K : PySem.W.Frag} {f : Addr} {fd : FuncData} (F : FunW K "is_log" "is_log" st23 f fd .none) : BindP K fd p23 1 [] [0] := by
  obtain ⟨oc, od, kv, dc, pm, an, cd, ct, sl, rfl, _, _⟩ := F.ex
  intro s us ws zs _ h1 h2 h3
  match us, h1, ws, h2, h3 with
  | [u0], _, [], _, h3 =>
    have e : [u0] = zs := Option.some.inj h3
    subst e
    exact .of_eq rfl
theorem bp_24_1_ {K : PySem.W.Frag} {f : Addr} {fd : FuncData} (F : FunW K "empty_table" "empty_table" st24 f fd .none) : BindP K fd p24 1 [] [0] := by
  obtain ⟨oc, od, kv, dc, pm, an, cd, ct, sl, rfl, _, _⟩ := F.ex
  intro s us ws zs _ h1 h2 h3
  match us, h1, ws, h2, h3 with
  | [u0], _, [], _, h3 =>
    have e : [u0] = zs := Option.some.inj h3
    subst e
    exact .of_eq rfl
theorem bp_25_2_ {K : PySem.W.Frag} {f : Addr} {fd : FuncData} (F : FunW K "appended" "appended" st25 f fd .none) : BindP K fd p25 2 [] [0, 1] := by
  obtain ⟨oc, od, kv, dc, pm, an, cd, ct, sl, rfl, _, _⟩ := F.ex
  intro s us ws zs _ h1 h2 h3
  match us, h1, ws, h2, h3 with
  | [u0, u1], _, [], _, h3 =>
    have e : [u0, u1] = zs := Option.some.inj h3
    subst e
    exact .of_eq rfl
theorem bp_26_1_ {K : PySem.W.Frag} {f : Addr} {fd : FuncData} (F : FunW K "levels_in" "levels_in" st26 f fd .none) : BindP K fd p26 1 [] [0] := by
  obtain ⟨oc, od, kv, dc, pm, an, cd, ct, sl, rfl, _, _⟩ := F.ex
  intro s us ws zs _ h1 h2 h3
  match us, h1, ws, h2, h3 with
  | [u0], _, [], _, h3 =>
    have e : [u0] = zs := Option.some.inj h3
    subst e
    exact .of_eq rfl
theorem bp_27_2_ {K : PySem.W.Frag} {f : Addr} {fd : FuncData} (F : FunW K "product" "product" st27 f fd .none) : BindP K fd p27 2 [] [0, 1] := by
  obtain ⟨oc, od, kv, dc, pm, an, cd, ct, sl, rfl, _, _⟩ := F.ex
  intro s us ws zs _ h1 h2 h3
  match us, h1, ws, h2, h3 with
  | [u0, u1], _, [], _, h3 =>
    have e : [u0, u1] = zs := Option.some.inj h3
    subst e
    exact .of_eq rfl
theorem bp_28_2_ {K : PySem.W.Frag} {f : Addr} {fd : FuncData} (F : FunW K "power" "power" st28 f fd .none) : BindP K fd p28 2 [] [0, 1] := by
  obtain ⟨oc, od, kv, dc, pm, an, cd, ct, sl, rfl, _, _⟩ := F.ex
  intro s us ws zs _ h1 h2 h3
  match us, h1, ws, h2, h3 with
  | [u0, u1], _, [], _, h3 =>
    have e : [u0, u1] = zs := Option.some.inj h3
    subst e
    exact .of_eq rfl
theorem bp_29_1_ {K : PySem.W.Frag} {f : Addr} {fd : FuncData} (F : FunW K "is_whole" "is_whole" st29 f fd .none) : BindP K fd p29 1 [] [0] := by
  obtain ⟨oc, od, kv, dc, pm, an, cd, ct, sl, rfl, _, _⟩ := F.ex
  intro s us ws zs _ h1 h2 h3
  match us, h1, ws, h2, h3 with
  | [u0], _, [], _, h3 =>
    have e : [u0] = zs := Option.some.inj h3
    subst e
    exact .of_eq rfl
theorem bp_30_2_ {K : PySem.W.Frag} {f : Addr} {fd : FuncData} (F : FunW K "is_level" "is_level" st30 f fd .none) : BindP K fd p30 2 [] [0, 1] := by
  obtain ⟨oc, od, kv, dc, pm, an, cd, ct, sl, rfl, _, _⟩ := F.ex
  intro s us ws zs _ h1 h2 h3
  match us, h1, ws, h2, h3 with
  | [u0, u1], _, [], _, h3 =>
    have e : [u0, u1] = zs := Option.some.inj h3
    subst e
    exact .of_eq rfl
theorem bp_31_2_ {K : PySem.W.Frag} {f : Addr} {fd : FuncData} (F : FunW K "measure" "measure" st31 f fd .none) : BindP K fd p31 2 [] [0, 1] := by
  obtain ⟨oc, od, kv, dc, pm, an, cd, ct, sl, rfl, _, _⟩ := F.ex
  intro s us ws zs _ h1 h2 h3
  match us, h1, ws, h2, h3 with
  | [u0, u1], _, [], _, h3 =>
    have e : [u0, u1] = zs := Option.some.inj h3
    subst e
    exact .of_eq rfl
/-! each body -/
section
variable {P : Program} {w : World} {K : PySem.W.Frag} {mg : Str → Option Value} {base : Heap} {k : Nat} {fa : Nat → Addr} {fd : Nat → FuncData} {ca : Nat → Addr} {dv : Nat → Value} {A : Around} {out : List Env} {s : Shared} {H : Hp} {E : XK} {cd : Value}
theorem b0 (M : Fx K mg fa fd ca dv) (C : ∀ j, FnG P w K mg base L2.CX0 (2 * k) (fa j) (fd j) (psn j) (sps K (callN tbl k) j)) (hr1 : Room (2 * k + 1) (A.deeper (envOfC "law" (defScope st0) s.heap.objs.size (fa 0) cd))) (hg : A.guards = some []) :
    PSs (cxOf L2.CX0 P w K mg base N0 "law" (defScope st0) (fa 0) cd A out s H E).nox (defBody st0) (tS K (execs (callN tbl k) ir0)) :=
  have hr := hr1.mono (Nat.le_succ (2 * k))
  have sc := sc0
  dss_cons (ds_ret (de_bi (cr_allD rfl) (by rfl) M.b_all bt_all (dr_cons (de_comp (own := [("_law_k", 1)]) rfl sc.nd (by kernel_rfl) (by decide) (di_rng1 (by rfl) M.b_range (de_bi (cr_max2D rfl) (by rfl) M.b_max bt_max (dr_cons (de_int) (dr_cons (de_bi (cr_min2D rfl) (by rfl) M.b_min bt_min (dr_cons (de_bi cr_lenD (by rfl) M.b_len bt_len (dr_cons (de_var (pe_var (i := 0) rfl (by first | exact .inl rfl | exact .inr (.inl rfl) | exact .inr (.inr rfl)))) (dr_nil))) (dr_cons (de_int) (dr_nil)))) (dr_nil))))) (fun _ _ _ _ _ => dg_nm (pg_name (i := 1) sc.nd rfl (by first | exact .inl rfl | exact .inr rfl))) (fun _ _ _ _ _ => dts_none) (fun _ _ _ _ _ => de_call (C 1) hr hg M.m1 M.f1.kp (bp_1_1_ M.f1) L2.pass0 (by rfl) (daa_ref (de_call (C 2) hr hg M.m2 M.f2.kp (bp_2_1_ M.f2) L2.pass0 (by rfl) (daa_val (de_call (C 3) hr hg M.m3 M.f3.kp (bp_3_2_ M.f3) L2.pass0 (by rfl) (daa_val (de_var (pe_var (i := 0) rfl (by first | exact .inl rfl | exact .inr (.inl rfl) | exact .inr (.inr rfl)))) (daa_val (de_var (pe_var (i := 1) rfl (by first | exact .inl rfl | exact .inr (.inl rfl) | exact .inr (.inr rfl)))) (daa_nil)))) (daa_nil))) (daa_nil)))) (dr_nil))))
    (dss_nil)
theorem b1 (M : Fx K mg fa fd ca dv) (C : ∀ j, FnG P w K mg base L2.CX0 (2 * k) (fa j) (fd j) (psn j) (sps K (callN tbl k) j)) (hr1 : Room (2 * k + 1) (A.deeper (envOfC "_law_right" (defScope st1) s.heap.objs.size (fa 1) cd))) (hg : A.guards = some []) :
    PSs (cxOf L2.CX0 P w K mg base N1 "_law_right" (defScope st1) (fa 1) cd A out s H E).nox (defBody st1) (tS K (execs (callN tbl k) ir1)) :=
  have hr := hr1.mono (Nat.le_succ (2 * k))
  have sc := sc1
  dss_cons (ds_nm (pg_name (i := 1) sc.nd rfl (by first | exact .inl rfl | exact .inr rfl)) (de_lst (da_nil)))
    (dss_cons (ds_for PassesOwn.never rfl (di_rng1 (by rfl) M.b_range (de_int)) (dg_nm (pg_name (i := 2) sc.nd rfl (by first | exact .inl rfl | exact .inr rfl))) (dss_cons (ds_nm (pg_name (i := 3) sc.nd rfl (by first | exact .inl rfl | exact .inr rfl)) (de_call (C 4) hr hg M.m4 M.f4.kp (bp_4_2_ M.f4) L2.pass0 (by rfl) (daa_ref (de_var (pe_var (i := 0) rfl (by first | exact .inl rfl | exact .inr (.inl rfl) | exact .inr (.inr rfl)))) (daa_val (de_int) (daa_nil)))))
    (dss_cons (ds_nm (pg_name (i := 4) sc.nd rfl (by first | exact .inl rfl | exact .inr rfl)) (de_call (C 5) hr hg M.m5 M.f5.kp (bp_5_2_ M.f5) L2.pass0 (by rfl) (daa_ref (de_var (pe_var (i := 0) rfl (by first | exact .inl rfl | exact .inr (.inl rfl) | exact .inr (.inr rfl)))) (daa_val (de_var (pe_var (i := 3) rfl (by first | exact .inl rfl | exact .inr (.inl rfl) | exact .inr (.inr rfl)))) (daa_nil)))))
    (dss_cons (ds_ex (de_app (pe_var (i := 1) rfl (by first | exact .inl rfl | exact .inr (.inl rfl) | exact .inr (.inr rfl))) (de_tup (da_cons (de_makeB (perm := [0, 1]) (dds := [.tup []]) M.c0 M.k0 M.q0 (C 8) hr1 hg (bd_8_3_ M.f8 M.e8) L2.pass0 (by rfl) (daa_val (de_var (pe_var (i := 3) rfl (by first | exact .inl rfl | exact .inr (.inl rfl) | exact .inr (.inr rfl)))) (daa_val (de_var (pe_var (i := 4) rfl (by first | exact .inl rfl | exact .inr (.inl rfl) | exact .inr (.inr rfl)))) (daa_nil)))) (da_cons (de_makeB (perm := [0, 1]) (dds := [.tup []]) M.c0 M.k0 M.q0 (C 8) hr1 hg (bd_8_3_ M.f8 M.e8) L2.pass0 (by rfl) (daa_val (de_var (pe_var (i := 3) rfl (by first | exact .inl rfl | exact .inr (.inl rfl) | exact .inr (.inr rfl)))) (daa_val (de_tup (da_cons (de_tup (da_cons (de_var (pe_var (i := 4) rfl (by first | exact .inl rfl | exact .inr (.inl rfl) | exact .inr (.inr rfl)))) (da_cons (de_int) (da_nil)))) (da_nil))) (daa_nil)))) (da_cons (de_call (C 6) hr hg M.m6 M.f6.kp (bp_6_2_ M.f6) L2.pass0 (by rfl) (daa_val (de_call (C 7) hr hg M.m7 M.f7.kp (bp_7_1_ M.f7) L2.pass0 (by rfl) (daa_val (de_var (pe_var (i := 4) rfl (by first | exact .inl rfl | exact .inr (.inl rfl) | exact .inr (.inr rfl)))) (daa_nil))) (daa_val (de_var (pe_var (i := 3) rfl (by first | exact .inl rfl | exact .inr (.inl rfl) | exact .inr (.inr rfl)))) (daa_nil)))) (da_nil)))))))
    (dss_wip (dss_nil))))))
    (dss_cons (ds_for PassesOwn.never rfl (di_val (de_bin op_addD (de_var (pe_var (i := 1) rfl (by first | exact .inl rfl | exact .inr (.inl rfl) | exact .inr (.inr rfl)))) (de_rvs (de_var (pe_var (i := 1) rfl (by first | exact .inl rfl | exact .inr (.inl rfl) | exact .inr (.inr rfl))))))) (dg_tp rfl (dgs_cons (dg_nm (pg_name (i := 5) sc.nd rfl (by first | exact .inl rfl | exact .inr rfl))) (dgs_cons (dg_nm (pg_name (i := 6) sc.nd rfl (by first | exact .inl rfl | exact .inr rfl))) (dgs_cons (dg_nm (pg_name (i := 7) sc.nd rfl (by first | exact .inl rfl | exact .inr rfl))) (dgs_nil)))) rfl rfl (fun ds ρ ρ2 h => asgns_len ds ρ ρ2 h)) (dss_cons (ds_if (dt_cmp (op_neDD (rm_units hr)) (de_bi (cr_reprD hg (rm_units70 hr)) (by rfl) M.b_repr bt_repr (dr_cons (de_lst (da_cons (de_call (C 9) hr hg M.m9 M.f9.kp (bp_9_1_ M.f9) L2.pass0 (by rfl) (daa_val (de_var (pe_var (i := 5) rfl (by first | exact .inl rfl | exact .inr (.inl rfl) | exact .inr (.inr rfl)))) (daa_nil))) (da_cons (de_callk0 (C 9) hr hg M.m9 M.f9.kp (bp_9_0_log M.f9) L2.pass0 (by rfl) (dk_val (de_var (pe_var (i := 5) rfl (by first | exact .inl rfl | exact .inr (.inl rfl) | exact .inr (.inr rfl)))) (dk_nil))) (da_cons (de_call (C 9) hr hg M.m9 M.f9.kp (bp_9_1_ M.f9) L2.pass0 (by rfl) (daa_val (de_var (pe_var (i := 6) rfl (by first | exact .inl rfl | exact .inr (.inl rfl) | exact .inr (.inr rfl)))) (daa_nil))) (da_nil))))) (dr_nil))) (de_bi (cr_reprD hg (rm_units70 hr)) (by rfl) M.b_repr bt_repr (dr_cons (de_bin op_mulD (de_lst (da_cons (de_var (pe_var (i := 7) rfl (by first | exact .inl rfl | exact .inr (.inl rfl) | exact .inr (.inr rfl)))) (da_nil))) (de_int)) (dr_nil))) (nomark _)) (dss_cons (ds_ret (de_bl))
    (dss_nil)) (dss_nil))
    (dss_wip (dss_nil))))
    (dss_cons (ds_nm (pg_name (i := 8) sc.nd rfl (by first | exact .inl rfl | exact .inr rfl)) (de_makeB (perm := [0, 1]) (dds := [.tup []]) M.c0 M.k0 M.q0 (C 8) hr1 hg (bd_8_2_ M.f8 M.e8) L2.pass0 (by rfl) (daa_val (de_var (pe_var (i := 3) rfl (by first | exact .inl rfl | exact .inr (.inl rfl) | exact .inr (.inr rfl)))) (daa_nil))))
    (dss_cons (ds_ret (de_and (de_cmp (op_eqDD (rm_units hr)) (de_bi (cr_reprD hg (rm_units70 hr)) (by rfl) M.b_repr bt_repr (dr_cons (de_call (C 9) hr hg M.m9 M.f9.kp (bp_9_1_ M.f9) L2.pass0 (by rfl) (daa_val (de_var (pe_var (i := 8) rfl (by first | exact .inl rfl | exact .inr (.inl rfl) | exact .inr (.inr rfl)))) (daa_nil))) (dr_nil))) (de_bi (cr_reprD hg (rm_units70 hr)) (by rfl) M.b_repr bt_repr (dr_cons (de_call (C 6) hr hg M.m6 M.f6.kp (bp_6_2_ M.f6) L2.pass0 (by rfl) (daa_val (de_lst (da_nil)) (daa_val (de_var (pe_var (i := 3) rfl (by first | exact .inl rfl | exact .inr (.inl rfl) | exact .inr (.inr rfl)))) (daa_nil)))) (dr_nil))) (nomark _)) (de_one (de_cmp (op_eqDD (rm_units hr)) (de_fld (ks := [(0, 1)]) (f := "parts") (de_var (pe_var (i := 8) rfl (by first | exact .inl rfl | exact .inr (.inl rfl) | exact .inr (.inr rfl)))) (allF_cons (i := 1) M.c0 rfl allF_nil)) (de_tup (da_nil)) (nomark _)))))
    (dss_nil)))))
theorem b2 (M : Fx K mg fa fd ca dv) (C : ∀ j, FnG P w K mg base L2.CX0 (2 * k) (fa j) (fd j) (psn j) (sps K (callN tbl k) j)) (hr1 : Room (2 * k + 1) (A.deeper (envOfC "_law_pool" (defScope st2) s.heap.objs.size (fa 2) cd))) (hg : A.guards = some []) :
    PSs (cxOf L2.CX0 P w K mg base N2 "_law_pool" (defScope st2) (fa 2) cd A out s H E).nox (defBody st2) (tS K (execs (callN tbl k) ir2)) :=
  have hr := hr1.mono (Nat.le_succ (2 * k))
  have sc := sc2
  dss_cons (ds_nm (pg_name (i := 1) sc.nd rfl (by first | exact .inl rfl | exact .inr rfl)) (de_int))
    (dss_cons (ds_if (PW.pt (dw_or (dt_cmp op_ltD (de_var (pe_var (i := 0) rfl (by first | exact .inl rfl | exact .inr (.inl rfl) | exact .inr (.inr rfl)))) (de_int) (nomark _)) (dw_one (dt_cmp op_geD (de_var (pe_var (i := 0) rfl (by first | exact .inl rfl | exact .inr (.inl rfl) | exact .inr (.inr rfl)))) (de_bin op_powD (de_int) (de_int)) (nomark _)) (.inr rfl)))) (dss_cons (ds_nm (pg_name (i := 1) sc.nd rfl (by first | exact .inl rfl | exact .inr rfl)) (de_bi cr_absD (by rfl) M.b_abs bt_abs (dr_cons (de_var (pe_var (i := 0) rfl (by first | exact .inl rfl | exact .inr (.inl rfl) | exact .inr (.inr rfl)))) (dr_nil))))
    (dss_nil)) (dss_nil))
    (dss_cons (ds_ret (de_lst (da_cons (de_bin op_modD (de_var (pe_var (i := 0) rfl (by first | exact .inl rfl | exact .inr (.inl rfl) | exact .inr (.inr rfl)))) (de_int)) (da_cons (de_var (pe_var (i := 1) rfl (by first | exact .inl rfl | exact .inr (.inl rfl) | exact .inr (.inr rfl)))) (da_cons (de_int) (da_nil))))))
    (dss_nil)))
theorem b3 (M : Fx K mg fa fd ca dv) (C : ∀ j, FnG P w K mg base L2.CX0 (2 * k) (fa j) (fd j) (psn j) (sps K (callN tbl k) j)) (hr1 : Room (2 * k + 1) (A.deeper (envOfC "_law_cell" (defScope st3) s.heap.objs.size (fa 3) cd))) (hg : A.guards = some []) :
    PSs (cxOf L2.CX0 P w K mg base N3 "_law_cell" (defScope st3) (fa 3) cd A out s H E).nox (defBody st3) (tS K (execs (callN tbl k) ir3)) :=
  have hr := hr1.mono (Nat.le_succ (2 * k))
  have sc := sc3
  dss_cons (ds_if (dt_cmp op_ltD (de_var (pe_var (i := 1) rfl (by first | exact .inl rfl | exact .inr (.inl rfl) | exact .inr (.inr rfl)))) (de_bi cr_lenD (by rfl) M.b_len bt_len (dr_cons (de_var (pe_var (i := 0) rfl (by first | exact .inl rfl | exact .inr (.inl rfl) | exact .inr (.inr rfl)))) (dr_nil))) (nomark _)) (dss_cons (ds_ret (de_idx (de_var (pe_var (i := 0) rfl (by first | exact .inl rfl | exact .inr (.inl rfl) | exact .inr (.inr rfl)))) (de_var (pe_var (i := 1) rfl (by first | exact .inl rfl | exact .inr (.inl rfl) | exact .inr (.inr rfl)))) (fun _ _ => rfl)))
    (dss_nil)) (dss_nil))
    (dss_cons (ds_nm (pg_name (i := 2) sc.nd rfl (by first | exact .inl rfl | exact .inr rfl)) (de_bin op_modD (de_bin op_mulD (de_int) (de_bin op_addD (de_bin op_addD (de_bin op_mulD (de_var (pe_var (i := 1) rfl (by first | exact .inl rfl | exact .inr (.inl rfl) | exact .inr (.inr rfl)))) (de_var (pe_var (i := 1) rfl (by first | exact .inl rfl | exact .inr (.inl rfl) | exact .inr (.inr rfl))))) (de_bin op_mulD (de_int) (de_var (pe_var (i := 1) rfl (by first | exact .inl rfl | exact .inr (.inl rfl) | exact .inr (.inr rfl)))))) (de_int))) (de_int)))
    (dss_cons (ds_for PassesOwn.never rfl (di_val (de_slc (de_var (pe_var (i := 0) rfl (by first | exact .inl rfl | exact .inr (.inl rfl) | exact .inr (.inr rfl)))) (do_none) (do_some (de_int)))) (dg_nm (pg_name (i := 3) sc.nd rfl (by first | exact .inl rfl | exact .inr rfl))) (dss_cons (ds_nm (pg_name (i := 2) sc.nd rfl (by first | exact .inl rfl | exact .inr rfl)) (de_bin op_modD (de_bin op_addD (de_bin op_mulD (de_var (pe_var (i := 2) rfl (by first | exact .inl rfl | exact .inr (.inl rfl) | exact .inr (.inr rfl)))) (de_int)) (de_var (pe_var (i := 3) rfl (by first | exact .inl rfl | exact .inr (.inl rfl) | exact .inr (.inr rfl))))) (de_int)))
    (dss_nil)))
    (dss_cons (ds_ret (de_var (pe_var (i := 2) rfl (by first | exact .inl rfl | exact .inr (.inl rfl) | exact .inr (.inr rfl)))))
    (dss_nil))))
theorem b4 (M : Fx K mg fa fd ca dv) (C : ∀ j, FnG P w K mg base L2.CX0 (2 * k) (fa j) (fd j) (psn j) (sps K (callN tbl k) j)) (hr1 : Room (2 * k + 1) (A.deeper (envOfC "_law_levels" (defScope st4) s.heap.objs.size (fa 4) cd))) (hg : A.guards = some []) :
    PSs (cxOf L2.CX0 P w K mg base N4 "_law_levels" (defScope st4) (fa 4) cd A out s H E).nox (defBody st4) (tS K (execs (callN tbl k) ir4)) :=
  have hr := hr1.mono (Nat.le_succ (2 * k))
  have sc := sc4
  dss_cons (ds_nm (pg_name (i := 2) sc.nd rfl (by first | exact .inl rfl | exact .inr rfl)) (de_cmp (op_eqDD (rm_units hr)) (de_call (C 10) hr hg M.m10 M.f10.kp (bp_10_2_ M.f10) L2.pass0 (by rfl) (daa_ref (de_var (pe_var (i := 0) rfl (by first | exact .inl rfl | exact .inr (.inl rfl) | exact .inr (.inr rfl)))) (daa_val (de_int) (daa_nil)))) (de_int) (nomark _)))
    (dss_cons (ds_ret (de_bin op_addD (de_int) (de_call (C 10) hr hg M.m10 M.f10.kp (bp_10_2_ M.f10) L2.pass0 (by rfl) (daa_ref (de_var (pe_var (i := 0) rfl (by first | exact .inl rfl | exact .inr (.inl rfl) | exact .inr (.inr rfl)))) (daa_val (de_ite (dt_val (de_var (pe_var (i := 2) rfl (by first | exact .inl rfl | exact .inr (.inl rfl) | exact .inr (.inr rfl)))) (fun _ => rfl)) (de_var (pe_var (i := 1) rfl (by first | exact .inl rfl | exact .inr (.inl rfl) | exact .inr (.inr rfl)))) (de_bi (cr_min2D rfl) (by rfl) M.b_min bt_min (dr_cons (de_int) (dr_cons (de_var (pe_var (i := 1) rfl (by first | exact .inl rfl | exact .inr (.inl rfl) | exact .inr (.inr rfl)))) (dr_nil))))) (daa_nil))))))
    (dss_nil))
theorem b5 (M : Fx K mg fa fd ca dv) (C : ∀ j, FnG P w K mg base L2.CX0 (2 * k) (fa j) (fd j) (psn j) (sps K (callN tbl k) j)) (hr1 : Room (2 * k + 1) (A.deeper (envOfC "_law_some_parts" (defScope st5) s.heap.objs.size (fa 5) cd))) (hg : A.guards = some []) :
    PSs (cxOf L2.CX0 P w K mg base N5 "_law_some_parts" (defScope st5) (fa 5) cd A out s H E).nox (defBody st5) (tS K (execs (callN tbl k) ir5)) :=
  have hr := hr1.mono (Nat.le_succ (2 * k))
  have sc := sc5
  dss_cons (ds_if (dt_cmp (op_eqDD (rm_units hr)) (de_call (C 10) hr hg M.m10 M.f10.kp (bp_10_2_ M.f10) L2.pass0 (by rfl) (daa_ref (de_var (pe_var (i := 0) rfl (by first | exact .inl rfl | exact .inr (.inl rfl) | exact .inr (.inr rfl)))) (daa_val (de_int) (daa_nil)))) (de_int) (nomark _)) (dss_cons (ds_ret (de_ty cr_tupleD (by rfl) M.b_tuple bt_tuple (dr_cons (de_call (C 11) hr hg M.m11 M.f11.kp (bp_11_3_ M.f11) L2.pass0 (by rfl) (daa_ref (de_var (pe_var (i := 0) rfl (by first | exact .inl rfl | exact .inr (.inl rfl) | exact .inr (.inr rfl)))) (daa_val (de_var (pe_var (i := 1) rfl (by first | exact .inl rfl | exact .inr (.inl rfl) | exact .inr (.inr rfl)))) (daa_val (de_int) (daa_nil))))) (dr_nil))))
    (dss_nil)) (dss_nil))
    (dss_cons (ds_ret (de_call (C 12) hr hg M.m12 M.f12.kp (bp_12_2_ M.f12) L2.pass0 (by rfl) (daa_val (de_call (C 13) hr hg M.m13 M.f13.kp (bp_13_4_ M.f13) L2.pass0 (by rfl) (daa_ref (de_var (pe_var (i := 0) rfl (by first | exact .inl rfl | exact .inr (.inl rfl) | exact .inr (.inr rfl)))) (daa_val (de_var (pe_var (i := 1) rfl (by first | exact .inl rfl | exact .inr (.inl rfl) | exact .inr (.inr rfl)))) (daa_val (de_int) (daa_val (de_int) (daa_nil)))))) (daa_val (de_int) (daa_nil)))))
    (dss_nil))
theorem b6 (M : Fx K mg fa fd ca dv) (C : ∀ j, FnG P w K mg base L2.CX0 (2 * k) (fa j) (fd j) (psn j) (sps K (callN tbl k) j)) (hr1 : Room (2 * k + 1) (A.deeper (envOfC "_law_rows" (defScope st6) s.heap.objs.size (fa 6) cd))) (hg : A.guards = some []) :
    PSs (cxOf L2.CX0 P w K mg base N6 "_law_rows" (defScope st6) (fa 6) cd A out s H E).nox (defBody st6) (tS K (execs (callN tbl k) ir6)) :=
  have hr := hr1.mono (Nat.le_succ (2 * k))
  have sc := sc6
  dss_cons (ds_nm (pg_name (i := 2) sc.nd rfl (by first | exact .inl rfl | exact .inr rfl)) (de_call (C 14) hr hg M.m14 M.f14.kp (bp_14_2_ M.f14) L2.pass0 (by rfl) (daa_val (de_var (pe_var (i := 0) rfl (by first | exact .inl rfl | exact .inr (.inl rfl) | exact .inr (.inr rfl)))) (daa_val (de_var (pe_var (i := 1) rfl (by first | exact .inl rfl | exact .inr (.inl rfl) | exact .inr (.inr rfl)))) (daa_nil)))))
    (dss_cons (ds_ret (de_ty cr_tupleD (by rfl) M.b_tuple bt_tuple (dr_cons (de_comp (own := [("_law_first", 3)]) rfl sc.nd (by kernel_rfl) (by decide) (di_rng1 (by rfl) M.b_range (de_var (pe_var (i := 1) rfl (by first | exact .inl rfl | exact .inr (.inl rfl) | exact .inr (.inr rfl))))) (fun _ _ _ _ _ => dg_nm (pg_name (i := 3) sc.nd rfl (by first | exact .inl rfl | exact .inr rfl))) (fun _ _ _ _ _ => dts_none) (fun _ _ _ _ _ => de_ty cr_tupleD (by rfl) M.b_tuple bt_tuple (dr_cons (de_slc (de_idx (de_var (pe_var (i := 2) rfl (by first | exact .inl rfl | exact .inr (.inl rfl) | exact .inr (.inr rfl)))) (de_var (pe_var (i := 3) rfl (by first | exact .inl rfl | exact .inr (.inl rfl) | exact .inr (.inr rfl)))) (fun _ _ => rfl)) (do_some (de_bin op_addD (de_var (pe_var (i := 3) rfl (by first | exact .inl rfl | exact .inr (.inl rfl) | exact .inr (.inr rfl)))) (de_int))) (do_none)) (dr_nil)))) (dr_nil))))
    (dss_nil))
theorem b7 (M : Fx K mg fa fd ca dv) (C : ∀ j, FnG P w K mg base L2.CX0 (2 * k) (fa j) (fd j) (psn j) (sps K (callN tbl k) j)) (hr1 : Room (2 * k + 1) (A.deeper (envOfC "_law_expanded" (defScope st7) s.heap.objs.size (fa 7) cd))) (hg : A.guards = some []) :
    PSs (cxOf L2.CX0 P w K mg base N7 "_law_expanded" (defScope st7) (fa 7) cd A out s H E).nox (defBody st7) (tS K (execs (callN tbl k) ir7)) :=
  have hr := hr1.mono (Nat.le_succ (2 * k))
  have sc := sc7
  dss_cons (ds_nm (pg_name (i := 1) sc.nd rfl (by first | exact .inl rfl | exact .inr rfl)) (de_lst (da_nil)))
    (dss_cons (ds_for PassesOwn.never rfl (di_val (de_var (pe_var (i := 0) rfl (by first | exact .inl rfl | exact .inr (.inl rfl) | exact .inr (.inr rfl))))) (dg_nm (pg_name (i := 2) sc.nd rfl (by first | exact .inl rfl | exact .inr rfl))) (dss_cons (ds_if (dt_val (de_isi .int (by rfl) M.b_isinstance (de_bt (by rfl) M.b_int bt_int) (de_var (pe_var (i := 2) rfl (by first | exact .inl rfl | exact .inr (.inl rfl) | exact .inr (.inr rfl))))) (fun _ => rfl)) (dss_cons (ds_ex (de_app (pe_var (i := 1) rfl (by first | exact .inl rfl | exact .inr (.inl rfl) | exact .inr (.inr rfl))) (de_var (pe_var (i := 2) rfl (by first | exact .inl rfl | exact .inr (.inl rfl) | exact .inr (.inr rfl))))))
    (dss_nil)) (dss_cons (ds_ex (de_ext (pe_var (i := 1) rfl (by first | exact .inl rfl | exact .inr (.inl rfl) | exact .inr (.inr rfl))) (de_bin op_mulD (de_call (C 7) hr hg M.m7 M.f7.kp (bp_7_1_ M.f7) L2.pass0 (by rfl) (daa_val (de_idx (de_var (pe_var (i := 2) rfl (by first | exact .inl rfl | exact .inr (.inl rfl) | exact .inr (.inr rfl)))) (de_int) (fun _ _ => rfl)) (daa_nil))) (de_idx (de_var (pe_var (i := 2) rfl (by first | exact .inl rfl | exact .inr (.inl rfl) | exact .inr (.inr rfl)))) (de_int) (fun _ _ => rfl)))))
    (dss_nil)))
    (dss_wip (dss_nil))))
    (dss_cons (ds_ret (de_var (pe_var (i := 1) rfl (by first | exact .inl rfl | exact .inr (.inl rfl) | exact .inr (.inr rfl)))))
    (dss_nil)))
theorem b8 (M : Fx K mg fa fd ca dv) (C : ∀ j, FnG P w K mg base L2.CX0 (2 * k) (fa j) (fd j) (psn j) (sps K (callN tbl k) j)) (hr1 : Room (2 * k + 1) (A.deeper (envOfC "Log.__init__" (defScope st8) s.heap.objs.size (fa 8) cd))) (hg : A.guards = some []) :
    PSs (cxOf L2.CX0 P w K mg base N8 "Log.__init__" (defScope st8) (fa 8) cd A out s H E).nox (defBody st8) (tSI K 0 (execs (callN tbl k) ir8)) :=
  have hr := hr1.mono (Nat.le_succ (2 * k))
  have sc := sc8
  dsi_if (dt_not (dt_val (de_call (C 15) hr hg M.m15 M.f15.kp (bp_15_1_ M.f15) L2.pass0 (by rfl) (daa_val (de_var (pe_var (i := 1) rfl (by first | exact .inl rfl | exact .inr (.inl rfl) | exact .inr (.inr rfl)))) (daa_nil))) (fun _ => rfl))) (dss_cons ds_stk dss_nil) (fun _ _ _ h => by cases h) (dsi_if (dt_not (dt_val (de_isi .tuple (by rfl) M.b_isinstance (de_bt (by rfl) M.b_tuple bt_tuple) (de_var (pe_var (i := 2) rfl (by first | exact .inl rfl | exact .inr (.inl rfl) | exact .inr (.inr rfl))))) (fun _ => rfl))) (dss_cons ds_stk dss_nil) (fun _ _ _ h => by cases h) (dsi_nm (i := 3) (by decide) (pg_name (i := 3) sc.nd rfl (by first | exact .inl rfl | exact .inr rfl)) (de_call (C 16) hr hg M.m16 M.f16.kp (bp_16_2_ M.f16) L2.pass0 (by rfl) (daa_val (de_var (pe_var (i := 1) rfl (by first | exact .inl rfl | exact .inr (.inl rfl) | exact .inr (.inr rfl)))) (daa_val (de_var (pe_var (i := 2) rfl (by first | exact .inl rfl | exact .inr (.inl rfl) | exact .inr (.inr rfl)))) (daa_nil)))) (dsi_if (dt_cmp op_notND (de_var (pe_var (i := 3) rfl (by first | exact .inl rfl | exact .inr (.inl rfl) | exact .inr (.inr rfl)))) (de_non) (nomark _)) (dss_cons ds_stk dss_nil) (fun _ _ _ h => by cases h) (dsi_end (c := 0) rfl (by decide) ⟨_, M.c0⟩ (pe_var (i := 0) rfl (by first | exact .inl rfl | exact .inr (.inl rfl) | exact .inr (.inr rfl))) (pe_var (i := 1) rfl (by first | exact .inl rfl | exact .inr (.inl rfl) | exact .inr (.inr rfl))) (pe_var (i := 0) rfl (by first | exact .inl rfl | exact .inr (.inl rfl) | exact .inr (.inr rfl))) (pe_var (i := 2) rfl (by first | exact .inl rfl | exact .inr (.inl rfl) | exact .inr (.inr rfl)))))))
theorem b9 (M : Fx K mg fa fd ca dv) (C : ∀ j, FnG P w K mg base L2.CX0 (2 * k) (fa j) (fd j) (psn j) (sps K (callN tbl k) j)) (hr1 : Room (2 * k + 1) (A.deeper (envOfC "band_table" (defScope st9) s.heap.objs.size (fa 9) cd))) (hg : A.guards = some []) :
    PSs (cxOf L2.CX0 P w K mg base N9 "band_table" (defScope st9) (fa 9) cd A out s H E).nox (defBody st9) (tS K (execs (callN tbl k) ir9)) :=
  have hr := hr1.mono (Nat.le_succ (2 * k))
  have sc := sc9
  dss_cons (ds_ex (de_call (C 17) hr hg M.m17 M.f17.kp (bp_17_1_ M.f17) L2.pass0 (by rfl) (daa_val (de_var (pe_var (i := 0) rfl (by first | exact .inl rfl | exact .inr (.inl rfl) | exact .inr (.inr rfl)))) (daa_nil))))
    (dss_cons (ds_nm (pg_name (i := 1) sc.nd rfl (by first | exact .inl rfl | exact .inr rfl)) (de_call (C 18) hr hg M.m18 M.f18.kp (bp_18_2_ M.f18) L2.pass0 (by rfl) (daa_val (de_fld (ks := [(0, 0)]) (f := "levels") (de_var (pe_var (i := 0) rfl (by first | exact .inl rfl | exact .inr (.inl rfl) | exact .inr (.inr rfl)))) (allF_cons (i := 0) M.c0 rfl allF_nil)) (daa_val (de_fld (ks := [(0, 1)]) (f := "parts") (de_var (pe_var (i := 0) rfl (by first | exact .inl rfl | exact .inr (.inl rfl) | exact .inr (.inr rfl)))) (allF_cons (i := 1) M.c0 rfl allF_nil)) (daa_nil)))))
    (dss_cons (ds_ret (de_ty cr_tupleD (by rfl) M.b_tuple bt_tuple (dr_cons (de_comp (own := [("low", 2)]) rfl sc.nd (by kernel_rfl) (by decide) (di_rng1 (by rfl) M.b_range (de_fld (ks := [(0, 0)]) (f := "levels") (de_var (pe_var (i := 0) rfl (by first | exact .inl rfl | exact .inr (.inl rfl) | exact .inr (.inr rfl)))) (allF_cons (i := 0) M.c0 rfl allF_nil))) (fun _ _ _ _ _ => dg_nm (pg_name (i := 2) sc.nd rfl (by first | exact .inl rfl | exact .inr rfl))) (fun _ _ _ _ _ => dts_none) (fun _ _ _ _ _ => de_slc (de_idx (de_var (pe_var (i := 1) rfl (by first | exact .inl rfl | exact .inr (.inl rfl) | exact .inr (.inr rfl)))) (de_var (pe_var (i := 2) rfl (by first | exact .inl rfl | exact .inr (.inl rfl) | exact .inr (.inr rfl)))) (fun _ _ => rfl)) (do_some (de_bin op_addD (de_var (pe_var (i := 2) rfl (by first | exact .inl rfl | exact .inr (.inl rfl) | exact .inr (.inr rfl)))) (de_int))) (do_none))) (dr_nil))))
    (dss_nil)))
theorem b10 (M : Fx K mg fa fd ca dv) (C : ∀ j, FnG P w K mg base L2.CX0 (2 * k) (fa j) (fd j) (psn j) (sps K (callN tbl k) j)) (hr1 : Room (2 * k + 1) (A.deeper (envOfC "_law_draw" (defScope st10) s.heap.objs.size (fa 10) cd))) (hg : A.guards = some []) :
    PSs (cxOf L2.CX0 P w K mg base N10 "_law_draw" (defScope st10) (fa 10) cd A out s H E).nox (defBody st10) (tS K (execs (callN tbl k) ir10)) :=
  have hr := hr1.mono (Nat.le_succ (2 * k))
  have sc := sc10
  dss_cons (ds_asg (by intro _ z; cases z) (dg_sub (pe_var (i := 0) rfl (by first | exact .inl rfl | exact .inr (.inl rfl) | exact .inr (.inr rfl))) (de_int)) (de_bin op_addD (de_idx (de_var (pe_var (i := 0) rfl (by first | exact .inl rfl | exact .inr (.inl rfl) | exact .inr (.inr rfl)))) (de_int) (fun _ _ => rfl)) (de_int)))
    (dss_cons (ds_nm (pg_name (i := 2) sc.nd rfl (by first | exact .inl rfl | exact .inr rfl)) (de_idx (de_var (pe_var (i := 0) rfl (by first | exact .inl rfl | exact .inr (.inl rfl) | exact .inr (.inr rfl)))) (de_int) (fun _ _ => rfl)))
    (dss_cons (ds_asg (by intro _ z; cases z) (dg_sub (pe_var (i := 0) rfl (by first | exact .inl rfl | exact .inr (.inl rfl) | exact .inr (.inr rfl))) (de_int)) (de_bin op_modD (de_bin op_addD (de_bin op_addD (de_bin op_mulD (de_var (pe_var (i := 2) rfl (by first | exact .inl rfl | exact .inr (.inl rfl) | exact .inr (.inr rfl)))) (de_bin op_addD (de_bin op_modD (de_ty cr_intD (by rfl) M.b_int bt_int (dr_cons (de_var (pe_var (i := 2) rfl (by first | exact .inl rfl | exact .inr (.inl rfl) | exact .inr (.inr rfl)))) (dr_nil))) (de_int)) (de_int))) (de_bin op_mulD (de_int) (de_idx (de_var (pe_var (i := 0) rfl (by first | exact .inl rfl | exact .inr (.inl rfl) | exact .inr (.inr rfl)))) (de_int) (fun _ _ => rfl)))) (de_int)) (de_int)))
    (dss_cons (ds_if (dt_cmp op_gtD (de_idx (de_var (pe_var (i := 0) rfl (by first | exact .inl rfl | exact .inr (.inl rfl) | exact .inr (.inr rfl)))) (de_int) (fun _ _ => rfl)) (de_int) (nomark _)) (dss_cons (ds_asg (by intro _ z; cases z) (dg_tp rfl (dgs_cons (dg_sub (pe_var (i := 0) rfl (by first | exact .inl rfl | exact .inr (.inl rfl) | exact .inr (.inr rfl))) (de_int)) (dgs_cons (dg_nm (pg_name (i := 3) sc.nd rfl (by first | exact .inl rfl | exact .inr rfl))) (dgs_nil))) rfl rfl (fun ds ρ ρ2 h => asgns_len ds ρ ρ2 h)) (de_bi cr_divmodD (by rfl) M.b_divmod bt_divmod (dr_cons (de_idx (de_var (pe_var (i := 0) rfl (by first | exact .inl rfl | exact .inr (.inl rfl) | exact .inr (.inr rfl)))) (de_int) (fun _ _ => rfl)) (dr_cons (de_var (pe_var (i := 1) rfl (by first | exact .inl rfl | exact .inr (.inl rfl) | exact .inr (.inr rfl)))) (dr_nil)))))
    (dss_cons (ds_ret (de_var (pe_var (i := 3) rfl (by first | exact .inl rfl | exact .inr (.inl rfl) | exact .inr (.inr rfl)))))
    (dss_nil))) (dss_nil))
    (dss_cons (ds_ret (de_bin op_modD (de_bin op_fdivD (de_idx (de_var (pe_var (i := 0) rfl (by first | exact .inl rfl | exact .inr (.inl rfl) | exact .inr (.inr rfl)))) (de_int) (fun _ _ => rfl)) (de_int)) (de_var (pe_var (i := 1) rfl (by first | exact .inl rfl | exact .inr (.inl rfl) | exact .inr (.inr rfl))))))
    (dss_nil)))))
theorem b11 (M : Fx K mg fa fd ca dv) (C : ∀ j, FnG P w K mg base L2.CX0 (2 * k) (fa j) (fd j) (psn j) (sps K (callN tbl k) j)) (hr1 : Room (2 * k + 1) (A.deeper (envOfC "_law_word" (defScope st11) s.heap.objs.size (fa 11) cd))) (hg : A.guards = some []) :
    PSs (cxOf L2.CX0 P w K mg base N11 "_law_word" (defScope st11) (fa 11) cd A out s H E).nox (defBody st11) (tS K (execs (callN tbl k) ir11)) :=
  have hr := hr1.mono (Nat.le_succ (2 * k))
  have sc := sc11
  dss_cons (ds_par3 rfl sc.nd rfl rfl rfl (by decide) (by decide) (by decide) rfl rfl rfl (de_lst (da_nil)) (de_call (C 10) hr hg M.m10 M.f10.kp (bp_10_2_ M.f10) L2.pass0 (by rfl) (daa_ref (de_var (pe_var (i := 0) rfl (by first | exact .inl rfl | exact .inr (.inl rfl) | exact .inr (.inr rfl)))) (daa_val (de_int) (daa_nil)))) (de_call (C 10) hr hg M.m10 M.f10.kp (bp_10_2_ M.f10) L2.pass0 (by rfl) (daa_ref (de_var (pe_var (i := 0) rfl (by first | exact .inl rfl | exact .inr (.inl rfl) | exact .inr (.inr rfl)))) (daa_val (de_var (pe_var (i := 1) rfl (by first | exact .inl rfl | exact .inr (.inl rfl) | exact .inr (.inr rfl)))) (daa_nil)))))
    (dss_cons (ds_for PassesOwn.never rfl (di_rng1 (by rfl) M.b_range (de_call (C 10) hr hg M.m10 M.f10.kp (bp_10_2_ M.f10) L2.pass0 (by rfl) (daa_ref (de_var (pe_var (i := 0) rfl (by first | exact .inl rfl | exact .inr (.inl rfl) | exact .inr (.inr rfl)))) (daa_val (de_bin op_addD (de_var (pe_var (i := 2) rfl (by first | exact .inl rfl | exact .inr (.inl rfl) | exact .inr (.inr rfl)))) (de_int)) (daa_nil))))) (dg_nm (pg_name (i := 6) sc.nd rfl (by first | exact .inl rfl | exact .inr rfl))) (dss_cons (ds_nm (pg_name (i := 7) sc.nd rfl (by first | exact .inl rfl | exact .inr rfl)) (de_idx (de_lst (da_cons (de_call (C 10) hr hg M.m10 M.f10.kp (bp_10_2_ M.f10) L2.pass0 (by rfl) (daa_ref (de_var (pe_var (i := 0) rfl (by first | exact .inl rfl | exact .inr (.inl rfl) | exact .inr (.inr rfl)))) (daa_val (de_var (pe_var (i := 1) rfl (by first | exact .inl rfl | exact .inr (.inl rfl) | exact .inr (.inr rfl)))) (daa_nil)))) (da_cons (de_bin op_addD (de_var (pe_var (i := 5) rfl (by first | exact .inl rfl | exact .inr (.inl rfl) | exact .inr (.inr rfl)))) (de_var (pe_var (i := 6) rfl (by first | exact .inl rfl | exact .inr (.inl rfl) | exact .inr (.inr rfl))))) (da_cons (de_bin op_subD (de_var (pe_var (i := 5) rfl (by first | exact .inl rfl | exact .inr (.inl rfl) | exact .inr (.inr rfl)))) (de_var (pe_var (i := 6) rfl (by first | exact .inl rfl | exact .inr (.inl rfl) | exact .inr (.inr rfl))))) (da_cons (de_bin op_addD (de_var (pe_var (i := 5) rfl (by first | exact .inl rfl | exact .inr (.inl rfl) | exact .inr (.inr rfl)))) (de_call (C 10) hr hg M.m10 M.f10.kp (bp_10_2_ M.f10) L2.pass0 (by rfl) (daa_ref (de_var (pe_var (i := 0) rfl (by first | exact .inl rfl | exact .inr (.inl rfl) | exact .inr (.inr rfl)))) (daa_val (de_int) (daa_nil))))) (da_nil)))))) (de_var (pe_var (i := 4) rfl (by first | exact .inl rfl | exact .inr (.inl rfl) | exact .inr (.inr rfl)))) (fun _ _ => rfl)))
    (dss_cons (ds_ex (de_app (pe_var (i := 3) rfl (by first | exact .inl rfl | exact .inr (.inl rfl) | exact .inr (.inr rfl))) (de_bin op_addD (de_int) (de_bin op_modD (de_ty cr_intD (by rfl) M.b_int bt_int (dr_cons (de_var (pe_var (i := 7) rfl (by first | exact .inl rfl | exact .inr (.inl rfl) | exact .inr (.inr rfl)))) (dr_nil))) (de_var (pe_var (i := 1) rfl (by first | exact .inl rfl | exact .inr (.inl rfl) | exact .inr (.inr rfl))))))))
    (dss_nil))))
    (dss_cons (ds_ret (de_var (pe_var (i := 3) rfl (by first | exact .inl rfl | exact .inr (.inl rfl) | exact .inr (.inr rfl)))))
    (dss_nil)))
theorem b12 (M : Fx K mg fa fd ca dv) (C : ∀ j, FnG P w K mg base L2.CX0 (2 * k) (fa j) (fd j) (psn j) (sps K (callN tbl k) j)) (hr1 : Room (2 * k + 1) (A.deeper (envOfC "_law_few" (defScope st12) s.heap.objs.size (fa 12) cd))) (hg : A.guards = some []) :
    PSs (cxOf L2.CX0 P w K mg base N12 "_law_few" (defScope st12) (fa 12) cd A out s H E).nox (defBody st12) (tS K (execs (callN tbl k) ir12)) :=
  have hr := hr1.mono (Nat.le_succ (2 * k))
  have sc := sc12
  dss_cons (ds_ret (de_ty cr_tupleD (by rfl) M.b_tuple bt_tuple (dr_cons (de_comp (own := [("_law_part", 2)]) rfl sc.nd (by kernel_rfl) (by decide) (di_val (de_var (pe_var (i := 0) rfl (by first | exact .inl rfl | exact .inr (.inl rfl) | exact .inr (.inr rfl))))) (fun _ _ _ _ _ => dg_nm (pg_name (i := 2) sc.nd rfl (by first | exact .inl rfl | exact .inr rfl))) (fun _ _ _ _ _ => dts_none) (fun _ _ _ _ _ => de_ite (dt_val (de_isi .int (by rfl) M.b_isinstance (de_bt (by rfl) M.b_int bt_int) (de_var (pe_var (i := 2) rfl (by first | exact .inl rfl | exact .inr (.inl rfl) | exact .inr (.inr rfl))))) (fun _ => rfl)) (de_var (pe_var (i := 2) rfl (by first | exact .inl rfl | exact .inr (.inl rfl) | exact .inr (.inr rfl)))) (de_tup (da_cons (de_call (C 12) hr hg M.m12 M.f12.kp (bp_12_2_ M.f12) L2.pass0 (by rfl) (daa_val (de_idx (de_var (pe_var (i := 2) rfl (by first | exact .inl rfl | exact .inr (.inl rfl) | exact .inr (.inr rfl)))) (de_int) (fun _ _ => rfl)) (daa_val (de_var (pe_var (i := 1) rfl (by first | exact .inl rfl | exact .inr (.inl rfl) | exact .inr (.inr rfl)))) (daa_nil)))) (da_cons (de_bin op_addD (de_int) (de_bin op_modD (de_ty cr_intD (by rfl) M.b_int bt_int (dr_cons (de_idx (de_var (pe_var (i := 2) rfl (by first | exact .inl rfl | exact .inr (.inl rfl) | exact .inr (.inr rfl)))) (de_int) (fun _ _ => rfl)) (dr_nil))) (de_var (pe_var (i := 1) rfl (by first | exact .inl rfl | exact .inr (.inl rfl) | exact .inr (.inr rfl)))))) (da_nil)))))) (dr_nil))))
    (dss_nil)
theorem b13 (M : Fx K mg fa fd ca dv) (C : ∀ j, FnG P w K mg base L2.CX0 (2 * k) (fa j) (fd j) (psn j) (sps K (callN tbl k) j)) (hr1 : Room (2 * k + 1) (A.deeper (envOfC "_law_parts" (defScope st13) s.heap.objs.size (fa 13) cd))) (hg : A.guards = some []) :
    PSs (cxOf L2.CX0 P w K mg base N13 "_law_parts" (defScope st13) (fa 13) cd A out s H E).nox (defBody st13) (tS K (execs (callN tbl k) ir13)) :=
  have hr := hr1.mono (Nat.le_succ (2 * k))
  have sc := sc13
  dss_cons (ds_nm (pg_name (i := 4) sc.nd rfl (by first | exact .inl rfl | exact .inr rfl)) (de_lst (da_nil)))
    (dss_cons (ds_whl PassesOwn.never (PW.pt (dw_and (dt_cmp op_gtD (de_var (pe_var (i := 2) rfl (by first | exact .inl rfl | exact .inr (.inl rfl) | exact .inr (.inr rfl)))) (de_int) (nomark _)) (dw_one (dt_cmp op_gtD (de_call (C 10) hr hg M.m10 M.f10.kp (bp_10_2_ M.f10) L2.pass0 (by rfl) (daa_ref (de_var (pe_var (i := 0) rfl (by first | exact .inl rfl | exact .inr (.inl rfl) | exact .inr (.inr rfl)))) (daa_val (de_int) (daa_nil)))) (de_int) (nomark _)) (.inl rfl)))) (dss_cons (ds_nm (pg_name (i := 2) sc.nd rfl (by first | exact .inl rfl | exact .inr rfl)) (de_bin op_subD (de_var (pe_var (i := 2) rfl (by first | exact .inl rfl | exact .inr (.inl rfl) | exact .inr (.inr rfl)))) (de_int)))
    (dss_cons (ds_if (PW.pt (dw_and (dt_cmp op_gtD (de_var (pe_var (i := 3) rfl (by first | exact .inl rfl | exact .inr (.inl rfl) | exact .inr (.inr rfl)))) (de_int) (nomark _)) (dw_one (dt_cmp (op_eqDD (rm_units hr)) (de_call (C 10) hr hg M.m10 M.f10.kp (bp_10_2_ M.f10) L2.pass0 (by rfl) (daa_ref (de_var (pe_var (i := 0) rfl (by first | exact .inl rfl | exact .inr (.inl rfl) | exact .inr (.inr rfl)))) (daa_val (de_int) (daa_nil)))) (de_int) (nomark _)) (.inl rfl)))) (dss_cons (ds_nm (pg_name (i := 5) sc.nd rfl (by first | exact .inl rfl | exact .inr rfl)) (de_call (C 13) hr hg M.m13 M.f13.kp (bp_13_4_ M.f13) L2.pass0 (by rfl) (daa_ref (de_var (pe_var (i := 0) rfl (by first | exact .inl rfl | exact .inr (.inl rfl) | exact .inr (.inr rfl)))) (daa_val (de_var (pe_var (i := 1) rfl (by first | exact .inl rfl | exact .inr (.inl rfl) | exact .inr (.inr rfl)))) (daa_val (de_call (C 10) hr hg M.m10 M.f10.kp (bp_10_2_ M.f10) L2.pass0 (by rfl) (daa_ref (de_var (pe_var (i := 0) rfl (by first | exact .inl rfl | exact .inr (.inl rfl) | exact .inr (.inr rfl)))) (daa_val (de_bin op_addD (de_var (pe_var (i := 2) rfl (by first | exact .inl rfl | exact .inr (.inl rfl) | exact .inr (.inr rfl)))) (de_int)) (daa_nil)))) (daa_val (de_bin op_subD (de_var (pe_var (i := 3) rfl (by first | exact .inl rfl | exact .inr (.inl rfl) | exact .inr (.inr rfl)))) (de_int)) (daa_nil)))))))
    (dss_cons (ds_nm (pg_name (i := 2) sc.nd rfl (by first | exact .inl rfl | exact .inr rfl)) (de_bin op_subD (de_var (pe_var (i := 2) rfl (by first | exact .inl rfl | exact .inr (.inl rfl) | exact .inr (.inr rfl)))) (de_call (C 19) hr hg M.m19 M.f19.kp (bp_19_1_ M.f19) L2.pass0 (by rfl) (daa_val (de_var (pe_var (i := 5) rfl (by first | exact .inl rfl | exact .inr (.inl rfl) | exact .inr (.inr rfl)))) (daa_nil)))))
    (dss_cons (ds_ex (de_app (pe_var (i := 4) rfl (by first | exact .inl rfl | exact .inr (.inl rfl) | exact .inr (.inr rfl))) (de_tup (da_cons (de_var (pe_var (i := 5) rfl (by first | exact .inl rfl | exact .inr (.inl rfl) | exact .inr (.inr rfl)))) (da_cons (de_call (C 20) hr hg M.m20 M.f20.kp (bp_20_1_ M.f20) L2.pass0 (by rfl) (daa_ref (de_var (pe_var (i := 0) rfl (by first | exact .inl rfl | exact .inr (.inl rfl) | exact .inr (.inr rfl)))) (daa_nil))) (da_nil))))))
    (dss_nil)))) (dss_cons (ds_ex (de_app (pe_var (i := 4) rfl (by first | exact .inl rfl | exact .inr (.inl rfl) | exact .inr (.inr rfl))) (de_bin op_addD (de_int) (de_call (C 10) hr hg M.m10 M.f10.kp (bp_10_2_ M.f10) L2.pass0 (by rfl) (daa_ref (de_var (pe_var (i := 0) rfl (by first | exact .inl rfl | exact .inr (.inl rfl) | exact .inr (.inr rfl)))) (daa_val (de_var (pe_var (i := 1) rfl (by first | exact .inl rfl | exact .inr (.inl rfl) | exact .inr (.inr rfl)))) (daa_nil)))))))
    (dss_nil)))
    (dss_wip (dss_nil)))))
    (dss_wip (dss_cons (ds_ret (de_ty cr_tupleD (by rfl) M.b_tuple bt_tuple (dr_cons (de_var (pe_var (i := 4) rfl (by first | exact .inl rfl | exact .inr (.inl rfl) | exact .inr (.inr rfl)))) (dr_nil))))
    (dss_nil))))
theorem b14 (M : Fx K mg fa fd ca dv) (C : ∀ j, FnG P w K mg base L2.CX0 (2 * k) (fa j) (fd j) (psn j) (sps K (callN tbl k) j)) (hr1 : Room (2 * k + 1) (A.deeper (envOfC "_law_lengths" (defScope st14) s.heap.objs.size (fa 14) cd))) (hg : A.guards = some []) :
    PSs (cxOf L2.CX0 P w K mg base N14 "_law_lengths" (defScope st14) (fa 14) cd A out s H E).nox (defBody st14) (tS K (execs (callN tbl k) ir14)) :=
  have hr := hr1.mono (Nat.le_succ (2 * k))
  have sc := sc14
  dss_cons (ds_nm (pg_name (i := 2) sc.nd rfl (by first | exact .inl rfl | exact .inr rfl)) (de_lst (da_nil)))
    (dss_cons (ds_for PassesOwn.never rfl (di_rng1 (by rfl) M.b_range (de_bin op_addD (de_var (pe_var (i := 1) rfl (by first | exact .inl rfl | exact .inr (.inl rfl) | exact .inr (.inr rfl)))) (de_int))) (dg_nm (pg_name (i := 3) sc.nd rfl (by first | exact .inl rfl | exact .inr rfl))) (dss_cons (ds_nm (pg_name (i := 4) sc.nd rfl (by first | exact .inl rfl | exact .inr rfl)) (de_bin op_mulD (de_lst (da_cons (de_int) (da_nil))) (de_bin op_addD (de_var (pe_var (i := 1) rfl (by first | exact .inl rfl | exact .inr (.inl rfl) | exact .inr (.inr rfl)))) (de_int))))
    (dss_wip (dss_cons (ds_for PassesOwn.never rfl (di_val (de_var (pe_var (i := 0) rfl (by first | exact .inl rfl | exact .inr (.inl rfl) | exact .inr (.inr rfl))))) (dg_nm (pg_name (i := 5) sc.nd rfl (by first | exact .inl rfl | exact .inr rfl))) (dss_cons (ds_if (dt_cmp op_gtD (de_var (pe_var (i := 5) rfl (by first | exact .inl rfl | exact .inr (.inl rfl) | exact .inr (.inr rfl)))) (de_var (pe_var (i := 3) rfl (by first | exact .inl rfl | exact .inr (.inl rfl) | exact .inr (.inr rfl)))) (nomark _)) (dss_cons (ds_asg (by intro _ z; cases z) (dg_sub (pe_var (i := 4) rfl (by first | exact .inl rfl | exact .inr (.inl rfl) | exact .inr (.inr rfl))) (de_var (pe_var (i := 5) rfl (by first | exact .inl rfl | exact .inr (.inl rfl) | exact .inr (.inr rfl))))) (de_bi (cr_max2D rfl) (by rfl) M.b_max bt_max (dr_cons (de_idx (de_var (pe_var (i := 4) rfl (by first | exact .inl rfl | exact .inr (.inl rfl) | exact .inr (.inr rfl)))) (de_var (pe_var (i := 5) rfl (by first | exact .inl rfl | exact .inr (.inl rfl) | exact .inr (.inr rfl)))) (fun _ _ => rfl)) (dr_cons (de_bin op_addD (de_int) (de_bi (cr_max1D rfl) (by rfl) M.b_max bt_max (dr_cons (de_slc (de_var (pe_var (i := 4) rfl (by first | exact .inl rfl | exact .inr (.inl rfl) | exact .inr (.inr rfl)))) (do_none) (do_some (de_var (pe_var (i := 5) rfl (by first | exact .inl rfl | exact .inr (.inl rfl) | exact .inr (.inr rfl)))))) (dr_nil)))) (dr_nil)))))
    (dss_nil)) (dss_nil))
    (dss_wip (dss_nil))))
    (dss_cons (ds_ex (de_app (pe_var (i := 2) rfl (by first | exact .inl rfl | exact .inr (.inl rfl) | exact .inr (.inr rfl))) (de_comp (own := [("_law_top", 6)]) rfl sc.nd (by kernel_rfl) (by decide) (di_rng1 (by rfl) M.b_range (de_bin op_addD (de_var (pe_var (i := 1) rfl (by first | exact .inl rfl | exact .inr (.inl rfl) | exact .inr (.inr rfl)))) (de_int))) (fun _ _ _ _ _ => dg_nm (pg_name (i := 6) sc.nd rfl (by first | exact .inl rfl | exact .inr rfl))) (fun _ _ _ _ _ => dts_none) (fun _ _ _ _ _ => de_bi (cr_max1D rfl) (by rfl) M.b_max bt_max (dr_cons (de_slc (de_var (pe_var (i := 4) rfl (by first | exact .inl rfl | exact .inr (.inl rfl) | exact .inr (.inr rfl)))) (do_none) (do_some (de_bin op_addD (de_var (pe_var (i := 6) rfl (by first | exact .inl rfl | exact .inr (.inl rfl) | exact .inr (.inr rfl)))) (de_int)))) (dr_nil))))))
    (dss_wip (dss_nil)))))))
    (dss_cons (ds_ret (de_var (pe_var (i := 2) rfl (by first | exact .inl rfl | exact .inr (.inl rfl) | exact .inr (.inr rfl)))))
    (dss_nil)))
theorem b15 (M : Fx K mg fa fd ca dv) (C : ∀ j, FnG P w K mg base L2.CX0 (2 * k) (fa j) (fd j) (psn j) (sps K (callN tbl k) j)) (hr1 : Room (2 * k + 1) (A.deeper (envOfC "is_level_count" (defScope st15) s.heap.objs.size (fa 15) cd))) (hg : A.guards = some []) :
    PSs (cxOf L2.CX0 P w K mg base N15 "is_level_count" (defScope st15) (fa 15) cd A out s H E).nox (defBody st15) (tS K (execs (callN tbl k) ir15)) :=
  have hr := hr1.mono (Nat.le_succ (2 * k))
  have sc := sc15
  dss_cons (ds_ret (de_call (C 21) hr hg M.m21 M.f21.kp (bp_21_3_ M.f21) L2.pass0 (by rfl) (daa_val (de_var (pe_var (i := 0) rfl (by first | exact .inl rfl | exact .inr (.inl rfl) | exact .inr (.inr rfl)))) (daa_val (de_int) (daa_val (de_glob (by rfl) M.g_MAX_LEVELS.choose_spec) (daa_nil))))))
    (dss_nil)
theorem b16 (M : Fx K mg fa fd ca dv) (C : ∀ j, FnG P w K mg base L2.CX0 (2 * k) (fa j) (fd j) (psn j) (sps K (callN tbl k) j)) (hr1 : Room (2 * k + 1) (A.deeper (envOfC "first_invalid" (defScope st16) s.heap.objs.size (fa 16) cd))) (hg : A.guards = some []) :
    PSs (cxOf L2.CX0 P w K mg base N16 "first_invalid" (defScope st16) (fa 16) cd A out s H E).nox (defBody st16) (tS K (execs (callN tbl k) ir16)) :=
  have hr := hr1.mono (Nat.le_succ (2 * k))
  have sc := sc16
  dss_cons (ds_nm (pg_name (i := 2) sc.nd rfl (by first | exact .inl rfl | exact .inr rfl)) (de_int))
    (dss_cons (ds_for PassesOwn.never rfl (di_enum (by rfl) M.b_enumerate (de_var (pe_var (i := 1) rfl (by first | exact .inl rfl | exact .inr (.inl rfl) | exact .inr (.inr rfl))))) (dg_tp rfl (dgs_cons (dg_nm (pg_name (i := 3) sc.nd rfl (by first | exact .inl rfl | exact .inr rfl))) (dgs_cons (dg_nm (pg_name (i := 4) sc.nd rfl (by first | exact .inl rfl | exact .inr rfl))) (dgs_nil))) rfl rfl (fun ds ρ ρ2 h => asgns_len ds ρ ρ2 h)) (dss_cons (ds_nm (pg_name (i := 5) sc.nd rfl (by first | exact .inl rfl | exact .inr rfl)) (de_call (C 22) hr hg M.m22 M.f22.kp (bp_22_2_ M.f22) L2.pass0 (by rfl) (daa_val (de_var (pe_var (i := 0) rfl (by first | exact .inl rfl | exact .inr (.inl rfl) | exact .inr (.inr rfl)))) (daa_val (de_var (pe_var (i := 4) rfl (by first | exact .inl rfl | exact .inr (.inl rfl) | exact .inr (.inr rfl)))) (daa_nil)))))
    (dss_cons (ds_if (PW.pt (dw_or (dt_cmp op_isND (de_var (pe_var (i := 5) rfl (by first | exact .inl rfl | exact .inr (.inl rfl) | exact .inr (.inr rfl)))) (de_non) (nomark _)) (dw_or (dt_cmp op_gtD (de_bin op_addD (de_var (pe_var (i := 2) rfl (by first | exact .inl rfl | exact .inr (.inl rfl) | exact .inr (.inr rfl)))) (de_idx (de_var (pe_var (i := 5) rfl (by first | exact .inl rfl | exact .inr (.inl rfl) | exact .inr (.inr rfl)))) (de_int) (fun _ _ => rfl))) (de_glob (by rfl) M.g_MAX_PARTS.choose_spec) (nomark _)) (dw_one (dt_cmp op_gtD (de_idx (de_var (pe_var (i := 5) rfl (by first | exact .inl rfl | exact .inr (.inl rfl) | exact .inr (.inr rfl)))) (de_int) (fun _ _ => rfl)) (de_glob (by rfl) M.g_MAX_DEPTH.choose_spec) (nomark _)) (.inr rfl))))) (dss_cons (ds_ret (de_var (pe_var (i := 3) rfl (by first | exact .inl rfl | exact .inr (.inl rfl) | exact .inr (.inr rfl)))))
    (dss_nil)) (dss_nil))
    (dss_cons (ds_aug (i := 2) sc.nd rfl (by first | exact .inl rfl | exact .inr rfl) ip_add (fun _ _ => rfl) (de_idx (de_var (pe_var (i := 5) rfl (by first | exact .inl rfl | exact .inr (.inl rfl) | exact .inr (.inr rfl)))) (de_int) (fun _ _ => rfl)))
    (dss_nil)))))
    (dss_cons (ds_ret (de_non))
    (dss_nil)))
theorem b17 (M : Fx K mg fa fd ca dv) (C : ∀ j, FnG P w K mg base L2.CX0 (2 * k) (fa j) (fd j) (psn j) (sps K (callN tbl k) j)) (hr1 : Room (2 * k + 1) (A.deeper (envOfC "check_log" (defScope st17) s.heap.objs.size (fa 17) cd))) (hg : A.guards = some []) :
    PSs (cxOf L2.CX0 P w K mg base N17 "check_log" (defScope st17) (fa 17) cd A out s H E).nox (defBody st17) (tS K (execs (callN tbl k) ir17)) :=
  have hr := hr1.mono (Nat.le_succ (2 * k))
  have sc := sc17
  dss_cons (ds_if (dt_not (dt_val (de_call (C 23) hr hg M.m23 M.f23.kp (bp_23_1_ M.f23) L2.pass0 (by rfl) (daa_val (de_var (pe_var (i := 0) rfl (by first | exact .inl rfl | exact .inr (.inl rfl) | exact .inr (.inr rfl)))) (daa_nil))) (fun _ => rfl))) (dss_cons (ds_stk)
    (dss_nil)) (dss_nil))
    (dss_nil)
theorem b18 (M : Fx K mg fa fd ca dv) (C : ∀ j, FnG P w K mg base L2.CX0 (2 * k) (fa j) (fd j) (psn j) (sps K (callN tbl k) j)) (hr1 : Room (2 * k + 1) (A.deeper (envOfC "table_of" (defScope st18) s.heap.objs.size (fa 18) cd))) (hg : A.guards = some []) :
    PSs (cxOf L2.CX0 P w K mg base N18 "table_of" (defScope st18) (fa 18) cd A out s H E).nox (defBody st18) (tS K (execs (callN tbl k) ir18)) :=
  have hr := hr1.mono (Nat.le_succ (2 * k))
  have sc := sc18
  dss_cons (ds_nm (pg_name (i := 2) sc.nd rfl (by first | exact .inl rfl | exact .inr rfl)) (de_call (C 24) hr hg M.m24 M.f24.kp (bp_24_1_ M.f24) L2.pass0 (by rfl) (daa_val (de_var (pe_var (i := 0) rfl (by first | exact .inl rfl | exact .inr (.inl rfl) | exact .inr (.inr rfl)))) (daa_nil))))
    (dss_cons (ds_for PassesOwn.never rfl (di_val (de_var (pe_var (i := 1) rfl (by first | exact .inl rfl | exact .inr (.inl rfl) | exact .inr (.inr rfl))))) (dg_nm (pg_name (i := 3) sc.nd rfl (by first | exact .inl rfl | exact .inr rfl))) (dss_cons (ds_if (dt_not (dt_val (de_isi .tuple (by rfl) M.b_isinstance (de_bt (by rfl) M.b_tuple bt_tuple) (de_var (pe_var (i := 3) rfl (by first | exact .inl rfl | exact .inr (.inl rfl) | exact .inr (.inr rfl))))) (fun _ => rfl))) (dss_cons (ds_nm (pg_name (i := 2) sc.nd rfl (by first | exact .inl rfl | exact .inr rfl)) (de_call (C 25) hr hg M.m25 M.f25.kp (bp_25_2_ M.f25) L2.pass0 (by rfl) (daa_val (de_var (pe_var (i := 2) rfl (by first | exact .inl rfl | exact .inr (.inl rfl) | exact .inr (.inr rfl)))) (daa_val (de_var (pe_var (i := 3) rfl (by first | exact .inl rfl | exact .inr (.inl rfl) | exact .inr (.inr rfl)))) (daa_nil)))))
    (dss_nil)) (dss_cons (ds_if (dt_val (de_call (C 26) hr hg M.m26 M.f26.kp (bp_26_1_ M.f26) L2.pass0 (by rfl) (daa_val (de_idx (de_var (pe_var (i := 3) rfl (by first | exact .inl rfl | exact .inr (.inl rfl) | exact .inr (.inr rfl)))) (de_int) (fun _ _ => rfl)) (daa_nil))) (fun _ => rfl)) (dss_cons (ds_nm (pg_name (i := 2) sc.nd rfl (by first | exact .inl rfl | exact .inr rfl)) (de_call (C 27) hr hg M.m27 M.f27.kp (bp_27_2_ M.f27) L2.pass0 (by rfl) (daa_val (de_var (pe_var (i := 2) rfl (by first | exact .inl rfl | exact .inr (.inl rfl) | exact .inr (.inr rfl)))) (daa_val (de_call (C 28) hr hg M.m28 M.f28.kp (bp_28_2_ M.f28) L2.pass0 (by rfl) (daa_val (de_call (C 18) hr hg M.m18 M.f18.kp (bp_18_2_ M.f18) L2.pass0 (by rfl) (daa_val (de_var (pe_var (i := 0) rfl (by first | exact .inl rfl | exact .inr (.inl rfl) | exact .inr (.inr rfl)))) (daa_val (de_idx (de_var (pe_var (i := 3) rfl (by first | exact .inl rfl | exact .inr (.inl rfl) | exact .inr (.inr rfl)))) (de_int) (fun _ _ => rfl)) (daa_nil)))) (daa_val (de_idx (de_var (pe_var (i := 3) rfl (by first | exact .inl rfl | exact .inr (.inl rfl) | exact .inr (.inr rfl)))) (de_int) (fun _ _ => rfl)) (daa_nil)))) (daa_nil)))))
    (dss_nil)) (dss_nil))
    (dss_nil)))
    (dss_wip (dss_nil))))
    (dss_cons (ds_ret (de_var (pe_var (i := 2) rfl (by first | exact .inl rfl | exact .inr (.inl rfl) | exact .inr (.inr rfl)))))
    (dss_nil)))
theorem b19 (M : Fx K mg fa fd ca dv) (C : ∀ j, FnG P w K mg base L2.CX0 (2 * k) (fa j) (fd j) (psn j) (sps K (callN tbl k) j)) (hr1 : Room (2 * k + 1) (A.deeper (envOfC "_law_size" (defScope st19) s.heap.objs.size (fa 19) cd))) (hg : A.guards = some []) :
    PSs (cxOf L2.CX0 P w K mg base N19 "_law_size" (defScope st19) (fa 19) cd A out s H E).nox (defBody st19) (tS K (execs (callN tbl k) ir19)) :=
  have hr := hr1.mono (Nat.le_succ (2 * k))
  have sc := sc19
  dss_cons (ds_ret (de_bi (cr_sumD rfl) (by rfl) M.b_sum bt_sum (dr_cons (de_comp (own := [("_law_piece", 1)]) rfl sc.nd (by kernel_rfl) (by decide) (di_val (de_var (pe_var (i := 0) rfl (by first | exact .inl rfl | exact .inr (.inl rfl) | exact .inr (.inr rfl))))) (fun _ _ _ _ _ => dg_nm (pg_name (i := 1) sc.nd rfl (by first | exact .inl rfl | exact .inr rfl))) (fun _ _ _ _ _ => dts_none) (fun _ _ _ _ _ => de_ite (dt_val (de_isi .int (by rfl) M.b_isinstance (de_bt (by rfl) M.b_int bt_int) (de_var (pe_var (i := 1) rfl (by first | exact .inl rfl | exact .inr (.inl rfl) | exact .inr (.inr rfl))))) (fun _ => rfl)) (de_int) (de_bin op_addD (de_int) (de_call (C 19) hr hg M.m19 M.f19.kp (bp_19_1_ M.f19) L2.pass0 (by rfl) (daa_val (de_idx (de_var (pe_var (i := 1) rfl (by first | exact .inl rfl | exact .inr (.inl rfl) | exact .inr (.inr rfl)))) (de_int) (fun _ _ => rfl)) (daa_nil)))))) (dr_nil))))
    (dss_nil)
theorem b20 (M : Fx K mg fa fd ca dv) (C : ∀ j, FnG P w K mg base L2.CX0 (2 * k) (fa j) (fd j) (psn j) (sps K (callN tbl k) j)) (hr1 : Room (2 * k + 1) (A.deeper (envOfC "_law_times" (defScope st20) s.heap.objs.size (fa 20) cd))) (hg : A.guards = some []) :
    PSs (cxOf L2.CX0 P w K mg base N20 "_law_times" (defScope st20) (fa 20) cd A out s H E).nox (defBody st20) (tS K (execs (callN tbl k) ir20)) :=
  have hr := hr1.mono (Nat.le_succ (2 * k))
  have sc := sc20
  dss_cons (ds_ret (de_idx (de_lst (da_cons (de_int) (da_cons (de_int) (da_cons (de_bin op_addD (de_int) (de_call (C 10) hr hg M.m10 M.f10.kp (bp_10_2_ M.f10) L2.pass0 (by rfl) (daa_ref (de_var (pe_var (i := 0) rfl (by first | exact .inl rfl | exact .inr (.inl rfl) | exact .inr (.inr rfl)))) (daa_val (de_int) (daa_nil))))) (da_cons (de_bin op_addD (de_int) (de_call (C 10) hr hg M.m10 M.f10.kp (bp_10_2_ M.f10) L2.pass0 (by rfl) (daa_ref (de_var (pe_var (i := 0) rfl (by first | exact .inl rfl | exact .inr (.inl rfl) | exact .inr (.inr rfl)))) (daa_val (de_bin op_powD (de_int) (de_int)) (daa_nil))))) (da_cons (de_bin op_powD (de_int) (de_int)) (da_nil))))))) (de_call (C 10) hr hg M.m10 M.f10.kp (bp_10_2_ M.f10) L2.pass0 (by rfl) (daa_ref (de_var (pe_var (i := 0) rfl (by first | exact .inl rfl | exact .inr (.inl rfl) | exact .inr (.inr rfl)))) (daa_val (de_int) (daa_nil)))) (fun _ _ => rfl)))
    (dss_nil)
theorem b21 (M : Fx K mg fa fd ca dv) (C : ∀ j, FnG P w K mg base L2.CX0 (2 * k) (fa j) (fd j) (psn j) (sps K (callN tbl k) j)) (hr1 : Room (2 * k + 1) (A.deeper (envOfC "is_between" (defScope st21) s.heap.objs.size (fa 21) cd))) (hg : A.guards = some []) :
    PSs (cxOf L2.CX0 P w K mg base N21 "is_between" (defScope st21) (fa 21) cd A out s H E).nox (defBody st21) (tS K (execs (callN tbl k) ir21)) :=
  have hr := hr1.mono (Nat.le_succ (2 * k))
  have sc := sc21
  dss_cons (ds_ret (de_and (de_call (C 29) hr hg M.m29 M.f29.kp (bp_29_1_ M.f29) L2.pass0 (by rfl) (daa_val (de_var (pe_var (i := 0) rfl (by first | exact .inl rfl | exact .inr (.inl rfl) | exact .inr (.inr rfl)))) (daa_nil))) (de_one (de_chn op_leD op_leD (de_var (pe_var (i := 1) rfl (by first | exact .inl rfl | exact .inr (.inl rfl) | exact .inr (.inr rfl)))) (de_var (pe_var (i := 0) rfl (by first | exact .inl rfl | exact .inr (.inl rfl) | exact .inr (.inr rfl)))) (de_var (pe_var (i := 2) rfl (by first | exact .inl rfl | exact .inr (.inl rfl) | exact .inr (.inr rfl))))))))
    (dss_nil)
theorem b22 (M : Fx K mg fa fd ca dv) (C : ∀ j, FnG P w K mg base L2.CX0 (2 * k) (fa j) (fd j) (psn j) (sps K (callN tbl k) j)) (hr1 : Room (2 * k + 1) (A.deeper (envOfC "measure_part" (defScope st22) s.heap.objs.size (fa 22) cd))) (hg : A.guards = some []) :
    PSs (cxOf L2.CX0 P w K mg base N22 "measure_part" (defScope st22) (fa 22) cd A out s H E).nox (defBody st22) (tS K (execs (callN tbl k) ir22)) :=
  have hr := hr1.mono (Nat.le_succ (2 * k))
  have sc := sc22
  dss_cons (ds_if (dt_val (de_call (C 30) hr hg M.m30 M.f30.kp (bp_30_2_ M.f30) L2.pass0 (by rfl) (daa_val (de_var (pe_var (i := 0) rfl (by first | exact .inl rfl | exact .inr (.inl rfl) | exact .inr (.inr rfl)))) (daa_val (de_var (pe_var (i := 1) rfl (by first | exact .inl rfl | exact .inr (.inl rfl) | exact .inr (.inr rfl)))) (daa_nil)))) (fun _ => rfl)) (dss_cons (ds_ret (de_tup (da_cons (de_int) (da_cons (de_int) (da_nil)))))
    (dss_nil)) (dss_nil))
    (dss_cons (ds_if (PW.pt (dw_or (dt_not (dt_val (de_isi .tuple (by rfl) M.b_isinstance (de_bt (by rfl) M.b_tuple bt_tuple) (de_var (pe_var (i := 1) rfl (by first | exact .inl rfl | exact .inr (.inl rfl) | exact .inr (.inr rfl))))) (fun _ => rfl))) (dw_or (dt_cmp (op_neDD (rm_units hr)) (de_bi cr_lenD (by rfl) M.b_len bt_len (dr_cons (de_var (pe_var (i := 1) rfl (by first | exact .inl rfl | exact .inr (.inl rfl) | exact .inr (.inr rfl)))) (dr_nil))) (de_int) (nomark _)) (dw_one (dt_not (dt_val (de_call (C 21) hr hg M.m21 M.f21.kp (bp_21_3_ M.f21) L2.pass0 (by rfl) (daa_val (de_idx (de_var (pe_var (i := 1) rfl (by first | exact .inl rfl | exact .inr (.inl rfl) | exact .inr (.inr rfl)))) (de_int) (fun _ _ => rfl)) (daa_val (de_int) (daa_val (de_glob (by rfl) M.g_MAX_TIMES.choose_spec) (daa_nil))))) (fun _ => rfl))) (.inr rfl))))) (dss_cons (ds_ret (de_non))
    (dss_nil)) (dss_nil))
    (dss_cons (ds_nm (pg_name (i := 2) sc.nd rfl (by first | exact .inl rfl | exact .inr rfl)) (de_call (C 31) hr hg M.m31 M.f31.kp (bp_31_2_ M.f31) L2.pass0 (by rfl) (daa_val (de_var (pe_var (i := 0) rfl (by first | exact .inl rfl | exact .inr (.inl rfl) | exact .inr (.inr rfl)))) (daa_val (de_idx (de_var (pe_var (i := 1) rfl (by first | exact .inl rfl | exact .inr (.inl rfl) | exact .inr (.inr rfl)))) (de_int) (fun _ _ => rfl)) (daa_nil)))))
    (dss_cons (ds_ret (de_ite (dt_cmp op_isND (de_var (pe_var (i := 2) rfl (by first | exact .inl rfl | exact .inr (.inl rfl) | exact .inr (.inr rfl)))) (de_non) (nomark _)) (de_non) (de_tup (da_cons (de_bin op_addD (de_idx (de_var (pe_var (i := 2) rfl (by first | exact .inl rfl | exact .inr (.inl rfl) | exact .inr (.inr rfl)))) (de_int) (fun _ _ => rfl)) (de_int)) (da_cons (de_bin op_addD (de_idx (de_var (pe_var (i := 2) rfl (by first | exact .inl rfl | exact .inr (.inl rfl) | exact .inr (.inr rfl)))) (de_int) (fun _ _ => rfl)) (de_int)) (da_nil))))))
    (dss_nil))))
theorem b23 (M : Fx K mg fa fd ca dv) (C : ∀ j, FnG P w K mg base L2.CX0 (2 * k) (fa j) (fd j) (psn j) (sps K (callN tbl k) j)) (hr1 : Room (2 * k + 1) (A.deeper (envOfC "is_log" (defScope st23) s.heap.objs.size (fa 23) cd))) (hg : A.guards = some []) :
    PSs (cxOf L2.CX0 P w K mg base N23 "is_log" (defScope st23) (fa 23) cd A out s H E).nox (defBody st23) (tS K (execs (callN tbl k) ir23)) :=
  have hr := hr1.mono (Nat.le_succ (2 * k))
  have sc := sc23
  dss_cons (ds_ret (de_iso M.c0 M.i0 (by rfl) M.b_isinstance (pe_glob (by rfl) M.q0 rfl) (de_var (pe_var (i := 0) rfl (by first | exact .inl rfl | exact .inr (.inl rfl) | exact .inr (.inr rfl))))))
    (dss_nil)
theorem b24 (M : Fx K mg fa fd ca dv) (C : ∀ j, FnG P w K mg base L2.CX0 (2 * k) (fa j) (fd j) (psn j) (sps K (callN tbl k) j)) (hr1 : Room (2 * k + 1) (A.deeper (envOfC "empty_table" (defScope st24) s.heap.objs.size (fa 24) cd))) (hg : A.guards = some []) :
    PSs (cxOf L2.CX0 P w K mg base N24 "empty_table" (defScope st24) (fa 24) cd A out s H E).nox (defBody st24) (tS K (execs (callN tbl k) ir24)) :=
  have hr := hr1.mono (Nat.le_succ (2 * k))
  have sc := sc24
  dss_cons (ds_ret (de_bin op_mulD (de_tup (da_cons (de_bin op_mulD (de_tup (da_cons (de_int) (da_nil))) (de_bin op_addD (de_var (pe_var (i := 0) rfl (by first | exact .inl rfl | exact .inr (.inl rfl) | exact .inr (.inr rfl)))) (de_int))) (da_nil))) (de_bin op_addD (de_var (pe_var (i := 0) rfl (by first | exact .inl rfl | exact .inr (.inl rfl) | exact .inr (.inr rfl)))) (de_int))))
    (dss_nil)
theorem b25 (M : Fx K mg fa fd ca dv) (C : ∀ j, FnG P w K mg base L2.CX0 (2 * k) (fa j) (fd j) (psn j) (sps K (callN tbl k) j)) (hr1 : Room (2 * k + 1) (A.deeper (envOfC "appended" (defScope st25) s.heap.objs.size (fa 25) cd))) (hg : A.guards = some []) :
    PSs (cxOf L2.CX0 P w K mg base N25 "appended" (defScope st25) (fa 25) cd A out s H E).nox (defBody st25) (tS K (execs (callN tbl k) ir25)) :=
  have hr := hr1.mono (Nat.le_succ (2 * k))
  have sc := sc25
  dss_cons (ds_nm (pg_name (i := 2) sc.nd rfl (by first | exact .inl rfl | exact .inr rfl)) (de_lst (da_nil)))
    (dss_cons (ds_for PassesOwn.never rfl (di_enum (by rfl) M.b_enumerate (de_var (pe_var (i := 0) rfl (by first | exact .inl rfl | exact .inr (.inl rfl) | exact .inr (.inr rfl))))) (dg_tp rfl (dgs_cons (dg_nm (pg_name (i := 3) sc.nd rfl (by first | exact .inl rfl | exact .inr rfl))) (dgs_cons (dg_nm (pg_name (i := 4) sc.nd rfl (by first | exact .inl rfl | exact .inr rfl))) (dgs_nil))) rfl rfl (fun ds ρ ρ2 h => asgns_len ds ρ ρ2 h)) (dss_cons (ds_if (dt_cmp op_ltD (de_var (pe_var (i := 3) rfl (by first | exact .inl rfl | exact .inr (.inl rfl) | exact .inr (.inr rfl)))) (de_var (pe_var (i := 1) rfl (by first | exact .inl rfl | exact .inr (.inl rfl) | exact .inr (.inr rfl)))) (nomark _)) (dss_cons (ds_nm (pg_name (i := 4) sc.nd rfl (by first | exact .inl rfl | exact .inr rfl)) (de_bin op_addD (de_slc (de_var (pe_var (i := 4) rfl (by first | exact .inl rfl | exact .inr (.inl rfl) | exact .inr (.inr rfl)))) (do_none) (do_some (de_var (pe_var (i := 1) rfl (by first | exact .inl rfl | exact .inr (.inl rfl) | exact .inr (.inr rfl)))))) (de_ty cr_tupleD (by rfl) M.b_tuple bt_tuple (dr_cons (de_comp (own := [("length", 5)]) rfl sc.nd (by kernel_rfl) (by decide) (di_val (de_slc (de_var (pe_var (i := 4) rfl (by first | exact .inl rfl | exact .inr (.inl rfl) | exact .inr (.inr rfl)))) (do_some (de_var (pe_var (i := 1) rfl (by first | exact .inl rfl | exact .inr (.inl rfl) | exact .inr (.inr rfl))))) (do_none))) (fun _ _ _ _ _ => dg_nm (pg_name (i := 5) sc.nd rfl (by first | exact .inl rfl | exact .inr rfl))) (fun _ _ _ _ _ => dts_none) (fun _ _ _ _ _ => de_bi (cr_max2D rfl) (by rfl) M.b_max bt_max (dr_cons (de_var (pe_var (i := 5) rfl (by first | exact .inl rfl | exact .inr (.inl rfl) | exact .inr (.inr rfl)))) (dr_cons (de_bin op_addD (de_idx (de_var (pe_var (i := 4) rfl (by first | exact .inl rfl | exact .inr (.inl rfl) | exact .inr (.inr rfl)))) (de_bin op_subD (de_var (pe_var (i := 1) rfl (by first | exact .inl rfl | exact .inr (.inl rfl) | exact .inr (.inr rfl)))) (de_int)) (fun _ _ => rfl)) (de_int)) (dr_nil))))) (dr_nil)))))
    (dss_nil)) (dss_nil))
    (dss_cons (ds_ex (de_app (pe_var (i := 2) rfl (by first | exact .inl rfl | exact .inr (.inl rfl) | exact .inr (.inr rfl))) (de_var (pe_var (i := 4) rfl (by first | exact .inl rfl | exact .inr (.inl rfl) | exact .inr (.inr rfl))))))
    (dss_wip (dss_nil)))))
    (dss_cons (ds_ret (de_ty cr_tupleD (by rfl) M.b_tuple bt_tuple (dr_cons (de_var (pe_var (i := 2) rfl (by first | exact .inl rfl | exact .inr (.inl rfl) | exact .inr (.inr rfl)))) (dr_nil))))
    (dss_nil)))
theorem b26 (M : Fx K mg fa fd ca dv) (C : ∀ j, FnG P w K mg base L2.CX0 (2 * k) (fa j) (fd j) (psn j) (sps K (callN tbl k) j)) (hr1 : Room (2 * k + 1) (A.deeper (envOfC "levels_in" (defScope st26) s.heap.objs.size (fa 26) cd))) (hg : A.guards = some []) :
    PSs (cxOf L2.CX0 P w K mg base N26 "levels_in" (defScope st26) (fa 26) cd A out s H E).nox (defBody st26) (tS K (execs (callN tbl k) ir26)) :=
  have hr := hr1.mono (Nat.le_succ (2 * k))
  have sc := sc26
  dss_cons (ds_nm (pg_name (i := 1) sc.nd rfl (by first | exact .inl rfl | exact .inr rfl)) (de_lst (da_nil)))
    (dss_cons (ds_for PassesOwn.never rfl (di_val (de_var (pe_var (i := 0) rfl (by first | exact .inl rfl | exact .inr (.inl rfl) | exact .inr (.inr rfl))))) (dg_nm (pg_name (i := 2) sc.nd rfl (by first | exact .inl rfl | exact .inr rfl))) (dss_cons (ds_ex (de_ext (pe_var (i := 1) rfl (by first | exact .inl rfl | exact .inr (.inl rfl) | exact .inr (.inr rfl))) (de_ite (dt_val (de_isi .tuple (by rfl) M.b_isinstance (de_bt (by rfl) M.b_tuple bt_tuple) (de_var (pe_var (i := 2) rfl (by first | exact .inl rfl | exact .inr (.inl rfl) | exact .inr (.inr rfl))))) (fun _ => rfl)) (de_call (C 26) hr hg M.m26 M.f26.kp (bp_26_1_ M.f26) L2.pass0 (by rfl) (daa_val (de_idx (de_var (pe_var (i := 2) rfl (by first | exact .inl rfl | exact .inr (.inl rfl) | exact .inr (.inr rfl)))) (de_int) (fun _ _ => rfl)) (daa_nil))) (de_lst (da_cons (de_var (pe_var (i := 2) rfl (by first | exact .inl rfl | exact .inr (.inl rfl) | exact .inr (.inr rfl)))) (da_nil))))))
    (dss_nil)))
    (dss_cons (ds_ret (de_sset rfl (by rfl) M.b_sorted (by rfl) M.b_set (de_var (pe_var (i := 1) rfl (by first | exact .inl rfl | exact .inr (.inl rfl) | exact .inr (.inr rfl))))))
    (dss_nil)))
theorem b27 (M : Fx K mg fa fd ca dv) (C : ∀ j, FnG P w K mg base L2.CX0 (2 * k) (fa j) (fd j) (psn j) (sps K (callN tbl k) j)) (hr1 : Room (2 * k + 1) (A.deeper (envOfC "product" (defScope st27) s.heap.objs.size (fa 27) cd))) (hg : A.guards = some []) :
    PSs (cxOf L2.CX0 P w K mg base N27 "product" (defScope st27) (fa 27) cd A out s H E).nox (defBody st27) (tS K (execs (callN tbl k) ir27)) :=
  have hr := hr1.mono (Nat.le_succ (2 * k))
  have sc := sc27
  dss_cons (ds_nm (pg_name (i := 2) sc.nd rfl (by first | exact .inl rfl | exact .inr rfl)) (de_lst (da_nil)))
    (dss_cons (ds_for PassesOwn.never rfl (di_rng1 (by rfl) M.b_range (de_bi cr_lenD (by rfl) M.b_len bt_len (dr_cons (de_var (pe_var (i := 0) rfl (by first | exact .inl rfl | exact .inr (.inl rfl) | exact .inr (.inr rfl)))) (dr_nil)))) (dg_nm (pg_name (i := 3) sc.nd rfl (by first | exact .inl rfl | exact .inr rfl))) (dss_cons (ds_nm (pg_name (i := 4) sc.nd rfl (by first | exact .inl rfl | exact .inr rfl)) (de_bin op_mulD (de_lst (da_cons (de_int) (da_nil))) (de_var (pe_var (i := 3) rfl (by first | exact .inl rfl | exact .inr (.inl rfl) | exact .inr (.inr rfl))))))
    (dss_wip (dss_cons (ds_for PassesOwn.never rfl (di_rng2 (by rfl) M.b_range (de_var (pe_var (i := 3) rfl (by first | exact .inl rfl | exact .inr (.inl rfl) | exact .inr (.inr rfl)))) (de_bi cr_lenD (by rfl) M.b_len bt_len (dr_cons (de_var (pe_var (i := 0) rfl (by first | exact .inl rfl | exact .inr (.inl rfl) | exact .inr (.inr rfl)))) (dr_nil)))) (dg_nm (pg_name (i := 5) sc.nd rfl (by first | exact .inl rfl | exact .inr rfl))) (dss_cons (ds_ex (de_app (pe_var (i := 4) rfl (by first | exact .inl rfl | exact .inr (.inl rfl) | exact .inr (.inr rfl))) (de_bi (cr_max1D rfl) (by rfl) M.b_max bt_max (dr_cons (de_comp (own := [("k", 6)]) rfl sc.nd (by kernel_rfl) (by decide) (di_rng2 (by rfl) M.b_range (de_var (pe_var (i := 3) rfl (by first | exact .inl rfl | exact .inr (.inl rfl) | exact .inr (.inr rfl)))) (de_bin op_addD (de_var (pe_var (i := 5) rfl (by first | exact .inl rfl | exact .inr (.inl rfl) | exact .inr (.inr rfl)))) (de_int))) (fun _ _ _ _ _ => dg_nm (pg_name (i := 6) sc.nd rfl (by first | exact .inl rfl | exact .inr rfl))) (fun _ _ _ _ _ => dts_none) (fun _ _ _ _ _ => de_bin op_addD (de_idx (de_idx (de_var (pe_var (i := 0) rfl (by first | exact .inl rfl | exact .inr (.inl rfl) | exact .inr (.inr rfl)))) (de_var (pe_var (i := 3) rfl (by first | exact .inl rfl | exact .inr (.inl rfl) | exact .inr (.inr rfl)))) (fun _ _ => rfl)) (de_var (pe_var (i := 6) rfl (by first | exact .inl rfl | exact .inr (.inl rfl) | exact .inr (.inr rfl)))) (fun _ _ => rfl)) (de_idx (de_idx (de_var (pe_var (i := 1) rfl (by first | exact .inl rfl | exact .inr (.inl rfl) | exact .inr (.inr rfl)))) (de_var (pe_var (i := 6) rfl (by first | exact .inl rfl | exact .inr (.inl rfl) | exact .inr (.inr rfl)))) (fun _ _ => rfl)) (de_var (pe_var (i := 5) rfl (by first | exact .inl rfl | exact .inr (.inl rfl) | exact .inr (.inr rfl)))) (fun _ _ => rfl)))) (dr_nil)))))
    (dss_wip (dss_nil))))
    (dss_cons (ds_ex (de_app (pe_var (i := 2) rfl (by first | exact .inl rfl | exact .inr (.inl rfl) | exact .inr (.inr rfl))) (de_ty cr_tupleD (by rfl) M.b_tuple bt_tuple (dr_cons (de_var (pe_var (i := 4) rfl (by first | exact .inl rfl | exact .inr (.inl rfl) | exact .inr (.inr rfl)))) (dr_nil)))))
    (dss_wip (dss_nil)))))))
    (dss_cons (ds_ret (de_ty cr_tupleD (by rfl) M.b_tuple bt_tuple (dr_cons (de_var (pe_var (i := 2) rfl (by first | exact .inl rfl | exact .inr (.inl rfl) | exact .inr (.inr rfl)))) (dr_nil))))
    (dss_nil)))
theorem b28 (M : Fx K mg fa fd ca dv) (C : ∀ j, FnG P w K mg base L2.CX0 (2 * k) (fa j) (fd j) (psn j) (sps K (callN tbl k) j)) (hr1 : Room (2 * k + 1) (A.deeper (envOfC "power" (defScope st28) s.heap.objs.size (fa 28) cd))) (hg : A.guards = some []) :
    PSs (cxOf L2.CX0 P w K mg base N28 "power" (defScope st28) (fa 28) cd A out s H E).nox (defBody st28) (tS K (execs (callN tbl k) ir28)) :=
  have hr := hr1.mono (Nat.le_succ (2 * k))
  have sc := sc28
  dss_cons (ds_nm (pg_name (i := 2) sc.nd rfl (by first | exact .inl rfl | exact .inr rfl)) (de_call (C 24) hr hg M.m24 M.f24.kp (bp_24_1_ M.f24) L2.pass0 (by rfl) (daa_val (de_bin op_subD (de_bi cr_lenD (by rfl) M.b_len bt_len (dr_cons (de_var (pe_var (i := 0) rfl (by first | exact .inl rfl | exact .inr (.inl rfl) | exact .inr (.inr rfl)))) (dr_nil))) (de_int)) (daa_nil))))
    (dss_cons (ds_for PassesOwn.never rfl (di_rng1 (by rfl) M.b_range (de_bi (cr_min2D rfl) (by rfl) M.b_min bt_min (dr_cons (de_var (pe_var (i := 1) rfl (by first | exact .inl rfl | exact .inr (.inl rfl) | exact .inr (.inr rfl)))) (dr_cons (de_bin op_subD (de_bi cr_lenD (by rfl) M.b_len bt_len (dr_cons (de_var (pe_var (i := 0) rfl (by first | exact .inl rfl | exact .inr (.inl rfl) | exact .inr (.inr rfl)))) (dr_nil))) (de_int)) (dr_nil))))) (dg_nm (pg_name (i := 3) sc.nd rfl (by first | exact .inl rfl | exact .inr rfl))) (dss_cons (ds_nm (pg_name (i := 4) sc.nd rfl (by first | exact .inl rfl | exact .inr rfl)) (de_call (C 27) hr hg M.m27 M.f27.kp (bp_27_2_ M.f27) L2.pass0 (by rfl) (daa_val (de_var (pe_var (i := 2) rfl (by first | exact .inl rfl | exact .inr (.inl rfl) | exact .inr (.inr rfl)))) (daa_val (de_var (pe_var (i := 0) rfl (by first | exact .inl rfl | exact .inr (.inl rfl) | exact .inr (.inr rfl)))) (daa_nil)))))
    (dss_cons (ds_if (dt_cmp (op_eqDD (rm_units hr)) (de_var (pe_var (i := 4) rfl (by first | exact .inl rfl | exact .inr (.inl rfl) | exact .inr (.inr rfl)))) (de_var (pe_var (i := 2) rfl (by first | exact .inl rfl | exact .inr (.inl rfl) | exact .inr (.inr rfl)))) (nomark _)) (dss_cons (ds_ret (de_var (pe_var (i := 2) rfl (by first | exact .inl rfl | exact .inr (.inl rfl) | exact .inr (.inr rfl)))))
    (dss_nil)) (dss_nil))
    (dss_cons (ds_nm (pg_name (i := 2) sc.nd rfl (by first | exact .inl rfl | exact .inr rfl)) (de_var (pe_var (i := 4) rfl (by first | exact .inl rfl | exact .inr (.inl rfl) | exact .inr (.inr rfl)))))
    (dss_wip (dss_nil))))))
    (dss_cons (ds_ret (de_var (pe_var (i := 2) rfl (by first | exact .inl rfl | exact .inr (.inl rfl) | exact .inr (.inr rfl)))))
    (dss_nil)))
theorem b29 (M : Fx K mg fa fd ca dv) (C : ∀ j, FnG P w K mg base L2.CX0 (2 * k) (fa j) (fd j) (psn j) (sps K (callN tbl k) j)) (hr1 : Room (2 * k + 1) (A.deeper (envOfC "is_whole" (defScope st29) s.heap.objs.size (fa 29) cd))) (hg : A.guards = some []) :
    PSs (cxOf L2.CX0 P w K mg base N29 "is_whole" (defScope st29) (fa 29) cd A out s H E).nox (defBody st29) (tS K (execs (callN tbl k) ir29)) :=
  have hr := hr1.mono (Nat.le_succ (2 * k))
  have sc := sc29
  dss_cons (ds_ret (de_and (de_isi .int (by rfl) M.b_isinstance (de_bt (by rfl) M.b_int bt_int) (de_var (pe_var (i := 0) rfl (by first | exact .inl rfl | exact .inr (.inl rfl) | exact .inr (.inr rfl))))) (de_one (de_not (de_isi .bool (by rfl) M.b_isinstance (de_bt (by rfl) M.b_bool bt_bool) (de_var (pe_var (i := 0) rfl (by first | exact .inl rfl | exact .inr (.inl rfl) | exact .inr (.inr rfl)))))))))
    (dss_nil)
theorem b30 (M : Fx K mg fa fd ca dv) (C : ∀ j, FnG P w K mg base L2.CX0 (2 * k) (fa j) (fd j) (psn j) (sps K (callN tbl k) j)) (hr1 : Room (2 * k + 1) (A.deeper (envOfC "is_level" (defScope st30) s.heap.objs.size (fa 30) cd))) (hg : A.guards = some []) :
    PSs (cxOf L2.CX0 P w K mg base N30 "is_level" (defScope st30) (fa 30) cd A out s H E).nox (defBody st30) (tS K (execs (callN tbl k) ir30)) :=
  have hr := hr1.mono (Nat.le_succ (2 * k))
  have sc := sc30
  dss_cons (ds_ret (de_call (C 21) hr hg M.m21 M.f21.kp (bp_21_3_ M.f21) L2.pass0 (by rfl) (daa_val (de_var (pe_var (i := 1) rfl (by first | exact .inl rfl | exact .inr (.inl rfl) | exact .inr (.inr rfl)))) (daa_val (de_int) (daa_val (de_var (pe_var (i := 0) rfl (by first | exact .inl rfl | exact .inr (.inl rfl) | exact .inr (.inr rfl)))) (daa_nil))))))
    (dss_nil)
theorem b31 (M : Fx K mg fa fd ca dv) (C : ∀ j, FnG P w K mg base L2.CX0 (2 * k) (fa j) (fd j) (psn j) (sps K (callN tbl k) j)) (hr1 : Room (2 * k + 1) (A.deeper (envOfC "measure" (defScope st31) s.heap.objs.size (fa 31) cd))) (hg : A.guards = some []) :
    PSs (cxOf L2.CX0 P w K mg base N31 "measure" (defScope st31) (fa 31) cd A out s H E).nox (defBody st31) (tS K (execs (callN tbl k) ir31)) :=
  have hr := hr1.mono (Nat.le_succ (2 * k))
  have sc := sc31
  dss_cons (ds_if (dt_not (dt_val (de_isi .tuple (by rfl) M.b_isinstance (de_bt (by rfl) M.b_tuple bt_tuple) (de_var (pe_var (i := 1) rfl (by first | exact .inl rfl | exact .inr (.inl rfl) | exact .inr (.inr rfl))))) (fun _ => rfl))) (dss_cons (ds_ret (de_non))
    (dss_nil)) (dss_nil))
    (dss_cons (ds_asg (by intro _ z; cases z) (dg_tp rfl (dgs_cons (dg_nm (pg_name (i := 2) sc.nd rfl (by first | exact .inl rfl | exact .inr rfl))) (dgs_cons (dg_nm (pg_name (i := 3) sc.nd rfl (by first | exact .inl rfl | exact .inr rfl))) (dgs_nil))) rfl rfl (fun ds ρ ρ2 h => asgns_len ds ρ ρ2 h)) (de_tup (da_cons (de_int) (da_cons (de_int) (da_nil)))))
    (dss_cons (ds_for PassesOwn.never rfl (di_val (de_var (pe_var (i := 1) rfl (by first | exact .inl rfl | exact .inr (.inl rfl) | exact .inr (.inr rfl))))) (dg_nm (pg_name (i := 4) sc.nd rfl (by first | exact .inl rfl | exact .inr rfl))) (dss_cons (ds_nm (pg_name (i := 5) sc.nd rfl (by first | exact .inl rfl | exact .inr rfl)) (de_call (C 22) hr hg M.m22 M.f22.kp (bp_22_2_ M.f22) L2.pass0 (by rfl) (daa_val (de_var (pe_var (i := 0) rfl (by first | exact .inl rfl | exact .inr (.inl rfl) | exact .inr (.inr rfl)))) (daa_val (de_var (pe_var (i := 4) rfl (by first | exact .inl rfl | exact .inr (.inl rfl) | exact .inr (.inr rfl)))) (daa_nil)))))
    (dss_cons (ds_if (dt_cmp op_isND (de_var (pe_var (i := 5) rfl (by first | exact .inl rfl | exact .inr (.inl rfl) | exact .inr (.inr rfl)))) (de_non) (nomark _)) (dss_cons (ds_ret (de_non))
    (dss_nil)) (dss_nil))
    (dss_cons (ds_par rfl sc.nd rfl rfl (by decide) rfl rfl (de_bin op_addD (de_var (pe_var (i := 2) rfl (by first | exact .inl rfl | exact .inr (.inl rfl) | exact .inr (.inr rfl)))) (de_idx (de_var (pe_var (i := 5) rfl (by first | exact .inl rfl | exact .inr (.inl rfl) | exact .inr (.inr rfl)))) (de_int) (fun _ _ => rfl))) (de_bi (cr_max2D rfl) (by rfl) M.b_max bt_max (dr_cons (de_var (pe_var (i := 3) rfl (by first | exact .inl rfl | exact .inr (.inl rfl) | exact .inr (.inr rfl)))) (dr_cons (de_idx (de_var (pe_var (i := 5) rfl (by first | exact .inl rfl | exact .inr (.inl rfl) | exact .inr (.inr rfl)))) (de_int) (fun _ _ => rfl)) (dr_nil)))))
    (dss_nil)))))
    (dss_cons (ds_ret (de_tup (da_cons (de_var (pe_var (i := 2) rfl (by first | exact .inl rfl | exact .inr (.inl rfl) | exact .inr (.inr rfl)))) (da_cons (de_var (pe_var (i := 3) rfl (by first | exact .inl rfl | exact .inr (.inl rfl) | exact .inr (.inr rfl)))) (da_nil)))))
    (dss_nil))))
end
theorem tab {P : Program} {w : World} {K : PySem.W.Frag} {mg : Str → Option Value} {base : Heap} {fa : Nat → Addr} {fd : Nat → FuncData} {ca : Nat → Addr} {dv : Nat → Value} (M : Fx K mg fa fd ca dv) : ∀ k j, FnG P w K mg base L2.CX0 (2 * k) (fa j) (fd j) (psn j) (sps K (callN tbl k) j)
  | 0, 0 => fnG_zero
  | 0, 1 => fnG_zero
  | 0, 2 => fnG_zero
  | 0, 3 => fnG_zero
  | 0, 4 => fnG_zero
  | 0, 5 => fnG_zero
  | 0, 6 => fnG_zero
  | 0, 7 => fnG_zero
  | 0, 8 => fnI_zero
  | 0, 9 => fnG_zero
  | 0, 10 => fnG_zero
  | 0, 11 => fnG_zero
  | 0, 12 => fnG_zero
  | 0, 13 => fnG_zero
  | 0, 14 => fnG_zero
  | 0, 15 => fnG_zero
  | 0, 16 => fnG_zero
  | 0, 17 => fnG_zero
  | 0, 18 => fnG_zero
  | 0, 19 => fnG_zero
  | 0, 20 => fnG_zero
  | 0, 21 => fnG_zero
  | 0, 22 => fnG_zero
  | 0, 23 => fnG_zero
  | 0, 24 => fnG_zero
  | 0, 25 => fnG_zero
  | 0, 26 => fnG_zero
  | 0, 27 => fnG_zero
  | 0, 28 => fnG_zero
  | 0, 29 => fnG_zero
  | 0, 30 => fnG_zero
  | 0, 31 => fnG_zero
  | 0, _ + 32 => fnG_zero
  | k + 1, 0 => fnG_tab M.f0 sc0 rfl rfl rfl fun cd A out s H E hr hg => b0 M (tab M k) hr hg
  | k + 1, 1 => fnG_tab M.f1 sc1 rfl rfl rfl fun cd A out s H E hr hg => b1 M (tab M k) hr hg
  | k + 1, 2 => fnG_tab M.f2 sc2 rfl rfl rfl fun cd A out s H E hr hg => b2 M (tab M k) hr hg
  | k + 1, 3 => fnG_tab M.f3 sc3 rfl rfl rfl fun cd A out s H E hr hg => b3 M (tab M k) hr hg
  | k + 1, 4 => fnG_tab M.f4 sc4 rfl rfl rfl fun cd A out s H E hr hg => b4 M (tab M k) hr hg
  | k + 1, 5 => fnG_tab M.f5 sc5 rfl rfl rfl fun cd A out s H E hr hg => b5 M (tab M k) hr hg
  | k + 1, 6 => fnG_tab M.f6 sc6 rfl rfl rfl fun cd A out s H E hr hg => b6 M (tab M k) hr hg
  | k + 1, 7 => fnG_tab M.f7 sc7 rfl rfl rfl fun cd A out s H E hr hg => b7 M (tab M k) hr hg
  | k + 1, 8 => fnI_tab M.f8 sc8 rfl rfl rfl fun cd A out s H E hr hg => b8 M (tab M k) hr hg
  | k + 1, 9 => fnG_tab M.f9 sc9 rfl rfl rfl fun cd A out s H E hr hg => b9 M (tab M k) hr hg
  | k + 1, 10 => fnG_tab M.f10 sc10 rfl rfl rfl fun cd A out s H E hr hg => b10 M (tab M k) hr hg
  | k + 1, 11 => fnG_tab M.f11 sc11 rfl rfl rfl fun cd A out s H E hr hg => b11 M (tab M k) hr hg
  | k + 1, 12 => fnG_tab M.f12 sc12 rfl rfl rfl fun cd A out s H E hr hg => b12 M (tab M k) hr hg
  | k + 1, 13 => fnG_tab M.f13 sc13 rfl rfl rfl fun cd A out s H E hr hg => b13 M (tab M k) hr hg
  | k + 1, 14 => fnG_tab M.f14 sc14 rfl rfl rfl fun cd A out s H E hr hg => b14 M (tab M k) hr hg
  | k + 1, 15 => fnG_tab M.f15 sc15 rfl rfl rfl fun cd A out s H E hr hg => b15 M (tab M k) hr hg
  | k + 1, 16 => fnG_tab M.f16 sc16 rfl rfl rfl fun cd A out s H E hr hg => b16 M (tab M k) hr hg
  | k + 1, 17 => fnG_tab M.f17 sc17 rfl rfl rfl fun cd A out s H E hr hg => b17 M (tab M k) hr hg
  | k + 1, 18 => fnG_tab M.f18 sc18 rfl rfl rfl fun cd A out s H E hr hg => b18 M (tab M k) hr hg
  | k + 1, 19 => fnG_tab M.f19 sc19 rfl rfl rfl fun cd A out s H E hr hg => b19 M (tab M k) hr hg
  | k + 1, 20 => fnG_tab M.f20 sc20 rfl rfl rfl fun cd A out s H E hr hg => b20 M (tab M k) hr hg
  | k + 1, 21 => fnG_tab M.f21 sc21 rfl rfl rfl fun cd A out s H E hr hg => b21 M (tab M k) hr hg
  | k + 1, 22 => fnG_tab M.f22 sc22 rfl rfl rfl fun cd A out s H E hr hg => b22 M (tab M k) hr hg
  | k + 1, 23 => fnG_tab M.f23 sc23 rfl rfl rfl fun cd A out s H E hr hg => b23 M (tab M k) hr hg
  | k + 1, 24 => fnG_tab M.f24 sc24 rfl rfl rfl fun cd A out s H E hr hg => b24 M (tab M k) hr hg
  | k + 1, 25 => fnG_tab M.f25 sc25 rfl rfl rfl fun cd A out s H E hr hg => b25 M (tab M k) hr hg
  | k + 1, 26 => fnG_tab M.f26 sc26 rfl rfl rfl fun cd A out s H E hr hg => b26 M (tab M k) hr hg
  | k + 1, 27 => fnG_tab M.f27 sc27 rfl rfl rfl fun cd A out s H E hr hg => b27 M (tab M k) hr hg
  | k + 1, 28 => fnG_tab M.f28 sc28 rfl rfl rfl fun cd A out s H E hr hg => b28 M (tab M k) hr hg
  | k + 1, 29 => fnG_tab M.f29 sc29 rfl rfl rfl fun cd A out s H E hr hg => b29 M (tab M k) hr hg
  | k + 1, 30 => fnG_tab M.f30 sc30 rfl rfl rfl fun cd A out s H E hr hg => b30 M (tab M k) hr hg
  | k + 1, 31 => fnG_tab M.f31 sc31 rfl rfl rfl fun cd A out s H E hr hg => b31 M (tab M k) hr hg
  | k + 1, j + 32 => fnG_out (List.getElem?_eq_none (Nat.le_add_left 32 j))
/-! the head -/
theorem mk {l : PySem.W.OpenLaw} {w : World} {K : PySem.W.Frag} {h : Heap} {mg : Str → Option Value} {fz : Addr} {k : Nat} (X : K.In h) (G : h.Ns mainGlobals mg) (hz : mg "law" = some (.ref fz))
    {C0 : Addr} (cA0 : PySem.W.nsIn K mainGlobals "Log" = some (some (.ref C0)))
    (cB0 : PySem.W.plainGet K C0 Str.empty = true) (cC0 : PySem.W.hasDictIn K C0 = true) (cD0 : PySem.W.plainOver K C0 = true) (cE0 : PySem.W.findIn K (.ref C0) "__setattr__" = some (some (.builtin "object.__setattr__"))) (cF0 : PySem.W.makesIn K C0 = true) (cG0 : PySem.W.keepIn K (.ref C0) = true)
    (cH0 : PySem.W.findIn K (.ref C0) "__class__" = some (some (.builtin "object.__class__"))) (cI0 : PySem.W.specialIn K (.builtin "object.__class__") "__get__" = some (some (.builtin "getset_descriptor.__get__"))) (cJ0 : PySem.W.takesIn K (.builtin "object.__class__") = some true) (cK0 : PySem.W.mroIn K C0 (.type "object") = some true)
    (cN0_0 : PySem.W.findIn K (.ref C0) "levels" = some none)
    (cN0_1 : PySem.W.findIn K (.ref C0) "parts" = some none)
    {f0 : Addr} {od0 an0 : Option Addr} {sl0 : Array (Option Value)} {oc0 kv0 dc0 pm0 cd0 ct0 : Value}
    (a0 : PySem.W.nsIn K mainGlobals "law" = some (some (.ref f0)))
    (l0 : K.lookup f0 = some ⟨oc0, od0, .func (PySem.W.fnOf "law" "law" (defArgs st0) (defBody st0) (defScope st0) .none kv0 dc0 pm0 an0 cd0 ct0), sl0⟩) (c0 : PySem.W.codeIn K cd0 "law" = true) (k0 : PySem.W.keepIn K (.ref f0) = true)
    {f1 : Addr} {od1 an1 : Option Addr} {sl1 : Array (Option Value)} {oc1 kv1 dc1 pm1 cd1 ct1 : Value}
    (a1 : PySem.W.nsIn K mainGlobals "_law_right" = some (some (.ref f1)))
    (l1 : K.lookup f1 = some ⟨oc1, od1, .func (PySem.W.fnOf "_law_right" "_law_right" (defArgs st1) (defBody st1) (defScope st1) .none kv1 dc1 pm1 an1 cd1 ct1), sl1⟩) (c1 : PySem.W.codeIn K cd1 "_law_right" = true) (k1 : PySem.W.keepIn K (.ref f1) = true)
    {f2 : Addr} {od2 an2 : Option Addr} {sl2 : Array (Option Value)} {oc2 kv2 dc2 pm2 cd2 ct2 : Value}
    (a2 : PySem.W.nsIn K mainGlobals "_law_pool" = some (some (.ref f2)))
    (l2 : K.lookup f2 = some ⟨oc2, od2, .func (PySem.W.fnOf "_law_pool" "_law_pool" (defArgs st2) (defBody st2) (defScope st2) .none kv2 dc2 pm2 an2 cd2 ct2), sl2⟩) (c2 : PySem.W.codeIn K cd2 "_law_pool" = true) (k2 : PySem.W.keepIn K (.ref f2) = true)
    {f3 : Addr} {od3 an3 : Option Addr} {sl3 : Array (Option Value)} {oc3 kv3 dc3 pm3 cd3 ct3 : Value}
    (a3 : PySem.W.nsIn K mainGlobals "_law_cell" = some (some (.ref f3)))
    (l3 : K.lookup f3 = some ⟨oc3, od3, .func (PySem.W.fnOf "_law_cell" "_law_cell" (defArgs st3) (defBody st3) (defScope st3) .none kv3 dc3 pm3 an3 cd3 ct3), sl3⟩) (c3 : PySem.W.codeIn K cd3 "_law_cell" = true) (k3 : PySem.W.keepIn K (.ref f3) = true)
    {f4 : Addr} {od4 an4 : Option Addr} {sl4 : Array (Option Value)} {oc4 kv4 dc4 pm4 cd4 ct4 : Value}
    (a4 : PySem.W.nsIn K mainGlobals "_law_levels" = some (some (.ref f4)))
    (l4 : K.lookup f4 = some ⟨oc4, od4, .func (PySem.W.fnOf "_law_levels" "_law_levels" (defArgs st4) (defBody st4) (defScope st4) .none kv4 dc4 pm4 an4 cd4 ct4), sl4⟩) (c4 : PySem.W.codeIn K cd4 "_law_levels" = true) (k4 : PySem.W.keepIn K (.ref f4) = true)
    {f5 : Addr} {od5 an5 : Option Addr} {sl5 : Array (Option Value)} {oc5 kv5 dc5 pm5 cd5 ct5 : Value}
    (a5 : PySem.W.nsIn K mainGlobals "_law_some_parts" = some (some (.ref f5)))
    (l5 : K.lookup f5 = some ⟨oc5, od5, .func (PySem.W.fnOf "_law_some_parts" "_law_some_parts" (defArgs st5) (defBody st5) (defScope st5) .none kv5 dc5 pm5 an5 cd5 ct5), sl5⟩) (c5 : PySem.W.codeIn K cd5 "_law_some_parts" = true) (k5 : PySem.W.keepIn K (.ref f5) = true)
    {f6 : Addr} {od6 an6 : Option Addr} {sl6 : Array (Option Value)} {oc6 kv6 dc6 pm6 cd6 ct6 : Value}
    (a6 : PySem.W.nsIn K mainGlobals "_law_rows" = some (some (.ref f6)))
    (l6 : K.lookup f6 = some ⟨oc6, od6, .func (PySem.W.fnOf "_law_rows" "_law_rows" (defArgs st6) (defBody st6) (defScope st6) .none kv6 dc6 pm6 an6 cd6 ct6), sl6⟩) (c6 : PySem.W.codeIn K cd6 "_law_rows" = true) (k6 : PySem.W.keepIn K (.ref f6) = true)
    {f7 : Addr} {od7 an7 : Option Addr} {sl7 : Array (Option Value)} {oc7 kv7 dc7 pm7 cd7 ct7 : Value}
    (a7 : PySem.W.nsIn K mainGlobals "_law_expanded" = some (some (.ref f7)))
    (l7 : K.lookup f7 = some ⟨oc7, od7, .func (PySem.W.fnOf "_law_expanded" "_law_expanded" (defArgs st7) (defBody st7) (defScope st7) .none kv7 dc7 pm7 an7 cd7 ct7), sl7⟩) (c7 : PySem.W.codeIn K cd7 "_law_expanded" = true) (k7 : PySem.W.keepIn K (.ref f7) = true)
    {f8 : Addr} {od8 an8 : Option Addr} {sl8 : Array (Option Value)} {oc8 kv8 dc8 pm8 cd8 ct8 : Value}
    {T8 : Addr} {ocT8 : Value} {odT8 : Option Addr} {nT8 : Nat} {slT8 : Array (Option Value)}
    {E8_0 : Addr} {odE8_0 : Option Addr} {nE8_0 : Nat} {slE8_0 : Array (Option Value)}
    (a8 : PySem.W.findIn K (.ref C0) "__init__" = some (some (.ref f8))) (j8 : PySem.W.isFn K (.ref f8) = true)
    (l8 : K.lookup f8 = some ⟨oc8, od8, .func (PySem.W.fnOf "__init__" "Log.__init__" (defArgs st8) (defBody st8) (defScope st8) (.ref T8) kv8 dc8 pm8 an8 cd8 ct8), sl8⟩) (c8 : PySem.W.codeIn K cd8 "Log.__init__" = true) (k8 : PySem.W.keepIn K (.ref f8) = true)
    (dT8 : K.lookup T8 = some ⟨ocT8, odT8, .seq #[.ref E8_0] nT8, slT8⟩)
    (dE8_0 : K.lookup E8_0 = some ⟨.type "tuple", odE8_0, .seq #[] nE8_0, slE8_0⟩)
    {f9 : Addr} {od9 an9 : Option Addr} {sl9 : Array (Option Value)} {oc9 kv9 dc9 pm9 cd9 ct9 : Value}
    (a9 : PySem.W.nsIn K mainGlobals "band_table" = some (some (.ref f9)))
    (l9 : K.lookup f9 = some ⟨oc9, od9, .func (PySem.W.fnOf "band_table" "band_table" (defArgs st9) (defBody st9) (defScope st9) .none kv9 dc9 pm9 an9 cd9 ct9), sl9⟩) (c9 : PySem.W.codeIn K cd9 "band_table" = true) (k9 : PySem.W.keepIn K (.ref f9) = true)
    {f10 : Addr} {od10 an10 : Option Addr} {sl10 : Array (Option Value)} {oc10 kv10 dc10 pm10 cd10 ct10 : Value}
    (a10 : PySem.W.nsIn K mainGlobals "_law_draw" = some (some (.ref f10)))
    (l10 : K.lookup f10 = some ⟨oc10, od10, .func (PySem.W.fnOf "_law_draw" "_law_draw" (defArgs st10) (defBody st10) (defScope st10) .none kv10 dc10 pm10 an10 cd10 ct10), sl10⟩) (c10 : PySem.W.codeIn K cd10 "_law_draw" = true) (k10 : PySem.W.keepIn K (.ref f10) = true)
    {f11 : Addr} {od11 an11 : Option Addr} {sl11 : Array (Option Value)} {oc11 kv11 dc11 pm11 cd11 ct11 : Value}
    (a11 : PySem.W.nsIn K mainGlobals "_law_word" = some (some (.ref f11)))
    (l11 : K.lookup f11 = some ⟨oc11, od11, .func (PySem.W.fnOf "_law_word" "_law_word" (defArgs st11) (defBody st11) (defScope st11) .none kv11 dc11 pm11 an11 cd11 ct11), sl11⟩) (c11 : PySem.W.codeIn K cd11 "_law_word" = true) (k11 : PySem.W.keepIn K (.ref f11) = true)
    {f12 : Addr} {od12 an12 : Option Addr} {sl12 : Array (Option Value)} {oc12 kv12 dc12 pm12 cd12 ct12 : Value}
    (a12 : PySem.W.nsIn K mainGlobals "_law_few" = some (some (.ref f12)))
    (l12 : K.lookup f12 = some ⟨oc12, od12, .func (PySem.W.fnOf "_law_few" "_law_few" (defArgs st12) (defBody st12) (defScope st12) .none kv12 dc12 pm12 an12 cd12 ct12), sl12⟩) (c12 : PySem.W.codeIn K cd12 "_law_few" = true) (k12 : PySem.W.keepIn K (.ref f12) = true)
    {f13 : Addr} {od13 an13 : Option Addr} {sl13 : Array (Option Value)} {oc13 kv13 dc13 pm13 cd13 ct13 : Value}
    (a13 : PySem.W.nsIn K mainGlobals "_law_parts" = some (some (.ref f13)))
    (l13 : K.lookup f13 = some ⟨oc13, od13, .func (PySem.W.fnOf "_law_parts" "_law_parts" (defArgs st13) (defBody st13) (defScope st13) .none kv13 dc13 pm13 an13 cd13 ct13), sl13⟩) (c13 : PySem.W.codeIn K cd13 "_law_parts" = true) (k13 : PySem.W.keepIn K (.ref f13) = true)
    {f14 : Addr} {od14 an14 : Option Addr} {sl14 : Array (Option Value)} {oc14 kv14 dc14 pm14 cd14 ct14 : Value}
    (a14 : PySem.W.nsIn K mainGlobals "_law_lengths" = some (some (.ref f14)))
    (l14 : K.lookup f14 = some ⟨oc14, od14, .func (PySem.W.fnOf "_law_lengths" "_law_lengths" (defArgs st14) (defBody st14) (defScope st14) .none kv14 dc14 pm14 an14 cd14 ct14), sl14⟩) (c14 : PySem.W.codeIn K cd14 "_law_lengths" = true) (k14 : PySem.W.keepIn K (.ref f14) = true)
    {f15 : Addr} {od15 an15 : Option Addr} {sl15 : Array (Option Value)} {oc15 kv15 dc15 pm15 cd15 ct15 : Value}
    (a15 : PySem.W.nsIn K mainGlobals "is_level_count" = some (some (.ref f15)))
    (l15 : K.lookup f15 = some ⟨oc15, od15, .func (PySem.W.fnOf "is_level_count" "is_level_count" (defArgs st15) (defBody st15) (defScope st15) .none kv15 dc15 pm15 an15 cd15 ct15), sl15⟩) (c15 : PySem.W.codeIn K cd15 "is_level_count" = true) (k15 : PySem.W.keepIn K (.ref f15) = true)
    {f16 : Addr} {od16 an16 : Option Addr} {sl16 : Array (Option Value)} {oc16 kv16 dc16 pm16 cd16 ct16 : Value}
    (a16 : PySem.W.nsIn K mainGlobals "first_invalid" = some (some (.ref f16)))
    (l16 : K.lookup f16 = some ⟨oc16, od16, .func (PySem.W.fnOf "first_invalid" "first_invalid" (defArgs st16) (defBody st16) (defScope st16) .none kv16 dc16 pm16 an16 cd16 ct16), sl16⟩) (c16 : PySem.W.codeIn K cd16 "first_invalid" = true) (k16 : PySem.W.keepIn K (.ref f16) = true)
    {f17 : Addr} {od17 an17 : Option Addr} {sl17 : Array (Option Value)} {oc17 kv17 dc17 pm17 cd17 ct17 : Value}
    (a17 : PySem.W.nsIn K mainGlobals "check_log" = some (some (.ref f17)))
    (l17 : K.lookup f17 = some ⟨oc17, od17, .func (PySem.W.fnOf "check_log" "check_log" (defArgs st17) (defBody st17) (defScope st17) .none kv17 dc17 pm17 an17 cd17 ct17), sl17⟩) (c17 : PySem.W.codeIn K cd17 "check_log" = true) (k17 : PySem.W.keepIn K (.ref f17) = true)
    {f18 : Addr} {od18 an18 : Option Addr} {sl18 : Array (Option Value)} {oc18 kv18 dc18 pm18 cd18 ct18 : Value}
    (a18 : PySem.W.nsIn K mainGlobals "table_of" = some (some (.ref f18)))
    (l18 : K.lookup f18 = some ⟨oc18, od18, .func (PySem.W.fnOf "table_of" "table_of" (defArgs st18) (defBody st18) (defScope st18) .none kv18 dc18 pm18 an18 cd18 ct18), sl18⟩) (c18 : PySem.W.codeIn K cd18 "table_of" = true) (k18 : PySem.W.keepIn K (.ref f18) = true)
    {f19 : Addr} {od19 an19 : Option Addr} {sl19 : Array (Option Value)} {oc19 kv19 dc19 pm19 cd19 ct19 : Value}
    (a19 : PySem.W.nsIn K mainGlobals "_law_size" = some (some (.ref f19)))
    (l19 : K.lookup f19 = some ⟨oc19, od19, .func (PySem.W.fnOf "_law_size" "_law_size" (defArgs st19) (defBody st19) (defScope st19) .none kv19 dc19 pm19 an19 cd19 ct19), sl19⟩) (c19 : PySem.W.codeIn K cd19 "_law_size" = true) (k19 : PySem.W.keepIn K (.ref f19) = true)
    {f20 : Addr} {od20 an20 : Option Addr} {sl20 : Array (Option Value)} {oc20 kv20 dc20 pm20 cd20 ct20 : Value}
    (a20 : PySem.W.nsIn K mainGlobals "_law_times" = some (some (.ref f20)))
    (l20 : K.lookup f20 = some ⟨oc20, od20, .func (PySem.W.fnOf "_law_times" "_law_times" (defArgs st20) (defBody st20) (defScope st20) .none kv20 dc20 pm20 an20 cd20 ct20), sl20⟩) (c20 : PySem.W.codeIn K cd20 "_law_times" = true) (k20 : PySem.W.keepIn K (.ref f20) = true)
    {f21 : Addr} {od21 an21 : Option Addr} {sl21 : Array (Option Value)} {oc21 kv21 dc21 pm21 cd21 ct21 : Value}
    (a21 : PySem.W.nsIn K mainGlobals "is_between" = some (some (.ref f21)))
    (l21 : K.lookup f21 = some ⟨oc21, od21, .func (PySem.W.fnOf "is_between" "is_between" (defArgs st21) (defBody st21) (defScope st21) .none kv21 dc21 pm21 an21 cd21 ct21), sl21⟩) (c21 : PySem.W.codeIn K cd21 "is_between" = true) (k21 : PySem.W.keepIn K (.ref f21) = true)
    {f22 : Addr} {od22 an22 : Option Addr} {sl22 : Array (Option Value)} {oc22 kv22 dc22 pm22 cd22 ct22 : Value}
    (a22 : PySem.W.nsIn K mainGlobals "measure_part" = some (some (.ref f22)))
    (l22 : K.lookup f22 = some ⟨oc22, od22, .func (PySem.W.fnOf "measure_part" "measure_part" (defArgs st22) (defBody st22) (defScope st22) .none kv22 dc22 pm22 an22 cd22 ct22), sl22⟩) (c22 : PySem.W.codeIn K cd22 "measure_part" = true) (k22 : PySem.W.keepIn K (.ref f22) = true)
    {f23 : Addr} {od23 an23 : Option Addr} {sl23 : Array (Option Value)} {oc23 kv23 dc23 pm23 cd23 ct23 : Value}
    (a23 : PySem.W.nsIn K mainGlobals "is_log" = some (some (.ref f23)))
    (l23 : K.lookup f23 = some ⟨oc23, od23, .func (PySem.W.fnOf "is_log" "is_log" (defArgs st23) (defBody st23) (defScope st23) .none kv23 dc23 pm23 an23 cd23 ct23), sl23⟩) (c23 : PySem.W.codeIn K cd23 "is_log" = true) (k23 : PySem.W.keepIn K (.ref f23) = true)
    {f24 : Addr} {od24 an24 : Option Addr} {sl24 : Array (Option Value)} {oc24 kv24 dc24 pm24 cd24 ct24 : Value}
    (a24 : PySem.W.nsIn K mainGlobals "empty_table" = some (some (.ref f24)))
    (l24 : K.lookup f24 = some ⟨oc24, od24, .func (PySem.W.fnOf "empty_table" "empty_table" (defArgs st24) (defBody st24) (defScope st24) .none kv24 dc24 pm24 an24 cd24 ct24), sl24⟩) (c24 : PySem.W.codeIn K cd24 "empty_table" = true) (k24 : PySem.W.keepIn K (.ref f24) = true)
    {f25 : Addr} {od25 an25 : Option Addr} {sl25 : Array (Option Value)} {oc25 kv25 dc25 pm25 cd25 ct25 : Value}
    (a25 : PySem.W.nsIn K mainGlobals "appended" = some (some (.ref f25)))
    (l25 : K.lookup f25 = some ⟨oc25, od25, .func (PySem.W.fnOf "appended" "appended" (defArgs st25) (defBody st25) (defScope st25) .none kv25 dc25 pm25 an25 cd25 ct25), sl25⟩) (c25 : PySem.W.codeIn K cd25 "appended" = true) (k25 : PySem.W.keepIn K (.ref f25) = true)
    {f26 : Addr} {od26 an26 : Option Addr} {sl26 : Array (Option Value)} {oc26 kv26 dc26 pm26 cd26 ct26 : Value}
    (a26 : PySem.W.nsIn K mainGlobals "levels_in" = some (some (.ref f26)))
    (l26 : K.lookup f26 = some ⟨oc26, od26, .func (PySem.W.fnOf "levels_in" "levels_in" (defArgs st26) (defBody st26) (defScope st26) .none kv26 dc26 pm26 an26 cd26 ct26), sl26⟩) (c26 : PySem.W.codeIn K cd26 "levels_in" = true) (k26 : PySem.W.keepIn K (.ref f26) = true)
    {f27 : Addr} {od27 an27 : Option Addr} {sl27 : Array (Option Value)} {oc27 kv27 dc27 pm27 cd27 ct27 : Value}
    (a27 : PySem.W.nsIn K mainGlobals "product" = some (some (.ref f27)))
    (l27 : K.lookup f27 = some ⟨oc27, od27, .func (PySem.W.fnOf "product" "product" (defArgs st27) (defBody st27) (defScope st27) .none kv27 dc27 pm27 an27 cd27 ct27), sl27⟩) (c27 : PySem.W.codeIn K cd27 "product" = true) (k27 : PySem.W.keepIn K (.ref f27) = true)
    {f28 : Addr} {od28 an28 : Option Addr} {sl28 : Array (Option Value)} {oc28 kv28 dc28 pm28 cd28 ct28 : Value}
    (a28 : PySem.W.nsIn K mainGlobals "power" = some (some (.ref f28)))
    (l28 : K.lookup f28 = some ⟨oc28, od28, .func (PySem.W.fnOf "power" "power" (defArgs st28) (defBody st28) (defScope st28) .none kv28 dc28 pm28 an28 cd28 ct28), sl28⟩) (c28 : PySem.W.codeIn K cd28 "power" = true) (k28 : PySem.W.keepIn K (.ref f28) = true)
    {f29 : Addr} {od29 an29 : Option Addr} {sl29 : Array (Option Value)} {oc29 kv29 dc29 pm29 cd29 ct29 : Value}
    (a29 : PySem.W.nsIn K mainGlobals "is_whole" = some (some (.ref f29)))
    (l29 : K.lookup f29 = some ⟨oc29, od29, .func (PySem.W.fnOf "is_whole" "is_whole" (defArgs st29) (defBody st29) (defScope st29) .none kv29 dc29 pm29 an29 cd29 ct29), sl29⟩) (c29 : PySem.W.codeIn K cd29 "is_whole" = true) (k29 : PySem.W.keepIn K (.ref f29) = true)
    {f30 : Addr} {od30 an30 : Option Addr} {sl30 : Array (Option Value)} {oc30 kv30 dc30 pm30 cd30 ct30 : Value}
    (a30 : PySem.W.nsIn K mainGlobals "is_level" = some (some (.ref f30)))
    (l30 : K.lookup f30 = some ⟨oc30, od30, .func (PySem.W.fnOf "is_level" "is_level" (defArgs st30) (defBody st30) (defScope st30) .none kv30 dc30 pm30 an30 cd30 ct30), sl30⟩) (c30 : PySem.W.codeIn K cd30 "is_level" = true) (k30 : PySem.W.keepIn K (.ref f30) = true)
    {f31 : Addr} {od31 an31 : Option Addr} {sl31 : Array (Option Value)} {oc31 kv31 dc31 pm31 cd31 ct31 : Value}
    (a31 : PySem.W.nsIn K mainGlobals "measure" = some (some (.ref f31)))
    (l31 : K.lookup f31 = some ⟨oc31, od31, .func (PySem.W.fnOf "measure" "measure" (defArgs st31) (defBody st31) (defScope st31) .none kv31 dc31 pm31 an31 cd31 ct31), sl31⟩) (c31 : PySem.W.codeIn K cd31 "measure" = true) (k31 : PySem.W.keepIn K (.ref f31) = true)
    (z0 : PySem.W.nsIn K mainGlobals "abs" = some none)
    (z1 : PySem.W.nsIn K mainGlobals "all" = some none)
    (z2 : PySem.W.nsIn K mainGlobals "bool" = some none)
    (z3 : PySem.W.nsIn K mainGlobals "divmod" = some none)
    (z4 : PySem.W.nsIn K mainGlobals "enumerate" = some none)
    (z5 : PySem.W.nsIn K mainGlobals "int" = some none)
    (z6 : PySem.W.nsIn K mainGlobals "isinstance" = some none)
    (z7 : PySem.W.nsIn K mainGlobals "len" = some none)
    (z8 : PySem.W.nsIn K mainGlobals "max" = some none)
    (z9 : PySem.W.nsIn K mainGlobals "min" = some none)
    (z10 : PySem.W.nsIn K mainGlobals "range" = some none)
    (z11 : PySem.W.nsIn K mainGlobals "repr" = some none)
    (z12 : PySem.W.nsIn K mainGlobals "set" = some none)
    (z13 : PySem.W.nsIn K mainGlobals "sorted" = some none)
    (z14 : PySem.W.nsIn K mainGlobals "sum" = some none)
    (z15 : PySem.W.nsIn K mainGlobals "tuple" = some none)
    {t0 : Tok} (vv0 : PySem.W.nsIn K mainGlobals "MAX_LEVELS" = some (some (.int 12 t0)))
    {t1 : Tok} (vv1 : PySem.W.nsIn K mainGlobals "MAX_DEPTH" = some (some (.int 5 t1)))
    {t2 : Tok} (vv2 : PySem.W.nsIn K mainGlobals "MAX_PARTS" = some (some (.int 120 t2)))
    {t3 : Tok} (vv3 : PySem.W.nsIn K mainGlobals "MAX_TIMES" = some (some (.int 1000000000000000000000000000000 t3)))
    : ∃ fd : FuncData, (∀ (s : Shared) (v : Value), BindsTo s fd ⟨[v], []⟩ [("_law_script", v)]) ∧ ∀ base : Heap, K.In base → base.Ns mainGlobals mg → FnG l.prog w K mg base L2.CX0 (2 * k) fz fd ["_law_script"] (spD K (callN tbl k) 0) := by
  have e := hz.symm.trans (PySem.W.mg_of X G a0)
  cases e
  have F0 := funW_mk (st := st0) l0 c0 k0
  have F1 := funW_mk (st := st1) l1 c1 k1
  have F2 := funW_mk (st := st2) l2 c2 k2
  have F3 := funW_mk (st := st3) l3 c3 k3
  have F4 := funW_mk (st := st4) l4 c4 k4
  have F5 := funW_mk (st := st5) l5 c5 k5
  have F6 := funW_mk (st := st6) l6 c6 k6
  have F7 := funW_mk (st := st7) l7 c7 k7
  have F8 := funW_mk (st := st8) l8 c8 k8
  have F9 := funW_mk (st := st9) l9 c9 k9
  have F10 := funW_mk (st := st10) l10 c10 k10
  have F11 := funW_mk (st := st11) l11 c11 k11
  have F12 := funW_mk (st := st12) l12 c12 k12
  have F13 := funW_mk (st := st13) l13 c13 k13
  have F14 := funW_mk (st := st14) l14 c14 k14
  have F15 := funW_mk (st := st15) l15 c15 k15
  have F16 := funW_mk (st := st16) l16 c16 k16
  have F17 := funW_mk (st := st17) l17 c17 k17
  have F18 := funW_mk (st := st18) l18 c18 k18
  have F19 := funW_mk (st := st19) l19 c19 k19
  have F20 := funW_mk (st := st20) l20 c20 k20
  have F21 := funW_mk (st := st21) l21 c21 k21
  have F22 := funW_mk (st := st22) l22 c22 k22
  have F23 := funW_mk (st := st23) l23 c23 k23
  have F24 := funW_mk (st := st24) l24 c24 k24
  have F25 := funW_mk (st := st25) l25 c25 k25
  have F26 := funW_mk (st := st26) l26 c26 k26
  have F27 := funW_mk (st := st27) l27 c27 k27
  have F28 := funW_mk (st := st28) l28 c28 k28
  have F29 := funW_mk (st := st29) l29 c29 k29
  have F30 := funW_mk (st := st30) l30 c30 k30
  have F31 := funW_mk (st := st31) l31 c31 k31
  let fa : Nat → Addr := fun j => [fz, f1, f2, f3, f4, f5, f6, f7, f8, f9, f10, f11, f12, f13, f14, f15, f16, f17, f18, f19, f20, f21, f22, f23, f24, f25, f26, f27, f28, f29, f30, f31].getD j 0
  let fd : Nat → FuncData := fun j => [PySem.W.fnOf "law" "law" (defArgs st0) (defBody st0) (defScope st0) .none kv0 dc0 pm0 an0 cd0 ct0,
    PySem.W.fnOf "_law_right" "_law_right" (defArgs st1) (defBody st1) (defScope st1) .none kv1 dc1 pm1 an1 cd1 ct1,
    PySem.W.fnOf "_law_pool" "_law_pool" (defArgs st2) (defBody st2) (defScope st2) .none kv2 dc2 pm2 an2 cd2 ct2,
    PySem.W.fnOf "_law_cell" "_law_cell" (defArgs st3) (defBody st3) (defScope st3) .none kv3 dc3 pm3 an3 cd3 ct3,
    PySem.W.fnOf "_law_levels" "_law_levels" (defArgs st4) (defBody st4) (defScope st4) .none kv4 dc4 pm4 an4 cd4 ct4,
    PySem.W.fnOf "_law_some_parts" "_law_some_parts" (defArgs st5) (defBody st5) (defScope st5) .none kv5 dc5 pm5 an5 cd5 ct5,
    PySem.W.fnOf "_law_rows" "_law_rows" (defArgs st6) (defBody st6) (defScope st6) .none kv6 dc6 pm6 an6 cd6 ct6,
    PySem.W.fnOf "_law_expanded" "_law_expanded" (defArgs st7) (defBody st7) (defScope st7) .none kv7 dc7 pm7 an7 cd7 ct7,
    PySem.W.fnOf "__init__" "Log.__init__" (defArgs st8) (defBody st8) (defScope st8) (.ref T8) kv8 dc8 pm8 an8 cd8 ct8,
    PySem.W.fnOf "band_table" "band_table" (defArgs st9) (defBody st9) (defScope st9) .none kv9 dc9 pm9 an9 cd9 ct9,
    PySem.W.fnOf "_law_draw" "_law_draw" (defArgs st10) (defBody st10) (defScope st10) .none kv10 dc10 pm10 an10 cd10 ct10,
    PySem.W.fnOf "_law_word" "_law_word" (defArgs st11) (defBody st11) (defScope st11) .none kv11 dc11 pm11 an11 cd11 ct11,
    PySem.W.fnOf "_law_few" "_law_few" (defArgs st12) (defBody st12) (defScope st12) .none kv12 dc12 pm12 an12 cd12 ct12,
    PySem.W.fnOf "_law_parts" "_law_parts" (defArgs st13) (defBody st13) (defScope st13) .none kv13 dc13 pm13 an13 cd13 ct13,
    PySem.W.fnOf "_law_lengths" "_law_lengths" (defArgs st14) (defBody st14) (defScope st14) .none kv14 dc14 pm14 an14 cd14 ct14,
    PySem.W.fnOf "is_level_count" "is_level_count" (defArgs st15) (defBody st15) (defScope st15) .none kv15 dc15 pm15 an15 cd15 ct15,
    PySem.W.fnOf "first_invalid" "first_invalid" (defArgs st16) (defBody st16) (defScope st16) .none kv16 dc16 pm16 an16 cd16 ct16,
    PySem.W.fnOf "check_log" "check_log" (defArgs st17) (defBody st17) (defScope st17) .none kv17 dc17 pm17 an17 cd17 ct17,
    PySem.W.fnOf "table_of" "table_of" (defArgs st18) (defBody st18) (defScope st18) .none kv18 dc18 pm18 an18 cd18 ct18,
    PySem.W.fnOf "_law_size" "_law_size" (defArgs st19) (defBody st19) (defScope st19) .none kv19 dc19 pm19 an19 cd19 ct19,
    PySem.W.fnOf "_law_times" "_law_times" (defArgs st20) (defBody st20) (defScope st20) .none kv20 dc20 pm20 an20 cd20 ct20,
    PySem.W.fnOf "is_between" "is_between" (defArgs st21) (defBody st21) (defScope st21) .none kv21 dc21 pm21 an21 cd21 ct21,
    PySem.W.fnOf "measure_part" "measure_part" (defArgs st22) (defBody st22) (defScope st22) .none kv22 dc22 pm22 an22 cd22 ct22,
    PySem.W.fnOf "is_log" "is_log" (defArgs st23) (defBody st23) (defScope st23) .none kv23 dc23 pm23 an23 cd23 ct23,
    PySem.W.fnOf "empty_table" "empty_table" (defArgs st24) (defBody st24) (defScope st24) .none kv24 dc24 pm24 an24 cd24 ct24,
    PySem.W.fnOf "appended" "appended" (defArgs st25) (defBody st25) (defScope st25) .none kv25 dc25 pm25 an25 cd25 ct25,
    PySem.W.fnOf "levels_in" "levels_in" (defArgs st26) (defBody st26) (defScope st26) .none kv26 dc26 pm26 an26 cd26 ct26,
    PySem.W.fnOf "product" "product" (defArgs st27) (defBody st27) (defScope st27) .none kv27 dc27 pm27 an27 cd27 ct27,
    PySem.W.fnOf "power" "power" (defArgs st28) (defBody st28) (defScope st28) .none kv28 dc28 pm28 an28 cd28 ct28,
    PySem.W.fnOf "is_whole" "is_whole" (defArgs st29) (defBody st29) (defScope st29) .none kv29 dc29 pm29 an29 cd29 ct29,
    PySem.W.fnOf "is_level" "is_level" (defArgs st30) (defBody st30) (defScope st30) .none kv30 dc30 pm30 an30 cd30 ct30,
    PySem.W.fnOf "measure" "measure" (defArgs st31) (defBody st31) (defScope st31) .none kv31 dc31 pm31 an31 cd31 ct31].getD j (PySem.W.fnOf "law" "law" (defArgs st0) (defBody st0) (defScope st0) .none kv0 dc0 pm0 an0 cd0 ct0)
  let dv : Nat → Value := fun j => [.none, .none, .none, .none, .none, .none, .none, .none, .ref T8, .none, .none, .none, .none, .none, .none, .none, .none, .none, .none, .none, .none, .none, .none, .none, .none, .none, .none, .none, .none, .none, .none, .none].getD j .none
  let ca : Nat → Addr := fun j => [C0].getD j 0
  have nA0 : ∀ f ∈ cFlds 0, NoAttr K C0 f := fun f hf => by
    simp only [cFlds, List.mem_cons, List.not_mem_nil, or_false] at hf
    rcases hf with rfl | rfl
    · exact cN0_0
    · exact cN0_1
  have M : Fx K mg fa fd ca dv := ⟨F0, PySem.W.mg_of X G a0, F1, PySem.W.mg_of X G a1, F2, PySem.W.mg_of X G a2, F3, PySem.W.mg_of X G a3, F4, PySem.W.mg_of X G a4, F5, PySem.W.mg_of X G a5, F6, PySem.W.mg_of X G a6, F7, PySem.W.mg_of X G a7, F8, dfw1 dT8 (.unit dE8_0), F9, PySem.W.mg_of X G a9, F10, PySem.W.mg_of X G a10, F11, PySem.W.mg_of X G a11, F12, PySem.W.mg_of X G a12, F13, PySem.W.mg_of X G a13, F14, PySem.W.mg_of X G a14, F15, PySem.W.mg_of X G a15, F16, PySem.W.mg_of X G a16, F17, PySem.W.mg_of X G a17, F18, PySem.W.mg_of X G a18, F19, PySem.W.mg_of X G a19, F20, PySem.W.mg_of X G a20, F21, PySem.W.mg_of X G a21, F22, PySem.W.mg_of X G a22, F23, PySem.W.mg_of X G a23, F24, PySem.W.mg_of X G a24, F25, PySem.W.mg_of X G a25, F26, PySem.W.mg_of X G a26, F27, PySem.W.mg_of X G a27, F28, PySem.W.mg_of X G a28, F29, PySem.W.mg_of X G a29, F30, PySem.W.mg_of X G a30, F31, PySem.W.mg_of X G a31, ⟨cA0, ⟨cB0, cC0, cD0, cE0⟩, nA0⟩, ⟨cF0, a8, j8, cG0⟩, ⟨cH0, cI0, cJ0, cK0, if_pos (beq_self_eq_true _)⟩, PySem.W.mg_of X G cA0, PySem.W.mg_none_of X G z0, PySem.W.mg_none_of X G z1, PySem.W.mg_none_of X G z2, PySem.W.mg_none_of X G z3, PySem.W.mg_none_of X G z4, PySem.W.mg_none_of X G z5, PySem.W.mg_none_of X G z6, PySem.W.mg_none_of X G z7, PySem.W.mg_none_of X G z8, PySem.W.mg_none_of X G z9, PySem.W.mg_none_of X G z10, PySem.W.mg_none_of X G z11, PySem.W.mg_none_of X G z12, PySem.W.mg_none_of X G z13, PySem.W.mg_none_of X G z14, PySem.W.mg_none_of X G z15, ⟨_, PySem.W.mg_of X G vv0⟩, ⟨_, PySem.W.mg_of X G vv1⟩, ⟨_, PySem.W.mg_of X G vv2⟩, ⟨_, PySem.W.mg_of X G vv3⟩⟩
  exact ⟨fd 0, fun s v => .of_eq rfl, fun base _ _ => tab M k 0⟩
end Q_bandlinks_k21_band_table

namespace Q_bandlinks_k21_band_table
open PySem L2 DL
theorem ok_draw (k : Nat) {xs : List D} {n : Int} (h : Pool xs) (h1 : 0 < n) (h2 : n < 1000000000000000000000000000000000000000000000000000000000000) :
    ∃ r ys, callN tbl (k + 1) 10 [.ls .bor xs, .fz (.int n)] = some (.fz (.int r), [.ls .bor ys, .fz (.int n)]) ∧ 0 ≤ r ∧ r < n ∧ Pool ys := by
  obtain ⟨s, g, c, rfl, hs1, hs2, hg, hc⟩ := h
  have e1 : DL.small64 s = true := s64 (by omega) (by omega)
  have e2 : DL.small64 60013 = true := by decide
  by_cases hp : 0 < g
  · have key : execs (callN tbl k) ir10 [.ls .bor [.int s, .int g, .int c], .fz (.int n), .un, .un] = .ok (.rt (.fz (.int (g % n)))) [.ls .bor [.int ((s * (s % 46007 + 20011) + 60013 * (c + 1) + 5) % 1000000007), .int (g / n), .int (c + 1)], .fz (.int n), .fz (.int s), .fz (.int (g % n))] := by
      simp [ir10, e1, e2, hp, h1, h2, fmodE]
    refine ⟨g % n, [.int ((s * (s % 46007 + 20011) + 60013 * (c + 1) + 5) % 1000000007), .int (g / n), .int (c + 1)], call_fz ⟨2, 4, ir10⟩ key, Int.emod_nonneg _ (by omega), Int.emod_lt_of_pos _ h1, _, _, _, rfl, Int.emod_nonneg _ (by decide), Int.emod_lt_of_pos _ (by decide), Int.ediv_nonneg (by omega) (by omega), by omega⟩
  · have key : execs (callN tbl k) ir10 [.ls .bor [.int s, .int g, .int c], .fz (.int n), .un, .un] = .ok (.rt (.fz (.int ((s * (s % 46007 + 20011) + 60013 * (c + 1) + 5) % 1000000007 / 32 % n)))) [.ls .bor [.int ((s * (s % 46007 + 20011) + 60013 * (c + 1) + 5) % 1000000007), .int g, .int (c + 1)], .fz (.int n), .fz (.int s), .un] := by
      have hn : n ≠ 0 := by omega
      have hn2 : (0:Int) ≤ n := by omega
      simp [ir10, e1, e2, hp, h1, h2, fmodE, fdivE, hn, hn2]
    refine ⟨(s * (s % 46007 + 20011) + 60013 * (c + 1) + 5) % 1000000007 / 32 % n, [.int ((s * (s % 46007 + 20011) + 60013 * (c + 1) + 5) % 1000000007), .int g, .int (c + 1)], call_fz ⟨2, 4, ir10⟩ key, Int.emod_nonneg _ (by omega), Int.emod_lt_of_pos _ h1, _, _, _, rfl, Int.emod_nonneg _ (by decide), Int.emod_lt_of_pos _ (by decide), by omega, by omega⟩
theorem ok_pool (k : Nat) (x : Int) : ∃ ys, callN tbl (k + 1) 2 [.fz (.int x)] = some (.fr ys, [.fz (.int x)]) ∧ Pool ys := by
  by_cases h : x < 0 ∨ 1000000000000000000 ≤ x
  · have key : execs (callN tbl k) ir2 [.fz (.int x), .un] = .ok (.rt (.fr [.int (x % 1000000007), .int (if x < 0 then -x else x), .int 0])) [.fz (.int x), .fz (.int (if x < 0 then -x else x))] := by
      rcases h with h | h
      · simp [ir2, fmodE, h]
      · have h' : ¬ x < 0 := by omega
        simp [ir2, fmodE, h, h']
    refine ⟨[.int (x % 1000000007), .int (if x < 0 then -x else x), .int 0], call_fr ⟨1, 2, ir2⟩ key, _, _, _, rfl, Int.emod_nonneg _ (by decide), Int.emod_lt_of_pos _ (by decide), by split <;> omega, by omega⟩
  · have h' : ¬ x < 0 := by omega
    have h'' : ¬ 1000000000000000000 ≤ x := by omega
    have key : execs (callN tbl k) ir2 [.fz (.int x), .un] = .ok (.rt (.fr [.int (x % 1000000007), .int 0, .int 0])) [.fz (.int x), .fz (.int 0)] := by
      simp [ir2, fmodE, h', h'']
    refine ⟨[.int (x % 1000000007), .int 0, .int 0], call_fr ⟨1, 2, ir2⟩ key, _, _, _, rfl, Int.emod_nonneg _ (by decide), Int.emod_lt_of_pos _ (by decide), by omega, by omega⟩
theorem ok_height (k : Nat) {xs : List D} {n : Int} (h : Pool xs) (h1 : 0 < n) (h2 : n < 1000000000000000000000000000000000000000000000000000000000000) :
    ∃ r ys, callN tbl (k + 2) 4 [.ls .bor xs, .fz (.int n)] = some (.fz (.int r), [.ls .bor ys, .fz (.int n)]) ∧ 1 ≤ r ∧ r ≤ n ∧ Pool ys := by
  obtain ⟨r1, ys1, e1, _, _, p1⟩ := ok_draw k h (n := 3) (by decide) (by decide)
  by_cases hr : r1 = 0
  · obtain ⟨r2, ys2, e2, g1, g2, p2⟩ := ok_draw k p1 h1 h2
    have key : execs (callN tbl (k + 1)) ir4 [.ls .bor xs, .fz (.int n), .un] = .ok (.rt (.fz (.int (1 + r2)))) [.ls .bor ys2, .fz (.int n), .fz (.bl true)] := by
      simp [ir4, e1, e2, hr]
    exact ⟨1 + r2, ys2, call_fz ⟨2, 3, ir4⟩ key, by omega, by omega, p2⟩
  · obtain ⟨r2, ys2, e2, g1, g2, p2⟩ := ok_draw k p1 (n := if n < 5 then n else 5) (by split <;> omega) (by split <;> omega)
    have key : execs (callN tbl (k + 1)) ir4 [.ls .bor xs, .fz (.int n), .un] = .ok (.rt (.fz (.int (1 + r2)))) [.ls .bor ys2, .fz (.int n), .fz (.bl false)] := by
      simp [ir4, e1, e2, hr]
    refine ⟨1 + r2, ys2, call_fz ⟨2, 3, ir4⟩ key, by omega, ?_, p2⟩
    split at g2 <;> omega
theorem cellA (k : Nat) (ns : List Int) (i : Nat) (h : i < ns.length) : callN tbl (k + 1) 3 [.fz (.scr (ns.map .int)), .fz (.int i)] = some (.fz (.int ns[i]), [.fz (.scr (ns.map .int)), .fz (.int i)]) := by
    have e : atI (ns.map D.int) (i : Int) = some (.int ns[i]) := by
      unfold atI ixN
      rw [if_pos (by omega), if_pos (by rw [List.length_map]; omega)]
      show (ns.map D.int)[(i : Int).toNat]? = _
      rw [Int.toNat_natCast, List.getElem?_map, List.getElem?_eq_getElem h]
      rfl
    have key : execs (callN tbl k) ir3 [.fz (.scr (ns.map .int)), .fz (.int i), .un, .un] = .ok (.rt (.fz (.int ns[i]))) [.fz (.scr (ns.map .int)), .fz (.int i), .un, .un] := by
      simp [ir3, h, e, -x_atI, -x_ixN]
    exact call_fz ⟨2, 4, ir3⟩ key
theorem cellL (k : Nat) (ns : List Int) (i : Int) (x0 : Int) : ∃ x s3, forL (fun x => bnd (asgn (callN tbl k) (.nm 3) x) fun _ => execs (callN tbl k) cellB) (cut (ns.map D.int) none (some 3)) [.fz (.scr (ns.map .int)), .fz (.int i), .fz (.int x0), .un] = .ok .nx [.fz (.scr (ns.map .int)), .fz (.int i), .fz (.int x), s3] := by
  obtain ⟨ρ', e, x, s3, rfl, _⟩ := forL_inv (step := fun x => bnd (asgn (callN tbl k) (.nm 3) x) fun _ => execs (callN tbl k) cellB)
      (fun _ ρ => ∃ x s3, ρ = [.fz (.scr (ns.map .int)), .fz (.int i), .fz (.int x), s3] ∧ (s3 = .un ∨ ∃ d, s3 = .fz d)) (cut (ns.map D.int) none (some 3)) 0
      [.fz (.scr (ns.map .int)), .fz (.int i), .fz (.int x0), .un] ⟨_, _, rfl, .inl rfl⟩ (fun j ρ d hd hI => by
        obtain ⟨x, s3, rfl, hs⟩ := hI
        have hm : d ∈ ns.map D.int := by
          have := List.mem_of_getElem? hd
          unfold cut at this
          exact List.mem_of_mem_drop (List.mem_of_mem_take this)
        obtain ⟨y, _, rfl⟩ := List.mem_map.mp hm
        have e64 : DL.small64 30011 = true := by decide
        refine ⟨[.fz (.scr (ns.map .int)), .fz (.int i), .fz (.int ((x * 30011 + y) % 1000000007)), .fz (.int y)], .inl ?_, _, _, rfl, .inr ⟨_, rfl⟩⟩
        rcases hs with rfl | ⟨d, rfl⟩ <;> simp [e64, fmodE])
  exact ⟨x, s3, e⟩
theorem cellC (k : Nat) (ns : List Int) (i : Int) (h0 : 0 ≤ i) (hi : i < 6) (h : ¬ i < ns.length) : ∃ x, callN tbl (k + 1) 3 [.fz (.scr (ns.map .int)), .fz (.int i)] = some (.fz (.int x), [.fz (.scr (ns.map .int)), .fz (.int i)]) := by
  obtain ⟨x, s3, e⟩ := cellL k ns i (50021 * (i * i + 7 * i + 3) % 1000000007)
  have e64 : DL.small64 50021 = true := by decide
  have e7 : DL.small64 7 = true := by decide
  have ei : DL.small64 i = true := s64 (by omega) (by omega)
  have key : execs (callN tbl k) ir3 [.fz (.scr (ns.map .int)), .fz (.int i), .un, .un] = .ok (.rt (.fz (.int x))) [.fz (.scr (ns.map .int)), .fz (.int i), .fz (.int x), s3] := by
    simp only [cellB] at e
    simp [ir3, h, e64, e7, ei, fmodE, e]
  exact ⟨_, call_fz ⟨2, 4, ir3⟩ key⟩
theorem ok_cell (k : Nat) (ns : List Int) (i : Nat) (hi : i < 6) : ∃ x, callN tbl (k + 1) 3 [.fz (.scr (ns.map .int)), .fz (.int i)] = some (.fz (.int x), [.fz (.scr (ns.map .int)), .fz (.int i)]) := by
  by_cases h : i < ns.length
  · exact ⟨_, cellA k ns i h⟩
  · exact cellC k ns i (by omega) (by omega) (by omega)
theorem ok_whole (k : Nat) (x : Int) : callN tbl (k + 1) 29 [.fz (.int x)] = some (.fz (.bl true), [.fz (.int x)]) := by
  have key : execs (callN tbl k) ir29 [.fz (.int x)] = .ok (.rt (.fz (.bl true))) [.fz (.int x)] := by simp [ir29]
  exact call_fz ⟨1, 1, ir29⟩ key
theorem ok_btw (k : Nat) (x lo hi : Int) : callN tbl (k + 2) 21 [.fz (.int x), .fz (.int lo), .fz (.int hi)] = some (.fz (.bl (decide (lo ≤ x ∧ x ≤ hi))), [.fz (.int x), .fz (.int lo), .fz (.int hi)]) := by
  have e := ok_whole k x
  have key : execs (callN tbl (k + 1)) ir21 [.fz (.int x), .fz (.int lo), .fz (.int hi)] = .ok (.rt (.fz (.bl (decide (lo ≤ x ∧ x ≤ hi))))) [.fz (.int x), .fz (.int lo), .fz (.int hi)] := by
    by_cases h : lo ≤ x <;> simp [ir21, e, h]
  exact call_fz ⟨3, 3, ir21⟩ key
theorem ok_lvc (k : Nat) (x : Int) (h1 : 1 ≤ x) (h2 : x ≤ 12) : callN tbl (k + 3) 15 [.fz (.int x)] = some (.fz (.bl true), [.fz (.int x)]) := by
  have e := ok_btw k x 1 12
  have key : execs (callN tbl (k + 2)) ir15 [.fz (.int x)] = .ok (.rt (.fz (.bl true))) [.fz (.int x)] := by simp [ir15, e, h1, h2]
  exact call_fz ⟨1, 1, ir15⟩ key
abbrev body17 : Ss := .cons (.ifs (.not (.call 21 [0, 1, 2] (.val (.var 3) (.val (.bin .add (.var 2) (.cst (.int 1))) (.val (.var 0) .nil))) .nil)) (.cons (.ret (.cst (.bl false))) .nil) .nil) (.cons (.asg (.nm 2) (.var 3)) .nil)
theorem step17 (k : Nat) (n last m : Int) (t : D) (s3 : Sl) (h3 : s3 = .un ∨ ∃ d, s3 = .fz d) (h1 : last < m) (h2 : m ≤ n) : (bnd (asgn (callN tbl (k + 2)) (.nm 3) (.int m)) fun _ => execs (callN tbl (k + 2)) body17) [.fz (.int n), .fz t, .fz (.int last), s3] = .ok .nx [.fz (.int n), .fz t, .fz (.int m), .fz (.int m)] := by
  have e := ok_btw k m (last + 1) n
  have h1' : last + 1 ≤ m := by omega
  rcases h3 with rfl | ⟨d, rfl⟩ <;> simp [e, h1', h2]
abbrev body9 : Ss := .cons (.ifs (.not (.call 21 [0, 1, 2] (.val (.var 3) (.val (.var 1) (.val (.bin .add (.var 1) (.cst (.int 1))) .nil))) .nil)) (.cons (.ex stkE) .nil) .nil) (.cons (.asg (.nm 1) (.var 3)) .nil)
theorem step9 (k : Nat) (t : D) (last i c : Int) (s2 s3 : Sl) (h2 : Loose s2) (h3 : Loose s3) (h5 : last ≤ c) (h6 : c ≤ last + 1) : (bnd (asgn (callN tbl (k + 2)) (.tp (.cons (.nm 2) (.cons (.nm 3) .nil))) (.tup [.int i, .int c])) fun _ => execs (callN tbl (k + 2)) body9) [.fz t, .fz (.int last), s2, s3] =
    .ok .nx [.fz t, .fz (.int c), .fz (.int i), .fz (.int c)] := by
  have e := ok_btw k c last (last + 1)
  rcases h2 with rfl | ⟨d, rfl⟩ <;> rcases h3 with rfl | ⟨d, rfl⟩ <;> simp [e, h5, h6]
abbrev mkC : Eo := .some (.cmp .eq (.call 10 [0, 1] (.ref (.var 0) (.val (.cst (.int 2)) .nil)) .nil) (.cst (.int 0)))
theorem mkStep (k : Nat) {xs : List D} (h : Pool xs) (n w t x : Int) : ∃ ys, Pool ys ∧ (compStep (callN tbl (k + 1)) [4] (.nm 4) mkC (.var 4) (.int x) [.ls .bor xs, .fz (.int n), .fz (.int w), .fz (.int t), .un] = .ok none [.ls .bor ys, .fz (.int n), .fz (.int w), .fz (.int t), .un] ∨
    compStep (callN tbl (k + 1)) [4] (.nm 4) mkC (.var 4) (.int x) [.ls .bor xs, .fz (.int n), .fz (.int w), .fz (.int t), .un] = .ok (some (.int x)) [.ls .bor ys, .fz (.int n), .fz (.int w), .fz (.int t), .un]) := by
  obtain ⟨r, ys, e, _, _, p⟩ := ok_draw k h (n := 2) (by decide) (by decide)
  refine ⟨ys, p, ?_⟩
  by_cases hr : r = 0
  · exact .inr (by simp [compStep, e, hr])
  · exact .inl (by simp [compStep, e, hr])
theorem ok_isl (k : Nat) (n x : Int) (h1 : 1 ≤ x) (h2 : x ≤ n) : callN tbl (k + 3) 30 [.fz (.int n), .fz (.int x)] = some (.fz (.bl true), [.fz (.int n), .fz (.int x)]) := by
  have e := ok_btw k x 1 n
  have key : execs (callN tbl (k + 2)) ir30 [.fz (.int n), .fz (.int x)] = .ok (.rt (.fz (.bl true))) [.fz (.int n), .fz (.int x)] := by simp [ir30, e, h1, h2]
  exact call_fz ⟨2, 2, ir30⟩ key
theorem by_cmp (k : Nat) {T : List Int} (hl : T.length ≤ 1000) : cmpL (compStep (callN tbl k) [1] (.nm 1) byC (.bin .add (.var 1) (.cst (.int 1)))) (rngL 0 T.length) [] [.fz (.lst (T.map .int)), .un] = .ok ((byT T 0 0).map .int) [.fz (.lst (T.map .int)), .un] := by
  have hr : (rngL 0 (T.length : Int)).length = T.length := by rw [rng_len]; omega
  have e := cmpL_pure (step := compStep (callN tbl k) [1] (.nm 1) byC (.bin .add (.var 1) (.cst (.int 1)))) (ρ := [.fz (.lst (T.map .int)), .un]) (f := fT T) (rngL 0 T.length) [] (by rw [hr]; show 0 + T.length ≤ 16777216; omega) (fun d hd => by
    obtain ⟨j, hj⟩ := List.getElem?_of_mem hd
    obtain ⟨rfl, hj⟩ := rng_get hj
    rw [Int.zero_add]
    have hj : j < T.length := by omega
    have g1 : T[j]? = some T[j] := List.getElem?_eq_getElem hj
    have hj2 : j < (0 :: T).length := by rw [List.length_cons]; omega
    have g2 : (0 :: T)[j]? = some (0 :: T)[j] := List.getElem?_eq_getElem hj2
    have e := byStep (callN tbl k) (T.map .int) j T[j] (0 :: T)[j] (at_nat g1) (at_nat (T := 0 :: T) g2) (by rw [List.length_map]; exact hl)
    rw [e]
    have ef : fT T (.int (j : Int)) = if (0 :: T)[j] < T[j] then some (.int ((j : Int) + 1)) else none := by
      show (gT T (j : Int).toNat).map D.int = _
      rw [Int.toNat_natCast]
      unfold gT
      rw [g1, g2]
      show (if (0 :: T)[j] < T[j] then some ((j : Int) + 1) else none).map D.int = _
      split <;> rfl
    rw [ef])
  rw [fT_rng, List.nil_append] at e
  exact e
end Q_bandlinks_k21_band_table

namespace Q_bandlinks_k21_band_table
open PySem L2 DL
theorem ok_wholeT (k : Nat) (xs : List D) : callN tbl (k + 1) 29 [.fz (.tup xs)] = some (.fz (.bl false), [.fz (.tup xs)]) := by
  have key : execs (callN tbl k) ir29 [.fz (.tup xs)] = .ok (.rt (.fz (.bl false))) [.fz (.tup xs)] := by simp [ir29]
  exact call_fz ⟨1, 1, ir29⟩ key
theorem ok_btwT (k : Nat) (xs : List D) (lo hi : Int) : callN tbl (k + 2) 21 [.fz (.tup xs), .fz (.int lo), .fz (.int hi)] = some (.fz (.bl false), [.fz (.tup xs), .fz (.int lo), .fz (.int hi)]) := by
  have e := ok_wholeT k xs
  have key : execs (callN tbl (k + 1)) ir21 [.fz (.tup xs), .fz (.int lo), .fz (.int hi)] = .ok (.rt (.fz (.bl false))) [.fz (.tup xs), .fz (.int lo), .fz (.int hi)] := by simp [ir21, e]
  exact call_fz ⟨3, 3, ir21⟩ key
theorem ok_islT (k : Nat) (n : Int) (xs : List D) : callN tbl (k + 3) 30 [.fz (.int n), .fz (.tup xs)] = some (.fz (.bl false), [.fz (.int n), .fz (.tup xs)]) := by
  have e := ok_btwT k xs 1 n
  have key : execs (callN tbl (k + 2)) ir30 [.fz (.int n), .fz (.tup xs)] = .ok (.rt (.fz (.bl false))) [.fz (.int n), .fz (.tup xs)] := by simp [ir30, e]
  exact call_fz ⟨2, 2, ir30⟩ key
/-! measure -/
theorem part_lv (k : Nat) (n i : Int) (h1 : 1 ≤ i) (h2 : i ≤ n) : callN tbl (k + 4) 22 [.fz (.int n), .fz (.int i)] = some (.fz (.tup [.int 1, .int 1]), [.fz (.int n), .fz (.int i)]) := by
  have e := ok_isl k n i h1 h2
  have key : execs (callN tbl (k + 3)) ir22 [.fz (.int n), .fz (.int i), .un] = .ok (.rt (.fz (.tup [.int 1, .int 1]))) [.fz (.int n), .fz (.int i), .un] := by simp [ir22, e]
  exact call_fz ⟨2, 3, ir22⟩ key
theorem part_pr (k : Nat) (n t a b : Int) (ds : List D) (h1 : 1 ≤ t) (h2 : t ≤ 1000000000000000000000000000000) (e : callN tbl (k + 3) 31 [.fz (.int n), .fz (.tup ds)] = some (.fz (.tup [.int a, .int b]), [.fz (.int n), .fz (.tup ds)])) :
    callN tbl (k + 4) 22 [.fz (.int n), .fz (.tup [.tup ds, .int t])] = some (.fz (.tup [.int (a + 1), .int (b + 1)]), [.fz (.int n), .fz (.tup [.tup ds, .int t])]) := by
  have e1 := ok_islT k n [.tup ds, .int t]
  have e2 := ok_btw (k + 1) t 1 1000000000000000000000000000000
  have key : execs (callN tbl (k + 3)) ir22 [.fz (.int n), .fz (.tup [.tup ds, .int t]), .un] = .ok (.rt (.fz (.tup [.int (a + 1), .int (b + 1)]))) [.fz (.int n), .fz (.tup [.tup ds, .int t]), .fz (.tup [.int a, .int b])] := by
    simp [ir22, e1, e2, e, h1, h2]
  exact call_fz ⟨2, 3, ir22⟩ key
theorem meas_step (Φ : Calls) (n s dd a b : Int) (P T : D) (s4 s5 : Sl) (h4 : Loose s4) (h5 : Loose s5) (e : Φ 22 [.fz (.int n), .fz P] = some (.fz (.tup [.int a, .int b]), [.fz (.int n), .fz P])) :
    (bnd (asgn Φ lt31_0 P) fun _ => execs Φ lb31_0) [.fz (.int n), .fz T, .fz (.int s), .fz (.int dd), s4, s5] = .ok .nx [.fz (.int n), .fz T, .fz (.int (s + a)), .fz (.int (if b > dd then b else dd)), .fz P, .fz (.tup [.int a, .int b])] := by
  rcases h4 with rfl | ⟨d, rfl⟩ <;> rcases h5 with rfl | ⟨d, rfl⟩ <;> simp [e]
theorem meas_of (F : Nat) {n : Int} {ps : List Pt} (h : ∀ p ∈ ps, callN tbl F 22 [.fz (.int n), .fz (dP p)] = some (.fz (.tup [.int (szP p : Nat), .int (dpP p : Nat)]), [.fz (.int n), .fz (dP p)])) :
    callN tbl (F + 1) 31 [.fz (.int n), .fz (.tup (dPs ps))] = some (.fz (.tup [.int (szPs ps : Nat), .int (dpPs ps : Nat)]), [.fz (.int n), .fz (.tup (dPs ps))]) := by
  obtain ⟨ρ', e, s4, s5, rfl, _, _⟩ := forL_map (step := fun x => bnd (asgn (callN tbl F) lt31_0 x) fun _ => execs (callN tbl F) lb31_0) dP
    (fun done ρ => ∃ s4 s5, ρ = [.fz (.int n), .fz (.tup (dPs ps)), .fz (.int (szPs done : Nat)), .fz (.int (dpPs done : Nat)), s4, s5] ∧ Loose s4 ∧ Loose s5) ps [] [.fz (.int n), .fz (.tup (dPs ps)), .fz (.int 0), .fz (.int 1), .un, .un]
    ⟨_, _, rfl, .inl rfl, .inl rfl⟩ (fun done p ρ hp hI => by
      obtain ⟨s4, s5, rfl, h4, h5⟩ := hI
      refine ⟨_, .inl (meas_step _ n _ _ _ _ _ _ s4 s5 h4 h5 (h p hp)), Sl.fz (dP p), Sl.fz (.tup [.int (szP p : Nat), .int (dpP p : Nat)]), ?_, .inr ⟨_, rfl⟩, .inr ⟨_, rfl⟩⟩
      rw [szI, dpI])
  rw [List.nil_append, ← dPs_map] at e
  generalize dPs ps = A at e ⊢
  generalize ((szPs ps : Nat) : Int) = a at e ⊢
  generalize ((dpPs ps : Nat) : Int) = b at e ⊢
  have key : execs (callN tbl F) ir31 [.fz (.int n), .fz (.tup A), .un, .un, .un, .un] = .ok (.rt (.fz (.tup [.int a, .int b]))) [.fz (.int n), .fz (.tup A), .fz (.int a), .fz (.int b), s4, s5] := by
    simp [ir31, e]
  exact call_fz ⟨2, 6, ir31⟩ key
theorem ok_meas {n M : Int} (hM : M ≤ 1000000000000000000000000000000) : ∀ (d k : Nat), (∀ p, dpP p ≤ d → OkP n M p → callN tbl (k + 2 * d + 2) 22 [.fz (.int n), .fz (dP p)] = some (.fz (.tup [.int (szP p : Nat), .int (dpP p : Nat)]), [.fz (.int n), .fz (dP p)])) ∧
    (∀ ps, dpPs ps ≤ d → OkPs n M ps → callN tbl (k + 2 * d + 3) 31 [.fz (.int n), .fz (.tup (dPs ps))] = some (.fz (.tup [.int (szPs ps : Nat), .int (dpPs ps : Nat)]), [.fz (.int n), .fz (.tup (dPs ps))]))
  | 0, k => ⟨fun p h => by have := dpP_pos p; omega, fun ps h => by have := dpPs_pos ps; omega⟩
  | d + 1, k => by
    have A : ∀ p, dpP p ≤ d + 1 → OkP n M p → callN tbl (k + 2 * (d + 1) + 2) 22 [.fz (.int n), .fz (dP p)] = some (.fz (.tup [.int (szP p : Nat), .int (dpP p : Nat)]), [.fz (.int n), .fz (dP p)]) := fun p hd ok => by
      cases ok with
      | lv h1 h2 =>
        rename_i i
        rw [szP_lv, dpP_lv, dP]
        exact part_lv (k + 2 * d) n i h1 h2
      | pr h h1 h2 =>
        rename_i qs t
        rw [dpP_pr] at hd
        have e := (ok_meas hM d k).2 qs (by omega) h
        rw [szP_pr, dpP_pr, dP]
        have := part_pr (k + 2 * d) n t _ _ _ h1 (Int.le_trans h2 hM) e
        rw [show ((1 + szPs qs : Nat) : Int) = (szPs qs : Int) + 1 from by omega, show ((dpPs qs + 1 : Nat) : Int) = (dpPs qs : Int) + 1 from rfl]
        exact this
    exact ⟨A, fun ps hd ok => meas_of (k + 2 * (d + 1) + 2) fun p hp => A p (Nat.le_trans (dp_mem hp) hd) (ok p hp)⟩
/-! first_invalid -/
theorem inv_step (Φ : Calls) (n s a b j : Int) (P T : D) (s3 s4 s5 : Sl) (h3 : Loose s3) (h4 : Loose s4) (h5 : Loose s5) (ha : ¬ 120 < s + a) (hb : ¬ 5 < b) (e : Φ 22 [.fz (.int n), .fz P] = some (.fz (.tup [.int a, .int b]), [.fz (.int n), .fz P])) :
    (bnd (asgn Φ lt16_0 (.tup [.int j, P])) fun _ => execs Φ lb16_0) [.fz (.int n), .fz T, .fz (.int s), s3, s4, s5] = .ok .nx [.fz (.int n), .fz T, .fz (.int (s + a)), .fz (.int j), .fz P, .fz (.tup [.int a, .int b])] := by
  rcases h3 with rfl | ⟨d, rfl⟩ <;> rcases h4 with rfl | ⟨d, rfl⟩ <;> rcases h5 with rfl | ⟨d, rfl⟩ <;> simp [e, ha, hb]
theorem inv_loop (F : Nat) {n : Int} (T : D) : ∀ (ps : List Pt) (j s0 : Nat) (s3 s4 s5 : Sl), Loose s3 → Loose s4 → Loose s5 → s0 + szPs ps ≤ 120 → (∀ p ∈ ps, dpP p ≤ 5 ∧ callN tbl F 22 [.fz (.int n), .fz (dP p)] = some (.fz (.tup [.int (szP p : Nat), .int (dpP p : Nat)]), [.fz (.int n), .fz (dP p)])) →
    ∃ s2 s3' s4' s5', forL (fun x => bnd (asgn (callN tbl F) lt16_0 x) fun _ => execs (callN tbl F) lb16_0) (enumFrom j (dPs ps)) [.fz (.int n), .fz T, .fz (.int (s0 : Nat)), s3, s4, s5] = .ok .nx [.fz (.int n), .fz T, s2, s3', s4', s5']
  | [], j, s0, s3, s4, s5, _, _, _, _, _ => ⟨_, _, _, _, rfl⟩
  | p :: ps, j, s0, s3, s4, s5, h3, h4, h5, hz, h => by
    obtain ⟨h6, h7⟩ := h p (List.mem_cons_self ..)
    rw [szPs_cons] at hz
    have e := inv_step (callN tbl F) n (s0 : Nat) (szP p : Nat) (dpP p : Nat) (j : Nat) (dP p) T s3 s4 s5 h3 h4 h5 (by omega) (by omega) h7
    rw [show ((s0 : Nat) : Int) + ((szP p : Nat) : Int) = ((s0 + szP p : Nat) : Int) from rfl] at e
    obtain ⟨s2, s3', s4', s5', e2⟩ := inv_loop F T ps (j + 1) (s0 + szP p) _ _ _ (.inr ⟨_, rfl⟩) (.inr ⟨_, rfl⟩) (.inr ⟨_, rfl⟩) (by omega) fun q hq => h q (List.mem_cons_of_mem _ hq)
    refine ⟨s2, s3', s4', s5', ?_⟩
    rw [dPs]
    exact forL_cons e e2
theorem ok_finv {n M : Int} (hM : M ≤ 1000000000000000000000000000000) (k : Nat) {ps : List Pt} (ok : OkPs n M ps) (hz : szPs ps ≤ 120) (hd : dpPs ps ≤ 5) : callN tbl (k + 13) 16 [.fz (.int n), .fz (.tup (dPs ps))] = some (.fz .non, [.fz (.int n), .fz (.tup (dPs ps))]) := by
  obtain ⟨s2, s3, s4, s5, e⟩ := inv_loop (k + 12) (n := n) (.tup (dPs ps)) ps 0 0 .un .un .un (.inl rfl) (.inl rfl) (.inl rfl) (by omega) fun p hp => ⟨Nat.le_trans (dp_mem hp) hd, (ok_meas hM 5 k).1 p (Nat.le_trans (dp_mem hp) hd) (ok p hp)⟩
  generalize dPs ps = A at e ⊢
  have key : execs (callN tbl (k + 12)) ir16 [.fz (.int n), .fz (.tup A), .un, .un, .un, .un] = .ok (.rt (.fz .non)) [.fz (.int n), .fz (.tup A), s2, s3, s4, s5] := by
    rw [show (((0 : Nat) : Int)) = 0 from rfl] at e
    simp [ir16, e]
  exact call_fz ⟨2, 6, ir16⟩ key
theorem ok_init {n M : Int} (hM : M ≤ 1000000000000000000000000000000) (k : Nat) (h1 : 1 ≤ n) (h2 : n ≤ 12) {ps : List Pt} (ok : OkPs n M ps) (hz : szPs ps ≤ 120) (hd : dpPs ps ≤ 5) :
    ∃ ss, callN tbl (k + 14) 8 [.un, .fz (.int n), .fz (.tup (dPs ps))] = some (.fz (.tup [.int n, .tup (dPs ps)]), ss) := by
  have e1 := ok_finv hM k ok hz hd
  have e2 := ok_lvc (k + 10) n h1 h2
  generalize dPs ps = A at e1 ⊢
  have key : execs (callN tbl (k + 13)) ir8 [.un, .fz (.int n), .fz (.tup A), .un] = .ok (.rt (.fz (.tup [.int n, .tup A]))) [.un, .fz (.int n), .fz (.tup A), .fz .non] := by
    simp [ir8, e1, e2]
  exact ⟨_, call_fz ⟨3, 4, ir8⟩ key⟩
/-- the log with the parts ps -/
def lg (n : Int) (ps : List Pt) : D := .obj 0 [.int n, .tup (dPs ps)]
theorem ok_isLog (k : Nat) (xs : List D) : callN tbl (k + 1) 23 [.fz (.obj 0 xs)] = some (.fz (.bl true), [.fz (.obj 0 xs)]) := by
  have key : execs (callN tbl k) ir23 [.fz (.obj 0 xs)] = .ok (.rt (.fz (.bl true))) [.fz (.obj 0 xs)] := by simp [ir23]
  exact call_fz ⟨1, 1, ir23⟩ key
theorem ok_chkLog (k : Nat) (xs : List D) : callN tbl (k + 2) 17 [.fz (.obj 0 xs)] = some (.fz .non, [.fz (.obj 0 xs)]) := by
  have e := ok_isLog k xs
  have key : execs (callN tbl (k + 1)) ir17 [.fz (.obj 0 xs)] = .ok .nx [.fz (.obj 0 xs)] := by simp [ir17, e]
  exact call_no ⟨1, 1, ir17⟩ key
/-! racks by one put -/
/-! length_of -/
/-! levels_in -/
theorem lvs_lv (Φ : Calls) (T : D) (F : List D) (i : Int) (s2 : Sl) (h2 : Loose s2) (hl : F.length ≤ 4000) : (bnd (asgn Φ lt26_0 (.int i)) fun _ => execs Φ lb26_0) [.fz T, .ls .own F, s2] = .ok .nx [.fz T, .ls .own (F ++ [.int i]), .fz (.int i)] := by
  have : F.length ≤ 16777215 := by omega
  rcases h2 with rfl | ⟨d, rfl⟩ <;> simp [this]
theorem lvs_pr (Φ : Calls) (T : D) (F G : List D) (t : Int) (ds : List D) (s2 : Sl) (h2 : Loose s2) (hl : F.length ≤ 4000) (hg : G.length ≤ 4000) (e : Φ 26 [.fz (.tup ds)] = some (.fr G, [.fz (.tup ds)])) :
    (bnd (asgn Φ lt26_0 (.tup [.tup ds, .int t])) fun _ => execs Φ lb26_0) [.fz T, .ls .own F, s2] = .ok .nx [.fz T, .ls .own (F ++ G), .fz (.tup [.tup ds, .int t])] := by
  have : F.length + G.length ≤ 16777216 := by omega
  rcases h2 with rfl | ⟨d, rfl⟩ <;> simp [e, this]
theorem lvs_run (Φ : Calls) (A : List D) (F : List Int) (s2 : Sl) (e : forL (fun x => bnd (asgn Φ lt26_0 x) fun _ => execs Φ lb26_0) A [.fz (.tup A), .ls .own [], .un] = .ok .nx [.fz (.tup A), .ls .own (F.map .int), s2]) (h1 : F.length ≤ 4000) (h2 : (setI F).length < 64) :
    execs Φ ir26 [.fz (.tup A), .un, .un] = .ok (.rt (.fr ((setI F).map .int))) [.fz (.tup A), .ls .own (F.map .int), s2] := by
  simp [ir26, e, DL.ints_of, h1, h2]
theorem ok_lvs {n M : Int} (h0 : 0 ≤ n) (hn : n ≤ 12) : ∀ (d k : Nat) (ps : List Pt), dpPs ps ≤ d → OkPs n M ps → szPs ps ≤ 120 → callN tbl (k + d) 26 [.fz (.tup (dPs ps))] = some (.fr ((lvPs ps).map .int), [.fz (.tup (dPs ps))])
  | 0, k, ps, h, _, _ => by have := dpPs_pos ps; omega
  | d + 1, k, ps, hd, ok, hz => by
    have hps : ps.length ≤ 120 := by have := len_sz ps; omega
    obtain ⟨ρ', e, F, s2, rfl, _, hF, hm⟩ := forL_mapR (step := fun x => bnd (asgn (callN tbl (k + d)) lt26_0 x) fun _ => execs (callN tbl (k + d)) lb26_0) dP
      (fun done ρ => ∃ (F : List Int) (s2 : Sl), ρ = [.fz (.tup (dPs ps)), .ls .own (F.map .int), s2] ∧ Loose s2 ∧ F.length ≤ 12 * done.length ∧ ∀ k, k ∈ F ↔ k ∈ exPs done) ps [] [.fz (.tup (dPs ps)), .ls .own [], .un]
      ⟨[], _, rfl, .inl rfl, Nat.zero_le _, fun k => Iff.rfl⟩ (fun done p r ρ hp hI => by
        rw [List.nil_append] at hp
        obtain ⟨F, s2, rfl, h2, hF, hm⟩ := hI
        have okp := ok p (mem_split hp)
        have dp := Nat.le_trans (dp_mem (mem_split hp)) hd
        have zp := Nat.le_trans (sz_mem (mem_split hp)) hz
        have hdl := len_split hp
        have hl : (F.map D.int).length ≤ 4000 := by rw [List.length_map]; omega
        cases p with
        | lv i =>
          refine ⟨_, .inl (by rw [dP]; exact lvs_lv _ _ _ i s2 h2 hl), F ++ [i], Sl.fz (.int i), by rw [List.map_append]; rfl, .inr ⟨_, rfl⟩, by rw [List.length_append, List.length_append]; simp; omega, fun k => ?_⟩
          rw [exPs_app, exPs_one, exP_lv, List.mem_append, List.mem_append, hm k]
        | pr qs t =>
          obtain ⟨o1, t1, t2⟩ := ok_sub okp
          rw [dpP_pr] at dp
          rw [szP_pr] at zp
          have ih := ok_lvs h0 hn d k qs (by omega) o1 (by omega)
          have hml : ((lvPs qs).length : Int) ≤ n := mk_len (mk_setI (ex_lv qs o1)) h0
          have hg : ((lvPs qs).map D.int).length ≤ 4000 := by
            rw [List.length_map]
            omega
          refine ⟨_, .inl (by rw [dP]; exact lvs_pr _ _ _ _ t _ s2 h2 hl hg ih), F ++ lvPs qs, Sl.fz (.tup [.tup (dPs qs), .int t]), by rw [List.map_append], .inr ⟨_, rfl⟩, ?_, fun k => ?_⟩
          · rw [List.length_append, List.length_append]
            simp
            omega
          · rw [exPs_app, exPs_one, exP_pr, List.mem_append, List.mem_append, hm k]
            refine or_congr Iff.rfl ?_
            unfold lvPs
            rw [setI_mem]
            constructor
            · intro h
              refine List.mem_flatten.mpr ⟨exPs qs, ?_, h⟩
              rw [List.mem_replicate]
              exact ⟨by omega, rfl⟩
            · intro h
              obtain ⟨l, hl, h⟩ := List.mem_flatten.mp h
              rw [(List.mem_replicate.mp hl).2] at h
              exact h)
    rw [List.nil_append] at hF hm
    rw [← dPs_map] at e
    have es : setI F = lvPs ps := setI_ext hm
    have hml : ((lvPs ps).length : Int) ≤ n := mk_len (mk_setI (ex_lv ps ok)) h0
    have key := lvs_run _ _ F s2 e (by omega) (by rw [es]; omega)
    rw [es] at key
    exact call_fr ⟨1, 3, ir26⟩ key
/-! expand -/
theorem repl_int (xs : List Int) (n : Nat) : repl (xs.map D.int) n = ((List.replicate n xs).flatten).map .int := by
  unfold repl
  rw [List.map_flatten, List.map_replicate]
/-! methods of Log -/
end Q_bandlinks_k21_band_table

namespace Q_bandlinks_k21_band_table
open PySem L2 DL
/-! trace -/
theorem tr_loop (Φ : Calls) (a b : D) {n : Int} (hn : n ≤ 12) (h0 : 0 ≤ n) {ms xs : List Int} (hm : Mk n ms) (hx : ∀ x ∈ xs, 1 ≤ x ∧ x ≤ n) (hl : xs.length ≤ 1000) (step : D → M Fl)
    (st : ∀ (L : List D) (zs : List Int) (x : Int) (s3 : Sl), Loose s3 → L.length ≤ 4000 → Mk n zs → 1 ≤ x → x ≤ n → step (.int x) [.fz a, .fz b, .ls .own (L ++ [tupI zs]), s3] = .ok .nx [.fz a, .fz b, .ls .own (L ++ [tupI zs] ++ [tupI (putR x zs)]), .fz (.int x)]) :
    ∃ s3, forL step (xs.map .int) [.fz a, .fz b, .ls .own [tupI ms], .un] = .ok .nx [.fz a, .fz b, .ls .own ((trc ms xs).map tupI), s3] := by
  obtain ⟨ρ', e, s3, rfl, _⟩ := forL_mapR (step := step) D.int
    (fun done ρ => ∃ s3, ρ = [.fz a, .fz b, .ls .own ((trc ms done).map tupI), s3] ∧ Loose s3) xs [] [.fz a, .fz b, .ls .own [tupI ms], .un]
    ⟨_, rfl, .inl rfl⟩ (fun done x r ρ hp hI => by
      rw [List.nil_append] at hp
      obtain ⟨s3, rfl, h3⟩ := hI
      obtain ⟨x1, x2⟩ := hx x (mem_split hp)
      have hd := len_split hp
      obtain ⟨L, eL⟩ := trc_last done ms
      have hmk : Mk n (rdL ms done) := mk_rdL hn hm fun y hy => hx y (by rw [hp]; exact List.mem_append_left _ hy)
      have hlen : L.length ≤ 4000 := by
        have := trc_len done ms
        rw [eL, List.length_append] at this
        simp at this
        omega
      have s := st (L.map tupI) (rdL ms done) x s3 h3 (by rw [List.length_map]; exact hlen) hmk x1 x2
      refine ⟨_, .inl ?_, .fz (.int x), rfl, .inr ⟨_, rfl⟩⟩
      rw [trc_snoc, eL]
      simp only [List.map_append, List.map_cons, List.map_nil]
      exact s)
  exact ⟨s3, e⟩
/-! racks seen -/
/-! spelled -/
/-! size, times -/
theorem sz_lv (Φ : Calls) (T : D) (i : Int) : compStep Φ co19_0 ct19_0 cc19_0 ce19_0 (.int i) [.fz T, .un] = .ok (some (.int 1)) [.fz T, .un] := by
  simp [compStep]
theorem sz_pr (Φ : Calls) (T : D) (z t : Int) (ds : List D) (e : Φ 19 [.fz (.tup ds)] = some (.fz (.int z), [.fz (.tup ds)])) : compStep Φ co19_0 ct19_0 cc19_0 ce19_0 (.tup [.tup ds, .int t]) [.fz T, .un] = .ok (some (.int (1 + z))) [.fz T, .un] := by
  simp [compStep, e]
theorem sz_run (Φ : Calls) (A Z : List D) (zs : List Int) (e : cmpL (compStep Φ co19_0 ct19_0 cc19_0 ce19_0) A [] [.fz (.tup A), .un] = .ok Z [.fz (.tup A), .un]) (i : intsD Z = some zs) :
    execs Φ ir19 [.fz (.tup A), .un] = .ok (.rt (.fz (.int zs.sum))) [.fz (.tup A), .un] := by
  simp [ir19, e, i]
theorem sz_sum : ∀ ps : List Pt, (ps.map fun p => ((szP p : Nat) : Int)).sum = ((szPs ps : Nat) : Int)
  | [] => rfl
  | p :: ps => by rw [List.map_cons, List.sum_cons, sz_sum ps, szPs_cons]; rfl
theorem ok_size : ∀ (d k : Nat) (ps : List Pt), dpPs ps ≤ d → szPs ps ≤ 1000 → callN tbl (k + d) 19 [.fz (.tup (dPs ps))] = some (.fz (.int (szPs ps : Nat)), [.fz (.tup (dPs ps))])
  | 0, k, ps, h, _ => by have := dpPs_pos ps; omega
  | d + 1, k, ps, hd, hz => by
    have hps := len_sz ps
    have e := cmpL_map (step := compStep (callN tbl (k + d)) co19_0 ct19_0 cc19_0 ce19_0) (g := dP) (ρ := [.fz (.tup (dPs ps)), .un]) (f := fun p => some (.int ((szP p : Nat) : Int))) ps [] (by show 0 + ps.length ≤ 16777216; omega) (fun p hp => by
      have dp := Nat.le_trans (dp_mem hp) hd
      have zp := Nat.le_trans (sz_mem hp) hz
      cases p with
      | lv i => rw [dP, szP_lv]; exact sz_lv _ _ i
      | pr qs t =>
        rw [dpP_pr] at dp
        rw [szP_pr] at zp
        rw [dP, szP_pr]
        exact sz_pr _ _ _ t _ (ok_size d k qs (by omega) (by omega)))
    rw [← dPs_map, List.nil_append] at e
    have i : intsD (ps.filterMap fun p => some (D.int ((szP p : Nat) : Int))) = some (ps.map fun p => ((szP p : Nat) : Int)) := by
      have := DL.ints_of (ps.map fun p => ((szP p : Nat) : Int))
      rw [List.map_map] at this
      rw [← this, ← List.filterMap_eq_map]
      rfl
    have key := sz_run _ _ _ _ e i
    rw [sz_sum] at key
    exact call_fz ⟨1, 2, ir19⟩ key
theorem tm_run (Φ : Calls) (xs ys1 ys2 ys3 : List D) (a b c v : Int) (e1 : Φ 10 [.ls .bor xs, .fz (.int 12)] = some (.fz (.int a), [.ls .bor ys1, .fz (.int 12)])) (e2 : Φ 10 [.ls .bor ys1, .fz (.int 1000000000000000000000000000000)] = some (.fz (.int b), [.ls .bor ys2, .fz (.int 1000000000000000000000000000000)]))
    (e3 : Φ 10 [.ls .bor ys2, .fz (.int 5)] = some (.fz (.int c), [.ls .bor ys3, .fz (.int 5)])) (at5 : atI [D.int 1, .int 2, .int (3 + a), .int (1 + b), .int 1000000000000000000000000000000] c = some (.int v)) :
    execs Φ ir20 [.ls .bor xs] = .ok (.rt (.fz (.int v))) [.ls .bor ys3] := by
  simp [ir20, e1, e2, e3, at5, -x_atI, -x_ixN]
theorem ok_times (k : Nat) {xs : List D} (h : Pool xs) : ∃ t ys, callN tbl (k + 2) 20 [.ls .bor xs] = some (.fz (.int t), [.ls .bor ys]) ∧ 1 ≤ t ∧ t ≤ 1000000000000000000000000000000 ∧ Pool ys := by
  obtain ⟨a, ys1, e1, a0, a1, p1⟩ := ok_draw k h (n := 12) (by decide) (by decide)
  obtain ⟨b, ys2, e2, b0, b1, p2⟩ := ok_draw k p1 (n := 1000000000000000000000000000000) (by decide) (by decide)
  obtain ⟨c, ys3, e3, c0, c1, p3⟩ := ok_draw k p2 (n := 5) (by decide) (by decide)
  have hc : c = 0 ∨ c = 1 ∨ c = 2 ∨ c = 3 ∨ c = 4 := by omega
  rcases hc with rfl | rfl | rfl | rfl | rfl
  · exact ⟨1, ys3, call_fz ⟨1, 1, ir20⟩ (tm_run _ _ _ _ _ _ _ _ _ e1 e2 e3 rfl), by decide, by decide, p3⟩
  · exact ⟨2, ys3, call_fz ⟨1, 1, ir20⟩ (tm_run _ _ _ _ _ _ _ _ _ e1 e2 e3 rfl), by decide, by decide, p3⟩
  · exact ⟨3 + a, ys3, call_fz ⟨1, 1, ir20⟩ (tm_run _ _ _ _ _ _ _ _ _ e1 e2 e3 rfl), by omega, by omega, p3⟩
  · exact ⟨1 + b, ys3, call_fz ⟨1, 1, ir20⟩ (tm_run _ _ _ _ _ _ _ _ _ e1 e2 e3 rfl), by omega, by omega, p3⟩
  · exact ⟨1000000000000000000000000000000, ys3, call_fz ⟨1, 1, ir20⟩ (tm_run _ _ _ _ _ _ _ _ _ e1 e2 e3 rfl), by decide, by decide, p3⟩
/-! sequences -/
theorem seq_step (k : Nat) {xs : List D} (h : Pool xs) (n w b j : Int) (most : D) (fs : List D) (s6 s7 : Sl) (h6 : Loose s6) (h7 : Loose s7) (h1 : 1 ≤ n) (h2 : n ≤ 12) (w0 : 0 ≤ w) (w4 : w < 4) (hf : fs.length < 16777216) :
    ∃ ys y z, Pool ys ∧ 1 ≤ y ∧ y ≤ n ∧ (bnd (asgn (callN tbl (k + 1)) lt11_0 (.int j)) fun _ => execs (callN tbl (k + 1)) lb11_0) [.ls .bor xs, .fz (.int n), .fz most, .ls .own fs, .fz (.int w), .fz (.int b), s6, s7] =
      .ok .nx [.ls .bor ys, .fz (.int n), .fz most, .ls .own (fs ++ [.int y]), .fz (.int w), .fz (.int b), .fz (.int j), .fz (.int z)] := by
  obtain ⟨r1, ys1, e1, _, _, p1⟩ := ok_draw k h (n := n) (by omega) (by omega)
  obtain ⟨r2, ys2, e2, _, _, p2⟩ := ok_draw k p1 (n := 2) (by decide) (by decide)
  have hn0 : n ≠ 0 := by omega
  have hn2 : 0 ≤ n := by omega
  have hw : w = 0 ∨ w = 1 ∨ w = 2 ∨ w = 3 := by omega
  have lo : ∀ z : Int, 1 ≤ 1 + z % n := fun z => by have := Int.emod_nonneg z hn0; omega
  have up : ∀ z : Int, 1 + z % n ≤ n := fun z => by have := Int.emod_lt_of_pos z (show 0 < n by omega); omega
  rcases hw with rfl | rfl | rfl | rfl
  · refine ⟨ys2, 1 + r1 % n, r1, p2, lo _, up _, ?_⟩
    rcases h6 with rfl | ⟨d, rfl⟩ <;> rcases h7 with rfl | ⟨d, rfl⟩ <;> simp [e1, e2, fmodE, hn0, hn2, hf]
  · refine ⟨ys2, 1 + (b + j) % n, b + j, p2, lo _, up _, ?_⟩
    rcases h6 with rfl | ⟨d, rfl⟩ <;> rcases h7 with rfl | ⟨d, rfl⟩ <;> simp [e1, e2, fmodE, hn0, hn2, hf]
  · refine ⟨ys2, 1 + (b - j) % n, b - j, p2, lo _, up _, ?_⟩
    rcases h6 with rfl | ⟨d, rfl⟩ <;> rcases h7 with rfl | ⟨d, rfl⟩ <;> simp [e1, e2, fmodE, hn0, hn2, hf]
  · refine ⟨ys2, 1 + (b + r2) % n, b + r2, p2, lo _, up _, ?_⟩
    rcases h6 with rfl | ⟨d, rfl⟩ <;> rcases h7 with rfl | ⟨d, rfl⟩ <;> simp [e1, e2, fmodE, hn0, hn2, hf]
theorem ok_seq (k : Nat) {xs : List D} (h : Pool xs) {n m : Int} (h1 : 1 ≤ n) (h2 : n ≤ 12) (m0 : 0 ≤ m) (m1 : m ≤ 100) : ∃ (fs : List Int) (ys : List D), callN tbl (k + 2) 11 [.ls .bor xs, .fz (.int n), .fz (.int m)] = some (.fr (fs.map .int), [.ls .bor ys, .fz (.int n), .fz (.int m)]) ∧ Pool ys ∧ (∀ x ∈ fs, 1 ≤ x ∧ x ≤ n) ∧ (fs.length : Int) ≤ m := by
  obtain ⟨w, ys1, e1, w0, w1, p1⟩ := ok_draw k h (n := 4) (by decide) (by decide)
  obtain ⟨b, ys2, e2, _, _, p2⟩ := ok_draw k p1 (n := n) (by omega) (by omega)
  obtain ⟨c, ys3, e3, c0, c1, p3⟩ := ok_draw k p2 (n := m + 1) (by omega) (by omega)
  obtain ⟨ρ', e, fs, ys, s6, s7, rfl, p, h6, h7, hb, hl⟩ := forL_inv (step := fun x => bnd (asgn (callN tbl (k + 1)) lt11_0 x) fun _ => execs (callN tbl (k + 1)) lb11_0)
    (fun j ρ => ∃ (fs : List Int) (ys : List D) (s6 s7 : Sl), ρ = [.ls .bor ys, .fz (.int n), .fz (.int m), .ls .own (fs.map .int), .fz (.int w), .fz (.int b), s6, s7] ∧ Pool ys ∧ Loose s6 ∧ Loose s7 ∧ (∀ x ∈ fs, 1 ≤ x ∧ x ≤ n) ∧ fs.length = j) (rngL 0 c) 0
    [.ls .bor ys3, .fz (.int n), .fz (.int m), .ls .own [], .fz (.int w), .fz (.int b), .un, .un] ⟨[], ys3, _, _, rfl, p3, .inl rfl, .inl rfl, fun _ z => (nomatch z), rfl⟩ (fun j ρ d hd hI => by
      rw [Nat.zero_add] at hI ⊢
      obtain ⟨fs, ys, s6, s7, rfl, p, h6, h7, hb, hl⟩ := hI
      obtain ⟨rfl, hj⟩ := rng_get hd
      obtain ⟨ys', y, z, p', y1, y2, es⟩ := seq_step k p n w b (0 + (j : Int)) (.int m) (fs.map .int) s6 s7 h6 h7 h1 h2 w0 w1 (by rw [List.length_map]; omega)
      refine ⟨_, .inl es, fs ++ [y], ys', .fz (.int (0 + (j : Int))), .fz (.int z), by rw [List.map_append]; rfl, p', .inr ⟨_, rfl⟩, .inr ⟨_, rfl⟩, fun x hx => ?_, by rw [List.length_append, hl]; rfl⟩
      rcases List.mem_append.mp hx with q | q
      · exact hb x q
      · rw [List.mem_singleton] at q; subst q; exact ⟨y1, y2⟩)
  refine ⟨fs, ys, ?_, p, hb, by rw [hl, Nat.zero_add, rng_len]; omega⟩
  generalize fs.map D.int = F at e ⊢
  have i2 : DL.small62 c = true := s62 (by omega) (by omega)
  have key : execs (callN tbl (k + 1)) ir11 [.ls .bor xs, .fz (.int n), .fz (.int m), .un, .un, .un, .un, .un] = .ok (.rt (.rf 3)) [.ls .bor ys, .fz (.int n), .fz (.int m), .ls .own F, .fz (.int w), .fz (.int b), s6, s7] := by
    simp [ir11, e1, e2, e3, i2, e]
  exact call_rf ⟨3, 8, ir11⟩ key
end Q_bandlinks_k21_band_table

namespace Q_bandlinks_k21_band_table
open PySem L2 DL
/-! tables -/
theorem em_run (Φ : Calls) (n : Int) (R : D) (Z : List D) (h1 : binD .mul (.tup [.int 0]) (.int (n + 1)) = some (.fz R)) (h2 : binD .mul (.tup [R]) (.int (n + 1)) = some (.fz (.tup Z))) : execs Φ ir24 [.fz (.int n)] = .ok (.rt (.fz (.tup Z))) [.fz (.int n)] := by
  simp [ir24, h1, h2, -d_mulT]
theorem ok_empty (k : Nat) {n : Nat} (n1 : 1 ≤ n) (n2 : n ≤ 12) : callN tbl (k + 1) 24 [.fz (.int n)] = some (.fz (tabD n fun _ _ => 0), [.fz (.int n)]) := by
  have rep : ∀ d : D, binD .mul (.tup [d]) (.int ((n : Int) + 1)) = some (.fz (.tup ((List.range (n + 1)).map fun _ => d))) := fun d => by
    rw [d_mulT, if_pos ⟨by omega, by omega, Nat.le_refl 1, by show 1 ≤ 1000; decide⟩, repl_one, show ((n : Int) + 1).toNat = n + 1 from by omega, List.map_const', List.length_range]
  exact call_fz ⟨1, 1, ir24⟩ (em_run (callN tbl k) n _ _ (rep (.int 0)) (rep _))
/-- one row of appended -/
theorem ap_row (Φ : Calls) {n : Nat} (n2 : n ≤ 12) (T : Nat → Nat → Int) (x l : Nat) (x1 : 1 ≤ x) (x2 : x ≤ n) (hl : l < x) (F : D) (Z : List D) :
    ev Φ (.bin .add (.slc (.var 4) .none (.some (.var 1))) (.bi .tuple (.cons (.comp co25_0 ct25_0 (.val (.slc (.var 4) (.some (.var 1)) .none)) cc25_0 ce25_0) .nil))) [.fz F, .fz (.int x), .ls .own Z, .fz (.int l), .fz (rowD n T l), .un]
      = .ok (.fz (rowD n (appT T x) l)) [.fz F, .fz (.int x), .ls .own Z, .fz (.int l), .fz (rowD n T l), .un] := by
  refine e_bin (e_slc rfl rfl (o_some rfl) rfl (congrArg (fun z => some (R.fz (.tup z))) (cv_pre n x (T l) x2))) (e_bi1 (e_comp (fun k : Nat => .int (T l k)) (List.range' x (n + 1 - x)) (fun k => .int (appT T x l k)) (i_val (e_slc rfl (o_some rfl) rfl rfl (congrArg (fun z => some (R.fz (.tup z))) (cv_suf n x (T l) x2))) rfl rfl) (by rw [List.length_range']; show n + 1 - x ≤ 16777216; omega) fun k hk => ?_) rfl rfl) rfl rfl ?_
  · have hk := (List.mem_range'_1.mp hk).1
    refine c_some rfl (e_bi2 rfl (e_bin (e_idx rfl (e_bin rfl rfl rfl rfl rfl) rfl rfl (?_ : _ = some (D.int (T l (x - 1))))) rfl rfl rfl rfl) rfl rfl ?_)
    · rw [show D.int ((x : Int) - 1) = D.int ((x - 1 : Nat) : Int) from congrArg D.int (by omega)]
      exact row_at T (by omega)
    · refine congrArg (fun z => some (R.fz (D.int z))) ?_
      show (if T l (x - 1) + 1 > T l k then T l (x - 1) + 1 else T l k) = if l < x ∧ x ≤ k then _ else _
      rw [if_pos (show l < x ∧ x ≤ k from ⟨hl, hk⟩)]
      split <;> omega
  · rw [d_addT, if_pos (by rw [List.length_map, List.length_map, List.length_range, List.length_range']; show _ ≤ 16777216; omega)]
    unfold rowD cvD
    rw [rng_cut x (n + 1) (fun k => D.int (appT T x l k)) (by omega)]
    congr 4
    refine List.map_congr_left fun k hk => ?_
    have hk := List.mem_range.mp hk
    unfold appT
    rw [if_neg (by omega)]
theorem x_ap (Φ : Calls) {n : Nat} (n2 : n ≤ 12) (T : Nat → Nat → Int) (x : Nat) (x1 : 1 ≤ x) (x2 : x ≤ n) : ∃ ρ, execs Φ ir25 [.fz (tabD n T), .fz (.int x), .un, .un, .un, .un] = .ok (.rt (.fz (tabD n (appT T x)))) (.fz (tabD n T) :: .fz (.int x) :: ρ) := by
  refine ⟨_, sq (x_asgL e_nil) (sq (for_nx (fun l : Nat => .tup [.int (l : Int), rowD n T l]) (List.range (n + 1)) (fun done => [.fz (tabD n T), .fz (.int x), .ls .own (done.map fun l => rowD n (appT T x) l), .un, .un, .un]) ((i_enum (d := tabD n T) rfl rfl rfl).trans (congrArg (fun z => Out.ok (none, z) _) (enum_rng0 _ _))) rfl ?_) (sq_rt (x_ret (e_bi1 rfl rfl rfl))))⟩
  intro done l rest hp
  obtain ⟨hl, rfl⟩ := rng_split hp
  refine bd rfl (sq (ρ1 := [.fz (tabD n T), .fz (.int x), .ls .own ((List.range l).map fun l => rowD n (appT T x) l), .fz (.int l), .fz (rowD n (appT T x) l), .un]) ?_ (sq (x_app rfl ?_) (sq_end x_wip)) |>.trans ?_)
  · refine x_if (decide ((l : Int) < x)) (e_cmp rfl rfl rfl rfl rfl) rfl ?_
    by_cases h : l < x
    · rw [decide_eq_true (by omega)]
      exact sq_end (x_asgD (ap_row Φ n2 T x l x1 x2 h _ _))
    · rw [decide_eq_false (by omega)]
      have e : rowD n (appT T x) l = rowD n T l := by
        unfold rowD cvD appT
        congr 2
        funext k
        rw [if_neg (by omega)]
      rw [e]; rfl
  · rw [List.length_map, List.length_range]; show l < 16777216; omega
  · rw [List.map_append]; rfl
theorem ok_ap (k : Nat) {n : Nat} (n2 : n ≤ 12) (T : Nat → Nat → Int) (x : Nat) (x1 : 1 ≤ x) (x2 : x ≤ n) : callN tbl (k + 1) 25 [.fz (tabD n T), .fz (.int x)] = some (.fz (tabD n (appT T x)), [.fz (tabD n T), .fz (.int x)]) := by
  obtain ⟨ρ, e⟩ := x_ap (callN tbl k) n2 T x x1 x2
  exact call_fz ⟨2, 6, ir25⟩ e
theorem x_pr (Φ : Calls) {n : Nat} (n2 : n ≤ 12) (A B : Nat → Nat → Int) : ∃ ρ, execs Φ ir27 [.fz (tabD n A), .fz (tabD n B), .un, .un, .un, .un, .un] = .ok (.rt (.fz (tabD n (prT A B)))) (.fz (tabD n A) :: .fz (tabD n B) :: ρ) := by
  refine ⟨_, sq (x_asgL e_nil) (sq (for_nx (fun l : Nat => .int (l : Int)) (List.range (n + 1)) (fun done => [.fz (tabD n A), .fz (tabD n B), .ls .own (done.map fun l => rowD n (prT A B) l), .un, .un, .un, .un]) (i_rng1 (e_bi1 rfl rfl (tab_len n A)) (by omega)) rfl ?_) (sq_rt (x_ret (e_bi1 rfl rfl rfl))))⟩
  intro done l rest hp
  obtain ⟨hl, rfl⟩ := rng_split hp
  refine bd rfl (sq (x_asgL (e_bin rfl rfl rfl rfl (mul_row (.int 0) (by omega)))) (sq (x_wip) (sq (ρ1 := [.fz (tabD n A), .fz (tabD n B), .ls .own ((List.range l).map fun l => rowD n (prT A B) l), .fz (.int l), .ls .own (cvD n (prT A B l)), .un, .un]) ?_ (sq (x_app (e_bi1 rfl rfl rfl) ?_) (sq_end x_wip))))) |>.trans ?_
  · refine (for_nx (fun k : Nat => .int (k : Int)) (List.range' l (n + 1 - l)) (fun done2 => [.fz (tabD n A), .fz (tabD n B), .ls .own ((List.range l).map fun l => rowD n (prT A B) l), .fz (.int l), .ls .own (List.replicate l (D.int 0) ++ done2.map fun k => .int (prT A B l k)), .un, .un]) (i_rng2 rfl (e_bi1 rfl rfl (tab_len n A)) (by omega) (by omega)) ?_ ?_).trans ?_
    · rw [List.map_nil, List.append_nil]; rfl
    · intro done2 k rest2 hp2
      obtain ⟨h1, h2, rfl⟩ := rng'_split hp2
      refine bd rfl (sq (x_app (d := .int (prT A B l k)) (e_bi1 (e_comp (fun i : Nat => .int (i : Int)) (List.range' l (k + 1 - l)) (fun i => .int (A l i + B i k)) (i_rng2 rfl (e_bin rfl rfl rfl rfl rfl) (by omega) (by omega)) (by rw [List.length_range']; show k + 1 - l ≤ 16777216; omega) fun i hi => ?_) rfl (max1_map _ _ ?_)) ?_) (sq_end x_wip)) |>.trans ?_
      · obtain ⟨hi, hi2⟩ := List.mem_range'_1.mp hi
        exact c_some rfl (e_bin (e_idx (e_idx rfl rfl rfl rfl (tab_at A (by omega))) rfl rfl rfl (row_at A (by omega))) (e_idx (e_idx rfl rfl rfl rfl (tab_at B (by omega))) rfl rfl rfl (row_at B (by omega))) rfl rfl rfl)
      · rw [show k + 1 - l = (k - l) + 1 from by omega, maxL_rng (fun i => A l i + B i k) l (k - l)]
        unfold prT
        rw [if_neg (by omega)]
      · rw [List.length_append, List.length_map, List.length_range', List.length_replicate]; show _ < 16777216; omega
      · rw [List.map_append, ← List.append_assoc]; rfl
    · rw [prT_row n l A B (by omega)]
  · rw [List.length_map, List.length_range]; show l < 16777216; omega
  · rw [List.map_append]; rfl
theorem ok_pr (k : Nat) {n : Nat} (n2 : n ≤ 12) (A B : Nat → Nat → Int) : callN tbl (k + 1) 27 [.fz (tabD n A), .fz (tabD n B)] = some (.fz (tabD n (prT A B)), [.fz (tabD n A), .fz (tabD n B)]) := by
  obtain ⟨ρ, e⟩ := x_pr (callN tbl k) n2 A B
  exact call_fz ⟨2, 7, ir27⟩ e
theorem x_pw (Φ : Calls) {n : Nat} (n1 : 1 ≤ n) (n2 : n ≤ 12) (T : Nat → Nat → Int) (t : Int) (t1 : 0 ≤ t) (e1 : Φ 24 [.fz (.int n)] = some (.fz (tabD n fun _ _ => 0), [.fz (.int n)])) (e2 : ∀ A B, Φ 27 [.fz (tabD n A), .fz (tabD n B)] = some (.fz (tabD n (prT A B)), [.fz (tabD n A), .fz (tabD n B)])) :
    ∃ ρ, execs Φ ir28 [.fz (tabD n T), .fz (.int t), .un, .un, .un] = .ok (.rt (.fz (tabD n (pwT T (min t.toNat n))))) (.fz (tabD n T) :: .fz (.int t) :: ρ) := by
  have el : ∀ ρ : Ev, ρ[0]? = some (.fz (tabD n T)) → ev Φ (.bin .sub (.bi .len (.cons (.var 0) .nil)) (.cst (.int 1))) ρ = .ok (.fz (.int n)) ρ := fun ρ h => by
    have v : ev Φ (.var 0) ρ = .ok (.fz (tabD n T)) ρ := by rw [r_var, h]
    refine (e_bin (e_bi1 v rfl (tab_len n T)) rfl rfl rfl rfl).trans ?_
    rw [show ((n + 1 : Nat) : Int) - 1 = n from by omega]
  have em : biD .min2 [.int t, .int n] = some (.fz (.int ((min t.toNat n : Nat) : Int))) := by
    refine congrArg (fun z => some (R.fz (D.int z))) ?_
    show (if (n : Int) < t then (n : Int) else t) = _
    split <;> omega
  have first : exec Φ (.asg (.nm 2) (.call 24 [0] (.val (.bin .sub (.bi .len (.cons (.var 0) .nil)) (.cst (.int 1))) .nil) .nil)) [.fz (tabD n T), .fz (.int t), .un, .un, .un] = .ok .nx [.fz (tabD n T), .fz (.int t), .fz (tabD n fun _ _ => 0), .un, .un] := x_asgD (e_call1 (el _ rfl) e1)
  refine Or.elim (for_st (Φ := Φ) (t := lt28_0) (b := lb28_0) (it := .rng1 (.bi .min2 (.cons (.var 1) (.cons (.bin .sub (.bi .len (.cons (.var 0) (.nil))) (.cst (.int 1))) (.nil))))) (ρ := [.fz (tabD n T), .fz (.int t), .fz (tabD n fun _ _ => 0), .un, .un]) (fun i : Nat => .int (i : Int)) (List.range (min t.toNat n)) (fun i => [.fz (tabD n T), .fz (.int t), .fz (tabD n (pwT T i)), .un, .un]) (fun v ρ2 => v = .fz (tabD n (pwT T (min t.toNat n))) ∧ ∃ r, ρ2 = .fz (tabD n T) :: .fz (.int t) :: r) (i_rng1 (e_bi2 rfl (el _ rfl) rfl rfl em) (by omega)) rfl (fun i p hp => ?_)) (fun h => ?_) (fun ⟨v, ρ2, h, hv, r, hr⟩ => ?_)
  · have hi : i < min t.toNat n := by
      obtain ⟨h, _⟩ := List.getElem?_eq_some_iff.mp hp
      rw [List.length_range] at h; exact h
    obtain ⟨k, ek, hk⟩ := cmp_eq (pl_tab n (pwT T (i + 1))) (pl_tab n (pwT T i)) (by decide)
    have c1 : exec Φ (.asg (.nm 4) (.call 27 [0, 1] (.val (.var 2) (.val (.var 0) .nil)) .nil)) [.fz (tabD n T), .fz (.int t), .fz (tabD n (pwT T i)), .fz (.int p), .un] = .ok .nx [.fz (tabD n T), .fz (.int t), .fz (tabD n (pwT T i)), .fz (.int p), .fz (tabD n (pwT T (i + 1)))] := x_asgD (e_call2 rfl rfl (e2 (pwT T i) T))
    have c2 : ev Φ (.cmp .eq (.var 4) (.var 2)) [.fz (tabD n T), .fz (.int t), .fz (tabD n (pwT T i)), .fz (.int p), .fz (tabD n (pwT T (i + 1)))] = .ok (.fz (.bl k)) [.fz (tabD n T), .fz (.int t), .fz (tabD n (pwT T i)), .fz (.int p), .fz (tabD n (pwT T (i + 1)))] := e_cmp rfl rfl rfl rfl ek
    cases k with
    | true =>
      right
      refine ⟨_, _, bd rfl (sq c1 (sq_rt (x_ift c2 (sq_rt (x_ret rfl))))), ?_, _, rfl⟩
      have q := tab_ext.mp (hk.mp rfl)
      have := pwT_stop q (min t.toNat n - i)
      rw [show i + (min t.toNat n - i) = min t.toNat n from by omega] at this
      rw [tab_ext.mpr this]
    | false =>
      left
      exact bd rfl (sq c1 (sq (x_iff c2 rfl) (sq (x_asgD rfl) (sq_end x_wip))))
  · rw [List.length_range] at h
    exact ⟨_, sq first (sq h (sq_rt (x_ret rfl)))⟩
  · subst hv hr
    exact ⟨_, sq first (sq_rt h)⟩
theorem ok_pw (k : Nat) {n : Nat} (n1 : 1 ≤ n) (n2 : n ≤ 12) (T : Nat → Nat → Int) (t : Int) (t1 : 0 ≤ t) : callN tbl (k + 2) 28 [.fz (tabD n T), .fz (.int t)] = some (.fz (tabD n (pwT T (min t.toNat n))), [.fz (tabD n T), .fz (.int t)]) := by
  obtain ⟨ρ, e⟩ := x_pw (callN tbl (k + 1)) n1 n2 T t t1 (ok_empty k n1 n2) (ok_pr k n2)
  exact call_fz ⟨2, 5, ir28⟩ e
theorem x_to (Φ : Calls) {n : Nat} {M : Int} (n1 : 1 ≤ n) (n2 : n ≤ 12) (ps : List Pt) (ok : OkPs n M ps) (h1 : Φ 24 [.fz (.int n)] = some (.fz (tabD n fun _ _ => 0), [.fz (.int n)])) (h2 : ∀ T x, 1 ≤ x → x ≤ n → Φ 25 [.fz (tabD n T), .fz (.int (x : Nat))] = some (.fz (tabD n (appT T x)), [.fz (tabD n T), .fz (.int x)]))
    (h3 : ∀ A B, Φ 27 [.fz (tabD n A), .fz (tabD n B)] = some (.fz (tabD n (prT A B)), [.fz (tabD n A), .fz (tabD n B)])) (h4 : ∀ T t, 0 ≤ t → Φ 28 [.fz (tabD n T), .fz (.int t)] = some (.fz (tabD n (pwT T (min t.toNat n))), [.fz (tabD n T), .fz (.int t)]))
    (h5 : ∀ qs t, .pr qs t ∈ ps → Φ 26 [.fz (.tup (dPs qs))] = some (.fr ((lvPs qs).map .int), [.fz (.tup (dPs qs))])) (h6 : ∀ qs t, .pr qs t ∈ ps → Φ 18 [.fz (.int n), .fz (.tup (dPs qs))] = some (.fz (tabD n (tbPs n qs)), [.fz (.int n), .fz (.tup (dPs qs))])) :
    execs Φ ir18 [.fz (.int n), .fz (.tup (dPs ps)), .un, .un] = .ok (.rt (.fz (tabD n (tbPs n ps)))) [.fz (.int n), .fz (.tup (dPs ps)), .fz (tabD n (tbPs n ps)), .un] := by
  refine sq (x_asgD (e_call1 rfl h1)) (sq (for_nx dP ps (fun done => [.fz (.int n), .fz (.tup (dPs ps)), .fz (tabD n (tbPs n done)), .un]) (i_val rfl rfl (by rw [dPs_map]; rfl)) (by unfold tbPs; rw [tbL_nil]; rfl) ?_) (sq_rt (x_ret rfl)))
  intro done p rest hp
  have hm : p ∈ ps := mem_split hp
  have go : ∀ {X : D}, exec Φ (.wip [3]) [.fz (.int n), .fz (.tup (dPs ps)), .fz X, .fz (dP p)] = .ok .nx [.fz (.int n), .fz (.tup (dPs ps)), .fz X, .un] := x_wip
  rw [tbPs_snoc]
  cases p with
  | lv i =>
    obtain ⟨a, b⟩ := ok_lv (ok _ hm)
    have e2 := h2 (tbPs n done) i.toNat (by omega) (by omega)
    rw [Int.toNat_of_nonneg (by omega)] at e2
    refine bd rfl (sq (x_if true (e_not (e_bi1 rfl rfl rfl) rfl rfl) rfl (sq_end (x_asgD (e_call2 rfl rfl e2)))) (sq_end go)) |>.trans ?_
    rw [tbP_lv]
  | pr qs t =>
    obtain ⟨o1, t1, t2⟩ := ok_sub (ok _ hm)
    refine bd rfl (sq (ρ1 := [.fz (.int n), .fz (.tup (dPs ps)), .fz (tabD n (tbP n (tbPs n done) (.pr qs t))), .fz (dP (.pr qs t))]) (x_if false (e_not (e_bi1 rfl rfl rfl) rfl rfl) rfl (sq_end (x_ifv (!(lvPs qs).isEmpty) (e_call1 (e_idx rfl rfl rfl rfl rfl) (h5 qs t hm)) rfl (by rw [t_lst]; congr 2; cases lvPs qs <;> rfl) ?_))) (sq_end go))
    rw [tbP_pr]
    by_cases he : exPs qs = []
    · rw [if_pos he, lvPs_nil.mpr he]; rfl
    · have hl : (!(lvPs qs).isEmpty) = true := by
        cases e : lvPs qs with
        | nil => exact absurd (lvPs_nil.mp e) he
        | cons x xs => rfl
      rw [if_neg he, hl]
      exact sq_end (x_asgD (e_call2 rfl (e_call2 (e_call2 rfl (e_idx rfl rfl rfl rfl rfl) (h6 qs t hm)) (e_idx rfl rfl rfl rfl rfl) (h4 _ t (by omega))) (h3 _ _)))
theorem ok_to {n : Nat} {M : Int} (n1 : 1 ≤ n) (n2 : n ≤ 12) : ∀ (d k : Nat) (ps : List Pt), dpPs ps ≤ d → OkPs n M ps → szPs ps ≤ 120 → callN tbl (k + d + 3) 18 [.fz (.int n), .fz (.tup (dPs ps))] = some (.fz (tabD n (tbPs n ps)), [.fz (.int n), .fz (.tup (dPs ps))])
  | 0, k, ps, hd, _, _ => by have := dpPs_pos ps; omega
  | d + 1, k, ps, hd, ok, hz => by
    have sub : ∀ qs t, Pt.pr qs t ∈ ps → dpPs qs ≤ d ∧ OkPs n M qs ∧ szPs qs ≤ 120 := fun qs t hm => by
      have h1 := dp_mem hm
      have h2 := sz_mem hm
      rw [dpP_pr] at h1
      rw [szP_pr] at h2
      exact ⟨by omega, (ok_sub (ok _ hm)).1, by omega⟩
    refine call_fz ⟨2, 4, ir18⟩ (x_to (callN tbl (k + d + 3)) n1 n2 ps ok (ok_empty _ n1 n2) (fun T x a b => ok_ap _ n2 T x a b) (ok_pr _ n2) (fun T t ht => ok_pw _ n1 n2 T t ht) (fun qs t hm => ?_) (fun qs t hm => ?_))
    · obtain ⟨a, b, c⟩ := sub qs t hm
      rw [show k + d + 3 = (k + 3) + d from by omega]
      exact ok_lvs (by omega) (by omega) d (k + 3) qs a b c
    · obtain ⟨a, b, c⟩ := sub qs t hm
      exact ok_to n1 n2 d k qs a b c
end Q_bandlinks_k21_band_table

namespace Q_bandlinks_k21_band_table
open PySem L2 DL
/-! parts -/
theorem pa_no (Φ : Calls) (xs F : List D) (n r d : Int) (h : ¬ 0 < r) : (bnd (ev Φ wc13_0) fun x => bnd (vw x) fun d => ofO (truthD d)) [.ls .bor xs, .fz (.int n), .fz (.int r), .fz (.int d), .ls .own F, .un] = .ok false [.ls .bor xs, .fz (.int n), .fz (.int r), .fz (.int d), .ls .own F, .un] := by
  simp [h]
theorem pa_go (Φ : Calls) (xs ys F : List D) (n r d v : Int) (h : 0 < r) (e : Φ 10 [.ls .bor xs, .fz (.int 9)] = some (.fz (.int v), [.ls .bor ys, .fz (.int 9)])) : (bnd (ev Φ wc13_0) fun x => bnd (vw x) fun d => ofO (truthD d)) [.ls .bor xs, .fz (.int n), .fz (.int r), .fz (.int d), .ls .own F, .un] = .ok (decide (0 < v)) [.ls .bor ys, .fz (.int n), .fz (.int r), .fz (.int d), .ls .own F, .un] := by
  simp [h, e]
theorem pb_1 (Φ : Calls) (xs ys F : List D) (n r d v : Int) (hd : ¬ 1 < d) (hF : F.length ≤ 4000) (e : Φ 10 [.ls .bor xs, .fz (.int n)] = some (.fz (.int v), [.ls .bor ys, .fz (.int n)])) : execs Φ wb13_0 [.ls .bor xs, .fz (.int n), .fz (.int r), .fz (.int d), .ls .own F, .un] = .ok .nx [.ls .bor ys, .fz (.int n), .fz (.int (r - 1)), .fz (.int d), .ls .own (F ++ [.int (1 + v)]), .un] := by
  have : F.length < 16777216 := by omega
  simp [hd, e, this]
theorem pb_2 (Φ : Calls) (xs ys zs F : List D) (n r d v w : Int) (hd : 1 < d) (hw : w ≠ 0) (hF : F.length ≤ 4000) (e0 : Φ 10 [.ls .bor xs, .fz (.int 4)] = some (.fz (.int w), [.ls .bor ys, .fz (.int 4)])) (e : Φ 10 [.ls .bor ys, .fz (.int n)] = some (.fz (.int v), [.ls .bor zs, .fz (.int n)])) : execs Φ wb13_0 [.ls .bor xs, .fz (.int n), .fz (.int r), .fz (.int d), .ls .own F, .un] = .ok .nx [.ls .bor zs, .fz (.int n), .fz (.int (r - 1)), .fz (.int d), .ls .own (F ++ [.int (1 + v)]), .un] := by
  have : F.length < 16777216 := by omega
  simp [hd, e0, e, hw, this]
theorem pb_3 (Φ : Calls) (xs y1 y2 y3 y4 F Q : List D) (n r d v z t : Int) (hd : 1 < d) (hF : F.length ≤ 4000) (e0 : Φ 10 [.ls .bor xs, .fz (.int 4)] = some (.fz (.int 0), [.ls .bor y1, .fz (.int 4)])) (e1 : Φ 10 [.ls .bor y1, .fz (.int (r - 1 + 1))] = some (.fz (.int v), [.ls .bor y2, .fz (.int (r - 1 + 1))]))
    (e2 : Φ 13 [.ls .bor y2, .fz (.int n), .fz (.int v), .fz (.int (d - 1))] = some (.fz (.tup Q), [.ls .bor y3, .fz (.int n), .fz (.int v), .fz (.int (d - 1))])) (e3 : Φ 19 [.fz (.tup Q)] = some (.fz (.int z), [.fz (.tup Q)]))
    (e5 : Φ 20 [.ls .bor y3] = some (.fz (.int t), [.ls .bor y4])) :
    execs Φ wb13_0 [.ls .bor xs, .fz (.int n), .fz (.int r), .fz (.int d), .ls .own F, .un] = .ok .nx [.ls .bor y4, .fz (.int n), .fz (.int (r - 1 - z)), .fz (.int d), .ls .own (F ++ [.tup [.tup Q, .int t]]), .un] := by
  have : F.length < 16777216 := by omega
  simp [hd, e0, e1, e2, e3, e5, this, -Int.sub_add_cancel]
theorem pa_run (Φ : Calls) (xs ys F : List D) (n r r' d : Int) (e : whileN (bnd (ev Φ wc13_0) fun x => bnd (vw x) fun d => ofO (truthD d)) (execs Φ wb13_0) fuelW [.ls .bor xs, .fz (.int n), .fz (.int r), .fz (.int d), .ls .own [], .un] = .ok .nx [.ls .bor ys, .fz (.int n), .fz (.int r'), .fz (.int d), .ls .own F, .un]) :
    execs Φ ir13 [.ls .bor xs, .fz (.int n), .fz (.int r), .fz (.int d), .un, .un] = .ok (.rt (.fz (.tup F))) [.ls .bor ys, .fz (.int n), .un, .fz (.int d), .ls .own F, .un] := by
  have s_whl : ∀ {c b ρ}, exec Φ (.whl c b) ρ = whileN (bnd (ev Φ c) fun x => bnd (vw x) fun d => ofO (truthD d)) (execs Φ b) fuelW ρ := rfl
  simp [ir13, s_whl, e]
theorem x_parts (Φ : Calls) {n : Int} (n1 : 1 ≤ n) (n2 : n ≤ 12) (dd : Nat) (d1 : 1 ≤ dd)
    (hdr : ∀ (xs : List D) (m : Int), Pool xs → 0 < m → m < 1000000000000000000000000000000000000000000000000000000000000 → ∃ v ys, Φ 10 [.ls .bor xs, .fz (.int m)] = some (.fz (.int v), [.ls .bor ys, .fz (.int m)]) ∧ 0 ≤ v ∧ v < m ∧ Pool ys)
    (htm : ∀ xs : List D, Pool xs → ∃ t ys, Φ 20 [.ls .bor xs] = some (.fz (.int t), [.ls .bor ys]) ∧ 1 ≤ t ∧ t ≤ 1000000000000000000000000000000 ∧ Pool ys)
    (hrec : 1 < dd → ∀ (v : Int) (xs : List D), Pool xs → 0 ≤ v → v ≤ 120 → ∃ qs ys, Φ 13 [.ls .bor xs, .fz (.int n), .fz (.int v), .fz (.int ((dd : Int) - 1))] = some (.fz (.tup (dPs qs)), [.ls .bor ys, .fz (.int n), .fz (.int v), .fz (.int ((dd : Int) - 1))]) ∧ Pool ys ∧ OkPs n 1000000000000000000000000000000 qs ∧ (szPs qs : Int) ≤ v ∧ dpPs qs ≤ dd - 1 ∧ Φ 19 [.fz (.tup (dPs qs))] = some (.fz (.int (szPs qs : Nat)), [.fz (.tup (dPs qs))]))
    {xs : List D} (h : Pool xs) {r : Int} (r0 : 0 ≤ r) (r1 : r ≤ 120) :
    ∃ ps ys, execs Φ ir13 [.ls .bor xs, .fz (.int n), .fz (.int r), .fz (.int (dd : Nat)), .un, .un] = .ok (.rt (.fz (.tup (dPs ps)))) [.ls .bor ys, .fz (.int n), .un, .fz (.int (dd : Nat)), .ls .own (dPs ps), .un] ∧ Pool ys ∧ OkPs n 1000000000000000000000000000000 ps ∧ (szPs ps : Int) ≤ r ∧ dpPs ps ≤ dd := by
  obtain ⟨ρ', e, ps, r', ys, rfl, p, ok, hz, hd⟩ := whl_inv (test := bnd (ev Φ wc13_0) fun x => bnd (vw x) fun d => ofO (truthD d)) (body := execs Φ wb13_0)
    (fun m' ρ => ∃ (ps : List Pt) (r' : Int) (ys : List D), ρ = [.ls .bor ys, .fz (.int n), .fz (.int r'), .fz (.int (dd : Nat)), .ls .own (dPs ps), .un] ∧ Pool ys ∧ OkPs n 1000000000000000000000000000000 ps ∧ (szPs ps : Int) + r' ≤ r ∧ dpPs ps ≤ dd ∧ 0 ≤ r' ∧ m' = r'.toNat)
    (fun ρ => ∃ (ps : List Pt) (r' : Int) (ys : List D), ρ = [.ls .bor ys, .fz (.int n), .fz (.int r'), .fz (.int (dd : Nat)), .ls .own (dPs ps), .un] ∧ Pool ys ∧ OkPs n 1000000000000000000000000000000 ps ∧ (szPs ps : Int) ≤ r ∧ dpPs ps ≤ dd)
    (fun m' ρ hI => by
      obtain ⟨ps, r', ys, rfl, p, ok, hz, hd, hr, rfl⟩ := hI
      have hl := len_sz ps
      have hF : (dPs ps).length ≤ 4000 := by rw [dPs_len]; omega
      by_cases c : 0 < r'
      · obtain ⟨v, y1, e1, v0, v1, p1⟩ := hdr ys 9 p (by decide) (by decide)
        have go := pa_go Φ _ _ (dPs ps) n r' (dd : Nat) v c e1
        by_cases cv : 0 < v
        · rw [decide_eq_true cv] at go
          refine .inr ?_
          have lv : ∀ {w : Int} {y2 : List D}, 0 ≤ w → w < n → Pool y2 → ∀ ρ1, ρ1 = ([.ls .bor y2, .fz (.int n), .fz (.int (r' - 1)), .fz (.int (dd : Nat)), .ls .own (dPs ps ++ [.int (1 + w)]), .un] : Ev) → (execs Φ wb13_0 [.ls .bor y1, .fz (.int n), .fz (.int r'), .fz (.int (dd : Nat)), .ls .own (dPs ps), .un] = .ok .nx ρ1) →
              ∃ ρ1 ρ2 m', ((bnd (ev Φ wc13_0) fun x => bnd (vw x) fun d => ofO (truthD d)) [.ls .bor ys, .fz (.int n), .fz (.int r'), .fz (.int (dd : Nat)), .ls .own (dPs ps), .un] = .ok true ρ1) ∧ (execs Φ wb13_0 ρ1 = .ok .nx ρ2 ∨ execs Φ wb13_0 ρ1 = .ok .ct ρ2) ∧ m' < r'.toNat ∧ ∃ (ps : List Pt) (r' : Int) (ys : List D), ρ2 = [.ls .bor ys, .fz (.int n), .fz (.int r'), .fz (.int (dd : Nat)), .ls .own (dPs ps), .un] ∧ Pool ys ∧ OkPs n 1000000000000000000000000000000 ps ∧ (szPs ps : Int) + r' ≤ r ∧ dpPs ps ≤ dd ∧ 0 ≤ r' ∧ m' = r'.toNat := fun {w y2} w0 w1 p2 ρ1 hρ e2 => by
            subst hρ
            refine ⟨_, _, (r' - 1).toNat, go, .inl e2, by omega, ps ++ [.lv (1 + w)], r' - 1, y2, by rw [dPs_app]; rfl, p2, ok.app (OkPs.one (.lv (by omega) (by omega))), ?_, ?_, by omega, rfl⟩
            · rw [szPs_app, szPs_one, szP_lv]; omega
            · rw [dpPs_app, dpPs_one, dpP_lv]; omega
          by_cases cd : 1 < (dd : Int)
          · obtain ⟨q, y2, e2, q0, q1, p2⟩ := hdr y1 4 p1 (by decide) (by decide)
            by_cases cq : q = 0
            · subst cq
              obtain ⟨v', y3, e3, v0', v1', p3⟩ := hdr y2 (r' - 1 + 1) p2 (by omega) (by omega)
              obtain ⟨qs, y4, e4, p4, ok4, hz4, hd4, e5⟩ := hrec (by omega) v' y3 p3 (by omega) (by omega)
              obtain ⟨t, y5, e6, t1, t2, p5⟩ := htm y4 p4
              have b3 := pb_3 Φ _ _ _ _ _ (dPs ps) _ n r' _ v' _ t cd hF e2 e3 e4 e5 e6
              refine ⟨_, _, (r' - 1 - (szPs qs : Nat)).toNat, go, .inl b3, by omega, ps ++ [.pr qs t], r' - 1 - (szPs qs : Nat), y5, by rw [dPs_app]; rfl, p5, ok.app (OkPs.one (.pr ok4 t1 t2)), ?_, ?_, by omega, rfl⟩
              · rw [szPs_app, szPs_one, szP_pr]; omega
              · rw [dpPs_app, dpPs_one, dpP_pr]; omega
            · obtain ⟨w, y3, e3, w0, w1, p3⟩ := hdr y2 n p2 (by omega) (by omega)
              exact lv w0 w1 p3 _ rfl (pb_2 Φ _ _ _ (dPs ps) n r' _ w q cd cq hF e2 e3)
          · obtain ⟨w, y2, e2, w0, w1, p2⟩ := hdr y1 n p1 (by omega) (by omega)
            exact lv w0 w1 p2 _ rfl (pb_1 Φ _ _ (dPs ps) n r' _ w cd hF e2)
        · rw [decide_eq_false cv] at go
          exact .inl ⟨_, go, ps, r', y1, rfl, p1, ok, by omega, hd⟩
      · exact .inl ⟨_, pa_no Φ _ _ n r' _ c, ps, r', ys, rfl, p, ok, by omega, hd⟩)
    fuelW r.toNat [.ls .bor xs, .fz (.int n), .fz (.int r), .fz (.int (dd : Nat)), .ls .own [], .un] (by show r.toNat < 100000; omega)
    ⟨[], r, xs, rfl, h, fun _ z => (nomatch z), by rw [szPs_nil]; omega, by rw [dpPs_nil]; omega, r0, rfl⟩
  exact ⟨ps, ys, pa_run Φ _ _ _ n r r' _ e, p, ok, hz, hd⟩
theorem ok_parts {n : Int} (n1 : 1 ≤ n) (n2 : n ≤ 12) : ∀ (d k : Nat) (r : Int) {xs : List D}, Pool xs → 0 ≤ r → r ≤ 120 →
    ∃ ps ys, callN tbl (k + d + 3) 13 [.ls .bor xs, .fz (.int n), .fz (.int r), .fz (.int ((d + 1 : Nat) : Int))] = some (.fz (.tup (dPs ps)), [.ls .bor ys, .fz (.int n), .fz (.int r), .fz (.int ((d + 1 : Nat) : Int))]) ∧ Pool ys ∧ OkPs n 1000000000000000000000000000000 ps ∧ (szPs ps : Int) ≤ r ∧ dpPs ps ≤ d + 1 := by
  intro d
  induction d with
  | zero =>
    intro k r xs h r0 r1
    obtain ⟨ps, ys, e, a⟩ := x_parts (callN tbl (k + 0 + 2)) n1 n2 (0 + 1) (by decide) (fun xs m hp h1 h2 => ok_draw (k + 0 + 1) hp h1 h2) (fun xs hp => ok_times (k + 0) hp) (fun z => absurd z (by decide)) h r0 r1
    exact ⟨ps, ys, call_fz ⟨4, 6, ir13⟩ e, a⟩
  | succ d ih =>
    intro k r xs h r0 r1
    obtain ⟨ps, ys, e, a⟩ := x_parts (callN tbl (k + (d + 1) + 2)) n1 n2 (d + 1 + 1) (by omega) (fun xs m hp h1 h2 => ok_draw (k + (d + 1) + 1) hp h1 h2) (fun xs hp => ok_times (k + (d + 1)) hp) (fun _ v xs hp v0 v1 => by
      obtain ⟨qs, ys, e, p, ok, hz, hd⟩ := ih k v hp v0 v1
      have e5 := ok_size (d + 1) (k + 2) qs hd (by omega)
      rw [show k + 2 + (d + 1) = k + (d + 1) + 2 from by omega] at e5
      rw [show ((d + 1 + 1 : Nat) : Int) - 1 = ((d + 1 : Nat) : Int) from by omega, show k + (d + 1) + 2 = k + d + 3 from by omega]
      exact ⟨qs, ys, e, p, ok, hz, by omega, by rw [show k + d + 3 = k + (d + 1) + 2 from by omega]; exact e5⟩) h r0 r1
    exact ⟨ps, ys, call_fz ⟨4, 6, ir13⟩ e, a⟩
/-! tables of words, by the law's own -/
theorem ln_step (Φ : Calls) {n : Nat} (W : D) (L : List D) (l x : Nat) (b : Nat → Int) (x1 : 1 ≤ x) (x2 : x ≤ n) :
    (bnd (asgn Φ lt14_1 (.int (x : Nat))) fun _ => execs Φ lb14_1) [.fz W, .fz (.int n), .ls .own L, .fz (.int (l : Nat)), .ls .own (cvD n b), .un, .un] = .ok .nx [.fz W, .fz (.int n), .ls .own L, .fz (.int (l : Nat)), .ls .own (cvD n (bstp l b x)), .un, .un] := by
  refine bd rfl (sq (ρ1 := [.fz W, .fz (.int n), .ls .own L, .fz (.int (l : Nat)), .ls .own (cvD n (bstp l b x)), .fz (.int (x : Nat)), .un]) (x_if (decide ((l : Int) < x)) (e_cmp rfl rfl rfl rfl rfl) rfl ?_) (sq_end x_wip))
  unfold bstp
  by_cases h : l < x
  · have em := max1_pre (n := n) (x := x - 1) b (by omega)
    rw [show x - 1 + 1 = x from by omega] at em
    rw [decide_eq_true (by omega), if_pos h, ← cv_set b _ x2]
    refine sq_end (x_asgS (k := x) (e_bi2 (e_idx rfl rfl rfl rfl (rowL_at b x2)) (e_bin rfl (e_bi1 (e_slc rfl rfl (o_some rfl) rfl (congrArg (fun z => some (R.fr z)) (cv_pre1 n x b (by omega)))) rfl em) rfl rfl rfl) rfl rfl ?_) rfl (by rw [cv_len]; omega))
    · refine congrArg (fun z => some (R.fz (D.int z))) ?_
      show (if 1 + mxO b 0 (x - 1) > b x then 1 + mxO b 0 (x - 1) else b x) = _
      split <;> omega
  · rw [decide_eq_false (by omega), if_neg h]; rfl
theorem x_ln (Φ : Calls) {n : Nat} (n2 : n ≤ 12) (xs : List Nat) (hx : ∀ x ∈ xs, 1 ≤ x ∧ x ≤ n) : execs Φ ir14 [.fz (.lst (xs.map fun x : Nat => .int (x : Int))), .fz (.int n), .un, .un, .un, .un, .un] = .ok (.rt (.rf 2)) [.fz (.lst (xs.map fun x : Nat => .int (x : Int))), .fz (.int n), .ls .own (tabL n (lis xs)), .un, .un, .un, .un] := by
  refine sq (x_asgL e_nil) (sq (for_nx (fun l : Nat => .int (l : Int)) (List.range (n + 1)) (fun done => [.fz (.lst (xs.map fun x : Nat => .int (x : Int))), .fz (.int n), .ls .own (done.map fun l => .lst (cvD n (lis xs l))), .un, .un, .un, .un]) (i_rng1 (e_bin rfl rfl rfl rfl rfl) (by omega)) rfl ?_) (sq_rt (x_ret rfl)))
  intro done l rest hp
  obtain ⟨hl, rfl⟩ := rng_split hp
  refine bd rfl (sq (x_asgL (e_bin rfl (e_bin rfl rfl rfl rfl rfl) rfl rfl (mul_cv n (by omega)))) (sq x_wip (sq (ρ1 := [.fz (.lst (xs.map fun x : Nat => .int (x : Int))), .fz (.int n), .ls .own ((List.range l).map fun l => .lst (cvD n (lis xs l))), .fz (.int l), .ls .own (cvD n (xs.foldl (bstp l) fun _ => 0)), .un, .un]) ?_ (sq (x_appR (ys := cvD n (lis xs l)) ?_ ?_) (sq_end x_wip))))) |>.trans ?_
  · exact for_nx (fun x : Nat => .int (x : Int)) xs (fun done2 => [.fz (.lst (xs.map fun x : Nat => .int (x : Int))), .fz (.int n), .ls .own ((List.range l).map fun l => .lst (cvD n (lis xs l))), .fz (.int l), .ls .own (cvD n (done2.foldl (bstp l) fun _ => 0)), .un, .un]) (i_val rfl rfl rfl) rfl fun done2 x rest2 hp2 => by
      obtain ⟨a, b⟩ := hx x (mem_split hp2)
      rw [List.foldl_append]
      exact ln_step Φ _ _ l x _ a b
  · refine (e_comp (fun k : Nat => .int (k : Int)) (List.range (n + 1)) (fun k => .int (lis xs l k)) (i_rng1 (e_bin rfl rfl rfl rfl rfl) (by omega)) (by rw [List.length_range]; show n + 1 ≤ 16777216; omega) fun k hk => ?_)
    have hk := List.mem_range.mp hk
    have e := max1_pre (n := n) (x := k) (xs.foldl (bstp l) fun _ => 0) (by omega)
    rw [bst_lis l xs (fun x h => (hx x h).1) k] at e
    exact c_some rfl (e_bi1 (e_slc rfl rfl (o_some (e_bin rfl rfl rfl rfl rfl)) rfl (congrArg (fun z => some (R.fr z)) (cv_pre1 n (k + 1) _ (by omega)))) rfl e)
  · rw [List.length_map, List.length_range]; show l < 16777216; omega
  · rw [List.map_append]; rfl
theorem ok_lens (k : Nat) {n : Nat} (n2 : n ≤ 12) (xs : List Nat) (hx : ∀ x ∈ xs, 1 ≤ x ∧ x ≤ n) : callN tbl (k + 1) 14 [.fz (.lst (xs.map fun x : Nat => .int (x : Int))), .fz (.int n)] = some (.fr (tabL n (lis xs)), [.fz (.lst (xs.map fun x : Nat => .int (x : Int))), .fz (.int n)]) :=
  call_rf ⟨2, 7, ir14⟩ (x_ln _ n2 xs hx)
end Q_bandlinks_k21_band_table

namespace Q_bandlinks_k21_band_table
open PySem L2 DL
/-! few, expanded, some_parts -/
theorem fw_step (Φ : Calls) (m : Int) (hm : 0 < m) (A : D) (p : Pt) (h : ∀ qs t, p = .pr qs t → Φ 12 [.fz (.tup (dPs qs)), .fz (.int m)] = some (.fz (.tup (dPs (fwL m qs))), [.fz (.tup (dPs qs)), .fz (.int m)])) :
    compStep Φ co12_0 ct12_0 cc12_0 ce12_0 (dP p) [.fz A, .fz (.int m), .un] = .ok (some (dP (fwP m p))) [.fz A, .fz (.int m), .un] := by
  cases p with
  | lv i =>
    rw [fwP_lv]
    exact c_some rfl (e_ite true (e_bi1 rfl rfl rfl) rfl rfl rfl)
  | pr qs t =>
    have e := h qs t rfl
    rw [fwP_pr]
    have em : binD .mod (.int t) (.int m) = some (.fz (.int (t % m))) := by rw [d_mod, if_pos (by omega), fmodE (by omega)]
    exact c_some rfl (e_ite false (e_bi1 rfl rfl rfl) rfl rfl (e_tup (es_cons (e_call2 (e_idx rfl rfl rfl rfl rfl) rfl e) (es_cons (e_bin rfl (e_bin (e_bi1 (e_idx rfl rfl rfl rfl rfl) rfl rfl) rfl rfl rfl em) rfl rfl rfl) es_nil))))
theorem ok_few {m : Int} (hm : 0 < m) : ∀ (d k : Nat) (ps : List Pt), dpPs ps ≤ d → ps.length ≤ 1000 → (∀ qs t, .pr qs t ∈ ps → szPs qs ≤ 1000) → szPs ps ≤ 1000 → callN tbl (k + d) 12 [.fz (.tup (dPs ps)), .fz (.int m)] = some (.fz (.tup (dPs (fwL m ps))), [.fz (.tup (dPs ps)), .fz (.int m)])
  | 0, k, ps, h, _, _, _ => by have := dpPs_pos ps; omega
  | d + 1, k, ps, h, hl, hq, hz => by
    have e := e_comp (Φ := callN tbl (k + d)) (ρ := [.fz (.tup (dPs ps)), .fz (.int m), .un]) (own := co12_0) (tg := ct12_0) (co := cc12_0) (e := ce12_0) (it := .val (.var 0)) dP ps (fun p => dP (fwP m p)) (i_val rfl rfl (by rw [dPs_map]; rfl)) (by show ps.length ≤ 16777216; omega) (fun p hp => fw_step _ m hm _ p fun qs t e => by
      subst e
      have h1 := dp_mem hp
      rw [dpP_pr] at h1
      have h2 := hq qs t hp
      have h3 := len_sz qs
      exact ok_few hm d k qs (by omega) (by omega) (fun rs u hr => by
        have := sz_mem hr
        rw [szP_pr] at this
        omega) h2)
    have er : (ps.map fun p => dP (fwP m p)) = dPs (fwL m ps) := by rw [dPs_map, fwL_map, List.map_map]; rfl
    rw [er] at e
    exact call_fz ⟨2, 3, ir12⟩ (sq_rt (x_ret (e_bi1 e rfl rfl)))
theorem ok_expd {n M : Int} (hM : M ≤ 100) : ∀ (d k : Nat) (ps : List Pt), dpPs ps ≤ d → OkPs n M ps → lnPs ps ≤ 4000 → callN tbl (k + d) 7 [.fz (.tup (dPs ps))] = some (.fr ((exPs ps).map .int), [.fz (.tup (dPs ps))])
  | 0, k, ps, h, _, _ => by have := dpPs_pos ps; omega
  | d + 1, k, ps, h, ok, hl => by
    refine call_rf ⟨1, 3, ir7⟩ (sq (x_asgL e_nil) (sq (for_nx dP ps (fun done => [.fz (.tup (dPs ps)), .ls .own ((exPs done).map .int), .un]) (i_val rfl rfl (by rw [dPs_map]; rfl)) rfl ?_) (sq_rt (x_ret rfl))))
    intro done p rest hp
    have hmem : p ∈ ps := mem_split hp
    have okd : OkPs n M done := fun q hq => ok q (by rw [hp]; exact List.mem_append_left _ hq)
    have okr : OkPs n M rest := fun q hq => ok q (by rw [hp]; exact List.mem_append_right _ (List.mem_cons_of_mem _ hq))
    have l1 : lnPs ps = lnPs done + (lnP p + lnPs rest) := by rw [hp, lnPs_app, lnPs_cons]
    have l2 := ln_nn done okd
    have l3 := ln_nn rest okr
    have l4 := ln_ex done okd
    have lF : ((exPs done).map D.int).length ≤ 4000 := by
      rw [List.length_map]
      have := ln_nn [p] (OkPs.one (ok p hmem))
      rw [lnPs_one] at this
      omega
    rw [exPs_app, exPs_one, List.map_append]
    cases p with
    | lv i =>
      rw [exP_lv]
      exact bd rfl (sq (x_if true (e_bi1 rfl rfl rfl) rfl (sq_end (x_app rfl (by show _ < 16777216; omega)))) (sq_end x_wip))
    | pr qs t =>
      obtain ⟨o1, t1, t2⟩ := ok_sub (ok _ hmem)
      have h1 := dp_mem hmem
      rw [dpP_pr] at h1
      have l5 := ln_nn qs o1
      rw [lnP_pr] at l1
      have l6 : lnPs qs ≤ lnPs qs * t := by
        have := Int.mul_le_mul_of_nonneg_left t1 l5
        omega
      have e := ok_expd hM d k qs (by omega) o1 (by omega)
      have l7 := ln_ex qs o1
      have lt : ((exPs qs).length : Int) * t ≤ 4000 := by rw [l7]; omega
      have lt2 : (exPs qs).length * t.toNat ≤ 4000 := by
        have : (((exPs qs).length * t.toNat : Nat) : Int) = ((exPs qs).length : Int) * t := by rw [Int.natCast_mul, Int.toNat_of_nonneg (by omega)]
        omega
      have em : binD .mul (.lst ((exPs qs).map .int)) (.int t) = some (.fr ((exP (.pr qs t)).map .int)) := by
        rw [d_mulL, if_pos ⟨by omega, by omega, by rw [List.length_map]; show _ ≤ 16777216; omega⟩, exP_pr, map_rep]
        rfl
      have lx : ((exP (.pr qs t)).map D.int).length ≤ 4000 := by
        rw [List.length_map, exP_pr, rep_len, Nat.mul_comm]; exact lt2
      exact bd rfl (sq (x_if false (e_bi1 rfl rfl rfl) rfl (sq_end (x_ext (e_bin (e_call1 (e_idx rfl rfl rfl rfl rfl) e) (e_idx rfl rfl rfl rfl rfl) rfl rfl em) rfl (by show _ ≤ 16777216; omega)))) (sq_end x_wip))
/-- a word, or parts with small times -/
theorem x_some (Φ : Calls) (xs y1 y2 : List D) (n r : Int) (T : List D) (e1 : Φ 10 [.ls .bor xs, .fz (.int 2)] = some (.fz (.int r), [.ls .bor y1, .fz (.int 2)])) (h : (r = 0 ∧ Φ 11 [.ls .bor y1, .fz (.int n), .fz (.int 30)] = some (.fr T, [.ls .bor y2, .fz (.int n), .fz (.int 30)])) ∨
    (r ≠ 0 ∧ ∃ U, Φ 13 [.ls .bor y1, .fz (.int n), .fz (.int 24), .fz (.int 3)] = some (.fz U, [.ls .bor y2, .fz (.int n), .fz (.int 24), .fz (.int 3)]) ∧ Φ 12 [.fz U, .fz (.int 3)] = some (.fz (.tup T), [.fz U, .fz (.int 3)]))) :
    execs Φ ir5 [.ls .bor xs, .fz (.int n)] = .ok (.rt (.fz (.tup T))) [.ls .bor y2, .fz (.int n)] := by
  rcases h with ⟨h, e2⟩ | ⟨h, U, e2, e3⟩
  · simp [ir5, e1, h, e2]
  · simp [ir5, e1, h, e2, e3]
theorem ok_some (k : Nat) {n : Int} (n1 : 1 ≤ n) (n2 : n ≤ 12) {xs : List D} (h : Pool xs) : ∃ ps ys, callN tbl (k + 7) 5 [.ls .bor xs, .fz (.int n)] = some (.fz (.tup (dPs ps)), [.ls .bor ys, .fz (.int n)]) ∧ Pool ys ∧ OkPs n 3 ps ∧ szPs ps ≤ 30 ∧ dpPs ps ≤ 3 ∧ lnPs ps ≤ 4000 := by
  obtain ⟨r, y1, e1, r0, r1, p1⟩ := ok_draw (k + 5) h (n := 2) (by decide) (by decide)
  by_cases hr : r = 0
  · obtain ⟨fs, y2, e2, p2, hf, lf⟩ := ok_seq (k + 4) p1 (n := n) (m := 30) n1 n2 (by decide) (by decide)
    refine ⟨fs.map Pt.lv, y2, ?_, p2, ok_lvs' hf, by rw [sz_lvs]; omega, by rw [dp_lvs]; omega, by rw [ln_lvs]; omega⟩
    rw [dPs_lv]
    exact call_fz ⟨2, 2, ir5⟩ (x_some _ xs y1 y2 n r _ e1 (.inl ⟨hr, e2⟩))
  · obtain ⟨ps, y2, e2, p2, ok, hz, hd⟩ := ok_parts n1 n2 2 (k + 1) 24 p1 (by decide) (by decide)
    have lp := len_sz ps
    have e3 := ok_few (m := 3) (by decide) 3 (k + 3) ps hd (by omega) (fun qs t hq => by
      have := sz_mem hq
      rw [szP_pr] at this
      omega) (by omega)
    have o2 := fw_ok (m := 3) (by decide) ps ok
    have hz2 := fw_sz 3 ps
    have hd2 := fw_dp 3 ps
    have a := ln_bd (by decide) _ o2 3 (by omega)
    have : (szPs (fwL 3 ps) : Int) * 3 ^ 3 ≤ 24 * 3 ^ 3 := Int.mul_le_mul_of_nonneg_right (by omega) (by decide)
    exact ⟨fwL 3 ps, y2, call_fz ⟨2, 2, ir5⟩ (x_some _ xs y1 y2 n r _ e1 (.inr ⟨hr, _, e2, e3⟩)), p2, o2, by omega, by omega, by omega⟩
/-! bands -/
/-- the upper end: given, or None -/
def topD (n : Nat) : Option Nat → D
  | none => .non
  | some b => .int (b : Int)
end Q_bandlinks_k21_band_table

namespace Q_bandlinks_k21_band_table
open PySem L2 DL
def lgS (n : Nat) (ps : List Pt) : D := .obj 0 [.int n, .tup (dPs ps)]
theorem ok_toL {n : Nat} {M : Int} (n1 : 1 ≤ n) (n2 : n ≤ 12) (k : Nat) {ps : List Pt} (ok : OkPs n M ps) (hz : szPs ps ≤ 120) (hd : dpPs ps ≤ 5) : callN tbl (k + 8) 18 [.fz (.int n), .fz (.tup (dPs ps))] = some (.fz (tabD n (lis (wd ps))), [.fz (.int n), .fz (.tup (dPs ps))]) := by
  have := ok_to n1 n2 5 k ps hd ok hz
  rw [tabD_lis ok] at this
  exact this
def btD (n : Nat) (T : Nat → Nat → Int) : D := .tup ((List.range n).map fun l => .tup ((List.range' (l + 1) (n - l)).map fun k => .int (T l k)))
theorem cv_suf1 (n l : Nat) (c : Nat → Int) (h : l < n) : cut (cvD n c) (some ((l : Int) + 1)) none = (List.range' (l + 1) (n - l)).map fun k => .int (c k) := by
  have := cv_suf n (l + 1) c (by omega)
  rw [show n + 1 - (l + 1) = n - l from by omega] at this
  exact this
theorem x_bt (Φ : Calls) {n : Nat} (n2 : n ≤ 12) (P : D) (T : Nat → Nat → Int) (e1 : Φ 17 [.fz (.obj 0 [.int n, P])] = some (.fz .non, [.fz (.obj 0 [.int n, P])])) (e2 : Φ 18 [.fz (.int n), .fz P] = some (.fz (tabD n T), [.fz (.int n), .fz P])) :
    ∃ ρ2, execs Φ ir9 [.fz (.obj 0 [.int n, P]), .un, .un] = .ok (.rt (.fz (btD n T))) ρ2 := by
  refine ⟨_, sq (x_ex (e_call1 rfl e1)) (sq (x_asgD (e_call2 rfl rfl e2)) (sq_rt (x_ret (e_bi1 (e_comp (fun i : Nat => .int (i : Int)) (List.range n) (fun l => .tup ((List.range' (l + 1) (n - l)).map fun k => .int (T l k))) (i_rng1 rfl (by omega)) (by rw [List.length_range]; show n ≤ 16777216; omega) fun l hl => ?_) rfl rfl))))⟩
  have hl := List.mem_range.mp hl
  exact c_some rfl (e_slc (e_idx rfl rfl rfl rfl (tab_at T (by omega))) (o_some (e_bin rfl rfl rfl rfl rfl)) rfl rfl (congrArg (fun z => some (R.fz (D.tup z))) (cv_suf1 n l (T l) hl)))
theorem ok_bt {n : Nat} {M : Int} (n1 : 1 ≤ n) (n2 : n ≤ 12) (k : Nat) {ps : List Pt} (ok : OkPs n M ps) (hz : szPs ps ≤ 120) (hd : dpPs ps ≤ 5) :
    callN tbl (k + 9) 9 [.fz (lgS n ps)] = some (.fz (btD n (lis (wd ps))), [.fz (lgS n ps)]) := by
  obtain ⟨ρ2, e⟩ := x_bt (callN tbl (k + 8)) n2 (.tup (dPs ps)) _ (ok_chkLog (k + 6) _) (ok_toL n1 n2 k ok hz hd)
  exact call_fzD [lgS n ps] ⟨1, 3, ir9⟩ e
theorem x_rows (Φ : Calls) {n : Nat} (n2 : n ≤ 12) (w : List Nat) (W : D) (e1 : Φ 14 [.fz W, .fz (.int n)] = some (.fr (tabL n (lis w)), [.fz W, .fz (.int n)])) :
    ∃ ρ2, execs Φ ir6 [.fz W, .fz (.int n), .un, .un] = .ok (.rt (.fz (btD n (lis w)))) ρ2 := by
  refine ⟨_, sq (x_asgL (e_call2 rfl rfl e1)) (sq_rt (x_ret (e_bi1 (e_comp (fun i : Nat => .int (i : Int)) (List.range n) (fun l => .tup ((List.range' (l + 1) (n - l)).map fun k => .int (lis w l k))) (i_rng1 rfl (by omega)) (by rw [List.length_range]; show n ≤ 16777216; omega) fun l hl => ?_) rfl rfl)))⟩
  have hl := List.mem_range.mp hl
  exact c_some rfl (e_bi1 (e_slc (e_idx rfl rfl rfl rfl (tabL_at (lis w) (by omega))) (o_some (e_bin rfl rfl rfl rfl rfl)) rfl rfl (congrArg (fun z => some (R.fr z)) (cv_suf1 n l (lis w l) hl))) rfl rfl)
theorem ok_rowsR (k : Nat) {n : Nat} (n2 : n ≤ 12) (xs : List Nat) (hx : ∀ x ∈ xs, 1 ≤ x ∧ x ≤ n) : callN tbl (k + 2) 6 [.fz (.lst (xs.map fun x : Nat => .int (x : Int))), .fz (.int n)] = some (.fz (btD n (lis xs)), [.fz (.lst (xs.map fun x : Nat => .int (x : Int))), .fz (.int n)]) := by
  obtain ⟨ρ2, e⟩ := x_rows (callN tbl (k + 1)) n2 xs _ (ok_lens k n2 xs hx)
  exact call_fzD [.lst (xs.map fun x : Nat => .int (x : Int)), .int n] ⟨2, 4, ir6⟩ e
theorem ex_toNat {n M : Int} {ps : List Pt} (ok : OkPs n M ps) : (exPs ps).map D.int = (wd ps).map fun x : Nat => D.int (x : Int) := by
  unfold wd
  rw [List.map_map]
  refine List.map_congr_left fun x hx => ?_
  have := ex_lv ps ok x hx
  show D.int x = D.int ((x.toNat : Nat) : Int)
  rw [Int.toNat_of_nonneg (by omega)]
/-! bands -/
end Q_bandlinks_k21_band_table

namespace Q_bandlinks_k21_band_table
open PySem L2 DL
theorem lis_bd (w : List Nat) : ∀ j k, lis w j k ≤ (k : Int) := by
  refine snoc_ind (Q := fun w => ∀ j k, lis w j k ≤ (k : Int)) (fun j k => by rw [lis_nil]; show (0 : Int) ≤ _; omega) (fun w x ih j k => ?_) w
  rw [lis_snoc]
  have a := ih j k
  have b := ih j (x - 1)
  unfold appT
  split <;> omega
theorem rq_bt {n : Nat} (n2 : n ≤ 12) (w : List Nat) : Rq 15132 2 (btD n (lis w)) := by
  refine (Rq.tup (w := 1260) (h := 1) (n := 12) (by rw [List.length_map, List.length_range]; exact n2) fun d hd => ?_).mono (by decide) (Nat.le_refl _)
  obtain ⟨l, hl, rfl⟩ := List.mem_map.mp hd
  refine (Rq.tup (w := 104) (h := 0) (n := 12) (by rw [List.length_map, List.length_range']; omega) fun d hd => ?_).mono (by decide) (Nat.le_refl _)
  obtain ⟨k, hk, rfl⟩ := List.mem_map.mp hd
  have hk := List.mem_range'_1.mp hk
  have hl := List.mem_range.mp hl
  have a := lis_bd w l k
  have b := (tb_lisT w).nn l k
  exact rq_small (by omega) (by omega)
abbrev Cse := Nat × List Pt
def csD (c : Cse) : D := .tup [lgS c.1 c.2, lgS c.1 [.pr c.2 1], btD c.1 (lis (wd c.2))]
structure GoodC (c : Cse) : Prop where
  n1 : 1 ≤ c.1
  n2 : c.1 ≤ 12
  ok : OkPs (c.1 : Int) 1000000000000000000000000000000 c.2
  sz : szPs c.2 ≤ 30
  dp : dpPs c.2 ≤ 3
theorem wd_one (ps : List Pt) : wd [.pr ps 1] = wd ps := by
  unfold wd
  rw [exPs_one, exP_pr]
  show ((List.replicate 1 (exPs ps)).flatten).map _ = _
  simp
theorem r21a (Φ : Calls) (p p1 p2 F T E : List D) (n i : Int) (B : D) (s3 : Sl) (h3 : Loose s3) (ss ss2 : List Sl) (hF : F.length ≤ 1000) (e1 : Φ 4 [.ls .bor p, .fz (.int 12)] = some (.fz (.int n), [.ls .bor p1, .fz (.int 12)])) (e2 : Φ 5 [.ls .bor p1, .fz (.int n)] = some (.fz (.tup T), [.ls .bor p2, .fz (.int n)]))
    (e3 : Φ 7 [.fz (.tup T)] = some (.fr E, [.fz (.tup T)])) (e4 : Φ 6 [.fz (.lst E), .fz (.int n)] = some (.fz B, [.fz (.lst E), .fz (.int n)])) (e5 : Φ 8 [.un, .fz (.int n), .fz (.tup T)] = some (.fz (.tup [.int n, .tup T]), ss))
    (e6 : Φ 8 [.un, .fz (.int n), .fz (.tup [.tup [.tup T, .int 1]])] = some (.fz (.tup [.int n, .tup [.tup [.tup T, .int 1]]]), ss2)) :
    (bnd (asgn Φ lt1_0 (.int i)) fun _ => execs Φ lb1_0) [.ls .bor p, .ls .own F, .un, s3, .un, .un, .un, .un, .un] = .ok .nx [.ls .bor p2, .ls .own (F ++ [.tup [.obj 0 [.int n, .tup T], .obj 0 [.int n, .tup [.tup [.tup T, .int 1]]], B]]), .un, .fz (.int n), .un, .un, .un, .un, .un] := by
  have h : F.length < 16777216 := by omega
  rcases h3 with rfl | ⟨d, rfl⟩ <;> simp [e1, e2, e3, e4, e5, e6, h]
theorem r21b (Φ : Calls) (s0 s1 s3 : Sl) (S P B : D) (X : Str) (e1 : Φ 9 [.fz S] = some (.fz B, [.fz S])) (e2 : Φ 9 [.fz P] = some (.fz B, [.fz P])) (r1 : biD .repr [.lst [B, B, B]] = some (.fz (.str X))) :
    (bnd (asgn Φ lt1_1 (.tup [S, P, B])) fun _ => execs Φ lb1_1) [s0, s1, .un, s3, .un, .un, .un, .un, .un] = .ok .nx [s0, s1, .un, s3, .un, .un, .un, .un, .un] := by
  have x1 : binD .mul (.lst [B]) (.int 3) = some (.fr [B, B, B]) := rfl
  simp [e1, e2, r1, x1, -d_mulL]
theorem r21c (Φ : Calls) (s0 s1 : Sl) (n : Int) (B : D) (X : Str) (ss : List Sl) (e1 : Φ 8 [.un, .fz (.int n), .fz (.tup [])] = some (.fz (.tup [.int n, .tup []]), ss)) (e2 : Φ 9 [.fz (.obj 0 [.int n, .tup []])] = some (.fz B, [.fz (.obj 0 [.int n, .tup []])])) (e3 : Φ 6 [.fz (.lst []), .fz (.int n)] = some (.fz B, [.fz (.lst []), .fz (.int n)])) (r1 : biD .repr [B] = some (.fz (.str X))) :
    ∃ F, execs Φ (.cons (.asg (.nm 8) (.make 0 8 [0, 1] (.val (.var 3) (.nil)) (.val (.cst (.tup [])) (.nil)))) (.cons (.ret (.and (.cmp .eq (.bi .repr (.cons (.call 9 [0] (.val (.var 8) (.nil)) .nil) (.nil))) (.bi .repr (.cons (.call 6 [0, 1] (.val (.lst (.nil)) (.val (.var 3) (.nil))) .nil) (.nil)))) (.cmp .eq (.fld (.var 8) [(0, 1)]) (.tup (.nil))))) (.nil))) [s0, s1, .un, .fz (.int n), .un, .un, .un, .un, .un] = .ok (.rt (.fz (.bl true))) (s0 :: F) := by
  have h1 : cmpD .eq (.tup []) (.tup []) = some true := cmp_eqR (h := 1) (Pl.tup (h := 0) fun _ z => nomatch z) (by decide)
  simp [e1, e2, e3, r1, h1]
theorem ok_right (k : Nat) {xs : List D} (h : Pool xs) : ∃ ys, callN tbl (k + 15) 1 [.ls .bor xs] = some (.fz (.bl true), [.ls .bor ys]) := by
  obtain ⟨ρ', eL, cs, ys, s3, rfl, py, gc, hl, h3, hn⟩ := for_exR (Φ := callN tbl (k + 14)) (t := lt1_0) (b := lb1_0) (it := .rng1 (.cst (.int 2))) (ρ := [.ls .bor xs, .ls .own [], .un, .un, .un, .un, .un, .un, .un]) (ρ1 := [.ls .bor xs, .ls .own [], .un, .un, .un, .un, .un, .un, .un]) (fun i : Nat => .int (i : Int)) (List.range 2)
    (fun done ρ => ∃ (cs : List Cse) (ys : List D) (s3 : Sl), ρ = [.ls .bor ys, .ls .own (cs.map csD), .un, s3, .un, .un, .un, .un, .un] ∧ Pool ys ∧ (∀ c ∈ cs, GoodC c) ∧ cs.length = done.length ∧ Loose s3 ∧ (1 ≤ done.length → ∃ n : Nat, s3 = .fz (.int n) ∧ 1 ≤ n ∧ n ≤ 12))
    (i_rng1 (q := 2) rfl (by decide)) ⟨[], xs, .un, rfl, h, fun _ z => (nomatch z), rfl, .inl rfl, fun z => absurd z (by decide)⟩ (fun done i rest ρ hp ⟨cs, ys, s3, hρ, py, gc, hl, h3, _⟩ => by
      subst hρ
      have hd := len_lt hp
      rw [List.length_range] at hd
      obtain ⟨n, y1, e1, n1, n2, p1⟩ := ok_height (k + 12) py (n := 12) (by decide) (by decide)
      obtain ⟨n, rfl⟩ := Int.eq_ofNat_of_zero_le (show 0 ≤ n by omega)
      obtain ⟨ps, y2, e2, p2, ok, hz, hdp, hln⟩ := ok_some (k + 7) n1 n2 p1
      have e3 := ok_expd (M := 3) (by decide) 3 (k + 11) ps hdp ok hln
      have ok30 : OkPs (n : Int) 1000000000000000000000000000000 ps := OkP.up (by decide) ps ok
      have ok31 : OkPs (n : Int) 1000000000000000000000000000000 [.pr ps 1] := OkPs.one (.pr ok30 (by decide) (by decide))
      rw [ex_toNat ok] at e3
      have e4 := ok_rowsR (k + 12) (n := n) (by omega) (wd ps) (fun x hx => by have := wd_lv ok x hx; omega)
      obtain ⟨ss, e5⟩ := ok_init (M := 1000000000000000000000000000000) (by decide) k n1 n2 ok30 (by omega) (by omega)
      obtain ⟨ss2, e6⟩ := ok_init (M := 1000000000000000000000000000000) (by decide) k n1 n2 ok31 (by rw [szPs_one, szP_pr]; omega) (by rw [dpPs_one, dpP_pr]; omega)
      refine ⟨_, r21a (callN tbl (k + 14)) ys y1 y2 (cs.map csD) (dPs ps) _ n (i : Int) _ s3 h3 ss ss2 (by rw [List.length_map]; omega) e1 e2 e3 e4 e5 e6, cs ++ [(n, ps)], y2, .fz (.int n), by rw [List.map_append]; rfl, p2, fun c hc => ?_, by rw [List.length_append, List.length_append, hl]; rfl, .inr ⟨_, rfl⟩, fun _ => ⟨n, rfl, by omega, by omega⟩⟩
      rcases List.mem_append.mp hc with hc | hc
      · exact gc c hc
      · rw [List.mem_singleton] at hc
        subst hc
        exact ⟨by show 1 ≤ n; omega, by show n ≤ 12; omega, ok30, hz, hdp⟩)
  rw [List.length_range] at hl hn
  obtain ⟨n, rfl, n1, n2⟩ := hn (by decide)
  let st : Ev := [.ls .bor ys, .ls .own (cs.map csD), .un, .fz (.int n), .un, .un, .un, .un, .un]
  have e2 : evit (callN tbl (k + 14)) (.val (.bin .add (.var 1) (.bi .rvs (.cons (.var 1) .nil)))) st = .ok (none, (cs ++ cs.reverse).map csD) st := by
    refine i_val (e_bin rfl (e_bi1 rfl rfl rfl) rfl rfl (addL (by rw [List.length_reverse, List.length_map]; omega))) rfl ?_
    rw [List.map_append, List.map_reverse]; rfl
  have loop2 : exec (callN tbl (k + 14)) (.for_ lt1_1 (.val (.bin .add (.var 1) (.bi .rvs (.cons (.var 1) .nil)))) lb1_1) st = .ok .nx st :=
    for_nx csD (cs ++ cs.reverse) (fun _ => st) e2 rfl fun done c rest hp => by
      have hc : c ∈ cs := by
        have := mem_split hp
        rcases List.mem_append.mp this with h | h
        · exact h
        · exact List.mem_reverse.mp h
      have g := gc c hc
      have dd := g.dp
      have zz := g.sz
      have ok31 : OkPs (c.1 : Int) 1000000000000000000000000000000 [.pr c.2 1] := OkPs.one (.pr g.ok (by decide) (by decide))
      have b1 := ok_bt g.n1 g.n2 (k + 5) g.ok (by omega) (by omega)
      have b2 := ok_bt g.n1 g.n2 (k + 5) ok31 (by rw [szPs_one, szP_pr]; omega) (by rw [dpPs_one, dpP_pr]; omega)
      rw [wd_one] at b2
      have r1 := rp_ok (d := .lst [btD c.1 (lis (wd c.2)), btD c.1 (lis (wd c.2)), btD c.1 (lis (wd c.2))]) (Rq.lst (n := 3) (by simp) fun d hd => by
        have : d = btD c.1 (lis (wd c.2)) := by simpa using hd
        subst this
        exact rq_bt g.n2 _) (by decide) (by decide)
      exact r21b (callN tbl (k + 14)) _ _ _ (lgS c.1 c.2) (lgS c.1 [.pr c.2 1]) _ _ b1 b2 r1
  have okn : OkPs (n : Int) 1000000000000000000000000000000 [] := fun _ z => nomatch z
  obtain ⟨ss, e1⟩ := ok_init (M := 1000000000000000000000000000000) (by decide) k (n := (n : Int)) (by omega) (by omega) okn (by decide) (by decide)
  have b1 := ok_bt n1 n2 (k + 5) okn (by decide) (by decide)
  have b2 := ok_rowsR (k + 12) n2 [] (fun _ z => nomatch z)
  obtain ⟨F, last⟩ := r21c (callN tbl (k + 14)) (.ls .bor ys) (.ls .own (cs.map csD)) n _ _ ss e1 b1 b2 (rp_ok (rq_bt n2 _) (by decide) (by decide))
  exact ⟨ys, call_fz ⟨1, 9, ir1⟩ (sq (x_asgL e_nil) (sq eL (sq loop2 last)))⟩
theorem math (ns : List Int) (hl : ns.length ≤ 63) : ∃ as', callN tbl 17 0 [.fz (.scr (ns.map D.int))] = some (.fz (.bl true), as') :=
  ⟨_, call_fz ⟨1, 2, ir0⟩ (law_all 4 3 2 1 (by decide) (ns.map .int) fun i hi => by
    obtain ⟨x, ec⟩ := ok_cell 15 ns i (by omega)
    obtain ⟨ps, ep, pp⟩ := ok_pool 15 x
    obtain ⟨ys, er⟩ := ok_right 1 pp
    exact ⟨x, ps, ys, ec, ep, er⟩)⟩
end Q_bandlinks_k21_band_table

open PySem PySem.W PyProof.Rows
set_option maxHeartbeats 0 in
theorem PySem.Challenge.cw_bandlinks_k21_band_table_holds : PySem.Challenge.rw_bandlinks_k21_band_table.Holds := by
  w_on; o_law; k_head; (case hw => w_witness2)
  k_fill
  refine DL.end_walk (l := PySem.Challenge.rw_bandlinks_k21_band_table) (n := 63) (m := 2 * 17) (k := 17) (fi := 0) (T := Q_bandlinks_k21_band_table.tbl) (x := "_law_script") rfl (by decide) rfl ⟨rfl, by decide, by decide⟩ (fun w h Y => PySem.W.kIn_of Y) ?F (fun ns hl => Q_bandlinks_k21_band_table.math ns hl)
  case F =>
    intro w mg fa h KX G hmg
    refine' Q_bandlinks_k21_band_table.mk KX G hmg ?cA0 ?cB0 ?cC0 ?cD0 ?cE0 ?cF0 ?cG0 ?cH0 ?cI0 ?cJ0 ?cK0 ?cN0_0 ?cN0_1 ?a0 ?l0 ?c0 ?k0 ?a1 ?l1 ?c1 ?k1 ?a2 ?l2 ?c2 ?k2 ?a3 ?l3 ?c3 ?k3 ?a4 ?l4 ?c4 ?k4 ?a5 ?l5 ?c5 ?k5 ?a6 ?l6 ?c6 ?k6 ?a7 ?l7 ?c7 ?k7 ?a8 ?j8 ?l8 ?c8 ?k8 ?dT8 ?dE8_0 ?a9 ?l9 ?c9 ?k9 ?a10 ?l10 ?c10 ?k10 ?a11 ?l11 ?c11 ?k11 ?a12 ?l12 ?c12 ?k12 ?a13 ?l13 ?c13 ?k13 ?a14 ?l14 ?c14 ?k14 ?a15 ?l15 ?c15 ?k15 ?a16 ?l16 ?c16 ?k16 ?a17 ?l17 ?c17 ?k17 ?a18 ?l18 ?c18 ?k18 ?a19 ?l19 ?c19 ?k19 ?a20 ?l20 ?c20 ?k20 ?a21 ?l21 ?c21 ?k21 ?a22 ?l22 ?c22 ?k22 ?a23 ?l23 ?c23 ?k23 ?a24 ?l24 ?c24 ?k24 ?a25 ?l25 ?c25 ?k25 ?a26 ?l26 ?c26 ?k26 ?a27 ?l27 ?c27 ?k27 ?a28 ?l28 ?c28 ?k28 ?a29 ?l29 ?c29 ?k29 ?a30 ?l30 ?c30 ?k30 ?a31 ?l31 ?c31 ?k31 ?z0 ?z1 ?z2 ?z3 ?z4 ?z5 ?z6 ?z7 ?z8 ?z9 ?z10 ?z11 ?z12 ?z13 ?z14 ?z15 ?vv0 ?vv1 ?vv2 ?vv3
    (case cA0 => k_is)
    (case cB0 => k_is)
    (case cC0 => k_is)
    (case cD0 => k_is)
    (case cE0 => k_is)
    (case cF0 => k_is)
    (case cG0 => k_is)
    (case cH0 => k_is)
    (case cI0 => k_is)
    (case cJ0 => k_is)
    (case cK0 => k_is)
    (case cN0_0 => k_is)
    (case cN0_1 => k_is)
    (case a0 => k_is)
    (case l0 => k_is)
    (case c0 => k_is)
    (case k0 => k_is)
    (case a1 => k_is)
    (case l1 => k_is)
    (case c1 => k_is)
    (case k1 => k_is)
    (case a2 => k_is)
    (case l2 => k_is)
    (case c2 => k_is)
    (case k2 => k_is)
    (case a3 => k_is)
    (case l3 => k_is)
    (case c3 => k_is)
    (case k3 => k_is)
    (case a4 => k_is)
    (case l4 => k_is)
    (case c4 => k_is)
    (case k4 => k_is)
    (case a5 => k_is)
    (case l5 => k_is)
    (case c5 => k_is)
    (case k5 => k_is)
    (case a6 => k_is)
    (case l6 => k_is)
    (case c6 => k_is)
    (case k6 => k_is)
    (case a7 => k_is)
    (case l7 => k_is)
    (case c7 => k_is)
    (case k7 => k_is)
    (case a8 => k_is)
    (case j8 => k_is)
    (case l8 => k_is)
    (case c8 => k_is)
    (case k8 => k_is)
    (case dT8 => k_is)
    (case dE8_0 => k_is)
    (case a9 => k_is)
    (case l9 => k_is)
    (case c9 => k_is)
    (case k9 => k_is)
    (case a10 => k_is)
    (case l10 => k_is)
    (case c10 => k_is)
    (case k10 => k_is)
    (case a11 => k_is)
    (case l11 => k_is)
    (case c11 => k_is)
    (case k11 => k_is)
    (case a12 => k_is)
    (case l12 => k_is)
    (case c12 => k_is)
    (case k12 => k_is)
    (case a13 => k_is)
    (case l13 => k_is)
    (case c13 => k_is)
    (case k13 => k_is)
    (case a14 => k_is)
    (case l14 => k_is)
    (case c14 => k_is)
    (case k14 => k_is)
    (case a15 => k_is)
    (case l15 => k_is)
    (case c15 => k_is)
    (case k15 => k_is)
    (case a16 => k_is)
    (case l16 => k_is)
    (case c16 => k_is)
    (case k16 => k_is)
    (case a17 => k_is)
    (case l17 => k_is)
    (case c17 => k_is)
    (case k17 => k_is)
    (case a18 => k_is)
    (case l18 => k_is)
    (case c18 => k_is)
    (case k18 => k_is)
    (case a19 => k_is)
    (case l19 => k_is)
    (case c19 => k_is)
    (case k19 => k_is)
    (case a20 => k_is)
    (case l20 => k_is)
    (case c20 => k_is)
    (case k20 => k_is)
    (case a21 => k_is)
    (case l21 => k_is)
    (case c21 => k_is)
    (case k21 => k_is)
    (case a22 => k_is)
    (case l22 => k_is)
    (case c22 => k_is)
    (case k22 => k_is)
    (case a23 => k_is)
    (case l23 => k_is)
    (case c23 => k_is)
    (case k23 => k_is)
    (case a24 => k_is)
    (case l24 => k_is)
    (case c24 => k_is)
    (case k24 => k_is)
    (case a25 => k_is)
    (case l25 => k_is)
    (case c25 => k_is)
    (case k25 => k_is)
    (case a26 => k_is)
    (case l26 => k_is)
    (case c26 => k_is)
    (case k26 => k_is)
    (case a27 => k_is)
    (case l27 => k_is)
    (case c27 => k_is)
    (case k27 => k_is)
    (case a28 => k_is)
    (case l28 => k_is)
    (case c28 => k_is)
    (case k28 => k_is)
    (case a29 => k_is)
    (case l29 => k_is)
    (case c29 => k_is)
    (case k29 => k_is)
    (case a30 => k_is)
    (case l30 => k_is)
    (case c30 => k_is)
    (case k30 => k_is)
    (case a31 => k_is)
    (case l31 => k_is)
    (case c31 => k_is)
    (case k31 => k_is)
    (case z0 => k_is)
    (case z1 => k_is)
    (case z2 => k_is)
    (case z3 => k_is)
    (case z4 => k_is)
    (case z5 => k_is)
    (case z6 => k_is)
    (case z7 => k_is)
    (case z8 => k_is)
    (case z9 => k_is)
    (case z10 => k_is)
    (case z11 => k_is)
    (case z12 => k_is)
    (case z13 => k_is)
    (case z14 => k_is)
    (case z15 => k_is)
    (case vv0 => k_is)
    (case vv1 => k_is)
    (case vv2 => k_is)
    (case vv3 => k_is)
