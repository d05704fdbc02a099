import PyProof.Rows.All
import HandS.ForMost
import HandS.Zip
import KE.GoesZip
import KE.GoesEnumKw
import KE.KDictZip
import HandS.Walk
import KE.GoesMore
import HandS.Defaults
import HandS.EndBits
import PyProof.ReprRoads
import HandS.HeadHook2
import KE.KDictKeyed
import KE.KDictDisplayH
import PyProof.StrBlock2
import Wide.All
import OpenK.AllK
import Wide.FinOn
import KE.KStateDown
import Lean
import HandS.Head0
import HandS.Head1
import HandS.Head2
import HandS.HeadEnd
import HandS.HeadHook1
import HandS.HeadHook3
import HandS.More
import HandS.IsInst
import HandS.Style
import HandS.Flow
import HandS.Deep
import HandS.Steps
import HandS.Conv
import HandS.Dict
import HandS.Comp
import PySem.Challenge.RW_spiderwires_k51_products_of_words
set_option Elab.async false
set_option linter.all false
set_option maxRecDepth 100000
set_option maxHeartbeats 4000000
/-! zip(xs, ys, strict=True) over two lists, walked by any target. -/
namespace ZS
open PySem PySem.Spec PyProof.Rows L2
open PySem.Sem (wp)

/-- the record of a strict zip: f0 the tuple that it owns (none, or an address), f1 whether it was seen out -/
abbrev ZRec (h : Heap) (z TI TO : Addr) (f0 : Value) (f1 : Bool) : Prop :=
  h.get? z = some { cls := .type "zip", dict := none, data := .fields #[f0, .bool f1, .bool true, .ref TI, .ref TO], slots := #[] }
def Free0 (v : Value) : Prop := v = .none ∨ ∃ T : Nat, v = rawInt (T : Int)
section
variable {prog : Program} {w : World} {A : Around} {E : Value → Shared → Prop} {s : Shared}
theorem alive_any {a : Addr} {Q : Option Obj → Shared → Prop} (h : Q (s.heap.get? a) s) : wpAny (model prog w) A (loadIfAlive a) Q E s :=
  fun _ _ _ => h
theorem free_any {z TI TO : Addr} {f0 : Value} {f1 : Bool} {Q : Bool → Shared → Prop} (hz : ZRec s.heap z TI TO f0 f1) (h0 : Free0 f0)
    (h : ∀ b g h', ZRec h' z TI TO f0 g → Heap.SameBut z s.heap h' → Q b { s with heap := h' }) :
    wpAny (model prog w) A (Builtin.SmallTypes.ownedTupleIsFree (.ref z)) Q E s := by
  unfold Builtin.SmallTypes.ownedTupleIsFree
  rcases h0 with rfl | ⟨T, rfl⟩
  · exact wpAny_bind (wpAny_field hz rfl (x := .none) rfl (wpAny_pure (h true f1 s.heap hz (Heap.SameBut.refl _ _))))
  · refine wpAny_bind (wpAny_field hz rfl (x := rawInt T) rfl ?_)
    show wpAny _ _ (loadIfAlive ((T : Int).toNat) >>= _) _ _ _
    refine wpAny_bind (alive_any ?_)
    cases hT : s.heap.get? ((T : Int).toNat) with
    | none =>
      simp only [Option.isNone_none, if_true]
      exact wpAny_pure (h true f1 s.heap hz (Heap.SameBut.refl _ _))
    | some oT =>
      simp only [Option.isNone_some, Bool.false_eq_true, if_false]
      refine wpAny_bind (wpAny_field hz rfl (x := .bool f1) rfl ?_)
      cases f1 with
      | true =>
        rw [if_neg (show ¬ ((Value.bool true != Value.bool true) = true) from Bool.false_ne_true)]
        exact wpAny_pure (h false true s.heap hz (Heap.SameBut.refl _ _))
      | false =>
        rw [if_pos (show (Value.bool false != Value.bool true) = true from rfl)]
        exact wpAny_bind (wpAny_setField_rec hz (by simp) fun h₁ hz₁ hs₁ => wpAny_pure (h false true h₁ hz₁ hs₁))

theorem nextOrEnd_item {it l : Addr} {i : Nat} {items : Array Value} {x : Value} {Q : Option Value → Shared → Prop} (hit : s.heap.IsListIter it l i) (hl : s.heap.IsList l items) (hx : items[i]? = some x)
    (hQ : ∀ h', h'.IsListIter it l (i + 1) → Heap.SameBut it s.heap h' → Q (some x) { s with heap := h' }) :
    wpAny (model prog w) A (Builtin.SmallTypes.nextOrEnd (.ref it)) Q E s := by
  unfold Builtin.SmallTypes.nextOrEnd
  exact wpAny_bind (wpAny_attempt (wpAny_nextOf_list_item hit hl hx fun h' a b => wpAny_pure (hQ h' a b)))
theorem nextOrEnd_end {it l : Addr} {i : Nat} {items : Array Value} {Q : Option Value → Shared → Prop} (hh : A.handled = none) (hit : s.heap.IsListIter it l i) (hl : s.heap.IsList l items) (hx : items[i]? = none)
    (hQ : ∀ h', Heap.ExtBut it s.heap h' → Q none { s with heap := h' }) :
    wpAny (model prog w) A (Builtin.SmallTypes.nextOrEnd (.ref it)) Q E s := by
  unfold Builtin.SmallTypes.nextOrEnd
  refine wpAny_bind (wpAny_attempt (wpAny_nextOf_list_end hh hit hl hx fun h' e hs he => ?_))
  obtain ⟨o, ho, hc⟩ := he
  exact wpAny_bind (wpAny_isInstance (T := "StopIteration") (b := true) ⟨o, ho, hc⟩ isSubtype_stop (wpAny_pure (hQ _ hs)))

theorem next_item {z TI TO i1 i2 l1 l2 : Addr} {k1 k2 : Nat} {xs ys : Array Value} {x y a b f0 : Value} {f1 : Bool} {Q : Value → Shared → Prop} (D : ZipApart z TI TO i1 i2 l1 l2)
    (hz : ZRec s.heap z TI TO f0 f1) (h0 : Free0 f0) (hTI : IsPair s.heap TI (.ref i1) (.ref i2)) (hTO : IsPair s.heap TO a b)
    (h1 : s.heap.IsListIter i1 l1 k1) (h2 : s.heap.IsListIter i2 l2 k2) (hl1 : s.heap.IsList l1 xs) (hl2 : s.heap.IsList l2 ys) (hx : xs[k1]? = some x) (hy : ys[k2]? = some y)
    (hQ : ∀ h' g0 g1 p q, ZRec h' z TI TO g0 g1 → Free0 g0 → IsPair h' TO p q → h'.IsListIter i1 l1 (k1 + 1) → h'.IsListIter i2 l2 (k2 + 1) → IsPair h' s.heap.objs.size x y → h'.objs.size = s.heap.objs.size + 1 →
      (∀ c o, c ≠ z → c ≠ TO → c ≠ i1 → c ≠ i2 → s.heap.get? c = some o → h'.get? c = some o) → Q (.ref s.heap.objs.size) { s with heap := h' }) :
    wpAny (model prog w) A (Builtin.«zip.__next__» ⟨[.ref z], []⟩) (fun fin s' => ∃ v, fin = .done (.ret v) ∧ Q v s') E s := by
  show wpAny _ _ (field (.ref z) 2 >>= _) _ _ _
  refine wpAny_bind (wpAny_field hz rfl (x := .bool true) rfl ?_)
  show wpAny _ _ (field (.ref z) 3 >>= _) _ _ _
  refine wpAny_bind (wpAny_field hz rfl (x := .ref TI) rfl ?_)
  refine wpAny_bind (wpAny_seqItems hTI rfl ?_)
  show wpAny _ _ (Builtin.SmallTypes.ownedTupleIsFree (.ref z) >>= _) _ _ _
  refine wpAny_bind (free_any hz h0 fun fr g1 hA hzA hsA => ?_)
  have hTIA : IsPair hA TI (.ref i1) (.ref i2) := hsA.extBut _ _ D.TIz hTI
  have hTOA : IsPair hA TO a b := hsA.extBut _ _ D.TOz hTO
  have h1A : hA.IsListIter i1 l1 k1 := h1.extBut hsA.extBut D.i1z
  have h2A : hA.IsListIter i2 l2 k2 := h2.extBut hsA.extBut D.i2z
  have hl1A : hA.IsList l1 xs := hl1.extBut hsA.extBut D.l1z
  have hl2A : hA.IsList l2 ys := hl2.extBut hsA.extBut D.l2z
  cases fr with
  | true =>
    simp only [if_true]
    refine wpAny_bind (wpAny_rule ?_)
    refine wpAny_bind (wpAny_field (s := { s with heap := hA }) hzA rfl (x := .ref TO) rfl ?_)
    refine wpAny_bind (wpAny_setField_rec (s := { s with heap := hA }) hzA (by simp) fun h₁ hz₁ hs₁ => ?_)
    replace hz₁ : ZRec h₁ z TI TO .ellipsis g1 := hz₁
    refine wpAny_bind ?_
    simp only [List.zipIdx_cons, List.zipIdx_nil, List.forIn_cons, List.forIn_nil]
    refine wpAny_bind (wpAny_bind (wpAny_onRaise ?_))
    show wpAny _ _ (Builtin.SmallTypes.nextOrEnd (.ref i1)) _ _ _
    refine nextOrEnd_item (s := { s with heap := h₁ }) (h1A.extBut hs₁.extBut D.i1z) (hl1A.extBut hs₁.extBut D.l1z) hx fun h₂ h1₂ hs₂ => ?_
    have hTO₂ : IsPair h₂ TO a b := hs₂.extBut _ _ D.TOi1 (hs₁.extBut _ _ D.TOz hTOA)
    refine wpAny_bind (wpAny_seqItems (s := { s with heap := h₂ }) hTO₂ rfl ?_)
    refine wpAny_bind (wpAny_updateSeq_pair (s := { s with heap := h₂ }) hTO₂ fun h₃ hTO₃ hs₃ => ?_)
    replace hTO₃ : IsPair h₃ TO x b := hTO₃
    refine wpAny_bind (wpAny_letGo (wpAny_pure ?_))
    refine wpAny_bind (wpAny_bind (wpAny_onRaise ?_))
    show wpAny _ _ (Builtin.SmallTypes.nextOrEnd (.ref i2)) _ _ _
    refine nextOrEnd_item (s := { s with heap := h₃ }) (((h2A.extBut hs₁.extBut D.i2z).extBut hs₂.extBut D.i12.symm).extBut hs₃.extBut D.TOi2.symm)
      (((hl2A.extBut hs₁.extBut D.l2z).extBut hs₂.extBut D.l2i1).extBut hs₃.extBut D.l2TO) hy fun h₄ h2₄ hs₄ => ?_
    have hTO₄ : IsPair h₄ TO x b := hs₄.extBut _ _ D.TOi2 hTO₃
    refine wpAny_bind (wpAny_seqItems (s := { s with heap := h₄ }) hTO₄ rfl ?_)
    refine wpAny_bind (wpAny_updateSeq_pair (s := { s with heap := h₄ }) hTO₄ fun h₅ hTO₅ hs₅ => ?_)
    replace hTO₅ : IsPair h₅ TO x y := hTO₅
    refine wpAny_bind (wpAny_letGo (wpAny_pure (wpAny_pure ?_)))
    refine wpAny_bind (wpAny_seqItems (s := { s with heap := h₅ }) hTO₅ rfl ?_)
    refine wpAny_bind (wpAny_newTuple ?_)
    have hsz : h₅.objs.size = s.heap.objs.size := by rw [hs₅.1, hs₄.1, hs₃.1, hs₂.1, hs₁.1, hsA.1]
    have hz₅ : ZRec h₅ z TI TO .ellipsis g1 := hs₅.extBut _ _ D.TOz.symm (hs₄.extBut _ _ D.i2z.symm (hs₃.extBut _ _ D.TOz.symm (hs₂.extBut _ _ D.i1z.symm hz₁)))
    have hk₅ : ∀ c o, c ≠ z → c ≠ TO → c ≠ i1 → c ≠ i2 → s.heap.get? c = some o → h₅.get? c = some o := fun c o c1 c2 c3 c4 e =>
      hs₅.extBut _ _ c2 (hs₄.extBut _ _ c4 (hs₃.extBut _ _ c2 (hs₂.extBut _ _ c3 (hs₁.extBut _ _ c1 (hsA.extBut _ _ c1 e)))))
    have h1₅ : h₅.IsListIter i1 l1 (k1 + 1) := ((h1₂.extBut hs₃.extBut D.TOi1.symm).extBut hs₄.extBut D.i12).extBut hs₅.extBut D.TOi1.symm
    have h2₅ : h₅.IsListIter i2 l2 (k2 + 1) := h2₄.extBut hs₅.extBut D.TOi2.symm
    have hzlt : z < h₅.objs.size := Heap.lt_size hz₅
    show wpAny _ _ (Builtin.SmallTypes.ownedTupleHandOut (.ref z) (.ref h₅.objs.size) >>= _) _ _ _
    refine wpAny_bind ?_
    unfold Builtin.SmallTypes.ownedTupleHandOut
    have hz₆ : ZRec (h₅.push { cls := .type "tuple", data := .seq #[x, y] }) z TI TO .ellipsis g1 := Heap.get?_push_of_some _ hz₅
    refine wpAny_bind (wpAny_setField_rec (s := { s with heap := h₅.push { cls := .type "tuple", data := .seq #[x, y] } }) hz₆ (by simp) fun h₇ hz₇ hs₇ => ?_)
    replace hz₇ : ZRec h₇ z TI TO (rawInt h₅.objs.size) g1 := hz₇
    refine wpAny_setField_rec (s := { s with heap := h₇ }) hz₇ (by simp) fun h₈ hz₈ hs₈ => ?_
    replace hz₈ : ZRec h₈ z TI TO (rawInt h₅.objs.size) false := hz₈
    have up : ∀ c o, c ≠ z → h₅.get? c = some o → h₈.get? c = some o := fun c o c1 e => hs₈.extBut _ _ c1 (hs₇.extBut _ _ c1 (Heap.get?_push_of_some _ e))
    have hT₈ : IsPair h₈ h₅.objs.size x y := hs₈.extBut _ _ (Nat.ne_of_gt hzlt) (hs₇.extBut _ _ (Nat.ne_of_gt hzlt) (Heap.get?_push_size _ rfl))
    have hz8 : h₈.objs.size = h₅.objs.size + 1 := by rw [hs₈.1, hs₇.1, Heap.size_push]
    rw [hsz] at hz₈ hT₈ hz8
    refine wpAny_pure ⟨_, rfl, ?_⟩
    show Q (.ref h₅.objs.size) _
    rw [hsz]
    exact hQ h₈ _ _ _ _ hz₈ (.inr ⟨_, rfl⟩) (up _ _ D.TOz hTO₅) (h1₅.at fun o e => up _ o D.i1z e) (h2₅.at fun o e => up _ o D.i2z e) hT₈ hz8 fun c o c1 c2 c3 c4 e => up c o c1 (hk₅ c o c1 c2 c3 c4 e)
  | false =>
    simp only [Bool.false_eq_true, if_false]
    refine wpAny_bind ?_
    rw [← Array.forIn_toList]
    simp only [List.forIn_cons, List.forIn_nil]
    refine wpAny_bind (wpAny_bind (wpAny_holding ?_))
    show wpAny _ _ (Builtin.SmallTypes.nextOrEnd (.ref i1)) _ _ _
    refine nextOrEnd_item (s := { s with heap := hA }) h1A hl1A hx fun h₂ h1₂ hs₂ => wpAny_pure ?_
    refine wpAny_bind (wpAny_bind (wpAny_holding ?_))
    show wpAny _ _ (Builtin.SmallTypes.nextOrEnd (.ref i2)) _ _ _
    refine nextOrEnd_item (s := { s with heap := h₂ }) (h2A.extBut hs₂.extBut D.i12.symm) (hl2A.extBut hs₂.extBut D.l2i1) hy fun h₃ h2₃ hs₃ => wpAny_pure (wpAny_pure ?_)
    show wpAny _ _ (newTuple [x, y] >>= _) _ _ _
    refine wpAny_bind (wpAny_newTuple ?_)
    have hsz : h₃.objs.size = s.heap.objs.size := by rw [hs₃.1, hs₂.1, hsA.1]
    have hz₃ : ZRec h₃ z TI TO f0 g1 := hs₃.extBut _ _ D.i2z.symm (hs₂.extBut _ _ D.i1z.symm hzA)
    have hk : ∀ c o, c ≠ z → c ≠ i1 → c ≠ i2 → s.heap.get? c = some o → h₃.get? c = some o := fun c o c1 c2 c3 e => hs₃.extBut _ _ c3 (hs₂.extBut _ _ c2 (hsA.extBut _ _ c1 e))
    have h1₃ : h₃.IsListIter i1 l1 (k1 + 1) := h1₂.extBut hs₃.extBut D.i12
    have hTO₃ : IsPair h₃ TO a b := hs₃.extBut _ _ D.TOi2 (hs₂.extBut _ _ D.TOi1 hTOA)
    refine wpAny_pure ⟨_, rfl, ?_⟩
    show Q (.ref h₃.objs.size) _
    have hp : IsPair (h₃.push { cls := .type "tuple", data := .seq #[x, y] }) h₃.objs.size x y := Heap.get?_push_size _ rfl
    have hz4 : (h₃.push { cls := .type "tuple", data := .seq #[x, y] }).objs.size = h₃.objs.size + 1 := Heap.size_push ..
    rw [hsz] at hp hz4 ⊢
    exact hQ _ _ _ _ _ (Heap.get?_push_of_some _ hz₃) h0 (Heap.get?_push_of_some _ hTO₃) (h1₃.at fun o e => Heap.get?_push_of_some _ e) (h2₃.at fun o e => Heap.get?_push_of_some _ e) hp hz4 fun c o c1 _ c2 c3 e => Heap.get?_push_of_some _ (hk c o c1 c2 c3 e)

/-- both lists end at once: the strict zip stops -/
theorem next_end {z TI TO i1 i2 l1 l2 : Addr} {k1 k2 : Nat} {xs ys : Array Value} {a b f0 : Value} {f1 : Bool} {Q : Fin → Shared → Prop} (hh : A.handled = none) (D : ZipApart z TI TO i1 i2 l1 l2)
    (hz : ZRec s.heap z TI TO f0 f1) (h0 : Free0 f0) (hTI : IsPair s.heap TI (.ref i1) (.ref i2)) (hTO : IsPair s.heap TO a b)
    (h1 : s.heap.IsListIter i1 l1 k1) (h2 : s.heap.IsListIter i2 l2 k2) (hl1 : s.heap.IsList l1 xs) (hl2 : s.heap.IsList l2 ys) (hx : xs[k1]? = none) (hy : ys[k2]? = none)
    (hE : ∀ h' e, (∀ c o, c ≠ z → c ≠ TO → c ≠ i1 → c ≠ i2 → s.heap.get? c = some o → h'.get? c = some o) → (∃ o, h'.get? e = some o ∧ o.cls = .type "StopIteration") → E (.ref e) { s with heap := h' }) :
    wpAny (model prog w) A (Builtin.«zip.__next__» ⟨[.ref z], []⟩) Q E s := by
  have stop : ∀ {h : Heap} {Q' : Fin → Shared → Prop}, (∀ c o, c ≠ z → c ≠ TO → c ≠ i1 → c ≠ i2 → s.heap.get? c = some o → h.get? c = some o) → wpAny (model prog w) A (Builtin.SmallTypes.stopIteration : Sem Fin) Q' E { s with heap := h } := fun {h Q'} hk => by
    show wpAny _ _ (newExc (.type "StopIteration") [] >>= _) _ _ _
    refine wpAny_bind ?_
    simp only [newExc, newTuple]
    refine wpAny_bind (wpAny_newObj_type ?_ (by size_fits))
    refine wpAny_bind (m := firstArgMember _ _) (wpAny_of_eq (a := Value.none) (by first | rfl | (simp only [firstArgMember]; rfl)) ?_)
    refine wpAny_newObj_type ?_ (by size_fits)
    simp only [raiseNew]
    refine wpAny_bind (wpAny_handled ?_)
    rw [hh]
    refine wpAny_bind (wpAny_pure (wpAny_throw ?_))
    exact hE _ _ (fun c o c1 c2 c3 c4 e => Heap.get?_push_of_some _ (Heap.get?_push_of_some _ (hk c o c1 c2 c3 c4 e))) ⟨_, Heap.get?_push_size _ rfl, rfl⟩
  show wpAny _ _ (field (.ref z) 2 >>= _) _ _ _
  refine wpAny_bind (wpAny_field hz rfl (x := .bool true) rfl ?_)
  show wpAny _ _ (field (.ref z) 3 >>= _) _ _ _
  refine wpAny_bind (wpAny_field hz rfl (x := .ref TI) rfl ?_)
  refine wpAny_bind (wpAny_seqItems hTI rfl ?_)
  show wpAny _ _ (Builtin.SmallTypes.ownedTupleIsFree (.ref z) >>= _) _ _ _
  refine wpAny_bind (free_any hz h0 fun fr g1 hA hzA hsA => ?_)
  have hTOA : IsPair hA TO a b := hsA.extBut _ _ D.TOz hTO
  have h1A : hA.IsListIter i1 l1 k1 := h1.extBut hsA.extBut D.i1z
  have h2A : hA.IsListIter i2 l2 k2 := h2.extBut hsA.extBut D.i2z
  have hl1A : hA.IsList l1 xs := hl1.extBut hsA.extBut D.l1z
  have hl2A : hA.IsList l2 ys := hl2.extBut hsA.extBut D.l2z
  cases fr with
  | true =>
    simp only [if_true]
    refine wpAny_bind (wpAny_rule ?_)
    refine wpAny_bind (wpAny_field (s := { s with heap := hA }) hzA rfl (x := .ref TO) rfl ?_)
    refine wpAny_bind (wpAny_setField_rec (s := { s with heap := hA }) hzA (by simp) fun h₁ hz₁ hs₁ => ?_)
    replace hz₁ : ZRec h₁ z TI TO .ellipsis g1 := hz₁
    refine wpAny_bind ?_
    simp only [List.zipIdx_cons, List.zipIdx_nil, List.forIn_cons, List.forIn_nil]
    refine wpAny_bind (wpAny_bind (wpAny_onRaise ?_))
    show wpAny _ _ (Builtin.SmallTypes.nextOrEnd (.ref i1)) _ _ _
    refine nextOrEnd_end (s := { s with heap := h₁ }) hh (h1A.extBut hs₁.extBut D.i1z) (hl1A.extBut hs₁.extBut D.l1z) hx fun h₂ hs₂ => ?_
    have hz₂ : ZRec h₂ z TI TO .ellipsis g1 := hs₂ _ _ D.i1z.symm hz₁
    refine wpAny_bind (wpAny_setField_rec (s := { s with heap := h₂ }) hz₂ (by simp) fun h₃ hz₃ hs₃ => ?_)
    have keep : ∀ c o, c ≠ z → c ≠ i1 → s.heap.get? c = some o → h₃.get? c = some o := fun c o c1 c2 e => hs₃.extBut _ _ c1 (hs₂ _ _ c2 (hs₁.extBut _ _ c1 (hsA.extBut _ _ c1 e)))
    refine wpAny_bind ?_
    show wpAny _ _ (((Builtin.SmallTypes.nextOrEnd (.ref i2) >>= _) >>= _) >>= _) _ _ _
    refine wpAny_bind (wpAny_bind (wpAny_bind (nextOrEnd_end (s := { s with heap := h₃ }) hh (h2.at fun o e => keep _ o D.i2z D.i12.symm e) (hl2.at fun o e => keep _ o D.l2z D.l2i1 e) hy fun h₄ hs₄ => ?_)))
    refine wpAny_pure (wpAny_pure (wpAny_bind (wpAny_rule ?_)))
    exact stop fun c o c1 c2 c3 c4 e => hs₄ _ _ c4 (keep c o c1 c3 e)
  | false =>
    simp only [Bool.false_eq_true, if_false]
    refine wpAny_bind ?_
    rw [← Array.forIn_toList]
    simp only [List.forIn_cons, List.forIn_nil]
    refine wpAny_bind (wpAny_bind (wpAny_holding ?_))
    show wpAny _ _ (Builtin.SmallTypes.nextOrEnd (.ref i1)) _ _ _
    refine nextOrEnd_end (s := { s with heap := hA }) hh h1A hl1A hx fun h₂ hs₂ => ?_
    have keep : ∀ c o, c ≠ z → c ≠ i1 → s.heap.get? c = some o → h₂.get? c = some o := fun c o c1 c2 e => hs₂ _ _ c2 (hsA.extBut _ _ c1 e)
    refine wpAny_bind ?_
    show wpAny _ _ (((Builtin.SmallTypes.nextOrEnd (.ref i2) >>= _) >>= _) >>= _) _ _ _
    refine wpAny_bind (wpAny_bind (wpAny_bind (nextOrEnd_end (s := { s with heap := h₂ }) hh (h2.at fun o e => keep _ o D.i2z D.i12.symm e) (hl2.at fun o e => keep _ o D.l2z D.l2i1 e) hy fun h₄ hs₄ => ?_)))
    refine wpAny_pure (wpAny_pure (wpAny_bind (wpAny_rule ?_)))
    exact stop fun c o c1 c2 c3 c4 e => hs₄ _ _ c4 (keep c o c1 c3 e)

theorem zs_typeCall (a b : Value) : checkTypeCall "zip" ⟨[a, b], [(Str.ofString "strict", .bool true)]⟩ = pure () := by kernel_rfl
theorem zs_newCall (a b : Value) : checkBuiltinCall "zip.__new__" ⟨[.type "zip", a, b], [(Str.ofString "strict", .bool true)]⟩ = pure () := by kernel_rfl
theorem zs_init (obj a b : Value) : argsOk "object.__init__" ⟨[obj, a, b], [(Str.ofString "strict", .bool true)]⟩ := by unfold argsOk; kernel_rfl
def zh1 (h : Heap) (l1 : Addr) : Heap := h.push { cls := .type "list_iterator", data := .fields #[.ref l1, .int 0 0] }
def zh2 (h : Heap) (l1 l2 : Addr) : Heap := (zh1 h l1).push { cls := .type "list_iterator", data := .fields #[.ref l2, .int 0 0] }
def zh3 (h : Heap) (l1 l2 : Addr) : Heap := (zh2 h l1 l2).push { cls := .type "tuple", data := .seq #[.ref h.objs.size, .ref (zh1 h l1).objs.size] }
def zh4 (h : Heap) (l1 l2 : Addr) : Heap := (zh3 h l1 l2).push { cls := .type "tuple", data := .seq #[.none, .none] }
def zh5 (h : Heap) (l1 l2 : Addr) : Heap := (zh4 h l1 l2).push { cls := .type "zip", data := .fields #[.none, .bool false, .bool true, .ref (zh2 h l1 l2).objs.size, .ref (zh3 h l1 l2).objs.size] }
theorem meets_new (l1 l2 : Addr) (xs ys : Array Value) :
    Meets (Builtin.«zip.__new__» ⟨[.type "zip", .ref l1, .ref l2], [(Str.ofString "strict", .bool true)]⟩) (fun _ R s => s.heap.IsList l1 xs ∧ s.heap.IsList l2 ys ∧
      R (.ok (.ret (.ref (zh4 s.heap l1 l2).objs.size))) { s with heap := zh5 s.heap l1 l2 }) :=
  .of_wp fun prog w A R s h => by
    obtain ⟨hp, g, d, tk, os⟩ := s
    obtain ⟨hl1, hl2, h⟩ := h
    have hsub := sub_zip
    have e1 : (Str.ofString "strict" != ("strict" : Str)) = false := by decide +kernel
    have hL1 : Heap.IsList (Shared.heap ⟨hp, g, d, tk, os⟩) l1 xs := hl1
    have hL2 : Heap.IsList (Shared.heap ⟨hp.push { cls := .type "list_iterator", data := .fields #[.ref l1, .int 0 0] }, g, d, tk, os⟩) l2 ys := Heap.IsList.push hl2 _
    wp_walk using wpAny_pyIter_list hL1, wpAny_pyIter_list hL2
    exact ⟨_, rfl, h⟩

theorem call_new {l1 l2 : Addr} {xs ys : Array Value} {Q : Value → Shared → Prop} (hl1 : s.heap.IsList l1 xs) (hl2 : s.heap.IsList l2 ys)
    (h : ∀ h', ZRec h' (s.heap.objs.size + 4) (s.heap.objs.size + 2) (s.heap.objs.size + 3) .none false → IsPair h' (s.heap.objs.size + 2) (.ref s.heap.objs.size) (.ref (s.heap.objs.size + 1)) →
      IsPair h' (s.heap.objs.size + 3) .none .none → h'.IsListIter s.heap.objs.size l1 0 → h'.IsListIter (s.heap.objs.size + 1) l2 0 → h'.objs.size = s.heap.objs.size + 5 →
      (∀ c o, s.heap.get? c = some o → h'.get? c = some o) → Q (.ref (s.heap.objs.size + 4)) { s with heap := h' }) :
    wpAny (model prog w) A (call (.type "zip") [.ref l1, .ref l2] [(Str.ofString "strict", .bool true)]) Q E s := by
  refine callType_newKw F.called_zip (by decide) (zs_typeCall _ _) (zs_newCall _ _) (fun obj => zs_init obj _ _) F.entry_zip_new (meets_new l1 l2 xs ys) ⟨hl1, hl2, ?_⟩
  have z1 : (zh1 s.heap l1).objs.size = s.heap.objs.size + 1 := Heap.size_push ..
  have z2 : (zh2 s.heap l1 l2).objs.size = s.heap.objs.size + 2 := (Heap.size_push ..).trans (by rw [z1])
  have z3 : (zh3 s.heap l1 l2).objs.size = s.heap.objs.size + 3 := (Heap.size_push ..).trans (by rw [z2])
  have z4 : (zh4 s.heap l1 l2).objs.size = s.heap.objs.size + 4 := (Heap.size_push ..).trans (by rw [z3])
  have z5 : (zh5 s.heap l1 l2).objs.size = s.heap.objs.size + 5 := (Heap.size_push ..).trans (by rw [z4])
  have g5 : (zh5 s.heap l1 l2).get? (zh4 s.heap l1 l2).objs.size = some _ := Heap.get?_push_size _ rfl
  have g4 : (zh5 s.heap l1 l2).get? (zh3 s.heap l1 l2).objs.size = some _ := Heap.get?_push_of_some _ (Heap.get?_push_size _ rfl)
  have g3 : (zh5 s.heap l1 l2).get? (zh2 s.heap l1 l2).objs.size = some _ := Heap.get?_push_of_some _ (Heap.get?_push_of_some _ (Heap.get?_push_size _ rfl))
  have g2 : (zh5 s.heap l1 l2).get? (zh1 s.heap l1).objs.size = some _ := Heap.get?_push_of_some _ (Heap.get?_push_of_some _ (Heap.get?_push_of_some _ (Heap.get?_push_size _ rfl)))
  have g1 : (zh5 s.heap l1 l2).get? s.heap.objs.size = some _ := Heap.get?_push_of_some _ (Heap.get?_push_of_some _ (Heap.get?_push_of_some _ (Heap.get?_push_of_some _ (Heap.get?_push_size _ rfl))))
  show _ ∧ _
  rw [z2, z3, z4] at g5
  rw [z1, z2] at g3
  rw [z3] at g4
  rw [z1] at g2
  rw [z4]
  exact ⟨⟨_, g5, rfl⟩, h _ g5 g3 g4 ⟨_, g1, rfl, rfl⟩ ⟨_, g2, rfl, rfl⟩ z5 fun c o x =>
    Heap.get?_push_of_some _ (Heap.get?_push_of_some _ (Heap.get?_push_of_some _ (Heap.get?_push_of_some _ (Heap.get?_push_of_some _ x))))⟩

theorem pyNext_item {z TI TO i1 i2 l1 l2 : Addr} {k1 k2 : Nat} {xs ys : Array Value} {x y a b f0 : Value} {f1 : Bool} {Q : Option Value → Shared → Prop} (D : ZipApart z TI TO i1 i2 l1 l2)
    (hz : ZRec s.heap z TI TO f0 f1) (h0 : Free0 f0) (hTI : IsPair s.heap TI (.ref i1) (.ref i2)) (hTO : IsPair s.heap TO a b)
    (h1 : s.heap.IsListIter i1 l1 k1) (h2 : s.heap.IsListIter i2 l2 k2) (hl1 : s.heap.IsList l1 xs) (hl2 : s.heap.IsList l2 ys) (hx : xs[k1]? = some x) (hy : ys[k2]? = some y)
    (hQ : ∀ h' g0 g1 p q, ZRec h' z TI TO g0 g1 → Free0 g0 → IsPair h' TO p q → h'.IsListIter i1 l1 (k1 + 1) → h'.IsListIter i2 l2 (k2 + 1) → IsPair h' s.heap.objs.size x y → h'.objs.size = s.heap.objs.size + 1 →
      (∀ c o, c ≠ z → c ≠ TO → c ≠ i1 → c ≠ i2 → s.heap.get? c = some o → h'.get? c = some o) → Q (some (.ref s.heap.objs.size)) { s with heap := h' }) :
    wpAny (model prog w) A (pyNext (.ref z)) Q E s := by
  have hT : s.TypeIs (.ref z) "zip" := ⟨_, hz, rfl⟩
  unfold pyNext
  exact wpAny_bind (wpAny_attempt (wpAny_callSpecial?_slot (name := Str.ofString "__next__") hT F.slot_zip_next
    (wpAny_call_entry F.slot_zip_next hT F.entry_zip_next
      (next_item D hz h0 hTI hTO h1 h2 hl1 hl2 hx hy fun h' g0 g1 p q a1 a2 a3 a4 a5 a6 a7 a8 => wpAny_pure (hQ h' g0 g1 p q a1 a2 a3 a4 a5 a6 a7 a8)) (F.args_zip_next_1 _))))
theorem pyNext_end {z TI TO i1 i2 l1 l2 : Addr} {k1 k2 : Nat} {xs ys : Array Value} {a b f0 : Value} {f1 : Bool} {Q : Option Value → Shared → Prop} (hh : A.handled = none) (D : ZipApart z TI TO i1 i2 l1 l2)
    (hz : ZRec s.heap z TI TO f0 f1) (h0 : Free0 f0) (hTI : IsPair s.heap TI (.ref i1) (.ref i2)) (hTO : IsPair s.heap TO a b)
    (h1 : s.heap.IsListIter i1 l1 k1) (h2 : s.heap.IsListIter i2 l2 k2) (hl1 : s.heap.IsList l1 xs) (hl2 : s.heap.IsList l2 ys) (hx : xs[k1]? = none) (hy : ys[k2]? = none)
    (hQ : ∀ h', (∀ c o, c ≠ z → c ≠ TO → c ≠ i1 → c ≠ i2 → s.heap.get? c = some o → h'.get? c = some o) → Q none { s with heap := h' }) :
    wpAny (model prog w) A (pyNext (.ref z)) Q E s := by
  have hT : s.TypeIs (.ref z) "zip" := ⟨_, hz, rfl⟩
  unfold pyNext
  refine wpAny_bind (wpAny_attempt (wpAny_callSpecial?_slot (name := Str.ofString "__next__") hT F.slot_zip_next
    (wpAny_call_entry F.slot_zip_next hT F.entry_zip_next (next_end hh D hz h0 hTI hTO h1 h2 hl1 hl2 hx hy fun h' e hk he => ?_) (F.args_zip_next_1 _))))
  obtain ⟨o, ho, hc⟩ := he
  refine wpAny_bind (wpAny_isInstance (T := "StopIteration") (b := true) ⟨o, ho, hc⟩ isSubtype_stop ?_)
  exact wpAny_pure (hQ _ hk)
/-- the step ahead of the store, whatever the target: the zip may take its tuple back -/
theorem go_any {tg : Expr} {z TI TO : Addr} {f0 u : Value} {f1 : Bool} {Q : Unit → Shared → Prop} (hz : ZRec s.heap z TI TO f0 f1) (h0 : Free0 f0)
    (hQ : ∀ g0 h', ZRec h' z TI TO g0 f1 → Free0 g0 → Heap.SameBut z s.heap h' → Q () { s with heap := h' }) :
    wpAny (model prog w) A (letOwnedTupleGo tg (.ref z) u) Q E s := by
  have plain : wpAny (model prog w) A (pure ()) Q E s := wpAny_pure (hQ f0 s.heap hz h0 (Heap.SameBut.refl _ _))
  have turn : wpAny (model prog w) A (updateField z 0 .none) Q E s := by
    show wpAny _ _ (setField (.ref z) 0 .none) Q E s
    exact wpAny_setField_rec hz (by simp) fun h' hz' hs' => hQ .none h' hz' (.inl rfl) hs'
  unfold letOwnedTupleGo
  cases tg <;> first
    | exact plain
    | (cases u <;> first
        | exact plain
        | (refine wpAny_bind (wpAny_load hz ?_)
           dsimp only
           split
           · exact wpAny_bind (wpAny_rule turn)
           · exact plain))
theorem pyIter_self {z TI TO : Addr} {f0 : Value} {f1 : Bool} {Q : Value → Shared → Prop} (hz : ZRec s.heap z TI TO f0 f1) (h : Q (.ref z) s) : wpAny (model prog w) A (pyIter (.ref z)) Q E s := by
  have hT : s.TypeIs (.ref z) "zip" := ⟨_, hz, rfl⟩
  refine wpAny_pyIter_slot hT F.slot_zip_iter (wpAny_call_entry F.slot_zip_iter hT F.entry_zip_iter ?_ (F.args_zip_iter_1 _))
  show wpAny _ _ (ret (.ref z)) _ _ s
  exact wpAny_pure ⟨_, rfl, "zip", _, hT, F.slot_zip_next.lookup, h⟩
end
end ZS

namespace L2
open PySem PySem.Spec PyProof.Rows ZS
/-- both lists, of one length, as they stand at each turn; the items in new pairs -/
def Itzs (K : PySem.W.Frag) (a b : Addr) : It :=
  ⟨fun i H => ∃ (xs ys : List V) (x y : V), SqL K H a xs ∧ SqL K H b ys ∧ xs[i]? = some x ∧ ys[i]? = some y,
    fun i H v H' => ∃ T x y, v = .ref T ∧ H T = none ∧ H' = upd H T (.tup [x, y]) ∧ (∀ xs, SqL K H a xs → xs[i]? = some x) ∧ ∀ ys, SqL K H b ys → ys[i]? = some y,
    fun i H => ∃ xs ys : List V, SqL K H a xs ∧ SqL K H b ys ∧ xs.length ≤ i ∧ ys.length ≤ i⟩
theorem turn_zs {P : Program} {w : World} {K : PySem.W.Frag} {tg : Expr} {a b z TI TO i1 i2 : Addr} (D : ZipApart z TI TO i1 i2 a b) :
    Turn P w K tg (Itzs K a b) [z, TI, TO, i1, i2] z (fun i h => (∃ f0 f1, ZRec h z TI TO f0 f1 ∧ Free0 f0) ∧ IsPair h TI (.ref i1) (.ref i2) ∧ (∃ x y, IsPair h TO x y) ∧ h.IsListIter i1 a i ∧ h.IsListIter i2 b i) where
  mem := by simp
  obj := fun i h st c hc => by
    obtain ⟨⟨f0, f1, hz, _⟩, hTI, ⟨x, y, hTO⟩, ⟨o1, e1, _, d1⟩, ⟨o2, e2, _, d2⟩⟩ := st
    have e' : c = z ∨ c = TI ∨ c = TO ∨ c = i1 ∨ c = i2 := by simpa using hc
    rcases e' with q | q | q | q | q <;> rw [q]
    · exact ⟨_, hz, fun v q => nomatch q⟩
    · exact ⟨_, hTI, fun v q => nomatch q⟩
    · exact ⟨_, hTO, fun v q => nomatch q⟩
    · exact ⟨o1, e1, fun v q => by rw [d1] at q; cases q⟩
    · exact ⟨o2, e2, fun v q => by rw [d2] at q; cases q⟩
  keep := fun i h h' st k => by
    obtain ⟨⟨f0, f1, hz, h0⟩, hTI, ⟨x, y, hTO⟩, h1, h2⟩ := st
    exact ⟨⟨f0, f1, k z (by simp) _ hz, h0⟩, k TI (by simp) _ hTI, ⟨x, y, k TO (by simp) _ hTO⟩, h1.at fun o q => k i1 (by simp) o q, h2.at fun o q => k i2 (by simp) o q⟩
  item := by
    intro X hP hw hK hc i pins s σ H E I hf st hg
    subst hP hw hK
    obtain ⟨⟨f0, f1, hz, h0⟩, hTI, ⟨x0, y0, hTO⟩, h1, h2⟩ := st
    obtain ⟨xs, ys, x, y, hqx, hqy, hx, hy⟩ := hg
    obtain ⟨its, rv, p, _⟩ := I.list hqx
    obtain ⟨its2, rv2, p2, _⟩ := I.list hqy
    obtain ⟨u, hu, ru⟩ := rv.get hx
    obtain ⟨u2, hu2, ru2⟩ := rv2.get hy
    have hzl : z < s.heap.objs.size := Heap.lt_size hz
    refine pyNext_item D hz h0 hTI hTO h1 h2 p.isList p2.isList (x := u) (y := u2) (by simpa using hu) (by simpa using hu2) fun h' g0 g1 e1 e2 z' f0' TO' h1' h2' hT hsz hk => ?_
    refine ⟨_, rfl, go_any (s := { s with heap := h' }) z' f0' fun g2 h'' z'' f0'' sb => ?_⟩
    have hT2 : h''.get? s.heap.objs.size = some { cls := .type "tuple", data := .seq #[u, u2] } := (sb.2 _ (Nat.ne_of_gt hzl)).trans hT
    have new : ObjOk X.prog X.w (upd H s.heap.objs.size (.tup [x, y])) h'' s.heap.objs.size (.tup [x, y]) :=
      ⟨by show 2 ≤ sizeLine; decide, [u, u2], .cons ru (.cons ru2 .nil), ⟨_, hT2, rfl, _, rfl⟩⟩
    have kept : ∀ c o, c ∉ [z, TI, TO, i1, i2] → s.heap.get? c = some o → h''.get? c = some o := fun c o hb e => by
      simp only [List.mem_cons, List.not_mem_nil, or_false, not_or] at hb
      exact (sb.2 c hb.1).trans (hk c o hb.1 hb.2.2.1 hb.2.2.2.1 hb.2.2.2.2 e)
    have I1 : Inv X pins σ (upd H s.heap.objs.size (.tup [x, y])) { s with heap := h'' } :=
      I.turnedNew (t' := s.toks) (ch := [z, TI, TO, i1, i2]) kept hf (Nat.le_refl _) new
    refine ⟨.ref s.heap.objs.size, _, I1, rfl, ⟨_, x, y, rfl, I.hok.fresh (Nat.le_refl _), rfl, fun l hl => by rw [I.list_inj hl hqx]; exact hx, fun l hl => by rw [I.list_inj hl hqy]; exact hy⟩, ⟨⟨_, _, z'', f0''⟩, ?_, ⟨e1, e2, ?_⟩, ?_, ?_⟩, fun c hcm => ?_⟩
    · exact (sb.2 _ D.TIz).trans (hk _ _ D.TIz D.TITO D.TIi1 D.TIi2 hTI)
    · exact (sb.2 _ D.TOz).trans TO'
    · exact h1'.at fun o q => (sb.2 _ D.i1z).trans q
    · exact h2'.at fun o q => (sb.2 _ D.i2z).trans q
    · have hlt : c < s.heap.objs.size := by
        have e' : c = z ∨ c = TI ∨ c = TO ∨ c = i1 ∨ c = i2 := by simpa using hcm
        rcases e' with q | q | q | q | q <;> rw [q]
        · exact hzl
        · exact Heap.lt_size hTI
        · exact Heap.lt_size hTO
        · obtain ⟨_, e1, _⟩ := h1; exact Heap.lt_size e1
        · obtain ⟨_, e2, _⟩ := h2; exact Heap.lt_size e2
      rw [upd_ne (Nat.ne_of_lt hlt)]
      exact (hf c hcm).1
  done := by
    intro X hP hw hK hc i pins s σ H E I hf st hg
    subst hP hw hK
    obtain ⟨⟨f0, f1, hz, h0⟩, hTI, ⟨x0, y0, hTO⟩, h1, h2⟩ := st
    obtain ⟨xs, ys, hqx, hqy, e1, e2⟩ := hg
    obtain ⟨its, rv, p, _⟩ := I.list hqx
    obtain ⟨its2, rv2, p2, _⟩ := I.list hqy
    have l1 := rv.length
    have l2 := rv2.length
    exact pyNext_end (I.ok.hd hc) D hz h0 hTI hTO h1 h2 p.isList p2.isList (by simp; omega) (by simp; omega) fun h' hk => ⟨rfl, I.turnedL (t' := s.toks) (ch := [z, TI, TO, i1, i2]) (fun c o hb q => by
      simp only [List.mem_cons, List.not_mem_nil, or_false, not_or] at hb
      exact hk c o hb.1 hb.2.2.1 hb.2.2.2.1 hb.2.2.2.2 q) hf⟩
  self := fun A i s Q E st h => by
    obtain ⟨⟨f0, f1, hz, h0⟩, _⟩ := st
    exact pyIter_self hz h
def iZs (K : PySem.W.Frag) (ta : TA) : TI := fun σ H R => ta σ H fun vs H1 => ∃ a b xs ys, vs = [.ref a, .ref b] ∧ SqL K H1 a xs ∧ SqL K H1 b ys ∧ R (Itzs K a b) H1
/-- zip(e, e2, strict=True) -/
theorem pi_zs {X : Cx} {tg e e2 : Expr} {ta : TA} {p pos kp cp : Pos} {j : Nat} (hg : Gl X "zip") (hm : X.mg "zip" = none) (ha : PA X [e, e2] ta)
    (hs : starEach [e, e2] X.env = (false, eval e X.env) :: starEach [e2] X.env := by rfl) (hpl : (backTo pos (starEach [e2] X.env)).any (·.1) = false := by rfl) :
    PI X tg (.Call (.Name "zip" p) [e, e2] [⟨some "strict", .Constant (.bool true) j cp, kp⟩] pos) (iZs X.K ta) := by
  refine ⟨fun pins s σ H R I h => ?_⟩
  refine wpAny_Call_Name_kw (ld_blt I hg hm PyProof.Rows.boot_zip ?_)
  refine PySem.W.callWith_of (P := fun _ => True) (first := []) (by rw [hs]; show ((false || (backTo pos (starEach [e2] X.env)).any (·.1)) || false) = false; rw [hpl]; rfl) (fun h _ => ⟨.machine, .inr (.inl rfl), PySem.W.Looks.of_pure rfl⟩) ?_
  refine evalArgs_kw2 rfl (thn (ha.run pos pins s σ H _ I h) fun us s1 ⟨vs, H1, I1, r1, q1⟩ => ?_) hs
  refine thn ((pk_cons pe_bl pk_nil : PK X [⟨some "strict", .Constant (.bool true) j cp, kp⟩] _).run pos pins s1 σ H1 (fun zs H2 => zs = [.bl true] ∧ H2 = H1) I1 ⟨rfl, rfl⟩) fun ws s2 ⟨zs, H2, I2, rz, ez, eH⟩ => ⟨trivial, ?_⟩
  subst ez eH
  obtain ⟨a, b, xs, ys, ex, hqx, hqy, q⟩ := q1
  subst ex
  cases rz with
  | cons rz rr0 =>
  cases rr0
  cases rz
  cases r1 with
  | cons r rr =>
  cases rr with
  | cons r' rr =>
  cases rr
  cases r
  cases r'
  obtain ⟨its, rv, p1, _⟩ := I2.list hqx
  obtain ⟨its2, rv2, p2, _⟩ := I2.list hqy
  have la : a < s2.heap.objs.size := p1.lt
  have lb : b < s2.heap.objs.size := p2.lt
  refine call_new p1.isList p2.isList fun h' hz hTI hTO h1 h2 hsz hk => pyIter_self hz ?_
  have I3 : Inv X pins σ H2 { s2 with heap := h' } := I2.kept (t' := s2.toks) hk
  refine ⟨s2.heap.objs.size + 4, [s2.heap.objs.size + 4, s2.heap.objs.size + 2, s2.heap.objs.size + 3, s2.heap.objs.size, s2.heap.objs.size + 1], _, _, H2, rfl, I3, turn_zs (PySem.W.ktu_apart s2.heap.objs.size a b la lb), ⟨⟨_, _, hz, .inl rfl⟩, hTI, ⟨_, _, hTO⟩, h1, h2⟩, fun c hcm => ?_, q⟩
  have hle : s2.heap.objs.size ≤ c := by
    have e' : c = s2.heap.objs.size + 4 ∨ c = s2.heap.objs.size + 2 ∨ c = s2.heap.objs.size + 3 ∨ c = s2.heap.objs.size ∨ c = s2.heap.objs.size + 1 := by simpa using hcm
    rcases e' with z | z | z | z | z <;> rw [z]
    all_goals first
      | exact Nat.le_add_right _ _
      | exact Nat.le_refl _
  exact I2.fpOk hle (I2.hok.fresh hle)
theorem walk_zs {K : PySem.W.Frag} {a b : Addr} {xs ys : List V} {n : Nat} (h1 : xs.length = n) (h2 : ys.length = n) :
    Walk (Itzs K a b) n (fun H => SqL K H a xs ∧ SqL K H b ys) (YPair (fun i => xs[i]?) (fun i => ys[i]?)) := by
  refine ⟨fun i _ hi q => ?_, fun _ q => ⟨xs, ys, q.1, q.2, by omega, by omega⟩, fun i H v H' _ q y => ?_⟩
  · have e1 : i < xs.length := by omega
    have e2 : i < ys.length := by omega
    exact ⟨xs, ys, xs[i], ys[i], q.1, q.2, by simp [e1], by simp [e2]⟩
  · obtain ⟨T, x, z, e1, e2, e3, e4, e5⟩ := y
    exact ⟨T, x, z, e1, e2, e3, e4 xs q.1, e5 ys q.2⟩
end L2


set_option Elab.async false
set_option linter.all false
set_option maxRecDepth 100000
set_option maxHeartbeats 4000000
/-! zip(x, y) to a target of two names, x and y a list, a tuple or a text in any mix. -/
namespace L2
open PySem PySem.Spec PyProof.Rows
inductive Src where
  | lst (a : Addr) | tup (a : Addr) | txt (x : Str)
def Src.v : Src → V
  | .lst a => .ref a
  | .tup a => .ref a
  | .txt x => .str x
def Src.Has (K : PySem.W.Frag) (H : Hp) : Src → List V → Prop
  | .lst a, xs => SqL K H a xs
  | .tup a, xs => SqT K H a xs
  | .txt x, xs => xs = x.cps.toList.map fun c => V.str ⟨#[c]⟩
def Src.At (h : Heap) (it : Addr) (i : Nat) : Src → Prop
  | .lst a => h.IsListIter it a i
  | .tup a => h.IsTupleIter it a i
  | .txt x => ∃ t, h.IsStrIter it (strIterType x) x t i
theorem Src.At.obj {h : Heap} {it : Addr} {i : Nat} : ∀ {r : Src}, r.At h it i → ∃ o, h.get? it = some o ∧ ∀ v, o.data ≠ .cell v
  | .lst _, ⟨o, e, _, d⟩ => ⟨o, e, fun v z => by rw [d] at z; cases z⟩
  | .tup _, ⟨o, e, _, d⟩ => ⟨o, e, fun v z => by rw [d] at z; cases z⟩
  | .txt _, ⟨_, o, e, _, d⟩ => ⟨o, e, fun v z => by rw [d] at z; cases z⟩
theorem Src.At.keep {h h' : Heap} {it : Addr} {i : Nat} (k : ∀ o, h.get? it = some o → h'.get? it = some o) : ∀ {r : Src}, r.At h it i → r.At h' it i
  | .lst _, st => Heap.IsListIter.at st k
  | .tup _, st => Heap.IsTupleIter.at st k
  | .txt _, ⟨t, o, e, r⟩ => ⟨t, o, k o e, r⟩
section
variable {X : Cx} {pins : List (Addr × Obj)} {σ : St} {H : Hp} {s : Shared} {b a : Addr} {xs : List V}
theorem fp_ne_of {u : HO} (I : Inv X pins σ H s) (f : FpOk X pins H b) (h : Rd H a u ∨ ∃ o, X.K.lookup a = some o) : b ≠ a := by
  rintro rfl
  rcases h with (h | ⟨o, h⟩) | ⟨o, h⟩
  · rw [f.1] at h; cases h
  · rw [f.1] at h; cases h
  · have hb := I.ok.mod.kin _ _ h
    rcases f.2.2.2.1 with z | z
    · exact I.ok.noex _ _ hb z
    · exact absurd (Nat.lt_of_lt_of_le (Heap.lt_size hb) (Nat.le_trans I.ok.bsz z)) (Nat.lt_irrefl _)
theorem fp_neL (I : Inv X pins σ H s) (f : FpOk X pins H b) (h : SqL X.K H a xs) : b ≠ a := by
  rcases h with h | ⟨o, _, _, h, _⟩
  · exact fp_ne_of I f (.inl h)
  · exact fp_ne_of (u := .lst xs) I f (.inr ⟨o, h⟩)
theorem fp_neT (I : Inv X pins σ H s) (f : FpOk X pins H b) (h : SqT X.K H a xs) : b ≠ a := by
  rcases h with h | ⟨o, _, _, h, _⟩
  · exact fp_ne_of I f (.inl h)
  · exact fp_ne_of (u := .lst xs) I f (.inr ⟨o, h⟩)
/-- how a source draws; fp: the iterator, and what stands still -/
theorem src_draws (A : Around) (hh : A.handled = none) (I : Inv X pins σ H s) {it : Addr} (fit : FpOk X pins H it) (r : Src) (hr : r.Has X.K H xs) : ∀ (i : Nat), r.At s.heap it i →
    ∃ (fp : List Addr) (P : Nat → Value → Prop) (S : Nat → Heap → Prop), Draws X.prog X.w A it fp xs.length P S ∧ S i s.heap ∧ it ∈ fp ∧ (∀ c, FpOk X pins H c → c ≠ it → c ∉ fp) ∧
      (∀ j v, P j v → ∃ x, xs[j]? = some x ∧ RelV x v) ∧ ∀ j h', S j h' → r.At h' it j := by
  intro i st
  cases r with
  | lst a =>
    obtain ⟨its, rv, p, _⟩ := I.list hr
    have hl := rv.length
    have hne : a ≠ it := (fp_neL I fit hr).symm
    have D := Draws.list (prog := X.prog) (w := X.w) hh it a hne its.toArray
    rw [show its.toArray.size = xs.length by simp [hl]] at D
    refine ⟨[it, a], fun i v => its.toArray[i]? = some v, fun i h => h.IsListIter it a i ∧ h.IsList a its.toArray, D, ⟨st, p.isList⟩, by simp, fun c fc hc hm => ?_, fun j v hv => ?_, fun j h' z => z.1⟩
    · have : c = it ∨ c = a := by simpa using hm
      exact this.elim hc (fp_neL I fc hr)
    · have hv' : its[j]? = some v := by simpa using hv
      have hj : j < xs.length := by rw [hl]; exact (List.getElem?_eq_some_iff.mp hv').1
      obtain ⟨u, e, r⟩ := rv.get (List.getElem?_eq_getElem hj)
      rw [hv'] at e
      cases e
      exact ⟨_, List.getElem?_eq_getElem hj, r⟩
  | tup a =>
    obtain ⟨its, rv, p, _⟩ := I.tuple hr
    have hl := rv.length
    have hne : a ≠ it := (fp_neT I fit hr).symm
    have D := Draws.tuple (prog := X.prog) (w := X.w) hh it a hne its.toArray
    rw [show its.toArray.size = xs.length by simp [hl]] at D
    refine ⟨[it, a], fun i v => its.toArray[i]? = some v, fun i h => h.IsTupleIter it a i ∧ h.IsTuple a its.toArray, D, ⟨st, p⟩, by simp, fun c fc hc hm => ?_, fun j v hv => ?_, fun j h' z => z.1⟩
    · have : c = it ∨ c = a := by simpa using hm
      exact this.elim hc (fp_neT I fc hr)
    · have hv' : its[j]? = some v := by simpa using hv
      have hj : j < xs.length := by rw [hl]; exact (List.getElem?_eq_some_iff.mp hv').1
      obtain ⟨u, e, r⟩ := rv.get (List.getElem?_eq_getElem hj)
      rw [hv'] at e
      cases e
      exact ⟨_, List.getElem?_eq_getElem hj, r⟩
  | txt x =>
    obtain ⟨t, st⟩ := st
    subst hr
    have D := Draws.text (prog := X.prog) (w := X.w) hh it x t
    rw [show x.cps.size = (x.cps.toList.map fun c => V.str ⟨#[c]⟩).length by simp] at D
    refine ⟨[it], fun i v => ∃ c u, x.cps[i]? = some c ∧ v = .str ⟨#[c]⟩ u, fun i h => h.IsStrIter it (strIterType x) x t i, D, st, by simp, fun c fc hc hm => hc (by simpa using hm), fun j v hv => ?_, fun j h' z => ⟨t, z⟩⟩
    obtain ⟨c, u, e, rfl⟩ := hv
    exact ⟨.str ⟨#[c]⟩, by simp [e], _, rfl⟩
end
/-- the sources as they stand at each turn, the items in new pairs -/
def Itzd (K : PySem.W.Frag) (r1 r2 : Src) : It :=
  ⟨fun i H => ∃ (xs ys : List V), r1.Has K H xs ∧ r2.Has K H ys ∧ i < xs.length ∧ i < ys.length,
    fun i H v H' => ∃ T x y, v = .ref T ∧ H T = none ∧ H' = upd H T (.tup [x, y]) ∧ (∀ xs, r1.Has K H xs → xs[i]? = some x) ∧ ∀ ys, r2.Has K H ys → ys[i]? = some y,
    fun i H => ∃ xs ys : List V, r1.Has K H xs ∧ r2.Has K H ys ∧ i ≤ xs.length ∧ i ≤ ys.length ∧ (i = xs.length ∨ i = ys.length)⟩
theorem Inv.has_inj {X : Cx} {pins : List (Addr × Obj)} {σ : St} {H : Hp} {s : Shared} (I : Inv X pins σ H s) : ∀ {r : Src} {xs ys : List V}, r.Has X.K H xs → r.Has X.K H ys → xs = ys
  | .lst _, _, _, a, b => I.list_inj a b
  | .tup _, _, _, a, b => I.tuple_inj a b
  | .txt _, _, _, a, b => Eq.trans a (Eq.symm b)
structure Apart5 (z TI TO i1 i2 : Addr) : Prop where
  a1 : TI ≠ z
  a2 : TO ≠ z
  a3 : i1 ≠ z
  a4 : i2 ≠ z
  a5 : TI ≠ TO
  a6 : TI ≠ i1
  a7 : TI ≠ i2
  a8 : TO ≠ i1
  a9 : TO ≠ i2
  a10 : i1 ≠ i2
theorem turn_zd {P : Program} {w : World} {K : PySem.W.Frag} {elts : List Expr} {kk : Nat} {tpos : Pos} {r1 r2 : Src} {z TI TO i1 i2 : Addr} (D : Apart5 z TI TO i1 i2) :
    Turn P w K (.Tuple elts kk tpos) (Itzd K r1 r2) [z, TI, TO, i1, i2] z (fun i h => IsZip h z TI TO .none ∧ IsTupOf2 h TI (.ref i1) (.ref i2) ∧ (∃ x y, IsTupOf2 h TO x y) ∧ r1.At h i1 i ∧ r2.At h i2 i) where
  mem := by simp
  obj := fun i h st c hc => by
    obtain ⟨hz, hTI, ⟨x, y, hTO⟩, h1, h2⟩ := st
    have e' : c = z ∨ c = TI ∨ c = TO ∨ c = i1 ∨ c = i2 := by simpa using hc
    rcases e' with q | q | q | q | q <;> rw [q]
    · exact ⟨_, hz, fun v q => nomatch q⟩
    · exact ⟨_, hTI, fun v q => nomatch q⟩
    · exact ⟨_, hTO, fun v q => nomatch q⟩
    · exact h1.obj
    · exact h2.obj
  keep := fun i h h' st k => by
    obtain ⟨hz, hTI, ⟨x, y, hTO⟩, h1, h2⟩ := st
    exact ⟨k z (by simp) _ hz, k TI (by simp) _ hTI, ⟨x, y, k TO (by simp) _ hTO⟩, h1.keep fun o q => k i1 (by simp) o q, h2.keep fun o q => k i2 (by simp) o q⟩
  item := by
    intro X hP hw hK hc i pins s σ H E I hf st hg
    subst hP hw hK
    obtain ⟨hz, hTI, ⟨x0, y0, hTO⟩, h1, h2⟩ := st
    obtain ⟨xs, ys, hqx, hqy, hx, hy⟩ := hg
    obtain ⟨fp1, P1, S1, D1, st1, m1, n1, y1, b1⟩ := src_draws X.A.in1 (I.ok.hd hc) I (hf i1 (by simp)) r1 hqx i h1
    obtain ⟨fp2, P2, S2, D2, st2, m2, n2, y2, b2⟩ := src_draws X.A.in1 (I.ok.hd hc) I (hf i2 (by simp)) r2 hqy i h2
    have hzl : z < s.heap.objs.size := Heap.lt_size hz
    have S : ZipSep2 z TI TO i1 i2 fp1 fp2 := ⟨D.a1, D.a2, D.a5, D.a6, m1, n1 z (hf z (by simp)) D.a3.symm, n1 TO (hf TO (by simp)) D.a8, D.a7, m2, n2 z (hf z (by simp)) D.a4.symm, n2 TO (hf TO (by simp)) D.a9, n2 i1 (hf i1 (by simp)) D.a10, n1 i2 (hf i2 (by simp)) D.a10.symm⟩
    refine wpAny_pyNext_zipD2_item S D1 D2 hz hTI hTO st1 st2 hx hy fun u u2 h' tk q1 q2 z' TO' h1' h2' hT hsz hk => ?_
    refine ⟨_, rfl, wpAny_letOwnedTupleGo_zip (s := { s with heap := h', toks := tk }) z' fun h'' z'' sb => ?_⟩
    obtain ⟨x, ex, ru⟩ := y1 _ _ q1
    obtain ⟨y, ey, ru2⟩ := y2 _ _ q2
    have hT2 : h''.get? s.heap.objs.size = some { cls := .type "tuple", data := .seq #[u, u2] } := (sb.2 _ (Nat.ne_of_gt hzl)).trans hT
    have new : ObjOk X.prog X.w (upd H s.heap.objs.size (.tup [x, y])) h'' s.heap.objs.size (.tup [x, y]) :=
      ⟨by show 2 ≤ sizeLine; decide, [u, u2], .cons ru (.cons ru2 .nil), ⟨_, hT2, rfl, _, rfl⟩⟩
    have kept : ∀ c o, c ∉ [z, TI, TO, i1, i2] → s.heap.get? c = some o → h''.get? c = some o := fun c o hb e => by
      simp only [List.mem_cons, List.not_mem_nil, or_false, not_or] at hb
      exact (sb.2 c hb.1).trans (hk c o hb.1 hb.2.2.1 hb.2.2.2.1 hb.2.2.2.2 e)
    have I1 : Inv X pins σ (upd H s.heap.objs.size (.tup [x, y])) { s with heap := h'', toks := tk } :=
      I.turnedNew (t' := tk) (ch := [z, TI, TO, i1, i2]) kept hf (Nat.le_refl _) new
    refine ⟨.ref s.heap.objs.size, _, I1, rfl, ⟨_, x, y, rfl, I.hok.fresh (Nat.le_refl _), rfl, fun l hl => by rw [I.has_inj hl hqx]; exact ex, fun l hl => by rw [I.has_inj hl hqy]; exact ey⟩, ⟨z'', ?_, ⟨u, u2, ?_⟩, ?_, ?_⟩, fun c hcm => ?_⟩
    · exact (sb.2 _ D.a1).trans (hk _ _ D.a1 D.a5 D.a6 D.a7 hTI)
    · exact (sb.2 _ D.a2).trans TO'
    · exact (b1 _ _ h1').keep fun o q => (sb.2 _ D.a3).trans q
    · exact (b2 _ _ h2').keep fun o q => (sb.2 _ D.a4).trans q
    · have hlt : c < s.heap.objs.size := by
        have e' : c = z ∨ c = TI ∨ c = TO ∨ c = i1 ∨ c = i2 := by simpa using hcm
        rcases e' with q | q | q | q | q <;> rw [q]
        · exact hzl
        · exact Heap.lt_size hTI
        · exact Heap.lt_size hTO
        · obtain ⟨_, e1, _⟩ := h1.obj; exact Heap.lt_size e1
        · obtain ⟨_, e2, _⟩ := h2.obj; exact Heap.lt_size e2
      rw [upd_ne (Nat.ne_of_lt hlt)]
      exact (hf c hcm).1
  done := by
    intro X hP hw hK hc i pins s σ H E I hf st hg
    subst hP hw hK
    obtain ⟨hz, hTI, ⟨x0, y0, hTO⟩, h1, h2⟩ := st
    obtain ⟨xs, ys, hqx, hqy, l1, l2, he⟩ := hg
    obtain ⟨fp1, P1, S1, D1, st1, m1, n1, y1, b1⟩ := src_draws X.A.in1 (I.ok.hd hc) I (hf i1 (by simp)) r1 hqx i h1
    obtain ⟨fp2, P2, S2, D2, st2, m2, n2, y2, b2⟩ := src_draws X.A.in1 (I.ok.hd hc) I (hf i2 (by simp)) r2 hqy i h2
    have S : ZipSep2 z TI TO i1 i2 fp1 fp2 := ⟨D.a1, D.a2, D.a5, D.a6, m1, n1 z (hf z (by simp)) D.a3.symm, n1 TO (hf TO (by simp)) D.a8, D.a7, m2, n2 z (hf z (by simp)) D.a4.symm, n2 TO (hf TO (by simp)) D.a9, n2 i1 (hf i1 (by simp)) D.a10, n1 i2 (hf i2 (by simp)) D.a10.symm⟩
    exact wpAny_pyNext_zipD2_end S D1 D2 hz hTI hTO st1 st2 l1 l2 he fun h' tk hk => ⟨rfl, I.turnedL (t' := tk) (ch := [z, TI, TO, i1, i2]) (fun c o hb q => by
      simp only [List.mem_cons, List.not_mem_nil, or_false, not_or] at hb
      exact hk c o hb.1 hb.2.2.1 hb.2.2.2.1 hb.2.2.2.2 q) hf⟩
  self := fun A i s Q E st h => wpAny_pyIter_zip st.1 h
def iZd (K : PySem.W.Frag) (ta : TA) : TI := fun σ H R => ta σ H fun vs H1 => ∃ r1 r2 xs ys, vs = [Src.v r1, Src.v r2] ∧ r1.Has K H1 xs ∧ r2.Has K H1 ys ∧ R (Itzd K r1 r2) H1
theorem src_begins {X : Cx} {pins : List (Addr × Obj)} {σ : St} {H : Hp} {s : Shared} (I : Inv X pins σ H s) (r : Src) {xs : List V} {u : Value} (hr : r.Has X.K H xs) (ru : RelV r.v u) :
    ∃ (o : Obj) (Hh : Heap → Prop), Begins u o Hh ∧ Hh s.heap ∧ ∀ (h : Heap) (it : Addr), h.get? it = some o → r.At h it 0 := by
  cases r with
  | lst a =>
    cases ru
    obtain ⟨its, rv, p, _⟩ := I.list hr
    exact ⟨_, _, begins_list a its.toArray, p.isList, fun h it e => ⟨_, e, rfl, rfl⟩⟩
  | tup a =>
    cases ru
    obtain ⟨its, rv, p, _⟩ := I.tuple hr
    exact ⟨_, _, begins_tuple a its.toArray, p, fun h it e => ⟨_, e, rfl, rfl⟩⟩
  | txt x =>
    obtain ⟨t, rfl⟩ := ru
    exact ⟨_, _, begins_text x t, trivial, fun h it e => ⟨t, _, e, rfl, rfl⟩⟩
theorem pi_zd {X : Cx} {e e2 : Expr} {ta : TA} {p pos tpos : Pos} {elts : List Expr} {kk : Nat} (hg : Gl X "zip") (hm : X.mg "zip" = none) (ha : PA X [e, e2] ta)
    (hs : starEach [e, e2] X.env = (false, eval e X.env) :: starEach [e2] X.env := by rfl) (hpl : (backTo pos (starEach [e2] X.env)).any (·.1) = false := by rfl) :
    PI X (.Tuple elts kk tpos) (.Call (.Name "zip" p) [e, e2] [] pos) (iZd X.K ta) := by
  refine ⟨fun pins s σ H R I h => ?_⟩
  refine Call_ (ld_blt I hg hm PyProof.Rows.boot_zip (PyProof.Rows.callWith_type1 (thn (ha.run pos pins s σ H _ I h) fun us s1 ⟨vs, H1, I1, r1, q1⟩ => ?_) hs hpl))
  obtain ⟨a, b, xs, ys, ex, hqx, hqy, q⟩ := q1
  subst ex
  cases r1 with
  | cons r rr =>
  cases rr with
  | cons r' rr =>
  cases rr
  obtain ⟨o1, Hh1, B1, k1, a1⟩ := src_begins I1 a hqx r
  obtain ⟨o2, Hh2, B2, k2, a2⟩ := src_begins I1 b hqy r'
  refine zip_begins2 B1 B2 k1 k2 fun h' hz hTI hTO h1 h2 hsz hk => wpAny_pyIter_zip hz ?_
  have I2 : Inv X pins σ H1 { s1 with heap := h' } := I1.kept (t' := s1.toks) hk
  refine ⟨s1.heap.objs.size + 4, [s1.heap.objs.size + 4, s1.heap.objs.size + 2, s1.heap.objs.size + 3, s1.heap.objs.size, s1.heap.objs.size + 1], _, _, H1, rfl, I2, turn_zd ?_, ⟨hz, hTI, ⟨_, _, hTO⟩, a1 _ _ h1, a2 _ _ h2⟩, fun c hcm => ?_, q⟩
  · have g : ∀ n : Nat, Apart5 (n + 4) (n + 2) (n + 3) n (n + 1) := fun n => by constructor <;> (show (_ : Nat) ≠ _) <;> omega
    exact g _
  · have e' : c = s1.heap.objs.size + 4 ∨ c = s1.heap.objs.size + 2 ∨ c = s1.heap.objs.size + 3 ∨ c = s1.heap.objs.size ∨ c = s1.heap.objs.size + 1 := by simpa using hcm
    have hle : s1.heap.objs.size ≤ c := by
      rcases e' with z | z | z | z | z <;> rw [z]
      all_goals first
        | exact Nat.le_add_right _ _
        | exact Nat.le_refl _
    exact I1.fpOk hle (I1.hok.fresh hle)
theorem walk_zd {K : PySem.W.Frag} {r1 r2 : Src} {xs ys : List V} {n : Nat} (hn : n = min xs.length ys.length) :
    Walk (Itzd K r1 r2) n (fun H => r1.Has K H xs ∧ r2.Has K H ys) (YPair (fun i => xs[i]?) (fun i => ys[i]?)) := by
  refine ⟨fun i _ hi q => ⟨xs, ys, q.1, q.2, by omega, by omega⟩, fun _ q => ⟨xs, ys, q.1, q.2, by omega, by omega, by omega⟩, fun i H v H' _ q y => ?_⟩
  obtain ⟨T, x, z, e1, e2, e3, e4, e5⟩ := y
  exact ⟨T, x, z, e1, e2, e3, e4 xs q.1, e5 ys q.2⟩
end L2


set_option Elab.async false
set_option linter.all false
set_option maxRecDepth 100000
set_option maxHeartbeats 4000000
/-! Defs that need to know that no repr is under way around them (repr of data at any depth), and their calls. -/
namespace L2
open PySem PySem.Spec PyProof.Rows
/-- a def's promise where nothing guards around it -/
structure FnG (P : Program) (w : World) (K : PySem.W.Frag) (mg : Str → Option Value) (base : Heap) (CX : CXT) (k : Nat) (f : Addr) (fd : FuncData) (ps : List Str) (sp : Sp) : Prop where
  len : ∀ vs H Q E, sp vs H Q E → vs.length = ps.length
  go : ∀ (A : Around) (outer : List Env) (s : Shared) (H : Hp) (args : Args) (us : List Value) (vs : List V) (Q : VK) (E : XK), A.guards = some [] → Room k A → Env0 P w K mg base A outer s H →
    BindsTo s fd args (ps.zip us) → Vals vs us → sp vs H Q E → codeAny (model P w) A (.call (.ref f) args) (CR CX outer P w H s Q E) s
section
variable {P : Program} {w : World} {K : PySem.W.Frag} {mg : Str → Option Value} {base : Heap} {CX : CXT} {k : Nat} {f : Addr}
theorem FnOk.toG {fd : FuncData} {ps : List Str} {sp : Sp} (F : FnOk P w K mg base CX k f fd ps sp) : FnG P w K mg base CX k f fd ps sp :=
  ⟨F.len, fun A o s H as us vs Q E _ => F.run A o s H as us vs Q E⟩
theorem guards_deeper {A : Around} (h : A.guards = some []) (env : Env) : (A.deeper env).guards = some [] := h
/-- a def by its body, where nothing guards -/
theorem FunD.okG {x qual : Str} {params : Arguments} {body : List Stmt} {scope : Scope} {dvs : List V} {kws : List (Str × V)} {fd : FuncData} {N ps : List Str} {sp : Sp}
    (F : FunD K x qual params body scope dvs kws f fd) (S : FnScope N ps scope) (len : ∀ vs H Q E, sp vs H Q E → vs.length = ps.length)
    (hbody : ∀ (cdv : Value) (A : Around) (outer : List Env) (s : Shared) (H : Hp) (vs : List V) (Q : VK) (E : XK), (A.deeper (envOfC qual scope s.heap.objs.size f cdv)).guards = some [] →
      Room k (A.deeper (envOfC qual scope s.heap.objs.size f cdv)) → sp vs H Q E →
      ∃ t, PSs (cxOf CX P w K mg base N qual scope f cdv A outer s H E) body t ∧ t { nx := fun _ H' => Q .non H', rt := Q } (start N vs) H) : FnG P w K mg base CX (k + 1) f fd ps sp := by
  obtain ⟨oc, od, dV, kV, doc, pm, an, cdv, ct, osl, rfl, lk, hcd, _, _⟩ := F.ex
  refine ⟨len, fun A outer s H args us vs Q E gd hr e0 hb r hsp => ?_⟩
  have KX : K.In s.heap := e0.mod.kin.keeps fun b o e => (e0.bs b o e).1
  have lim : s.heap.NoLimit := e0.mod.nolimit.keeps fun b o e => (e0.bs b o e).1
  have nm : ∀ y ∈ ps.zip us, scope.names.lookup y.1 = some .local ∨ (scope.names.lookup y.1 = some .cell ∧ ((cellsFrom (s.heap.objs.size + 1) scope.names []).lookup y.1).isSome = true) := by
    rintro ⟨n, v⟩ hy
    exact (S.par n (List.of_mem_zip hy).1).imp id fun q => ⟨q, PySem.W.cellsFrom_some _ _ _ (.inl q)⟩
  refine codeAny_call_function hr.depth (KX _ _ lk) rfl S.co S.gen rfl (PySem.W.codeRec_of KX hcd) (hb _ _ _ _ (wpAny_newFunctionEnv_cells S.kind nm fun env he s1 x => ?_))
  subst he
  refine ⟨lim.keeps x.toInCall.keep, codeAny_func ?_⟩
  obtain ⟨t, ht, hq⟩ := hbody cdv A outer s H vs Q E (guards_deeper gd _) (hr.deeper _) hsp
  have I0 : Inv (cxOf CX P w K mg base N qual scope f cdv A outer s H E) [] (start N vs) H s1 := inv_start S hr.hd e0 (len _ _ _ _ hsp) r x
  refine wpAny_mono (ht.run [] s1 (start N vs) H _ I0 hq) (fun fl s' z => ?_) fun e s' z => z
  have fin : ∀ {σ' : St} {H' : Hp} {v : V} {u : Value}, Inv (cxOf CX P w K mg base N qual scope f cdv A outer s H E) [] σ' H' s' → RelV v u → Q v H' → CE outer P w H s Q u s' :=
    fun {_ H' v u} J rv q => ⟨v, H', J.os, J.bare, J.base, J.hok, rv, q⟩
  cases fl with
  | ret u => exact let ⟨_, _, _, J, rv, q⟩ := z; fin J rv q
  | next => exact let ⟨_, _, J, q⟩ := z; fin (v := V.non) (u := Value.none) J rfl q
  | brk => exact let ⟨_, _, _, q⟩ := z; q.elim
  | cont => exact let ⟨_, _, _, q⟩ := z; q.elim
end
section
variable {X : Cx} {CX : CXT} {k : Nat} {f : Addr} {fd : FuncData} {ps : List Str} {sp : Sp} {dvs : List V} {ds : List Value} {E : XK} {x : Str} {p pos : Pos} {e : Expr} {es : List Expr} {t : TA}
theorem run_fnG {pins : List (Addr × Obj)} {σ : St} {H : Hp} {s : Shared} {Q : VK} {us : List Value} {vs : List V} (F : FnG X.prog X.w X.K X.mg X.base CX k f fd ps sp) (gd : X.A.guards = some []) (hr : Room k X.A) (hb : Binds X.K fd ps ds) (hd : Vals dvs ds) (hx : Passes CX X E)
    (I : Inv X pins σ H s) (r : Vals vs us) (h : sp (vs ++ dvs) H Q E) : wpAny (model X.prog X.w) X.A (call (.ref f) us) (EP X pins σ Q) X.xe s := by
  have r2 := r.append hd
  have hl := r2.length.symm.trans (F.len _ _ _ _ h)
  refine wpAny_call (codeAny_mono (F.go X.A X.stack s H ⟨us, []⟩ _ _ Q E gd hr I.env0 (hb s us I.kIn hl) r2 h) fun r s' z => ?_)
  cases r with
  | error e => exact hx _ _ _ _ e s' I z
  | ok fl => cases fl with
    | ret u => exact I.after z
    | _ => exact z.elim
theorem pe_callG (F : FnG X.prog X.w X.K X.mg X.base CX k f fd ps sp) (gd : X.A.guards = some []) (hr : Room k X.A) (hg : Gl X x) (hm : X.mg x = some (.ref f)) (hk : PySem.W.keepIn X.K (.ref f) = true) (hb : Binds X.K fd ps ds) (hd : Vals dvs ds) (hx : Passes CX X E)
    (ha : PA X (e :: es) t) (hdb : (x == ("__debug__" : Str)) = false := by decide) (he : starEach (e :: es) X.env = (false, eval e X.env) :: starEach es X.env := by rfl) (hpl : (backTo pos (starEach es X.env)).any (·.1) = false := by rfl) :
    PE X (.Call (.Name x p) (e :: es) [] pos) (tCall sp dvs E t) := by
  refine ⟨fun pins s σ H Q I h => wpAny_Call_Name_kw (ld_glob I hg hm ?_ hdb)⟩
  exact PySem.W.callWith_K (h₀ := X.base) I.ok.mod.kin hk (thn (ha.run pos pins s σ H _ I h) fun us s1 ⟨vs, H1, I1, r, q⟩ => ⟨I1.kIn, run_fnG F gd hr hb hd hx I1 r q⟩) he hpl

/-- a call by keywords alone: f(k = v, ..) -/
theorem pe_callK0 {ks : List Str} {kws : List Keyword} {tk : TA} {g : List Value → List Value → List Value} {gV : List V → List V → List V} (F : FnOk X.prog X.w X.K X.mg X.base CX k f fd ps sp) (hr : Room k X.A) (hg : Gl X x) (hm : X.mg x = some (.ref f)) (hk : PySem.W.keepIn X.K (.ref f) = true) (hb : KBinds X.K fd ps ks g gV) (hx : Passes CX X E)
    (hkw : PK X kws tk) (hall : (backToKw pos (keywordEach kws X.env)).all (·.1.isSome) = true := by rfl) (hks : (backToKw pos (keywordEach kws X.env)).filterMap (·.1) = ks := by rfl) (hdb : (x == ("__debug__" : Str)) = false := by decide)
    (hpl : ((backTo pos (starEach [] X.env)).any (·.1) || (backToKw pos (keywordEach kws X.env)).any (·.1.isNone)) = false := by rfl) :
    PE X (.Call (.Name x p) [] kws pos) (tCallK sp gV E tNil tk) := by
  refine ⟨fun pins s σ H Q I h => wpAny_Call_Name_kw (ld_glob I hg hm ?_ hdb)⟩
  refine PySem.W.callWith_KW0 (h₀ := X.base) I.ok.mod.kin hk hall (thn (hkw.run pos pins s σ H _ I h) fun ws s2 ⟨zs, H2, I2, rz, q2⟩ => ⟨I2.kIn, ?_⟩) hpl
  rw [hks]
  exact run_fnk (us := []) (vs := []) F hr hb hx I2 .nil rz q2
/-- repr of data -/
def rRepr (K : PySem.W.Frag) : List V → Hp → VK → Prop := fun xs H Q => ∃ x d, xs = [x] ∧ Dp K H x d ∧ d.showable = true ∧ d.hasDict = false ∧ d.depth ≤ 60 ∧ d.shown.length ≤ sizeLine ∧ Q (.str d.shown) H
theorem call_repr (gd : X.A.guards = some []) (hu : X.A.units + 64 < cLine) : CallR X (.builtin "repr") (rRepr X.K) := by
  intro pins s σ H xs us Q I r h
  obtain ⟨x, d, rfl, hd, h1, h2, h3, h4, q⟩ := h
  cases r with
  | cons r rr =>
  cases rr
  obtain ⟨as, rd⟩ := Dp.reads I d x _ hd r
  have no : d.hasDict = true → sysModules ∉ as := fun z => by rw [h2] at z; cases z
  have fin : ∀ h' u tk, (∀ b o, s.heap.get? b = some o → h'.get? b = some o) → EP X pins σ Q (.str d.shown u) { s with heap := h', toks := tk } := fun h' u tk k => ⟨.str d.shown, H, I.kept (t' := tk) k, ⟨u, rfl⟩, q⟩
  cases hd with
  | lst _ _ => cases r; exact repr_of_reads' rd h1 no gd (by omega) (fun _ _ e => e) fin h4
  | tup _ _ => cases r; exact repr_of_reads' rd h1 no gd (by omega) (fun _ _ e => e) fin h4
  | non => cases r; exact PySem.P.repr_of_none (fin s.heap _ _ fun _ _ e => e)
  | bl b => cases r; exact PySem.P.repr_of_bool (fin s.heap _ _ fun _ _ e => e)
  | int i =>
    obtain ⟨t, rfl⟩ := r
    exact PySem.P.repr_of_int (of_decide_eq_true h1) (fin s.heap _ _ fun _ _ e => e)
  | str x =>
    obtain ⟨t, rfl⟩ := r
    exact PySem.P.repr_of_str (fin s.heap _ _ fun _ _ e => e) h4
end

/-- the law's promise at the heap behind the top, where nothing guards (the caller of a law is callerA) -/
theorem law_callG {P : Program} {w : World} {K : PySem.W.Frag} {mg mb : Str → Option Value} {CX : CXT} {k : Nat} {fa a : Addr} {fd : FuncData} {x : Str} {sp : Sp} {s₁ : Shared} {vs : List Value} {ns : List Int}
    (KX : K.In s₁.heap) (hns : s₁.heap.Ns mainGlobals mg) (hb : s₁.heap.Ns builtinsNs mb) (hbb : ∀ x : Str, x ≠ "__name__" → mb x = bootBuiltins x) (hlim : s₁.heap.NoLimit) (hg : s₁.gens = #[])
    (ha : s₁.heap.get? a = some { cls := .type "list", data := .seq vs.toArray }) (hi : IntsAre vs ns) (hl : ns.length ≤ sizeLine) (hr : Room k callerA)
    (F : ∀ base : Heap, K.In base → base.Ns mainGlobals mg → FnG P w K mg base CX k fa fd [x] sp) (hbind : ∀ (s : Shared) (u : Value), BindsTo s fd ⟨[u], []⟩ [(x, u)])
    (hsp : ∀ H : Hp, Only H → SqL K H a (ns.map V.int) → sp [.ref a] H (fun v _ => v = .bl true) fun _ _ _ => False)
    (hCX : ∀ H e s', CX [] H s₁ (fun _ _ _ => False) e s' → False) :
    codeAny (model P w) callerA (.call (.ref fa) ⟨[.ref a], []⟩) (fun r s' => r = .ok (.ret (.bool true)) ∧ OldK s₁.heap s'.heap ∧ s'.os = s₁.os ∧ AllBare s'.gens) s₁ := by
  have rv := vals_ints hi
  have lenV := hi.length
  have core : ∀ H : Hp, Only H → SqL K H a (ns.map V.int) → HOk P w H s₁.heap → (∀ b, H b ≠ none → b = a) → (H a ≠ none → K.lookup a = none) →
      codeAny (model P w) callerA (.call (.ref fa) ⟨[.ref a], []⟩) (fun r s' => r = .ok (.ret (.bool true)) ∧ OldK s₁.heap s'.heap ∧ s'.os = s₁.os ∧ AllBare s'.gens) s₁ := by
    intro H hO hS hok hA hK
    have nt : ∀ {b : Addr}, b ≠ a → H b = none := fun {b} ne => Classical.byContradiction fun z => ne (hA b z)
    have noA : ∀ {b : Addr} {o : Obj} {es : Array DictEntry} {ep : Nat}, s₁.heap.get? b = some o → o.data = .dict es ep → H b = none := fun {b o es ep} e d => nt fun z => by
      subst z
      rw [ha] at e
      cases e
      exact nomatch (show Data.seq vs.toArray _ = Data.dict es ep from d)
    have nsK : ∀ {b : Addr} {m : Str → Option Value}, s₁.heap.Ns b m → (hidT s₁.heap H).Ns b m := fun {b m} ⟨o, es, ep, e, d, r⟩ => ⟨o, es, ep, hidT_get e (noA e d), d, r⟩
    have hKb : K.In (hidT s₁.heap H) := fun b o e => hidT_get (KX b o e) (Classical.byContradiction fun z => by
      have e' := hA b z
      subst e'
      rw [hK z] at e
      cases e)
    have hM : Mod K mg (hidT s₁.heap H) := ⟨hKb, nsK hns, ⟨mb, nsK hb, hbb⟩, let ⟨mc, h1, h2⟩ := hlim; ⟨mc, nsK h1, h2⟩⟩
    have e0 : Env0 P w K mg (hidT s₁.heap H) callerA [] s₁ H := ⟨rfl, hM, fun b o e => of_hidT e, Nat.le_of_eq (hidT_size _ _), trivial, fun b hb => (List.not_mem_nil (show b ∈ ([] : List Addr) from hb)).elim, hok, .of_eq hg⟩
    refine codeAny_mono ((F _ hKb (nsK hns)).go callerA [] s₁ H ⟨[.ref a], []⟩ [.ref a] [.ref a] _ _ rfl hr e0 (hbind s₁ (.ref a)) (.cons rfl .nil) (hsp H hO hS)) fun r s' h => ?_
    cases r with
    | error e => exact (hCX H e s' h).elim
    | ok fl => cases fl with
      | ret u =>
        obtain ⟨v, H', os, bare, un, hok', r', q⟩ := h
        obtain rfl : v = .bl true := q
        obtain rfl : u = Value.bool true := r'
        refine ⟨rfl, OldK.of_keep fun b o e => ?_, os, bare⟩
        rcases hO b with z | ⟨ob, xs, z⟩
        · exact un.keep b o e z (fun m => List.not_mem_nil (show b ∈ ([] : List Addr) from m)) (by simp)
        · obtain ⟨e1, _⟩ := hok b _ z
          obtain ⟨e2, _⟩ := hok' b _ (un.frzs b ob _ z)
          rw [e] at e1
          cases e1
          exact e2
      | _ => exact False.elim h
  cases hk : K.lookup a with
  | some o =>
    have e := KX a o hk
    rw [ha] at e
    cases e
    exact core (fun _ => none) (fun _ => .inl rfl) (.inr ⟨_, vs.toArray, _, hk, rfl, rfl, rfl, by rw [List.size_toArray, lenV]; exact hl, by simpa using rv⟩) (fun b u z => nomatch (show (none : Option HO) = some u from z)) (fun b z => absurd rfl z) fun z => absurd rfl z
  | none =>
    refine core (fun b => if b = a then some (.frz { cls := .type "list", data := .seq vs.toArray } (.lst (ns.map V.int))) else none) (fun b => ?_) (.inl (.inr ⟨{ cls := .type "list", data := .seq vs.toArray }, if_pos rfl⟩)) (fun b u z => ?_) (fun b z => Classical.byContradiction fun nb => z (if_neg nb)) fun _ => hk
    · by_cases hb : b = a
      · exact .inr ⟨_, _, if_pos hb⟩
      · exact .inl (if_neg hb)
    · by_cases hb : b = a
      · cases (if_pos hb).symm.trans z
        subst hb
        exact ⟨ha, by rw [List.length_map]; exact hl, vs, _, rv, ha⟩
      · cases (if_neg hb).symm.trans z
/-- a law's end over a head by facts; the law's def knows that nothing guards around it -/
theorem walk_ofG {l : PySem.W.OpenLaw} {n k : Nat} {q : Program} {loose : List Str} {XP : (Str → Option Value) → Heap → Prop} {YP : World → Heap → Prop} {d : DefRec} {CX : CXT} {x : Str}
    (hn : l.most = some n) (hn2 : n ≤ sizeLine) (hdf : d.params.defaults = []) (hr : Room k callerA)
    (F : ∀ (w : World) (mg : Str → Option Value) (fa : Addr) (h : Heap), YP w h → h.Ns mainGlobals mg → mg d.name = some (.ref fa) →
      ∃ (K : PySem.W.Frag) (fd : FuncData) (sp : Sp), K.In h ∧ (∀ (s : Shared) (u : Value), BindsTo s fd ⟨[u], []⟩ [(x, u)]) ∧
        (∀ (H : Hp) (a : Addr) (ns : List Int), ns.length ≤ n → (∀ k ∈ ns, Builtin.Int.intBits k ≤ 1048576) → Only H → SqL K H a (ns.map V.int) → sp [.ref a] H (fun v _ => v = .bl true) fun _ _ _ => False) ∧
        ∀ base : Heap, K.In base → base.Ns mainGlobals mg → FnG l.prog w K mg base CX k fa fd [x] sp)
    (hCX : ∀ (H : Hp) (s : Shared) (e : Value) (s' : Shared), CX [] H s (fun _ _ _ => False) e s' → False) :
    PySem.W.WalkO q loose XP YP l.row.toRowW d [] (fun f vs => PySem.call f vs) := by
  refine Att.attach_callB hn hdf fun w s₀ s₁ mg mb fa o pm cd doc a vs ns G Y ho hd hcd hmg hobj hints hlen hbits hg => ?_
  obtain ⟨K, fd, sp, KX, hb, hsp, hF⟩ := F w mg fa _ Y G.T.g hmg
  exact law_callG KX G.T.g G.T.b G.T.builtins G.T.nolimit hg hobj hints (Nat.le_trans hlen hn2) hr hF hb (fun H hO hS => hsp H a ns hlen hbits hO hS) fun H e s' => hCX H s₁ e s'
end L2


set_option Elab.async false
set_option linter.all false
set_option maxRecDepth 100000
set_option maxHeartbeats 4000000
/-! A written dict whose keys are tuples of ints; text * int. -/
namespace L2
open PySem PySem.Spec PyProof.Rows
def tupH (ks : List Int) : Int := reduceHash (Builtin.Tuple.tupleHashOf (ks.map hashInt))
/-- entries, one by one -/
def entB (K : PySem.W.Frag) : List DictEntry → List (List Int × V) → Bool
  | [], [] => true
  | e :: es, p :: r => (match e.key with
      | .ref a => (match K.lookup a with
        | some ⟨.type c, _, .seq its _, _⟩ => decide (c = "tuple") && (decide (its.size ≤ sizeLine) && He.relAll (p.1.map V.int) its.toList)
        | _ => false)
      | _ => false) && (decide (e.hash = tupH p.1) && (He.relB p.2 e.val && entB K es r))
  | _, _ => false
def ktB (K : PySem.W.Frag) (d : Addr) (kvs : List (List Int × V)) : Bool := match K.lookup d with
  | some ⟨.type c, none, .dict es _, sl⟩ => decide (c = "dict") && (sl.isEmpty && entB K es.toList kvs)
  | _ => false
/-- at d: the table kvs -/
structure KTab (K : PySem.W.Frag) (d : Addr) (kvs : List (List Int × V)) : Prop where
  ex : ∃ (es : Array DictEntry) (n : Nat) (xs : List (List Int × Addr × Value)), K.lookup d = some ⟨.type "dict", none, .dict es n, #[]⟩ ∧ es.toList = xs.map (fun x => ⟨tupH x.1, .ref x.2.1, x.2.2⟩) ∧
    xs.map (·.1) = kvs.map (·.1) ∧ Paired (fun (p : List Int × V) (x : List Int × Addr × Value) => p.1 = x.1 ∧ RelV p.2 x.2.2) kvs xs ∧
    ∀ x ∈ xs, ∃ o its n, K.lookup x.2.1 = some o ∧ o.cls = .type "tuple" ∧ o.data = .seq its n ∧ Vals (x.1.map V.int) its.toList
theorem entB_ok {K : PySem.W.Frag} : ∀ {es : List DictEntry} {kvs : List (List Int × V)}, entB K es kvs = true → ∃ xs : List (List Int × Addr × Value), es = xs.map (fun x => ⟨tupH x.1, .ref x.2.1, x.2.2⟩) ∧ xs.map (·.1) = kvs.map (·.1) ∧
    Paired (fun (p : List Int × V) (x : List Int × Addr × Value) => p.1 = x.1 ∧ RelV p.2 x.2.2) kvs xs ∧ ∀ x ∈ xs, ∃ o its n, K.lookup x.2.1 = some o ∧ o.cls = .type "tuple" ∧ o.data = .seq its n ∧ Vals (x.1.map V.int) its.toList
  | [], [], _ => ⟨[], rfl, rfl, .nil, fun x hx => by cases hx⟩
  | [], _ :: _, h => by cases h
  | _ :: _, [], h => by cases h
  | e :: es, p :: r, h => by
    obtain ⟨h1, h2⟩ := He.ba h
    obtain ⟨h3, h4⟩ := He.ba h2
    obtain ⟨h5, h6⟩ := He.ba h4
    obtain ⟨xs, a1, a2, a3, a4⟩ := entB_ok h6
    obtain ⟨hh, hk, hv⟩ := e
    cases hk with
    | ref a =>
      dsimp only at h1
      cases q : K.lookup a with
      | none =>
        rw [q] at h1
        cases h1
      | some o =>
        obtain ⟨oc, od, dt, osl⟩ := o
        rw [q] at h1
        cases oc with
        | type c =>
          cases dt with
          | seq its n =>
            obtain ⟨k1, k2⟩ := He.ba (show (decide (c = "tuple") && (decide (its.size ≤ sizeLine) && He.relAll (p.1.map V.int) its.toList)) = true from h1)
            obtain ⟨k3, k4⟩ := He.ba k2
            refine ⟨(p.1, a, hv) :: xs, ?_, ?_, .cons ⟨rfl, He.relB_ok h5⟩ a3, fun x hx => ?_⟩
            · rw [a1, List.map_cons]
              have e1 : hh = tupH p.1 := of_decide_eq_true h3
              rw [e1]
            · rw [List.map_cons, List.map_cons, a2]
            · rcases List.mem_cons.mp hx with rfl | hx
              · exact ⟨_, its, n, q, congrArg Value.type (of_decide_eq_true k1), rfl, He.relAll_ok k4⟩
              · exact a4 x hx
          | _ => cases h1
        | _ => cases dt <;> cases h1
    | _ => cases h1
theorem ktB_ok {K : PySem.W.Frag} {d : Addr} {kvs : List (List Int × V)} (h : ktB K d kvs = true) : KTab K d kvs := by
  unfold ktB at h
  cases q : K.lookup d with
  | none =>
    rw [q] at h
    cases h
  | some o =>
    obtain ⟨oc, od, dt, osl⟩ := o
    rw [q] at h
    cases oc with
    | type c =>
      cases od with
      | none =>
        cases dt with
        | dict es n =>
          obtain ⟨h1, h2⟩ := He.ba (show (decide (c = "dict") && (osl.isEmpty && entB K es.toList kvs)) = true from h)
          obtain ⟨h3, h4⟩ := He.ba h2
          obtain ⟨xs, a1, a2, a3, a4⟩ := entB_ok h4
          have e1 : c = "dict" := of_decide_eq_true h1
          have e2 : osl = #[] := Array.isEmpty_iff.mp h3
          subst e1 e2
          exact ⟨es, n, xs, q, a1, a2, a3, a4⟩
        | _ => cases h
      | some b => cases dt <;> cases h
    | _ => cases od <;> cases dt <;> cases h
theorem items_int {prog : Program} {w : World} : ∀ {ks : List Int} {us : List Value}, Vals (ks.map V.int) us → ItemsAre (intKind prog w) ks us
  | [], _, .nil => .nil
  | k :: ks, _, .cons r t => .cons (by obtain ⟨t', rfl⟩ := r; exact (by simp [intKind, Value.isInt])) (items_int t)
theorem at_paired {kvs : List (List Int × V)} {xs : List (List Int × Addr × Value)} (h : Paired (fun (p : List Int × V) (x : List Int × Addr × Value) => p.1 = x.1 ∧ RelV p.2 x.2.2) kvs xs) {ks : List Int} {v : V}
    (e : kvs.lookup ks = some v) : ∃ u, valueAt (pairsH xs) ks = some u ∧ RelV v u := by
  induction h with
  | nil => cases e
  | @cons p x kvs xs r t ih =>
    obtain ⟨p1, p2⟩ := p
    obtain ⟨x1, xa, xv⟩ := x
    obtain ⟨r1, r2⟩ := r
    dsimp only at r1 r2
    subst r1
    by_cases h : ks = p1
    · subst h
      have e' : v = p2 := by simpa [List.lookup] using e.symm
      subst e'
      exact ⟨xv, by simp [pairsH, valueAt], r2⟩
    · have hb : (ks == p1) = false := beq_eq_false_iff_ne.mpr h
      have e' : kvs.lookup ks = some v := by simpa [List.lookup, hb] using e
      obtain ⟨u, h1, h2⟩ := ih e'
      refine ⟨u, ?_, h2⟩
      have hd : decide (p1 = ks) = false := decide_eq_false (fun q => h q.symm)
      simpa [pairsH, valueAt, List.find?, hd] using h1
/-- d[t], t a tuple of ints -/
theorem ix_kt {X : Cx} {d : Addr} {kvs : List (List Int × V)} (D : KTab X.K d kvs) (nd : (kvs.map (·.1)).Nodup) (hu : X.A.units + 1 < cLine) :
    IxR X (fun x y H Q => ∃ p ks v, x = .ref d ∧ y = .ref p ∧ SqT X.K H p (ks.map V.int) ∧ kvs.lookup ks = some v ∧ Q v H) := by
  intro value slice pins s σ H x y v u Q I rx ry h hs
  obtain ⟨p, ks, z, rfl, rfl, hq, he, q⟩ := h
  cases rx
  cases ry
  obtain ⟨es, n, xs, k1, k2, k3, k4, k5⟩ := D.ex
  obtain ⟨its, rv, pl, _⟩ := I.tuple hq
  have hkey : (tupleKind (intKind X.prog X.w)).is s.heap ks p := by
    obtain ⟨o, e1, e2, m, e3⟩ := pl
    exact ⟨o, _, m, e1, e2, e3, by simpa using items_int rv⟩
  have hm : s.heap.DictKeyed (tupleKind (intKind X.prog X.w)) d (pairsH xs) := by
    refine Heap.DictKeyed.ofEntries xs (I.kIn _ _ k1) ⟨rfl, rfl, rfl⟩ rfl (by rw [k2]; rfl) (fun x hx => ?_) (by rw [k3]; exact nd)
    obtain ⟨o, it2, m, e1, e2, e3, e4⟩ := k5 x hx
    exact ⟨o, it2, m, I.kIn _ _ e1, e2, e3, items_int e4⟩
  obtain ⟨w, hw, rw'⟩ := at_paired k4 he
  exact tail_any hm.typeIs slot_dict_getitem.lookup (getItem_keyed (by show X.A.units + 1 < cLine; exact hu) hkey hm hw ⟨z, H, I.tok _, rw', q⟩) hs
/-- a short text, a few times -/
def rMulS : R2 := fun x y H Q => ∃ c n, x = .str ⟨#[c]⟩ ∧ y = .int n ∧ 0 ≤ n ∧ n ≤ 1000 ∧ Q (.str ⟨(List.replicate n.toNat c).toArray⟩) H
theorem rep_one (c : Nat) : ∀ (n : Nat) (a : List Nat), ((List.replicate n #[c]).foldl (· ++ ·) a.toArray : Array Nat) = (a ++ List.replicate n c).toArray
  | 0, a => by simp
  | n + 1, a => by
    rw [List.replicate_succ, List.foldl_cons]
    have e : (a.toArray ++ #[c] : Array Nat) = (a ++ [c]).toArray := by simp
    rw [e, rep_one c n (a ++ [c]), List.append_assoc]
    rfl
theorem mul_one (c : Nat) (n : Int) (h0 : 0 ≤ n) : Txt.mul ⟨#[c]⟩ n = ⟨(List.replicate n.toNat c).toArray⟩ := by
  unfold Txt.mul
  by_cases h1 : n < 1
  · have e : n = 0 := by omega
    subst e
    rw [if_pos h1]
    rfl
  · rw [if_neg h1]
    by_cases h2 : n = 1
    · subst h2
      rfl
    · have hb : ((n == 1) || ((⟨#[c]⟩ : Str).length == 0)) = false := by
        have e1 : (n == 1) = false := beq_eq_false_iff_ne.mpr h2
        rw [e1]
        rfl
      rw [hb]
      show (⟨_⟩ : Str) = _
      exact congrArg Str.mk (by simpa using rep_one c n.toNat [])
theorem op_mulS {X : Cx} : OpR X (binaryOp .Mult) rMulS := by
  intro pins s σ H x y v u Q I rx ry h
  obtain ⟨c, n, rfl, rfl, h0, h1, q⟩ := h
  obtain ⟨t, rfl⟩ := rx
  obtain ⟨t', rfl⟩ := ry
  have l1 : (⟨#[c]⟩ : Str).length = 1 := rfl
  refine SB.mul ⟨?_, fun a b => ?_, fun a b => ?_⟩ fun t'' k => ⟨.str (Txt.mul ⟨#[c]⟩ n), H, I.tok _, ⟨t'', rfl⟩, by rw [mul_one c n h0]; exact q⟩
  · have e1 : decide (n < -(2 ^ 63 : Int)) = false := decide_eq_false (by omega)
    have e2 : decide (n ≥ 2 ^ 63) = false := decide_eq_false (by omega)
    rw [e1, e2]
    rfl
  · rw [l1]
    have : (2 ^ 63 - 1 : Int) / 1000 ≤ (2 ^ 63 - 1) / n := by
      have hn : (0 : Int) < n := by omega
      apply Int.le_ediv_of_mul_le hn
      have : (2 ^ 63 - 1 : Int) / 1000 * n ≤ (2 ^ 63 - 1 : Int) / 1000 * 1000 := Int.mul_le_mul_of_nonneg_left h1 (by decide)
      refine Int.le_trans this (by decide)
    have h3 : ((1 : Nat) : Int) ≤ (2 ^ 63 - 1 : Int) / 1000 := by decide
    omega
  · rw [l1, Nat.one_mul]
    show decide (_ > sizeLine) = false
    have : sizeLine = 16777216 := sizeLine_eq
    exact decide_eq_false (by omega)
end L2


set_option Elab.async false
set_option linter.all false
set_option maxRecDepth 100000
set_option maxHeartbeats 4000000
/-! A Hook: facts, defs, tables with text keys, and one more Bool; keys of dicts are reached too. -/
namespace He
open PySem PySem.Spec PyProof.Rows L2
def keysO (o : Obj) : List Addr := match o.data with
  | .dict es _ => es.toList.flatMap fun e => refV e.key
  | _ => []
def asK (g : Addr → Option Obj) (n : Nat) : List Addr := (asD g n ++ (asD g n).flatMap fun a => match g a with
  | some o => keysO o
  | none => []).eraseDups
abbrev AlM : Type := AlT × Bool
def obsM (fa : List Fa) (fn : List DefD) (ts : List Tab) (ex : PySem.W.Frag → Bool) (K : PySem.W.Frag) : AlM := (obsT fa fn ts K, ex K)
def valM (fn : List DefD) (ts : List Tab) (w : World) : AlM := (valT fn ts w, true)
def obsMG (n : Nat) (fa : List Fa) (fn : List DefD) (ts : List Tab) (ex : PySem.W.Frag → Bool) (g : Addr → Option Obj) : AlM := obsM fa fn ts ex (frG g (asK g n))
def SaysM (fa : List Fa) (fn : List DefD) (ts : List Tab) (ex : PySem.W.Frag → Bool) (w : World) (K : PySem.W.Frag) : Prop := obsM fa fn ts ex K = valM fn ts w
def hookM (n : Nat) (fa : List Fa) (fn : List DefD) (ts : List Tab) (ex : PySem.W.Frag → Bool) : PySem.W.Hook where
  α := AlM
  obs := fun s => obsMG n fa fn ts ex s.heap.get?
  val := fun w => valM fn ts w
  says := fun w h => ∃ K : PySem.W.Frag, K.In h ∧ SaysM fa fn ts ex w K
  of := fun _ _ e => ⟨_, frG_in, e⟩
  keeps := fun _ _ _ ⟨K, hK, c⟩ k => ⟨K, PySem.W.Frag.In.keeps hK k, c⟩
theorem obsMG_eq {n : Nat} {fa : List Fa} {fn : List DefD} {ts : List Tab} {ex : PySem.W.Frag → Bool} {g : Addr → Option Obj} {s : Shared} (h : ∀ a, g a = s.heap.get? a) : obsMG n fa fn ts ex g = (hookM n fa fn ts ex).obs s := by
  obtain rfl : g = s.heap.get? := funext h
  rfl
section
variable {fa : List Fa} {fn : List DefD} {ts : List Tab} {ex : PySem.W.Frag → Bool} {w : World} {K : PySem.W.Frag}
theorem SaysM.t (c : SaysM fa fn ts ex w K) : SaysT fa fn ts w K := congrArg (fun z : AlM => z.1) c
theorem SaysM.more (c : SaysM fa fn ts ex w K) : ex K = true := congrArg (fun z : AlM => z.2) c
theorem SaysM.fact (c : SaysM fa fn ts ex w K) (i : Nat) {f : Fa} (h : fa[i]? = some f := by rfl) : f.ok K = true := c.t.d.fact i h
theorem SaysM.def_ (c : SaysM fa fn ts ex w K) (i : Nat) {d : DefD} (h : fn[i]? = some d := by rfl) : ∃ fd, FunD K d.name d.qual d.params d.body d.scope (d.dvs K) (d.kws K) (fAd K d.at_) fd := c.t.d.def_ i h
theorem SaysM.tab (c : SaysM fa fn ts ex w K) (i : Nat) {t : Tab} (h : ts[i]? = some t := by rfl) : ∃ es n, KDict K w (t.1 K) es n := c.t.tab i h
end
/-- the value of a text key is a tuple of ints -/
def tupAt (K : PySem.W.Frag) (d : Addr) (x : Str) (ks : List Int) : Bool := match PySem.W.nsIn K d x with
  | some (some (.ref a)) => (match K.lookup a with
    | some ⟨.type c, _, .seq its _, _⟩ => decide (c = "tuple") && (decide (its.size ≤ sizeLine) && relAll (ks.map V.int) its.toList)
    | _ => false)
  | _ => false
theorem tupAt_ok {K : PySem.W.Frag} {d : Addr} {x : Str} {ks : List Int} (h : tupAt K d x ks = true) : ∃ a, PySem.W.nsIn K d x = some (some (.ref a)) ∧ ∀ H : Hp, SqT K H a (ks.map V.int) := by
  unfold tupAt at h
  cases e : PySem.W.nsIn K d x with
  | none =>
    rw [e] at h
    cases h
  | some r =>
    rw [e] at h
    cases r with
    | none => cases h
    | some u =>
      cases u with
      | ref a =>
        dsimp only at h
        cases q : K.lookup a with
        | none =>
          rw [q] at h
          cases h
        | some o =>
          obtain ⟨oc, od, dt, osl⟩ := o
          rw [q] at h
          cases oc with
          | type c =>
            cases dt with
            | seq its n =>
              obtain ⟨h1, h2⟩ := ba (show (decide (c = "tuple") && (decide (its.size ≤ sizeLine) && relAll (ks.map V.int) its.toList)) = true from h)
              obtain ⟨h3, h4⟩ := ba h2
              exact ⟨a, rfl, fun H => .inr ⟨_, its, n, q, congrArg Value.type (of_decide_eq_true h1), rfl, of_decide_eq_true h3, relAll_ok h4⟩⟩
            | _ => cases h
          | _ => cases dt <;> cases h
      | _ => cases h
end He


set_option Elab.async false
set_option linter.all false
set_option maxRecDepth 100000
set_option maxHeartbeats 0
namespace K51
open PySem PySem.Spec PyProof.Rows L2
def top (i : Nat) : Stmt := PySem.Challenge.pw_spiderwires_k51_products_of_words.main.body.getD i (.Pass ⟨0, 0, 0, 0⟩)
abbrev s_BadWord_init : Stmt := inClass (top 2) 0
abbrev s_is_word : Stmt := top 7
abbrev s_need_word : Stmt := top 8
abbrev s_factored : Stmt := top 9
abbrev s_spelled : Stmt := top 10
abbrev s_added_bits : Stmt := top 11
abbrev s_multiplied : Stmt := top 12
abbrev s_word_product : Stmt := top 13
abbrev s_law_start : Stmt := top 15
abbrev s_law_draw : Stmt := top 16
abbrev s_law_pick : Stmt := top 17
abbrev s_law_letters : Stmt := top 18
abbrev s_law_moved : Stmt := top 19
abbrev s_law_due : Stmt := top 20
abbrev s_law_pair_right : Stmt := top 21
abbrev s_law_three_right : Stmt := top 22
abbrev s_law_hand_right : Stmt := top 23
abbrev s_law : Stmt := top 24
def d_BadWord_init : He.DefD := ⟨("BadWord", some "__init__"), "__init__", "BadWord.__init__", defArgs s_BadWord_init, defBody s_BadWord_init, defScope s_BadWord_init, [], []⟩
def d_is_word : He.DefD := ⟨("is_word", none), "is_word", "is_word", defArgs s_is_word, defBody s_is_word, defScope s_is_word, [], []⟩
def d_need_word : He.DefD := ⟨("need_word", none), "need_word", "need_word", defArgs s_need_word, defBody s_need_word, defScope s_need_word, [.non], []⟩
def d_factored : He.DefD := ⟨("factored", none), "factored", "factored", defArgs s_factored, defBody s_factored, defScope s_factored, [], []⟩
def d_spelled : He.DefD := ⟨("spelled", none), "spelled", "spelled", defArgs s_spelled, defBody s_spelled, defScope s_spelled, [], []⟩
def d_added_bits : He.DefD := ⟨("added_bits", none), "added_bits", "added_bits", defArgs s_added_bits, defBody s_added_bits, defScope s_added_bits, [], []⟩
def d_multiplied : He.DefD := ⟨("multiplied", none), "multiplied", "multiplied", defArgs s_multiplied, defBody s_multiplied, defScope s_multiplied, [], []⟩
def d_word_product : He.DefD := ⟨("word_product", none), "word_product", "word_product", defArgs s_word_product, defBody s_word_product, defScope s_word_product, [], []⟩
def d_law_start : He.DefD := ⟨("_law_start", none), "_law_start", "_law_start", defArgs s_law_start, defBody s_law_start, defScope s_law_start, [], []⟩
def d_law_draw : He.DefD := ⟨("_law_draw", none), "_law_draw", "_law_draw", defArgs s_law_draw, defBody s_law_draw, defScope s_law_draw, [], []⟩
def d_law_pick : He.DefD := ⟨("_law_pick", none), "_law_pick", "_law_pick", defArgs s_law_pick, defBody s_law_pick, defScope s_law_pick, [], []⟩
def d_law_letters : He.DefD := ⟨("_law_letters", none), "_law_letters", "_law_letters", defArgs s_law_letters, defBody s_law_letters, defScope s_law_letters, [], []⟩
def d_law_moved : He.DefD := ⟨("_law_moved", none), "_law_moved", "_law_moved", defArgs s_law_moved, defBody s_law_moved, defScope s_law_moved, [], []⟩
def d_law_due : He.DefD := ⟨("_law_due", none), "_law_due", "_law_due", defArgs s_law_due, defBody s_law_due, defScope s_law_due, [], []⟩
def d_law_pair_right : He.DefD := ⟨("_law_pair_right", none), "_law_pair_right", "_law_pair_right", defArgs s_law_pair_right, defBody s_law_pair_right, defScope s_law_pair_right, [], []⟩
def d_law_three_right : He.DefD := ⟨("_law_three_right", none), "_law_three_right", "_law_three_right", defArgs s_law_three_right, defBody s_law_three_right, defScope s_law_three_right, [], []⟩
def d_law_hand_right : He.DefD := ⟨("_law_hand_right", none), "_law_hand_right", "_law_hand_right", defArgs s_law_hand_right, defBody s_law_hand_right, defScope s_law_hand_right, [], []⟩
def d_law : He.DefD := ⟨("law", none), "law", "law", defArgs s_law, defBody s_law, defScope s_law, [], []⟩
def fn : List He.DefD := [d_BadWord_init, d_is_word, d_need_word, d_factored, d_spelled, d_added_bits, d_multiplied, d_word_product, d_law_start, d_law_draw, d_law_pick, d_law_letters, d_law_moved, d_law_due, d_law_pair_right, d_law_three_right, d_law_hand_right, d_law]
def fa : List He.Fa := [.glo "is_word", .glo "need_word", .glo "factored", .glo "spelled", .glo "added_bits", .glo "multiplied", .glo "word_product", .glo "_law_start", .glo "_law_draw", .glo "_law_pick", .glo "_law_letters", .glo "_law_moved", .glo "_law_due", .glo "_law_pair_right", .glo "_law_three_right", .glo "_law_hand_right", .glo "law", .glo "FACTORS", .glo "LETTERS", .glo "InvalidInput", .glo "BadWord", .free "len", .free "isinstance", .free "tuple", .free "int", .free "bool", .free "str", .free "all", .free "zip", .free "sum", .free "list", .free "max", .free "min", .free "range", .free "repr", .int "MAX_PORTS" 8]
def loose : List Str := ["__name__", "InvalidInput", "BadWord", "MAX_PORTS", "FACTORS", "LETTERS", "is_word", "need_word", "factored", "spelled", "added_bits", "multiplied", "word_product", "_law_start", "_law_draw", "_law_pick", "_law_letters", "_law_moved", "_law_due", "_law_pair_right", "_law_three_right", "_law_hand_right"]
def kvF : List (List Int × V) := [([0, 0], .str "I"), ([1, 0], .str "X"), ([1, 1], .str "Y"), ([0, 1], .str "Z")]
def tabs : List He.Tab := [(fun K => He.ga K "FACTORS", ["I", "X", "Y", "Z"])]
def more (K : PySem.W.Frag) : Bool := ktB K (He.ga K "LETTERS") kvF && (He.tupAt K (He.ga K "FACTORS") "I" [0, 0] && (He.tupAt K (He.ga K "FACTORS") "X" [1, 0] && (He.tupAt K (He.ga K "FACTORS") "Y" [1, 1] && He.tupAt K (He.ga K "FACTORS") "Z" [0, 1])))
abbrev R : PySem.W.OpenRow := PySem.W.OpenLaw.row PySem.Challenge.rw_spiderwires_k51_products_of_words
abbrev hk : PySem.W.Hook := He.hookM 6 fa fn tabs more
def ob (s : PySem.W.SharedT) : He.AlM := He.obsMG 6 fa fn tabs more (HandSHeadRun.getT s)
theorem ob_eq (s : PySem.W.SharedT) : ob s = hk.obs s.abs := He.obsMG_eq (HandSHeadRun.getT_eq s)
theorem run (w : World) : HandSHeadRun.RunEq R (PySem.W.view R.prog [24]) hk ob 3000 loose w := by
  refine PySem.W.byRow2 "special-get-raises" (P := fun w => HandSHeadRun.RunEq R (PySem.W.view R.prog [24]) hk ob 3000 loose w) ?_ ?_ w
  · intro w os
    kernel_rfl
  · intro w os
    kernel_rfl
end K51


set_option Elab.async false
set_option linter.all false
set_option maxRecDepth 100000
set_option maxHeartbeats 4000000
/-! Readings step by step: each combinator at its arguments, for simp; what is looked up; comprehensions. -/
namespace Rd
open PySem PySem.Spec PyProof.Rows L2
section
variable {X : Cx} {K : PySem.W.Frag} {D : Ends} {σ : L2.St} {H : Hp} {Q : VK} {QB : Bool → Hp → Prop} {QL : List V → Hp → Prop} {QO : Option Int → Hp → Prop} {t u : TS} {ta tb tc te : TE} {c d : TT} {r r' : R2} {g : TG} {gs : TGs} {al : TA} {v : V} {i j k : Nat}
theorem seq : tSeq t u D σ H = t { D with nx := u D } σ H := rfl
theorem next : tNext D σ H = D.nx σ H := rfl
theorem brk : tBreak D σ H = D.bk σ H := rfl
theorem cont : tCont D σ H = D.ct σ H := rfl
theorem drop : tDrop te D σ H = te σ H fun _ H1 => D.nx σ H1 := rfl
theorem ret : tRet te D σ H = te σ H D.rt := rfl
theorem retN : tRetN D σ H = D.rt .non H := rfl
theorem ifS : tIfS c t u D σ H = c σ H fun b H1 => if b = true then t D σ H1 else u D σ H1 := rfl
theorem asg : tAsg te g D σ H = te σ H fun x H1 => g x σ H1 D.nx := rfl
theorem par : tPar i j al D σ H = al σ H fun vs H1 => ∃ v w, vs = [v, w] ∧ D.nx ((σ.set i (some v)).set j (some w)) H1 := rfl
theorem par3 : tPar3 i j k al D σ H = al σ H fun vs H1 => ∃ u v w, vs = [u, v, w] ∧ D.nx (((σ.set i (some u)).set j (some v)).set k (some w)) H1 := rfl
theorem aug {ti : TIp} : tAug i te ti D σ H = ∃ x, σ[i]? = some (some x) ∧ te σ H fun y H1 => ti x y H1 fun z H2 => D.nx (σ.set i (some z)) H2 := rfl
theorem ipi {f : Int → Int → Int} {x y : V} : ipI f x y H Q = ∃ i j, x = .int i ∧ y = .int j ∧ Q (.int (f i j)) H := rfl
theorem gname {R : L2.St → Hp → Prop} : gName i v σ H R = R (σ.set i (some v)) H := rfl
theorem gnil {vs : List V} {R : L2.St → Hp → Prop} : gNil vs σ H R = (vs = [] ∧ R σ H) := rfl
theorem gcons {vs : List V} {R : L2.St → Hp → Prop} : gCons g gs vs σ H R = ∃ v r, vs = v :: r ∧ g v σ H fun σ' H' => gs r σ' H' R := rfl
theorem gtup {n : Nat} {R : L2.St → Hp → Prop} : gTup K n gs v σ H R = ∃ a xs, v = .ref a ∧ SqT K H a xs ∧ xs.length = n ∧ gs xs σ H R := rfl
theorem gsub {to ti : TE} {s : TSet} {R : L2.St → Hp → Prop} : gSub to ti s v σ H R = to σ H fun o H1 => ti σ H1 fun i H2 => s o i v H2 fun H3 => R σ H3 := rfl
theorem var : tVar i σ H Q = ∃ v, σ[i]? = some (some v) ∧ Q v H := rfl
theorem con : tC v σ H Q = Q v H := rfl
theorem op : tOp r ta tb σ H Q = ta σ H fun x H1 => tb σ H1 fun y H2 => r x y H2 Q := rfl
theorem un {r : V → Hp → VK → Prop} : tUn r ta σ H Q = ta σ H fun x H1 => r x H1 Q := rfl
theorem bb : tB te σ H QB = te σ H fun x H1 => ∃ c, x = .bl c ∧ QB c H1 := rfl
theorem test : tTest te σ H QB = te σ H fun x H1 => ∃ k, x = .bl k ∧ QB k H1 := rfl
theorem not : tNot c σ H QB = c σ H fun b H1 => QB (!b) H1 := rfl
theorem and : tAnd c d σ H QB = c σ H fun b H1 => if b = true then d σ H1 QB else QB false H1 := rfl
theorem or : tOr c d σ H QB = c σ H fun b H1 => if b = true then QB true H1 else d σ H1 QB := rfl
theorem andV : tAndV ta tb σ H Q = ta σ H fun x H1 => ∃ c, x = .bl c ∧ if c = true then tb σ H1 Q else Q (.bl false) H1 := rfl
theorem orV : tOrV ta tb σ H Q = ta σ H fun x H1 => ∃ c, x = .bl c ∧ if c = true then Q (.bl true) H1 else tb σ H1 Q := rfl
theorem notV : tNotV ta σ H Q = ta σ H fun x H1 => ∃ c, x = .bl c ∧ Q (.bl (!c)) H1 := rfl
theorem ifE : tIf c ta tb σ H Q = c σ H fun b H1 => if b = true then ta σ H1 Q else tb σ H1 Q := rfl
theorem yes : tYes σ H QB = QB true H := rfl
theorem chain : tChain r r' ta tb tc σ H Q = ta σ H fun x H1 => tb σ H1 fun y H2 => r x y H2 fun z H3 => ∃ k, z = .bl k ∧ (if k = true then tc σ H3 fun w' H4 => r' y w' H4 Q else Q (.bl false) H3) := rfl
theorem ri {C : Int → Int → Prop} {f : Int → Int → V} {x y : V} : rI C f x y H Q = ∃ i j, x = .int i ∧ y = .int j ∧ C i j ∧ Q (f i j) H := rfl
theorem ri0 {f : Int → Int → V} {x y : V} : rI0 f x y H Q = ∃ i j, x = .int i ∧ y = .int j ∧ Q (f i j) H := rfl
theorem ru {f : Int → V} {x : V} : rU f x H Q = ∃ i, x = .int i ∧ Q (f i) H := rfl
theorem req {x y : V} : rEq x y H Q = (scal x y = true ∧ Q (.bl (decide (x = y))) H) := rfl
theorem rne {x y : V} : rNe x y H Q = (scal x y = true ∧ Q (.bl (!decide (x = y))) H) := rfl
theorem nil : tNil σ H QL = QL [] H := rfl
theorem cons : tCons ta al σ H QL = ta σ H fun x H1 => al σ H1 fun xs H2 => QL (x :: xs) H2 := rfl
theorem tup : tTup al σ H Q = al σ H fun xs H1 => xs.length ≤ sizeLine ∧ ∀ p, H1 p = none → Q (.ref p) (upd H1 p (.tup xs)) := rfl
theorem lst : tLst al σ H Q = al σ H fun xs H1 => xs.length ≤ sizeLine ∧ ∀ p, H1 p = none → Q (.ref p) (upd H1 p (.lst xs)) := rfl
theorem cb {f : List V → Hp → VK → Prop} : tCB f al σ H Q = al σ H fun vs H1 => f vs H1 Q := rfl
theorem call {sp : Sp} {dvs : List V} {E : XK} : tCall sp dvs E al σ H Q = al σ H fun vs H1 => sp (vs ++ dvs) H1 Q E := rfl
theorem callK {sp : Sp} {gV : List V → List V → List V} {E : XK} {tk : TA} : tCallK sp gV E al tk σ H Q = al σ H fun vs H1 => tk σ H1 fun zs H2 => sp (gV vs zs) H2 Q E := rfl
theorem m0 {f : V → List V → Hp → VK → Prop} : tM0 f te σ H Q = te σ H fun x H1 => (∃ a, x = .str a) ∧ f x [] H1 Q := rfl
theorem m1 {f : V → List V → Hp → VK → Prop} : tM1 f te ta σ H Q = te σ H fun x H1 => (∃ a, x = .str a) ∧ ta σ H1 fun y H2 => f x [y] H2 Q := rfl
theorem bm0 {T : String} {f : V → List V → Hp → VK → Prop} : tBM0 K T f te σ H Q = te σ H fun x H1 => tyV K T x H1 ∧ f x [] H1 Q := rfl
theorem bm {T : String} {f : V → List V → Hp → VK → Prop} : tBM K T f te al σ H Q = te σ H fun x H1 => tyV K T x H1 ∧ al σ H1 fun xs H2 => f x xs H2 Q := rfl
theorem dget : tDGet ta tb σ H Q = ta σ H fun x H1 => tb σ H1 fun y H2 => ∃ a v, x = .ref a ∧ DGet H2 a y (some v) ∧ Q v H2 := rfl
theorem dput : sDPut ta tb te D σ H = te σ H fun v H1 => ta σ H1 fun x H2 => tb σ H2 fun y H3 => ∃ a H4, x = .ref a ∧ DPut H3 a y v H4 ∧ D.nx σ H4 := rfl
theorem disp {trs : List (TE × TE)} : tDisp trs σ H Q = ∀ p, H p = none → tPairs trs σ (upd H p (.dK [])) fun ps H2 => H2 p = some (.dK []) ∧ ∃ kvs : List (Key × V), ps = kvs.map (fun kv => (kV kv.1, kv.2)) ∧ kvs.length ≤ 15 ∧ Q (.ref p) (upd H2 p (.dK (mergeK [] kvs))) := rfl
theorem pairs0 {R : List (V × V) → Hp → Prop} : tPairs [] σ H R = R [] H := rfl
theorem pairs1 {p : TE × TE} {l : List (TE × TE)} {R : List (V × V) → Hp → Prop} : tPairs (p :: l) σ H R = p.1 σ H fun x H1 => p.2 σ H1 fun y H2 => tPairs l σ H2 fun ps H3 => R ((x, y) :: ps) H3 := rfl
theorem ixL {x y : V} : rIxL K x y H Q = ∃ p xs i v, x = .ref p ∧ y = .int i ∧ SqL K H p xs ∧ atI xs i = some v ∧ Q v H := rfl
theorem ixT {x y : V} : rIxT K x y H Q = ∃ p xs i v, x = .ref p ∧ y = .int i ∧ SqT K H p xs ∧ atI xs i = some v ∧ Q v H := rfl
theorem ixS {x y : V} : rIxS x y H Q = ∃ z i c, x = .str z ∧ y = .int i ∧ z.length ≤ sizeLine ∧ atI z.cps.toList i = some c ∧ Q (.str ⟨#[c]⟩) H := rfl
theorem setL {x y : V} {R : Hp → Prop} : rSetL x y v H R = ∃ p xs k j, x = .ref p ∧ y = .int k ∧ H p = some (.lst xs) ∧ ixN xs.length k = some j ∧ R (upd H p (.lst (xs.set j v))) := rfl
theorem istr {R : It → Hp → Prop} : iStr te σ H R = te σ H fun v H1 => ∃ x, v = .str x ∧ R (Its x) H1 := rfl
theorem ilist {R : It → Hp → Prop} : iList K te σ H R = te σ H fun x H1 => ∃ a, x = .ref a ∧ (∃ xs, SqL K H1 a xs) ∧ R (Itl K a) H1 := rfl
theorem itup {R : It → Hp → Prop} : iTup K te σ H R = te σ H fun x H1 => ∃ a, x = .ref a ∧ (∃ xs, SqT K H1 a xs) ∧ R (Itt K a) H1 := rfl
theorem irng1 {R : It → Hp → Prop} : iRng1 al σ H R = al σ H fun vs H1 => ∃ j : Int, vs = [.int j] ∧ -(2 ^ 62) ≤ j ∧ j < 2 ^ 62 ∧ R (Itr 0 j.toNat) H1 := rfl
def LcB (J : It) (g : TG) (tt : TT) (te : TE) (vs : List Nat) (σ : L2.St) (H1 : Hp) (Q : VK) : Prop := ∀ D, H1 D = none → ∃ W : Nat → Nat → Hp → Prop, (∃ m, W 0 m (upd H1 D (.lst []))) ∧ ∀ i m H, W i m H →
  (J.stop i H ∧ Q (.ref D) H) ∨ (J.go i H ∧ ∃ Nx : Hp → Prop, (∀ H', Nx H' → ∃ m', m' < m ∧ W (i + 1) m' H') ∧ ∀ x H', J.yld i H x H' → g x (wipe σ vs) H' fun σ2 H2 => wipe σ2 vs = wipe σ vs ∧ tt σ2 H2 fun b H3 =>
    if b = true then te σ2 H3 fun y H4 => ∃ acc, H4 D = some (.lst acc) ∧ acc.length < sizeLine ∧ Nx (upd H4 D (.lst (acc ++ [y]))) else Nx H3)
theorem lc {wi : TI} {vs : List Nat} : tLc wi g c te vs σ H Q = wi σ H fun J H1 => LcB J g c te vs σ H1 Q := rfl
def ForB (J : It) (g : TG) (tb : TS) (D : Ends) (σ : L2.St) (H1 : Hp) : Prop := ∃ W : Nat → Nat → L2.St → Hp → Prop, (∃ m, W 0 m σ H1) ∧ ∀ i m σ H, W i m σ H →
  (J.stop i H ∧ D.nx σ H) ∨ (J.go i H ∧ ∃ N : L2.St → Hp → Prop, (∀ σ' H', N σ' H' → ∃ m', m' < m ∧ W (i + 1) m' σ' H') ∧ ∀ x H', J.yld i H x H' → g x σ H' fun σ2 H2 => tb { D with nx := N, ct := N, bk := D.nx } σ2 H2)
theorem for_ {wi : TI} : tFor wi g t D σ H = wi σ H fun J H1 => ForB J g t D σ H1 := rfl
theorem cxK {CX : CXT} {P : Program} {w : World} {mg : Str → Option Value} {base : Heap} {N : List Str} {qual : Str} {scope : Scope} {f : Addr} {cd : Value} {A : Around} {outer : List Env} {s : Shared} {E : XK} :
    (cxOf CX P w K mg base N qual scope f cd A outer s H E).K = K := rfl
theorem blkK {s : Shared} {sc : Scope} {env : Env} {fp : List Addr} : (X.blk s H sc env fp).K = X.K := rfl
theorem ex1 {α : Sort _} {a : α} {p : α → Prop} (h : p a) : ∃ x, a = x ∧ p x := ⟨a, rfl, h⟩
end
/-! lookups -/
section
variable {K : PySem.W.Frag} {H : Hp} {a p : Addr} {o u : HO} {xs : List V} {Q : VK}
theorem look_new (h : H a = some o) (hp : H p = none) : upd H p u a = some o := by
  rw [upd_ne (ne_of_none h hp)]
  exact h
theorem same_new (h : H p = none) : Same H (upd H p o) := fun b x e => by
  rw [upd_ne (ne_of_none e h)]
  exact e
theorem new_of (h : upd H p u a = none) : H a = none := by
  by_cases e : a = p
  · subst e
    rw [upd_same] at h
    cases h
  · rwa [upd_ne e] at h
theorem tup_is {b : String} {r : Bool} (h : H a = some (.tup xs)) (hk : PySem.W.kitOne K (.type "tuple") (.type b) = some r) (q : Q (.bl r) H) : rIsi K [.ref a, .ty b] H Q :=
  ⟨_, _, _, _, r, rfl, .ty b, .base (.tup h), hk, q⟩
theorem lst_is {b : String} {r : Bool} (h : H a = some (.lst xs)) (hk : PySem.W.kitOne K (.type "list") (.type b) = some r) (q : Q (.bl r) H) : rIsi K [.ref a, .ty b] H Q :=
  ⟨_, _, _, _, r, rfl, .ty b, .base (.lst h), hk, q⟩
theorem int_is {i : Int} {b : String} {r : Bool} (hk : PySem.W.kitOne K (.type "int") (.type b) = some r) (q : Q (.bl r) H) : rIsi K [.int i, .ty b] H Q :=
  ⟨_, _, _, _, r, rfl, .ty b, .base (.int i), hk, q⟩
theorem bl_is {i : Bool} {b : String} {r : Bool} (hk : PySem.W.kitOne K (.type "bool") (.type b) = some r) (q : Q (.bl r) H) : rIsi K [.bl i, .ty b] H Q :=
  ⟨_, _, _, _, r, rfl, .ty b, .base (.bl i), hk, q⟩
theorem str_is {i : Str} {b : String} {r : Bool} (hk : PySem.W.kitOne K (.type "str") (.type b) = some r) (q : Q (.bl r) H) : rIsi K [.str i, .ty b] H Q :=
  ⟨_, _, _, _, r, rfl, .ty b, .base (.str i), hk, q⟩
theorem kit_tuple_tuple : PySem.W.kitOne K (.type "tuple") (.type "tuple") = some true := kit_ty (by decide +kernel)
theorem kit_tuple_int : PySem.W.kitOne K (.type "tuple") (.type "int") = some false := kit_ty (by decide +kernel)
theorem kit_tuple_str : PySem.W.kitOne K (.type "tuple") (.type "str") = some false := kit_ty (by decide +kernel)
theorem kit_list_tuple : PySem.W.kitOne K (.type "list") (.type "tuple") = some false := kit_ty (by decide +kernel)
theorem kit_int_int : PySem.W.kitOne K (.type "int") (.type "int") = some true := kit_ty (by decide +kernel)
theorem kit_int_bool : PySem.W.kitOne K (.type "int") (.type "bool") = some false := kit_ty (by decide +kernel)
theorem kit_int_str : PySem.W.kitOne K (.type "int") (.type "str") = some false := kit_ty (by decide +kernel)
theorem kit_int_tuple : PySem.W.kitOne K (.type "int") (.type "tuple") = some false := kit_ty (by decide +kernel)
theorem kit_bool_int : PySem.W.kitOne K (.type "bool") (.type "int") = some true := kit_ty (by decide +kernel)
theorem kit_bool_bool : PySem.W.kitOne K (.type "bool") (.type "bool") = some true := kit_ty (by decide +kernel)
theorem kit_str_str : PySem.W.kitOne K (.type "str") (.type "str") = some true := kit_ty (by decide +kernel)
theorem kit_str_int : PySem.W.kitOne K (.type "str") (.type "int") = some false := kit_ty (by decide +kernel)
theorem kit_str_tuple : PySem.W.kitOne K (.type "str") (.type "tuple") = some false := kit_ty (by decide +kernel)
theorem len_tup {R : Nat → Prop} (h : H a = some (.tup xs)) (q : R xs.length) : ∃ n, LenV K (.ref a) H n ∧ R n := ⟨_, .inr ⟨_, .inl (.inl h), rfl⟩, q⟩
theorem len_lst {R : Nat → Prop} (h : H a = some (.lst xs)) (q : R xs.length) : ∃ n, LenV K (.ref a) H n ∧ R n := ⟨_, .inl ⟨_, .inl (.inl h), rfl⟩, q⟩
theorem get_tup {R : List V → Prop} (h : H a = some (.tup xs)) (q : R xs) : ∃ ys, SqT K H a ys ∧ R ys := ⟨_, .inl (.inl h), q⟩
theorem get_lst {R : List V → Prop} (h : H a = some (.lst xs)) (q : R xs) : ∃ ys, SqL K H a ys ∧ R ys := ⟨_, .inl (.inl h), q⟩
theorem has_lst {R : Prop} (h : H a = some (.lst xs)) (q : R) : (∃ ys, SqL K H a ys) ∧ R := ⟨⟨_, .inl (.inl h)⟩, q⟩
theorem has_tup {R : Prop} (h : H a = some (.tup xs)) (q : R) : (∃ ys, SqT K H a ys) ∧ R := ⟨⟨_, .inl (.inl h)⟩, q⟩
theorem dc_t {c A B : Prop} [Decidable c] (h : c) (q : A) : if decide c = true then A else B := by rw [decide_eq_true h]; exact iteT q
theorem dc_f {c A B : Prop} [Decidable c] (h : ¬ c) (q : B) : if decide c = true then A else B := by rw [decide_eq_false h]; exact iteF q
theorem dn_t {c A B : Prop} [Decidable c] (h : ¬ c) (q : A) : if (!decide c) = true then A else B := by rw [decide_eq_false h]; exact iteT q
theorem dn_f {c A B : Prop} [Decidable c] (h : c) (q : B) : if (!decide c) = true then A else B := by rw [decide_eq_true h]; exact iteF q
theorem dget_k {kvs : List (Key × V)} {k : Key} {v : V} {R : V → Prop} (h : H a = some (.dK kvs)) (e : valV kvs k = some v) (q : R v) : ∃ w, DGet H a (kV k) (some w) ∧ R w := ⟨v, .inl ⟨kvs, k, .inl h, rfl, e.symm⟩, q⟩
end
/-! comprehensions that change nothing that is tracked -/
section
variable {J : It} {n : Nat} {G : Hp → Prop} {Y : Nat → Hp → V → Hp → Prop} {g : TG} {tt : TT} {te : TE} {vs : List Nat} {σ : L2.St} {H : Hp} {Q : VK}
theorem lc_sel (w : Walk J n G Y) (f : Nat → V) (b : Nat → Bool) (hG : ∀ H', Same H H' → G H') (hn : n < sizeLine)
    (hs : ∀ i x H' H'', i < n → Same H H' → Y i H' x H'' → ∀ (R : V → Hp → Prop) (S : Hp → Prop), (b i = true → ∀ H4, Same H' H4 → R (f i) H4) → (b i = false → ∀ H4, Same H' H4 → S H4) →
      g x (wipe σ vs) H'' fun σ2 H2 => wipe σ2 vs = wipe σ vs ∧ tt σ2 H2 fun c H3 => if c = true then te σ2 H3 R else S H3)
    (hq : ∀ D H', H D = none → Same H H' → H' D = some (.lst (((List.range n).filter b).map f)) → Q (.ref D) H') : LcB J g tt te vs σ H Q := by
  intro D hD
  have lenb : ∀ i, i ≤ n → (((List.range i).filter b).map f).length ≤ n := fun i hi => by
    rw [List.length_map]
    exact Nat.le_trans (List.length_filter_le _ _) (by simpa using hi)
  refine lc_it w (fun i H' => Same H H' ∧ H' D = some (.lst (((List.range i).filter b).map f))) ⟨same_new hD, upd_same⟩ (fun i H' _ p => hG H' p.1) (fun i x H' H'' hi p y => ?_) fun H' p => hq D H' hD p.1 p.2
  refine hs i x H' H'' hi p.1 y _ _ (fun hb H4 s4 => ?_) fun hb H4 s4 => ?_
  · refine ⟨_, s4 _ _ p.2, Nat.lt_of_le_of_lt (lenb i (Nat.le_of_lt hi)) hn, fun c o e => ?_, ?_⟩
    · rw [upd_ne (ne_of_none e hD)]
      exact s4 _ _ (p.1 _ _ e)
    · rw [upd_same, List.range_succ, List.filter_append, List.map_append]
      simp [hb]
  · refine ⟨p.1.trans s4, ?_⟩
    rw [s4 _ _ p.2, List.range_succ, List.filter_append, List.map_append]
    simp [hb]
theorem lc_map (w : Walk J n G Y) (f : Nat → V) (hG : ∀ H', Same H H' → G H') (hn : n < sizeLine)
    (hs : ∀ i x H' H'', i < n → Same H H' → Y i H' x H'' → ∀ (R : V → Hp → Prop), (∀ H4, Same H' H4 → R (f i) H4) → g x (wipe σ vs) H'' fun σ2 H2 => wipe σ2 vs = wipe σ vs ∧ te σ2 H2 R)
    (hq : ∀ D H', H D = none → Same H H' → H' D = some (.lst ((List.range n).map f)) → Q (.ref D) H') : LcB J g tYes te vs σ H Q := by
  refine lc_sel w f (fun _ => true) hG hn (fun i x H' H'' hi s y R S h1 _ => ?_) fun D H' a b c => hq D H' a b ?_
  · exact hs i x H' H'' hi s y R (h1 rfl)
  · rwa [List.filter_eq_self.mpr (fun _ _ => rfl)] at c
theorem range_map {α β : Type} (xs : List α) (f : α → β) (h : Nat → β) (e : ∀ i x, xs[i]? = some x → h i = f x) : (List.range xs.length).map h = xs.map f := by
  apply List.ext_getElem?
  intro i
  by_cases hi : i < xs.length
  · rw [List.getElem?_map, List.getElem?_range hi, List.getElem?_map, List.getElem?_eq_getElem hi]
    exact congrArg some (e i _ (List.getElem?_eq_getElem hi))
  · rw [List.getElem?_eq_none (by simp; omega), List.getElem?_eq_none (by simp; omega)]
/-- over a text -/
theorem lc_str {z : Str} (f : Nat → V) (hn : z.length < sizeLine)
    (hs : ∀ c ∈ z.cps.toList, ∀ H', Same H H' → ∀ (R : V → Hp → Prop), (∀ H4, Same H' H4 → R (f c) H4) → g (.str ⟨#[c]⟩) (wipe σ vs) H' fun σ2 H2 => wipe σ2 vs = wipe σ vs ∧ te σ2 H2 R)
    (hq : ∀ D H', H D = none → Same H H' → H' D = some (.lst (z.cps.toList.map f)) → Q (.ref D) H') : LcB (Its z) g tYes te vs σ H Q := by
  refine lc_map walk_str (fun i => f (z.cps.toList.getD i 0)) (fun _ _ => trivial) hn (fun i x H' H'' hi s y R h1 => ?_) fun D H' a b c => hq D H' a b ?_
  · obtain ⟨rfl, c, e, rfl⟩ := y
    have e' : z.cps.toList[i]? = some c := by simpa using e
    have d : z.cps.toList.getD i 0 = c := by simp [List.getD, e']
    refine hs c (List.mem_of_getElem? e') H'' s R fun H4 s4 => ?_
    have := h1 H4 s4
    rwa [d] at this
  · rw [c, show z.cps.size = z.cps.toList.length by simp]
    refine congrArg some (congrArg HO.lst (range_map _ _ _ fun i x e => ?_))
    simp [List.getD, e]
/-- over a list that stands -/
theorem lc_lst {K : PySem.W.Frag} {a : Addr} {xs : List V} (f : V → V) (ha : SqL K H a xs) (hn : xs.length < sizeLine)
    (hs : ∀ x ∈ xs, ∀ H', Same H H' → ∀ (R : V → Hp → Prop), (∀ H4, Same H' H4 → R (f x) H4) → g x (wipe σ vs) H' fun σ2 H2 => wipe σ2 vs = wipe σ vs ∧ te σ2 H2 R)
    (hq : ∀ D H', H D = none → Same H H' → H' D = some (.lst (xs.map f)) → Q (.ref D) H') : LcB (Itl K a) g tYes te vs σ H Q := by
  refine lc_map walk_list (fun i => f (xs.getD i .non)) (fun H' s => s.seq ha) hn (fun i x H' H'' hi s y R h1 => ?_) fun D H' a b c => hq D H' a b ?_
  · obtain ⟨rfl, e⟩ := y
    have d : xs.getD i .non = x := by simp [List.getD, e]
    refine hs x (List.mem_of_getElem? e) H'' s R fun H4 s4 => ?_
    have := h1 H4 s4
    rwa [d] at this
  · rw [c]
    refine congrArg some (congrArg HO.lst (range_map _ _ _ fun i x e => ?_))
    simp [List.getD, e]
end
end Rd


set_option Elab.async false
set_option linter.all false
set_option maxRecDepth 100000
set_option maxHeartbeats 4000000
/-! A def that may be called by its name, as one fact; rules whose readings name the frag K itself. -/
namespace Rd
open PySem PySem.Spec PyProof.Rows L2
structure Cal (P : Program) (w : World) (K : PySem.W.Frag) (mg : Str → Option Value) (base : Heap) (k : Nat) (x : Str) (sp : Sp) (dvs : List V) : Prop where
  ex : ∃ (f : Addr) (fd : FuncData) (ps : List Str) (ds : List Value), FnOk P w K mg base CX0 k f fd ps sp ∧ mg x = some (.ref f) ∧ PySem.W.keepIn K (.ref f) = true ∧ Binds K fd ps ds ∧ Vals dvs ds
structure CalG (P : Program) (w : World) (K : PySem.W.Frag) (mg : Str → Option Value) (base : Heap) (k : Nat) (x : Str) (sp : Sp) (dvs : List V) : Prop where
  ex : ∃ (f : Addr) (fd : FuncData) (ps : List Str) (ds : List Value), FnG P w K mg base CX0 k f fd ps sp ∧ mg x = some (.ref f) ∧ PySem.W.keepIn K (.ref f) = true ∧ Binds K fd ps ds ∧ Vals dvs ds
section
variable {X : Cx} {k j : Nat} {x : Str} {sp : Sp} {dvs : List V} {p pos : Pos} {e : Expr} {es : List Expr} {t : TA}
theorem pe_c (c : Cal X.prog X.w X.K X.mg X.base k x sp dvs) (hr : Room j X.A) (hk : k ≤ j) (hg : Gl X x) (ha : PA X (e :: es) t)
    (hdb : (x == ("__debug__" : Str)) = false := by decide) (he : starEach (e :: es) X.env = (false, eval e X.env) :: starEach es X.env := by rfl) (hpl : (backTo pos (starEach es X.env)).any (·.1) = false := by rfl) :
    PE X (.Call (.Name x p) (e :: es) [] pos) (tCall sp dvs E0 t) := by
  obtain ⟨f, fd, ps, ds, F, hm, kp, b, d⟩ := c.ex
  exact pe_call F (hr.mono hk) hg hm kp b d pass0 ha hdb he hpl
theorem pe_c0 (c : Cal X.prog X.w X.K X.mg X.base k x sp dvs) (hr : Room j X.A) (hk : k ≤ j) (hg : Gl X x)
    (hdb : (x == ("__debug__" : Str)) = false := by decide) : PE X (.Call (.Name x p) [] [] pos) (tCall sp dvs E0 tNil) := by
  obtain ⟨f, fd, ps, ds, F, hm, kp, b, d⟩ := c.ex
  exact pe_call0 F (hr.mono hk) hg hm kp b d pass0 hdb
theorem pe_cg (c : CalG X.prog X.w X.K X.mg X.base k x sp dvs) (gd : X.A.guards = some []) (hr : Room j X.A) (hk : k ≤ j) (hg : Gl X x) (ha : PA X (e :: es) t)
    (hdb : (x == ("__debug__" : Str)) = false := by decide) (he : starEach (e :: es) X.env = (false, eval e X.env) :: starEach es X.env := by rfl) (hpl : (backTo pos (starEach es X.env)).any (·.1) = false := by rfl) :
    PE X (.Call (.Name x p) (e :: es) [] pos) (tCall sp dvs E0 t) := by
  obtain ⟨f, fd, ps, ds, F, hm, kp, b, d⟩ := c.ex
  exact pe_callG F gd (hr.mono hk) hg hm kp b d pass0 ha hdb he hpl
end
structure CalK (P : Program) (w : World) (K : PySem.W.Frag) (mg : Str → Option Value) (base : Heap) (k : Nat) (x : Str) (sp : Sp) (ks : List Str) (gV : List V → List V → List V) : Prop where
  ex : ∃ (f : Addr) (fd : FuncData) (ps : List Str) (g : List Value → List Value → List Value), FnOk P w K mg base CX0 k f fd ps sp ∧ mg x = some (.ref f) ∧ PySem.W.keepIn K (.ref f) = true ∧ KBinds K fd ps ks g gV
theorem pe_ck {X : Cx} {k j : Nat} {x : Str} {sp : Sp} {p pos : Pos} {ks : List Str} {gV : List V → List V → List V} {kws : List Keyword} {tk : TA} (c : CalK X.prog X.w X.K X.mg X.base k x sp ks gV) (hr : Room j X.A) (hk : k ≤ j) (hg : Gl X x) (hkw : PK X kws tk)
    (hall : (backToKw pos (keywordEach kws X.env)).all (·.1.isSome) = true := by rfl) (hks : (backToKw pos (keywordEach kws X.env)).filterMap (·.1) = ks := by rfl) (hdb : (x == ("__debug__" : Str)) = false := by decide)
    (hpl : ((backTo pos (starEach [] X.env)).any (·.1) || (backToKw pos (keywordEach kws X.env)).any (·.1.isNone)) = false := by rfl) : PE X (.Call (.Name x p) [] kws pos) (tCallK sp gV E0 tNil tk) := by
  obtain ⟨f, fd, ps, g, F, hm, kp, b⟩ := c.ex
  exact pe_callK0 F (hr.mono hk) hg hm kp b pass0 hkw hall hks hdb hpl
section
variable {X : Cx} {K : PySem.W.Frag} (h : X.K = K)
include h
theorem ixT_ : IxR X (rIxT K) := h ▸ ix_tup
theorem ixL_ : IxR X (rIxL K) := h ▸ ix_list
theorem isi_ : CallR X (.builtin "isinstance") (rIsi K) := h ▸ call_isi
theorem len_ : CallR X (.builtin "len") (fun xs H Q => ∃ x n, xs = [x] ∧ LenV K x H n ∧ Q (.int n) H) := h ▸ call_len
theorem all_ (hc : X.calm = true) : CallR X (.builtin "all") (rAll K) := h ▸ cr_all hc
theorem sum_ (hc : X.calm = true) : CallR X (.builtin "sum") (rSum K) := h ▸ cr_sum hc
theorem listOf_ : CallR X (.type "list") (fun xs H Q => ∃ p ys, xs = [.ref p] ∧ (SqL K H p ys ∨ SqT K H p ys) ∧ ∀ l, H l = none → Q (.ref l) (upd H l (.lst ys))) := h ▸ call_list_of
theorem max_ (hc : X.calm = true) : CallR X (.builtin "max") (rMax K) := h ▸ cr_max hc
theorem min_ (hc : X.calm = true) : CallR X (.builtin "min") (rMin K) := h ▸ cr_min hc
theorem eqD_ (hu : X.A.units + 64 < cLine) : OpR X (compareOp .Eq) (rEqD K) := h ▸ op_eqD hu
theorem neD_ (hu : X.A.units + 64 < cLine) : OpR X (compareOp .NotEq) (rNeD K) := h ▸ op_neD hu
theorem repr_ (gd : X.A.guards = some []) (hu : X.A.units + 64 < cLine) : CallR X (.builtin "repr") (rRepr K) := h ▸ call_repr gd hu
theorem list_ {tg l : Expr} {tl : TE} (hl : PE X l tl) : PI X tg l (iList K tl) := h ▸ pi_list hl
theorem tup_ {tg l : Expr} {tl : TE} (hl : PE X l tl) : PI X tg l (iTup K tl) := h ▸ pi_tup hl
def rJoin (K : PySem.W.Frag) : V → List V → Hp → VK → Prop := fun x xs H Q => ∃ a p, ∃ ys : List Str, x = .str a ∧ xs = [.ref p] ∧ (SqL K H p (ys.map V.str) ∨ SqT K H p (ys.map V.str)) ∧
    (ys.map (·.length)).sum + ys.length * a.length ≤ 16777216 ∧ Q (.str (Txt.join a ys)) H
omit h in
theorem join0 {o e : Expr} {to te : TE} {apos pos : Pos} (ho : PE X o to) (he : PE X e te) (hs : starEach [e] X.env = [(false, eval e X.env)] := by rfl) (hbase : attributeBase o "join" X.env (eval o X.env) = eval o X.env := by rfl) (hline : (apos.endLine == pos.line) = true := by rfl) :
    PE X (.Call (.Attribute o "join" apos) [e] [] pos) (tM1 (rJoin X.K) to te) := pe_join ho he hs hbase hline
theorem join_ {o e : Expr} {to te : TE} {apos pos : Pos} (ho : PE X o to) (he : PE X e te) (hs : starEach [e] X.env = [(false, eval e X.env)] := by rfl) (hbase : attributeBase o "join" X.env (eval o X.env) = eval o X.env := by rfl) (hline : (apos.endLine == pos.line) = true := by rfl) :
    PE X (.Call (.Attribute o "join" apos) [e] [] pos) (tM1 (rJoin K) to te) := h ▸ join0 ho he hs hbase hline
theorem tupOf_ {a : Expr} {ta : TE} {p pos : Pos} (hg : Gl X "tuple") (hm : X.mg "tuple" = none) (ha : PE X a ta) (na : starEach [a] X.env = (false, eval a X.env) :: starEach [] X.env := by rfl) :
    PE X (.Call (.Name "tuple" p) [a] [] pos) (tThen ta (kTup K)) := h ▸ pe_tupleOf hg hm ha na
theorem kd_ {w : World} (hw : X.w = w) : IxR X (rIxD K w) := h ▸ hw ▸ ix_kdict
end
section
variable {X : Cx} {o e : Expr} {to te : TE} {apos pos : Pos}
def rCnt : V → List V → Hp → VK → Prop := fun x xs H Q => ∃ a b, x = .str a ∧ xs = [.str b] ∧ Q (.int (Txt.count a b)) H
theorem cnt_ (ho : PE X o to) (he : PE X e te) (hs : starEach [e] X.env = [(false, eval e X.env)] := by rfl) (hbase : attributeBase o "count" X.env (eval o X.env) = eval o X.env := by rfl) (hline : (apos.endLine == pos.line) = true := by rfl) :
    PE X (.Call (.Attribute o "count" apos) [e] [] pos) (tM1 rCnt to te) := pe_m1 F.slot_str_count F.type_str_count mt_count ho he hs hbase hline
theorem app_ (ho : PE X o to) (he : PE X e te) (hbase : attributeBase o "append" X.env (eval o X.env) = eval o X.env := by rfl)
    (hfew : ((backTo pos (starEach [e] X.env)).all (fun x => !x.1) && (backToKw pos (keywordEach [] X.env)).all (fun x => x.1.isSome)
      && decide (([e] : List Expr).length + ([] : List Keyword).length + (if ([] : List Keyword).isEmpty then 0 else 1) < 30)) = true := by rfl)
    (hline : (apos.endLine == pos.line) = true := by rfl) (hs : starEach [e] X.env = (false, eval e X.env) :: starEach [] X.env := by rfl) :
    PE X (.Call (.Attribute o "append" apos) [e] [] pos) (tBM X.K "list" rAppend to (tCons te tNil)) :=
  pe_bm PySem.F.plainAttrs_list PySem.F.slot_list_append PySem.F.type_list_append mt_append ho (pa_cons he pa_nil hs) hbase hfew hline hs
end
/-! readings -/
section
variable {K : PySem.W.Frag} {w : World} {ta : TE} {σ : L2.St} {H : Hp} {Q : VK} {x y : V} {vs : List V} {k : V → Hp → VK → Prop}
theorem isN : rIsN x y H Q = (y = .non ∧ Q (.bl (decide (x = .non))) H) := rfl
theorem notN : rNotN x y H Q = (y = .non ∧ Q (.bl (!decide (x = .non))) H) := rfl
theorem ixD : rIxD K w x y H Q = ∃ p z v, x = .ref p ∧ y = .str z ∧ KDct K w p z v ∧ Q v H := rfl
theorem cnt : rCnt x vs H Q = ∃ a b, x = .str a ∧ vs = [.str b] ∧ Q (.int (Txt.count a b)) H := rfl
theorem jn : rJoin K x vs H Q = ∃ a p, ∃ ys : List Str, x = .str a ∧ vs = [.ref p] ∧ (SqL K H p (ys.map V.str) ∨ SqT K H p (ys.map V.str)) ∧
    (ys.map (·.length)).sum + ys.length * a.length ≤ 16777216 ∧ Q (.str (Txt.join a ys)) H := rfl
theorem thn : tThen ta k σ H Q = ta σ H fun x H1 => k x H1 Q := rfl
theorem sum : rSum K vs H Q = ∃ (a : Addr) (ns : List Int), vs = [V.ref a] ∧ SqL K H a (ns.map V.int) ∧ Q (.int ns.sum) H := rfl
theorem app : rAppend x vs H Q = ∃ l xs y, x = .ref l ∧ vs = [y] ∧ H l = some (.lst xs) ∧ xs.length < sizeLine ∧ Q .non (upd H l (.lst (xs ++ [y]))) := rfl
theorem at_nat {α : Type} (xs : List α) (i : Nat) : atI xs (i : Int) = xs[i]? := by
  unfold atI ixN
  rw [if_pos (Int.natCast_nonneg i)]
  by_cases h : i < xs.length
  · rw [if_pos (by omega)]
    rfl
  · rw [if_neg (by omega)]
    simp
    omega
theorem at0 {α : Type} {a : α} {l : List α} : atI (a :: l) 0 = some a := (at_nat (a :: l) 0).trans rfl
theorem at1 {α : Type} {a b : α} {l : List α} : atI (a :: b :: l) 1 = some b := (at_nat _ 1).trans rfl
theorem at2 {α : Type} {a b c : α} {l : List α} : atI (a :: b :: c :: l) 2 = some c := (at_nat _ 2).trans rfl
theorem at3 {α : Type} {a b c d : α} {l : List α} : atI (a :: b :: c :: d :: l) 3 = some d := (at_nat _ 3).trans rfl
end
end Rd


set_option Elab.async false
set_option linter.all false
set_option maxRecDepth 100000
set_option maxHeartbeats 4000000
/-! The state of a law's draws: a dict of the cells, the turn, and what is left of the large cells. -/
namespace Rd
open PySem PySem.Spec PyProof.Rows L2
def drK (c g : Addr) (t : Int) : List (Key × V) := [(.inr "cells", .ref c), (.inr "turn", .int t), (.inr "large", .ref g)]
/-- all but m and g is as it was -/
def Mv (m g : Addr) (H H' : Hp) : Prop := ∀ b o, b ≠ m → b ≠ g → H b = some o → H' b = some o
theorem Mv.refl {m g : Addr} {H : Hp} : Mv m g H H := fun _ _ _ _ h => h
theorem Mv.trans {m g : Addr} {H H1 H2 : Hp} (a : Mv m g H H1) (b : Mv m g H1 H2) : Mv m g H H2 := fun c o h1 h2 h => b c o h1 h2 (a c o h1 h2 h)
theorem Mv.same {m g : Addr} {H H1 : Hp} (a : Same H H1) : Mv m g H H1 := fun c o _ _ h => a c o h
structure DrS (m c g : Addr) (t : Int) (ns ls : List Int) (H : Hp) : Prop where
  d : H m = some (.dK (drK c g t))
  cs : H c = some (.lst (ns.map V.int))
  gs : H g = some (.lst (ls.map V.int))
  ne : c ≠ g
  len : ls.length = ns.length
  small : ns.length < 2 ^ 24
  nn : ∀ x ∈ ls, 0 ≤ x
  t0 : 0 ≤ t
def Dr (m c g : Addr) (t : Int) (H : Hp) : Prop := ∃ ns ls, DrS m c g t ns ls H
theorem DrS.mono {m c g : Addr} {t : Int} {ns ls : List Int} {H H' : Hp} (h : DrS m c g t ns ls H) (s : Same H H') : DrS m c g t ns ls H' := ⟨s _ _ h.d, s _ _ h.cs, s _ _ h.gs, h.ne, h.len, h.small, h.nn, h.t0⟩
theorem Dr.mono {m c g : Addr} {t : Int} {H H' : Hp} (h : Dr m c g t H) (s : Same H H') : Dr m c g t H' := by
  obtain ⟨ns, ls, h⟩ := h
  exact ⟨ns, ls, h.mono s⟩
theorem DrS.mc {m c g : Addr} {t : Int} {ns ls : List Int} {H : Hp} (h : DrS m c g t ns ls H) : m ≠ c := fun e => by
  have := h.d
  rw [e, h.cs] at this
  cases this
theorem DrS.mg {m c g : Addr} {t : Int} {ns ls : List Int} {H : Hp} (h : DrS m c g t ns ls H) : m ≠ g := fun e => by
  have := h.d
  rw [e, h.gs] at this
  cases this
theorem Dr.tup {m c g : Addr} {t : Int} {H H' : Hp} (h : Dr m c g t H) (s : Mv m g H H') {b : Addr} {xs : List V} (e : H b = some (.tup xs)) : H' b = some (.tup xs) := by
  obtain ⟨ns, ls, h⟩ := h
  refine s b _ (fun z => ?_) (fun z => ?_) e
  · rw [z, h.d] at e
    cases e
  · rw [z, h.gs] at e
    cases e
theorem Dr.free {m c g : Addr} {t : Int} {H : Hp} (h : Dr m c g t H) {b : Addr} (e : H b = none) : b ≠ m ∧ b ≠ g := by
  obtain ⟨ns, ls, h⟩ := h
  refine ⟨fun z => ?_, fun z => ?_⟩
  · rw [z, h.d] at e
    cases e
  · rw [z, h.gs] at e
    cases e
theorem Dr.free3 {m c g : Addr} {t : Int} {H : Hp} (h : Dr m c g t H) {b : Addr} (e : H b = none) : b ≠ m ∧ b ≠ c ∧ b ≠ g := by
  obtain ⟨h1, h2⟩ := h.free e
  obtain ⟨ns, ls, h⟩ := h
  refine ⟨h1, fun z => ?_, h2⟩
  rw [z, h.cs] at e
  cases e
theorem Dr.upd {m c g : Addr} {t : Int} {H : Hp} (h : Dr m c g t H) {b : Addr} {o : HO} (h1 : b ≠ m) (h2 : b ≠ c) (h3 : b ≠ g) : Dr m c g t (upd H b o) := by
  obtain ⟨ns, ls, h⟩ := h
  exact ⟨ns, ls, by rw [upd_ne h1.symm]; exact h.d, by rw [upd_ne h2.symm]; exact h.cs, by rw [upd_ne h3.symm]; exact h.gs, h.ne, h.len, h.small, h.nn, h.t0⟩
theorem k1 : ((.inr "cells" : Key) = .inr "turn") = False := by
  rw [eq_iff_iff]
  exact ⟨by decide +kernel, False.elim⟩
theorem k2 : ((.inr "cells" : Key) = .inr "large") = False := by
  rw [eq_iff_iff]
  exact ⟨by decide +kernel, False.elim⟩
theorem k3 : ((.inr "turn" : Key) = .inr "large") = False := by
  rw [eq_iff_iff]
  exact ⟨by decide +kernel, False.elim⟩
theorem k4 : ((.inr "large" : Key) = .inr "turn") = False := by
  rw [eq_iff_iff]
  exact ⟨by decide +kernel, False.elim⟩
section
variable {m c g : Addr} {t : Int} {ns ls : List Int} {H : Hp} {R : V → Prop}
theorem dr_cells (h : H m = some (.dK (drK c g t))) (q : R (.ref c)) : ∃ w, DGet H m (.str "cells") (some w) ∧ R w := ⟨_, .inl ⟨_, .inr "cells", .inl h, rfl, by simp only [drK, valV, List.find?, decide_true, Option.map]⟩, q⟩
theorem dr_turn (h : H m = some (.dK (drK c g t))) (q : R (.int t)) : ∃ w, DGet H m (.str "turn") (some w) ∧ R w :=
  ⟨_, .inl ⟨_, .inr "turn", .inl h, rfl, by simp only [drK, valV, List.find?, k1, decide_true, decide_false, Option.map]⟩, q⟩
theorem dr_large (h : H m = some (.dK (drK c g t))) (q : R (.ref g)) : ∃ w, DGet H m (.str "large") (some w) ∧ R w :=
  ⟨_, .inl ⟨_, .inr "large", .inl h, rfl, by simp only [drK, valV, List.find?, k2, k3, decide_true, decide_false, Option.map]⟩, q⟩
theorem dr_put {R : Hp → Prop} {t' : Int} (h : H m = some (.dK (drK c g t))) (q : R (upd H m (.dK (drK c g t')))) : ∃ H4, DPut H m (.str "turn") (.int t') H4 ∧ R H4 := by
  refine ⟨_, .inl ⟨_, .inr "turn", h, rfl, by unfold drK; rw [sizeLine_eq]; simp, rfl⟩, ?_⟩
  have e : putK (drK c g t) (.inr "turn") (.int t') = drK c g t' := by
    simp only [putK, drK, List.any, List.map, k1, k4, decide_true, decide_false, Bool.or_true, Bool.true_or, if_true, if_false]
  rw [e]
  exact q
end
/-! lists of ints as data -/
theorem dpInts {K : PySem.W.Frag} {H : Hp} : ∀ ns : List Int, DpAll K H (ns.map V.int) (ns.map PyData.int)
  | [] => .nil
  | n :: ns => .cons (.int n) (dpInts ns)
theorem layInts : ∀ ns : List Int, PyData.canLayAll0 (ns.map PyData.int) = true
  | [] => rfl
  | n :: ns => by
    simp only [List.map_cons, PyData.canLayAll0, PyData.canLay0, layInts ns, Bool.and_self]
theorem depInts : ∀ ns : List Int, PyData.depthAll (ns.map PyData.int) ≤ 1
  | [] => by simp [PyData.depthAll]
  | n :: ns => by
    have := depInts ns
    simp only [List.map_cons, PyData.depthAll, PyData.depth]
    omega
theorem shInts (ns : List Int) : SeqAt.shaped (.list (ns.map PyData.int)) = true := by
  have h2 : PyData.depth (.list (ns.map PyData.int)) ≤ 64 := by
    have := depInts ns
    simp only [PyData.depth]
    omega
  show (PyData.canLay0 (.list (ns.map PyData.int)) && decide (PyData.depth (.list (ns.map PyData.int)) ≤ 64)) = true
  rw [Bool.and_eq_true]
  exact ⟨by simp only [PyData.canLay0]; exact layInts ns, decide_eq_true h2⟩
/-- xs != [], xs ints -/
theorem neNil {K : PySem.W.Frag} {H : Hp} {Q : VK} {a e : Addr} {ns : List Int} (ha : H a = some (.lst (ns.map V.int))) (he : H e = some (.lst [])) (q : Q (.bl (!decide (ns = []))) H) : rNeD K (.ref a) (.ref e) H Q := by
  refine ⟨.list (ns.map PyData.int), .list [], .lst (.inl (.inl ha)) (dpInts ns), .lst (.inl (.inl he)) .nil, shInts ns, rfl, ?_⟩
  have e : PyData.eqv (.list (ns.map PyData.int)) (.list []) = decide (ns = []) := by cases ns <;> rfl
  rw [e]
  exact q
end Rd


set_option Elab.async false
set_option linter.all false
set_option maxRecDepth 100000
set_option maxHeartbeats 4000000
namespace K51
open PySem PySem.Spec PyProof.Rows L2
/-! letters, words -/
inductive Lt where
  | I | X | Y | Z
  deriving DecidableEq
def Lt.cd : Lt → Nat
  | .I => 73
  | .X => 88
  | .Y => 89
  | .Z => 90
def Lt.fl : Lt → Int
  | .I => 0
  | .X => 1
  | .Y => 1
  | .Z => 0
def Lt.sg : Lt → Int
  | .I => 0
  | .X => 0
  | .Y => 1
  | .Z => 1
def Lt.sig (l : Lt) : Str := ⟨#[l.cd]⟩
def txt (l : List Lt) : Str := ⟨(l.map Lt.cd).toArray⟩
def cY (l : List Lt) : Int := (l.count .Y : Nat)
def ltOf (f s : Int) : Lt := if f = 0 then (if s = 0 then .I else .Z) else (if s = 0 then .X else .Y)
def mulL : List Lt → List Lt → List Lt
  | a :: l, b :: r => ltOf ((a.fl + b.fl) % 2) ((a.sg + b.sg) % 2) :: mulL l r
  | _, _ => []
def exL : List Lt → List Lt → Int
  | a :: l, b :: r => a.sg * b.fl + exL l r
  | _, _ => 0
def mulP (p1 : Int) (l1 : List Lt) (p2 : Int) (l2 : List Lt) : Int := (p1 + cY l1 + (p2 + cY l2 + 2 * exL l1 l2) - cY (mulL l1 l2)) % 4
theorem txt_len (l : List Lt) : (txt l).length = l.length := by simp [txt, Str.length]
theorem txt_cps (l : List Lt) : (txt l).cps.toList = l.map Lt.cd := by simp [txt]
theorem mem_txt {l : List Lt} {c : Nat} (h : c ∈ (txt l).cps.toList) : ∃ x ∈ l, c = x.cd := by
  rw [txt_cps] at h
  obtain ⟨x, hx, e⟩ := List.mem_map.mp h
  exact ⟨x, hx, e.symm⟩
theorem ltOf_fs (l : Lt) : ltOf l.fl l.sg = l := by cases l <;> rfl
/-- a word at v -/
def WAt (H : Hp) (v : V) (p : Int) (l : List Lt) : Prop := ∃ a, v = .ref a ∧ H a = some (.tup [.int p, .str (txt l)])
theorem WAt.mono {H H' : Hp} {v : V} {p : Int} {l : List Lt} (h : WAt H v p l) (e : Same H H') : WAt H' v p l := by
  obtain ⟨a, rfl, h⟩ := h
  exact ⟨a, rfl, e _ _ h⟩
/-! what the head tells, by name -/
structure Txt (K : PySem.W.Frag) (w : World) (mg : Str → Option Value) : Prop where
  len : mg "len" = none
  isi : mg "isinstance" = none
  tup : mg "tuple" = none
  int : mg "int" = none
  bool : mg "bool" = none
  str : mg "str" = none
  all : mg "all" = none
  zip : mg "zip" = none
  sum : mg "sum" = none
  list : mg "list" = none
  max : mg "max" = none
  min : mg "min" = none
  range : mg "range" = none
  repr : mg "repr" = none
  maxp : ∃ t, mg "MAX_PORTS" = some (.int 8 t)
  fac : mg "FACTORS" = some (.ref (He.ga K "FACTORS"))
  let_ : mg "LETTERS" = some (.ref (He.ga K "LETTERS"))
  kd : ∃ es n, KDict K w (He.ga K "FACTORS") es n
  kf : ∀ l : Lt, ∃ a, PySem.W.nsIn K (He.ga K "FACTORS") l.sig = some (some (.ref a)) ∧ ∀ H : Hp, SqT K H a [.int l.fl, .int l.sg]
  kt : KTab K (He.ga K "LETTERS") kvF
abbrev FnP (K : PySem.W.Frag) (d : He.DefD) (fd : FuncData) : Prop := FunD K d.name d.qual d.params d.body d.scope (d.dvs K) (d.kws K) (He.fAd K d.at_) fd
def rInKD (K : PySem.W.Frag) (d : Addr) : R2 := fun x y H Q => ∃ (z : Str) (r : Option Value), x = .str z ∧ y = .ref d ∧ PySem.W.nsIn K d z = some r ∧ Q (.bl r.isSome) H
theorem op_inK {X : Cx} {K : PySem.W.Frag} {w : World} {d : Addr} {es : Array DictEntry} {n : Nat} (D : KDict K w d es n) (hK : X.K = K) (hw : X.w = w) : OpR X (compareOp .In) (rInKD K d) := by
  subst hK hw
  exact op_in_kd D
local macro_rules | `(tactic| walk_at "ar") => `(tactic| first | omega | (simp only [txt_len]; omega) | (rw [sizeLine_eq]; omega) | (rw [sizeLine_eq]; simp only [txt_len]; omega))
local macro_rules | `(tactic| walk_at "rd") => `(tactic| simp only [Rd.seq, Rd.next, Rd.brk, Rd.cont, Rd.drop, Rd.ret, Rd.retN, Rd.ifS, Rd.asg, Rd.par, Rd.par3, Rd.aug, Rd.ipi, Rd.gname, Rd.gnil, Rd.gcons, Rd.gtup, Rd.gsub, Rd.var, Rd.con, Rd.op, Rd.un, Rd.bb, Rd.test, Rd.not, Rd.and, Rd.or, Rd.andV, Rd.orV, Rd.notV, Rd.ifE, Rd.yes, Rd.chain, Rd.ri, Rd.ri0, Rd.ru, Rd.req, Rd.rne, Rd.nil, Rd.cons, Rd.tup, Rd.lst, Rd.cb, Rd.call, Rd.callK, Rd.m0, Rd.m1, Rd.bm0, Rd.bm, Rd.dget, Rd.dput, Rd.disp, Rd.pairs0, Rd.pairs1, Rd.ixL, Rd.ixT, Rd.ixS, Rd.setL, Rd.istr, Rd.ilist, Rd.itup, Rd.irng1, Rd.lc, Rd.for_, Rd.cxK, Rd.blkK,
  wipe, scal, List.set, List.cons.injEq, List.cons_append, List.nil_append, List.append_nil, List.map_cons, List.map_nil, List.length_cons, List.length_nil, Nat.reduceAdd, Nat.reduceSub, Int.cast_ofNat_Int, Int.natCast_zero, Int.natCast_one, List.getElem?_cons_zero, List.getElem?_cons_succ, Option.some.injEq, V.int.injEq, V.bl.injEq, V.str.injEq, V.ref.injEq, exists_eq_left, exists_eq_left', exists_eq', exists_eq, exists_and_left, and_assoc, and_true, true_and, reduceCtorEq, decide_true, decide_false, Bool.not_true, Bool.not_false, Bool.false_eq_true, ite_true, ite_false, if_true, if_false])
local macro_rules | `(tactic| walk_at "kit") => `(tactic| first | exact Rd.kit_tuple_tuple | exact Rd.kit_int_int | exact Rd.kit_int_bool | exact Rd.kit_str_str | exact Rd.kit_tuple_int | exact Rd.kit_tuple_str | exact Rd.kit_list_tuple | exact Rd.kit_int_str | exact Rd.kit_int_tuple | exact Rd.kit_bool_int | exact Rd.kit_bool_bool | exact Rd.kit_str_int | exact Rd.kit_str_tuple)
local macro_rules | `(tactic| walk_at "lh") => `(tactic| first | assumption | exact upd_same | (refine Rd.look_new ?_ (by assumption); walk_at "lh"))
local macro_rules | `(tactic| walk_at "st") => `(tactic| first
  | (with_reducible refine Rd.tup_is (by walk_at "lh") (by walk_at "kit") ?_)
  | (with_reducible refine Rd.int_is (by walk_at "kit") ?_)
  | (with_reducible refine Rd.str_is (by walk_at "kit") ?_)
  | (with_reducible refine Rd.len_tup (by walk_at "lh") ?_)
  | (with_reducible refine Rd.len_lst (by walk_at "lh") ?_)
  | (with_reducible refine Rd.get_tup (by walk_at "lh") ?_)
  | (with_reducible refine Rd.get_lst (by walk_at "lh") ?_)
  | (with_reducible refine Rd.has_tup (by walk_at "lh") ?_)
  | (with_reducible refine Rd.has_lst (by walk_at "lh") ?_)
  | (with_reducible refine Rd.dc_t (by walk_at "ar") ?_)
  | (with_reducible refine Rd.dc_f (by walk_at "ar") ?_)
  | (with_reducible refine Rd.dn_t (by walk_at "ar") ?_)
  | (with_reducible refine Rd.dn_f (by walk_at "ar") ?_)
  | (with_reducible refine ⟨by walk_at "ar", ?_⟩))
local macro_rules | `(tactic| walk_at "go") => `(tactic| repeat (first | walk_at "rd" | walk_at "st"))
section
variable {P : Program} {w : World} {K : PySem.W.Frag} {mg : Str → Option Value} {base : Heap}
/-! is_word -/
def spIsWord : Sp := fun vs H Q _ => ∃ v p l, vs = [v] ∧ WAt H v p l ∧ 0 ≤ p ∧ p ≤ 3 ∧ l.length ≤ 8 ∧ ∀ H', Same H H' → Q (.bl true) H'
theorem sc_is_word : FnScope ["value", "power", "letters", "letter"] ["value"] d_is_word.scope := ⟨rfl, rfl, rfl, by decide +kernel, rfl, by decide +kernel, by decide +kernel⟩
theorem ok_is_word {fd : FuncData} (F : FnP K d_is_word fd) (T : Txt K w mg) : FnOk P w K mg base CX0 1 (He.fAd K d_is_word.at_) fd ["value"] spIsWord := by
  refine F.ok sc_is_word (fun vs H Q E h => ?_) (fun cdv A outer s H vs Q E hr h => ?_)
  · obtain ⟨v, p, l, rfl, _⟩ := h
    rfl
  · obtain ⟨v, p, l, rfl, ⟨a, rfl, ha⟩, h0, h3, hl, q⟩ := h
    obtain ⟨tm, hm⟩ := T.maxp
    obtain ⟨es, n, kd⟩ := T.kd
    refine ⟨_, PSs.nox (pss_cons (ps_if (PW.pt (pw_or (pt_not (pt_val (pe_callB call_isi (by rfl) T.isi (by decide +kernel) (pa_cons (pv 0) (pa_cons (pe_bltn (v := .ty "tuple") (by rfl) T.tup (by decide +kernel) rfl) pa_nil)))))
        (pw_or1 (pt_cmpR op_ne (pe_callB call_len (by rfl) T.len boot_len (pa_cons (pv 0) pa_nil)) pe_int (nomark _))))) (pss_one (ps_ret pe_bl)) pss_nil)
      (pss_cons (ps_asg (pv 0) (pg_tup (n := 2) rfl (pgs_cons (pg_name (i := 1) sc_is_word.nd rfl (.inl rfl)) (pgs_cons (pg_name (i := 2) sc_is_word.nd rfl (.inl rfl)) pgs_nil))))
      (pss_cons (ps_if (PW.pt (pw_or (pt_not (pt_val (pe_callB call_isi (by rfl) T.isi (by decide +kernel) (pa_cons (pv 1) (pa_cons (pe_bltn (v := .ty "int") (by rfl) T.int (by decide +kernel) rfl) pa_nil)))))
        (pw_or (pt_val (pe_callB call_isi (by rfl) T.isi (by decide +kernel) (pa_cons (pv 1) (pa_cons (pe_bltn (v := .ty "bool") (by rfl) T.bool (by decide +kernel) rfl) pa_nil))))
        (pw_or1 (pt_not (pt_chain op_le op_le pe_int (pv 1) pe_int)))))) (pss_one (ps_ret pe_bl)) pss_nil)
      (pss_cons (ps_if (PW.pt (pw_or (pt_not (pt_val (pe_callB call_isi (by rfl) T.isi (by decide +kernel) (pa_cons (pv 2) (pa_cons (pe_bltn (v := .ty "str") (by rfl) T.str (by decide +kernel) rfl) pa_nil)))))
        (pw_or1 (pt_cmpR op_gt (pe_callB call_len_str (by rfl) T.len boot_len (pa_cons (pv 2) pa_nil)) (pe_glob (v := .int 8) (by rfl) hm ⟨_, rfl⟩) (nomark _))))) (pss_one (ps_ret pe_bl)) pss_nil)
      (pss_one (ps_ret (pe_callB (cr_all rfl) (by rfl) T.all (by decide +kernel) (pa_cons (pe_lc (own := [("letter", 3)]) (g := gName 3) (tt := tYes) rfl sc_is_word.nd (pi_str (pv 2)) (blkOk_by (N := ["value", "power", "letters", "letter"]) (sc := d_is_word.scope) (by decide +kernel))
        (fun _ _ _ _ _ => pg_name (i := 3) sc_is_word.nd rfl (Or.inl rfl)) (fun _ _ _ _ _ => pts_nil) (fun _ _ _ _ _ => pe_cmpR (op_inK kd rfl rfl) (pv 3) (pe_glob (v := .ref (He.ga K "FACTORS")) (by rfl) T.fac rfl) (by rfl))) pa_nil)))))))), ?_⟩
    rw [show L2.start ["value", "power", "letters", "letter"] [V.ref a] = [some (V.ref a), none, none, none] from rfl]
    walk_at "go"
    refine Rd.lc_str (fun _ => .bl true) (by walk_at "ar") (fun c hc H' s1 R h1 => ?_) fun D H' hD s1 hL => ?_
    · obtain ⟨x, _, rfl⟩ := mem_txt hc
      obtain ⟨a2, e2, _⟩ := T.kf x
      walk_at "rd"
      exact ⟨_, _, rfl, rfl, e2, h1 _ (Same.refl _)⟩
    · refine ⟨D, l.map fun _ => true, rfl, .inl (.inl ?_), ?_⟩
      · rw [hL, txt_cps, List.map_map, List.map_map]
        rfl
      · rw [show (l.map fun _ => true).all id = true by simp]
        exact q _ s1
end
end K51


set_option Elab.async false
set_option linter.all false
set_option maxRecDepth 100000
set_option maxHeartbeats 4000000
namespace K51
open PySem PySem.Spec PyProof.Rows L2
/-! texts of letters -/
theorem cnt_Y : ∀ l : List Lt, cnt 89 (l.map Lt.cd) = cY l
  | [] => rfl
  | a :: l => by
    rw [List.map_cons, cnt_cons, cnt_Y l]
    unfold cY
    rw [List.count_cons]
    cases a <;> simp [Lt.cd] <;> omega
theorem count_Y (l : List Lt) : Txt.count (txt l) ⟨#[89]⟩ = cY l := by
  rw [count_cnt, txt_cps, cnt_Y]
theorem glue_lt : ∀ (r : List Lt) (acc : Array Nat), (r.map Lt.sig).foldl (fun acc p => acc ++ (#[] : Array Nat) ++ p.cps) acc = acc ++ (r.map Lt.cd).toArray
  | [], acc => by simp
  | a :: r, acc => by
    rw [List.map_cons, List.foldl_cons, glue_lt r]
    simp [Lt.sig]
theorem join_lt (l : List Lt) : Txt.join ⟨#[]⟩ (l.map Lt.sig) = txt l := by
  show Builtin.Str.glued _ _ = _
  unfold Builtin.Str.glued
  cases l with
  | nil => rfl
  | cons a r =>
    rw [List.map_cons, List.drop_one, List.tail_cons, List.headD_cons]
    have := glue_lt r a.sig.cps
    rw [show (⟨#[]⟩ : Str).cps = #[] from rfl, this]
    simp [txt, Lt.sig]
theorem len_sigs : ∀ l : List Lt, ((l.map Lt.sig).map (·.length)).sum = l.length
  | [] => rfl
  | a :: l => by
    rw [List.map_cons, List.map_cons, List.sum_cons, len_sigs l, List.length_cons]
    show 1 + l.length = _
    omega
theorem cY_le (l : List Lt) : 0 ≤ cY l ∧ cY l ≤ l.length := by
  unfold cY
  have := List.count_le_length (a := Lt.Y) (l := l)
  omega
def flC (c : Nat) : Int := if c = 88 ∨ c = 89 then 1 else 0
def sgC (c : Nat) : Int := if c = 89 ∨ c = 90 then 1 else 0
theorem flC_cd (l : Lt) : flC l.cd = l.fl := by cases l <;> rfl
theorem sgC_cd (l : Lt) : sgC l.cd = l.sg := by cases l <;> rfl
theorem fl_ltOf {f s : Int} (hf : f = 0 ∨ f = 1) : (ltOf f s).fl = f := by
  rcases hf with rfl | rfl <;> unfold ltOf <;> by_cases h : s = 0 <;> simp [h, Lt.fl]
theorem sg_ltOf {f s : Int} (hs : s = 0 ∨ s = 1) : (ltOf f s).sg = s := by
  rcases hs with rfl | rfl <;> unfold ltOf <;> by_cases h : f = 0 <;> simp [h, Lt.sg]
theorem bit2 (x y : Int) : (x + y) % 2 = 0 ∨ (x + y) % 2 = 1 := by omega
theorem mulL_fl : ∀ l r : List Lt, (mulL l r).map Lt.fl = List.zipWith (fun x y => (x + y) % 2) (l.map Lt.fl) (r.map Lt.fl)
  | [], _ => by simp [mulL]
  | _ :: _, [] => by simp [mulL]
  | a :: l, b :: r => by
    simp only [mulL, List.map_cons, List.zipWith_cons_cons]
    rw [mulL_fl l r, fl_ltOf (bit2 _ _)]
theorem mulL_sg : ∀ l r : List Lt, (mulL l r).map Lt.sg = List.zipWith (fun x y => (x + y) % 2) (l.map Lt.sg) (r.map Lt.sg)
  | [], _ => by simp [mulL]
  | _ :: _, [] => by simp [mulL]
  | a :: l, b :: r => by
    simp only [mulL, List.map_cons, List.zipWith_cons_cons]
    rw [mulL_sg l r, sg_ltOf (bit2 _ _)]
theorem mulL_len : ∀ {l r : List Lt}, l.length = r.length → (mulL l r).length = l.length
  | [], _, _ => rfl
  | _ :: _, [], h => by cases h
  | a :: l, b :: r, h => by
    rw [mulL, List.length_cons, mulL_len (Nat.succ.inj h), List.length_cons]
theorem exL_sum : ∀ l r : List Lt, (List.zipWith (fun x y => x * y) (l.map Lt.sg) (r.map Lt.fl)).sum = exL l r
  | [], _ => by simp [exL]
  | _ :: _, [] => by simp [exL]
  | a :: l, b :: r => by
    simp only [exL, List.map_cons, List.zipWith_cons_cons, List.sum_cons]
    rw [exL_sum l r]
/-! rules -/
def rIxKT (K : PySem.W.Frag) (d : Addr) : R2 := fun x y H Q => ∃ p ks v, x = .ref d ∧ y = .ref p ∧ SqT K H p (ks.map V.int) ∧ kvF.lookup ks = some v ∧ Q v H
theorem ixKT {X : Cx} {K : PySem.W.Frag} {d : Addr} (D : KTab K d kvF) (hK : X.K = K) (hu : X.A.units + 1 < cLine) : IxR X (rIxKT K d) := by
  subst hK
  exact ix_kt D (by decide) hu
theorem kvF_lt (l : Lt) : kvF.lookup [l.fl, l.sg] = some (.str l.sig) := by cases l <;> rfl
local macro_rules | `(tactic| walk_at "ar") => `(tactic| first | omega | (simp only [txt_len]; omega) | (rw [sizeLine_eq]; omega) | (rw [sizeLine_eq]; simp only [txt_len]; omega))
local macro_rules | `(tactic| walk_at "rd") => `(tactic| simp only [Rd.seq, Rd.next, Rd.brk, Rd.cont, Rd.drop, Rd.ret, Rd.retN, Rd.ifS, Rd.asg, Rd.par, Rd.par3, Rd.aug, Rd.ipi, Rd.gname, Rd.gnil, Rd.gcons, Rd.gtup, Rd.gsub, Rd.var, Rd.con, Rd.op, Rd.un, Rd.bb, Rd.test, Rd.not, Rd.and, Rd.or, Rd.andV, Rd.orV, Rd.notV, Rd.ifE, Rd.yes, Rd.chain, Rd.ri, Rd.ri0, Rd.ru, Rd.req, Rd.rne, Rd.nil, Rd.cons, Rd.tup, Rd.lst, Rd.cb, Rd.call, Rd.callK, Rd.m0, Rd.m1, Rd.bm0, Rd.bm, Rd.dget, Rd.dput, Rd.disp, Rd.pairs0, Rd.pairs1, Rd.ixL, Rd.ixT, Rd.ixS, Rd.setL, Rd.istr, Rd.ilist, Rd.itup, Rd.irng1, Rd.lc, Rd.for_, Rd.at0, Rd.at1, Rd.at2, Rd.at3, Rd.isN, Rd.notN, Rd.ixD, Rd.cnt, Rd.jn, Rd.thn, Rd.sum, Rd.app, Rd.cxK, Rd.blkK,
  wipe, scal, List.set, List.cons.injEq, List.cons_append, List.nil_append, List.append_nil, List.map_cons, List.map_nil, List.length_cons, List.length_nil, Nat.reduceAdd, Nat.reduceSub, Int.cast_ofNat_Int, Int.natCast_zero, Int.natCast_one, List.getElem?_cons_zero, List.getElem?_cons_succ, Option.some.injEq, V.int.injEq, V.bl.injEq, V.str.injEq, V.ref.injEq, exists_eq_left, exists_eq_left', exists_eq', exists_eq, exists_and_left, and_assoc, and_true, true_and, reduceCtorEq, decide_true, decide_false, Bool.not_true, Bool.not_false, Bool.false_eq_true, ite_true, ite_false, if_true, if_false])
local macro_rules | `(tactic| walk_at "kit") => `(tactic| first | exact Rd.kit_tuple_tuple | exact Rd.kit_int_int | exact Rd.kit_int_bool | exact Rd.kit_str_str | exact Rd.kit_tuple_int | exact Rd.kit_tuple_str | exact Rd.kit_list_tuple | exact Rd.kit_int_str | exact Rd.kit_int_tuple | exact Rd.kit_bool_int | exact Rd.kit_bool_bool | exact Rd.kit_str_int | exact Rd.kit_str_tuple)
local macro_rules | `(tactic| walk_at "lh") => `(tactic| first | assumption | exact upd_same | (refine Rd.look_new ?_ (by assumption); walk_at "lh"))
local macro_rules | `(tactic| walk_at "st") => `(tactic| first
  | (with_reducible refine Rd.tup_is (by walk_at "lh") (by walk_at "kit") ?_)
  | (with_reducible refine Rd.int_is (by walk_at "kit") ?_)
  | (with_reducible refine Rd.str_is (by walk_at "kit") ?_)
  | (with_reducible refine Rd.len_tup (by walk_at "lh") ?_)
  | (with_reducible refine Rd.len_lst (by walk_at "lh") ?_)
  | (with_reducible refine Rd.get_tup (by walk_at "lh") ?_)
  | (with_reducible refine Rd.get_lst (by walk_at "lh") ?_)
  | (with_reducible refine Rd.has_tup (by walk_at "lh") ?_)
  | (with_reducible refine Rd.has_lst (by walk_at "lh") ?_)
  | (with_reducible refine Rd.dc_t (by walk_at "ar") ?_)
  | (with_reducible refine Rd.dc_f (by walk_at "ar") ?_)
  | (with_reducible refine Rd.dn_t (by walk_at "ar") ?_)
  | (with_reducible refine Rd.dn_f (by walk_at "ar") ?_)
  | (with_reducible refine ⟨by walk_at "ar", ?_⟩))
local macro_rules | `(tactic| walk_at "go") => `(tactic| repeat (first | walk_at "rd" | walk_at "st"))

section
variable {P : Program} {w : World} {K : PySem.W.Frag} {mg : Str → Option Value} {base : Heap}
/-! need_word -/
def spNeed : Sp := fun vs H Q _ => ∃ v c p l, vs = [v, c] ∧ WAt H v p l ∧ 0 ≤ p ∧ p ≤ 3 ∧ l.length ≤ 8 ∧ (c = .non ∨ c = .int l.length) ∧ ∀ H', Same H H' → Q .non H'
abbrev NN_need_word : List Str := ["value", "count"]
theorem sc_need_word : FnScope NN_need_word ["value", "count"] d_need_word.scope := ⟨rfl, rfl, rfl, by decide +kernel, rfl, by decide +kernel, by decide +kernel⟩
theorem ok_need_word {fd : FuncData} (F : FnP K d_need_word fd) (T : Txt K w mg) (C_is_word : Rd.Cal P w K mg base 1 "is_word" spIsWord []) : FnOk P w K mg base CX0 2 (He.fAd K d_need_word.at_) fd ["value", "count"] spNeed := by
  refine F.ok sc_need_word (fun vs H Q E h => ?_) (fun cdv A outer s H vs Q E hr h => ?_)
  · obtain ⟨v, c, p, l, rfl, _⟩ := h
    rfl
  · obtain ⟨v, c, p, l, rfl, ⟨a, rfl, ha⟩, h0, h3, hl, hc, q⟩ := h
    refine ⟨_, PSs.nox (pss_cons (ps_if (pt_not (pt_val (Rd.pe_c C_is_word hr (by decide) (by rfl) (pa_cons (pv 0) pa_nil))))
      pss_never
      pss_nil)
      (pss_one (ps_if (PW.pt (pw_and (pt_cmpR op_notN1 (pv 1) pe_non (nomark _)) (pw_and1 (pt_cmpR op_ne (pe_callB call_len_str (by rfl) T.len boot_len (pa_cons (pe_ix (Rd.ixT_ (K := K) rfl) (pv 0) pe_int (fun _ _ => rfl)) pa_nil)) (pv 1) (nomark _)))))
      pss_never
      pss_nil))), ?_⟩
    rw [show L2.start NN_need_word [V.ref a, c] = [some (V.ref a), some c] from rfl]
    walk_at "go"
    refine ⟨_, _, _, rfl, ⟨a, rfl, ha⟩, h0, h3, hl, fun H1 s1 => ?_⟩
    have ha1 := s1 _ _ ha
    walk_at "go"
    rcases hc with rfl | rfl
    · walk_at "go"
      exact q _ s1
    · walk_at "go"
      exact Rd.dn_f (by rw [txt_len]) (q _ s1)
/-! factored -/
def spFactored : Sp := fun vs H Q _ => ∃ v p l, vs = [v] ∧ WAt H v p l ∧ l.length ≤ 8 ∧ ∀ H' r f s, Same H H' → H' r = some (.tup [.int (p + cY l), .ref f, .ref s]) → H' f = some (.lst (l.map fun x => .int x.fl)) → H' s = some (.lst (l.map fun x => .int x.sg)) → Q (.ref r) H'
abbrev NN_factored : List Str := ["word", "power", "letters", "flips", "signs", "letter"]
theorem sc_factored : FnScope NN_factored ["word"] d_factored.scope := ⟨rfl, rfl, rfl, by decide +kernel, rfl, by decide +kernel, by decide +kernel⟩
theorem ok_factored {fd : FuncData} (F : FnP K d_factored fd) (T : Txt K w mg) : FnOk P w K mg base CX0 1 (He.fAd K d_factored.at_) fd ["word"] spFactored := by
  refine F.ok sc_factored (fun vs H Q E h => ?_) (fun cdv A outer s H vs Q E hr h => ?_)
  · obtain ⟨v, p, l, rfl, _⟩ := h
    rfl
  · obtain ⟨v, p, l, rfl, ⟨a, rfl, ha⟩, hl, q⟩ := h
    obtain ⟨es, n, kd⟩ := T.kd
    refine ⟨_, PSs.nox (pss_cons (ps_asg (pv 0) (pg_tup (n := 2) rfl (pgs_cons (pg_name (i := 1) sc_factored.nd rfl (.inl rfl)) (pgs_cons (pg_name (i := 2) sc_factored.nd rfl (.inl rfl)) pgs_nil))))
      (pss_cons (ps_setLc (i := 3) (own := [("letter", 5)]) (tt := tYes) rfl sc_factored.nd rfl rfl (sw_true rfl rfl rfl (by decide +kernel)) (pi_str (pv 2)) (blkOk_by (N := NN_factored) (sc := d_factored.scope) (by decide +kernel)) (fun _ _ _ _ _ => (pg_name (i := 5) sc_factored.nd rfl (.inl rfl))) (fun _ _ _ _ _ => pts_nil) (fun _ _ _ _ _ => (pe_ix (Rd.ixT_ (K := K) rfl) (pe_ix (Rd.kd_ (K := K) (w := w) rfl rfl) (pe_glob (v := (.ref (He.ga K "FACTORS"))) (by rfl) T.fac rfl) (pv 5) (fun _ _ => rfl)) pe_int (fun _ _ => rfl))))
      (pss_cons (ps_setLc (i := 4) (own := [("letter", 5)]) (tt := tYes) rfl sc_factored.nd rfl rfl (sw_true rfl rfl rfl (by decide +kernel)) (pi_str (pv 2)) (blkOk_by (N := NN_factored) (sc := d_factored.scope) (by decide +kernel)) (fun _ _ _ _ _ => (pg_name (i := 5) sc_factored.nd rfl (.inl rfl))) (fun _ _ _ _ _ => pts_nil) (fun _ _ _ _ _ => (pe_ix (Rd.ixT_ (K := K) rfl) (pe_ix (Rd.kd_ (K := K) (w := w) rfl rfl) (pe_glob (v := (.ref (He.ga K "FACTORS"))) (by rfl) T.fac rfl) (pv 5) (fun _ _ => rfl)) pe_int (fun _ _ => rfl))))
      (pss_one (ps_ret (pe_tup (pa_cons (pe_op op_add (pv 1) (Rd.cnt_ (pv 2) pe_str)) (pa_cons (pv 3) (pa_cons (pv 4) pa_nil))))))))), ?_⟩
    rw [show L2.start NN_factored [V.ref a] = [some (V.ref a), none, none, none, none, none] from rfl]
    walk_at "go"
    refine Rd.lc_str (fun c => .int (flC c)) (by walk_at "ar") (fun c hc H' s1 R h1 => ?_) fun D H' hD s1 hL => ?_
    · obtain ⟨x, _, rfl⟩ := mem_txt hc
      obtain ⟨a2, e2, e3⟩ := T.kf x
      have dk : KDct K w (He.ga K "FACTORS") x.sig (.ref a2) := ⟨es, n, _, kd.1, kd.2, e2, rfl⟩
      rw [flC_cd] at h1
      walk_at "go"
      exact ⟨_, dk, _, rfl, _, e3 _, _, rfl, h1 _ (Same.refl _)⟩
    · walk_at "go"
      refine Rd.lc_str (fun c => .int (sgC c)) (by walk_at "ar") (fun c hc H' s1 R h1 => ?_) fun D2 H2 hD2 s2 hL2 => ?_
      · obtain ⟨x, _, rfl⟩ := mem_txt hc
        obtain ⟨a2, e2, e3⟩ := T.kf x
        have dk : KDct K w (He.ga K "FACTORS") x.sig (.ref a2) := ⟨es, n, _, kd.1, kd.2, e2, rfl⟩
        rw [sgC_cd] at h1
        walk_at "go"
        exact ⟨_, dk, _, rfl, _, e3 _, _, rfl, h1 _ (Same.refl _)⟩
      · walk_at "go"
        intro r hr
        rw [show (Str.ofString "Y") = (⟨#[89]⟩ : Str) from by decide, count_Y]
        refine q _ r D D2 ((s1.trans s2).trans (Rd.same_new hr)) upd_same (Rd.look_new (s2 _ _ ?_) hr) (Rd.look_new ?_ hr)
        · rw [hL, txt_cps, List.map_map]
          exact congrArg (fun z => some (HO.lst z)) (List.map_congr_left fun x _ => congrArg V.int (flC_cd x))
        · rw [hL2, txt_cps, List.map_map]
          exact congrArg (fun z => some (HO.lst z)) (List.map_congr_left fun x _ => congrArg V.int (sgC_cd x))
end
end K51


set_option Elab.async false
set_option linter.all false
set_option maxRecDepth 100000
set_option maxHeartbeats 4000000
namespace K51
open PySem PySem.Spec PyProof.Rows L2
local macro_rules | `(tactic| walk_at "ar") => `(tactic| first | omega | (simp only [txt_len]; omega) | (rw [sizeLine_eq]; omega) | (rw [sizeLine_eq]; simp only [txt_len]; omega))
local macro_rules | `(tactic| walk_at "rd") => `(tactic| simp only [Rd.seq, Rd.next, Rd.brk, Rd.cont, Rd.drop, Rd.ret, Rd.retN, Rd.ifS, Rd.asg, Rd.par, Rd.par3, Rd.aug, Rd.ipi, Rd.gname, Rd.gnil, Rd.gcons, Rd.gtup, Rd.gsub, Rd.var, Rd.con, Rd.op, Rd.un, Rd.bb, Rd.test, Rd.not, Rd.and, Rd.or, Rd.andV, Rd.orV, Rd.notV, Rd.ifE, Rd.yes, Rd.chain, Rd.ri, Rd.ri0, Rd.ru, Rd.req, Rd.rne, Rd.nil, Rd.cons, Rd.tup, Rd.lst, Rd.cb, Rd.call, Rd.callK, Rd.m0, Rd.m1, Rd.bm0, Rd.bm, Rd.dget, Rd.dput, Rd.disp, Rd.pairs0, Rd.pairs1, Rd.ixL, Rd.ixT, Rd.ixS, Rd.setL, Rd.istr, Rd.ilist, Rd.itup, Rd.irng1, Rd.lc, Rd.for_, Rd.at0, Rd.at1, Rd.at2, Rd.at3, Rd.isN, Rd.notN, Rd.ixD, Rd.cnt, Rd.jn, Rd.thn, Rd.sum, Rd.app, Rd.cxK, Rd.blkK,
  wipe, scal, List.set, List.cons.injEq, List.cons_append, List.nil_append, List.append_nil, List.map_cons, List.map_nil, List.length_cons, List.length_nil, Nat.reduceAdd, Nat.reduceSub, Int.cast_ofNat_Int, Int.natCast_zero, Int.natCast_one, List.getElem?_cons_zero, List.getElem?_cons_succ, Option.some.injEq, V.int.injEq, V.bl.injEq, V.str.injEq, V.ref.injEq, exists_eq_left, exists_eq_left', exists_eq', exists_eq, exists_and_left, and_assoc, and_true, true_and, reduceCtorEq, decide_true, decide_false, Bool.not_true, Bool.not_false, Bool.false_eq_true, ite_true, ite_false, if_true, if_false])
local macro_rules | `(tactic| walk_at "kit") => `(tactic| first | exact Rd.kit_tuple_tuple | exact Rd.kit_int_int | exact Rd.kit_int_bool | exact Rd.kit_str_str | exact Rd.kit_tuple_int | exact Rd.kit_tuple_str | exact Rd.kit_list_tuple | exact Rd.kit_int_str | exact Rd.kit_int_tuple | exact Rd.kit_bool_int | exact Rd.kit_bool_bool | exact Rd.kit_str_int | exact Rd.kit_str_tuple)
local macro_rules | `(tactic| walk_at "lh") => `(tactic| first | assumption | exact upd_same | (refine Rd.look_new ?_ (by assumption); walk_at "lh"))
local macro_rules | `(tactic| walk_at "st") => `(tactic| first
  | (with_reducible refine Rd.tup_is (by walk_at "lh") (by walk_at "kit") ?_)
  | (with_reducible refine Rd.int_is (by walk_at "kit") ?_)
  | (with_reducible refine Rd.str_is (by walk_at "kit") ?_)
  | (with_reducible refine Rd.len_tup (by walk_at "lh") ?_)
  | (with_reducible refine Rd.len_lst (by walk_at "lh") ?_)
  | (with_reducible refine Rd.get_tup (by walk_at "lh") ?_)
  | (with_reducible refine Rd.get_lst (by walk_at "lh") ?_)
  | (with_reducible refine Rd.has_tup (by walk_at "lh") ?_)
  | (with_reducible refine Rd.has_lst (by walk_at "lh") ?_)
  | (with_reducible refine Rd.dc_t (by walk_at "ar") ?_)
  | (with_reducible refine Rd.dc_f (by walk_at "ar") ?_)
  | (with_reducible refine Rd.dn_t (by walk_at "ar") ?_)
  | (with_reducible refine Rd.dn_f (by walk_at "ar") ?_)
  | (with_reducible refine ⟨by walk_at "ar", ?_⟩))
local macro_rules | `(tactic| walk_at "go") => `(tactic| repeat (first | walk_at "rd" | walk_at "st"))

/-- two tracked lists, in pairs, into values -/
theorem zip_vals (xs ys : List Int) (f : Int → Int → Int) (n : Nat) (h1 : xs.length = n) (h2 : ys.length = n) :
    (List.range n).map (fun i => V.int (f (xs.getD i 0) (ys.getD i 0))) = (List.zipWith f xs ys).map V.int := by
  apply List.ext_getElem?
  intro i
  by_cases hi : i < n
  · simp [hi, List.getElem?_zipWith, h1, h2]
  · rw [List.getElem?_eq_none (by simp; omega), List.getElem?_eq_none (by simp; omega)]
theorem lc_zs {K : PySem.W.Frag} {a b : Addr} {xs ys : List V} {n : Nat} {g : TG} {te : TE} {vs : List Nat} {σ : L2.St} {H : Hp} {Q : VK} (f : Nat → V) (ha : SqL K H a xs) (hb : SqL K H b ys) (h1 : xs.length = n) (h2 : ys.length = n) (hn : n < sizeLine)
    (hs : ∀ i x y T H', i < n → xs[i]? = some x → ys[i]? = some y → Same H H' → H' T = none → ∀ (R : V → Hp → Prop), (∀ H4, Same (upd H' T (.tup [x, y])) H4 → R (f i) H4) → g (.ref T) (wipe σ vs) (upd H' T (.tup [x, y])) fun σ2 H2 => wipe σ2 vs = wipe σ vs ∧ te σ2 H2 R)
    (hq : ∀ D H', H D = none → Same H H' → H' D = some (.lst ((List.range n).map f)) → Q (.ref D) H') : Rd.LcB (Itzs K a b) g tYes te vs σ H Q := by
  refine Rd.lc_map (walk_zs h1 h2) f (fun H' s => ⟨s.seq ha, s.seq hb⟩) hn (fun i x H' H'' hi s y R h => ?_) hq
  obtain ⟨T, x1, y1, rfl, hT, rfl, e1, e2⟩ := y
  exact hs i x1 y1 T H' hi e1 e2 s hT R fun H4 s4 => h H4 ((Rd.same_new hT).trans s4)
theorem zs_in {K : PySem.W.Frag} {ta : TA} {σ : L2.St} {H : Hp} {R : It → Hp → Prop} {a b : Addr} {xs ys : List V} (ha : SqL K H a xs) (hb : SqL K H b ys) (e : ∀ S : List V → Hp → Prop, S [.ref a, .ref b] H → ta σ H S) (q : R (Itzs K a b) H) : iZs K ta σ H R :=
  e _ ⟨a, b, xs, ys, rfl, ha, hb, q⟩
theorem get_map {α : Type} {l : List α} {f : α → V} {i : Nat} {x : V} (d : α) (h : (l.map f)[i]? = some x) : x = f (l.getD i d) ∧ l.getD i d ∈ l := by
  rw [List.getElem?_map] at h
  cases e : l[i]? with
  | none =>
    rw [e] at h
    cases h
  | some y =>
    rw [e] at h
    have : l.getD i d = y := by simp [List.getD, e]
    rw [this]
    exact ⟨(Option.some.inj h).symm, List.mem_of_getElem? e⟩
section
variable {P : Program} {w : World} {K : PySem.W.Frag} {mg : Str → Option Value} {base : Heap}
/-! spelled -/
def spSpelled : Sp := fun vs H Q _ => ∃ p f g l, vs = [.int p, .ref f, .ref g] ∧ H f = some (.lst ((l.map Lt.fl).map V.int)) ∧ H g = some (.lst ((l.map Lt.sg).map V.int)) ∧ l.length ≤ 8 ∧ ∀ H' v, Same H H' → WAt H' v ((p - cY l) % 4) l → Q v H'
abbrev NN_spelled : List Str := ["power", "flips", "signs", "letters", "factors"]
theorem sc_spelled : FnScope NN_spelled ["power", "flips", "signs"] d_spelled.scope := ⟨rfl, rfl, rfl, by decide +kernel, rfl, by decide +kernel, by decide +kernel⟩
theorem ok_spelled {fd : FuncData} (F : FnP K d_spelled fd) (T : Txt K w mg) : FnOk P w K mg base CX0 1 (He.fAd K d_spelled.at_) fd ["power", "flips", "signs"] spSpelled := by
  refine F.ok sc_spelled (fun vs H Q E h => ?_) (fun cdv A outer s H vs Q E hr h => ?_)
  · obtain ⟨p, f, g, l, rfl, _⟩ := h
    rfl
  · obtain ⟨p, f, g, l, rfl, hf, hg, hl, q⟩ := h
    have hu1 := hu_of hr
    refine ⟨_, PSs.nox (pss_cons (ps_set (i := 3) sc_spelled.nd rfl (.inl rfl) (Rd.join_ (K := K) rfl pe_str (pe_lc (own := [("factors", 4)]) (tt := tYes) rfl sc_spelled.nd (pi_zs (by rfl) T.zip (pa_cons (pv 1) (pa_cons (pv 2) pa_nil))) (blkOk_by (N := NN_spelled) (sc := d_spelled.scope) (by decide +kernel)) (fun _ _ _ _ _ => by exact (pg_name (i := 4) sc_spelled.nd rfl (.inl rfl))) (fun _ _ _ _ _ => pts_nil) (fun _ _ _ _ _ => (pe_ix (ixKT (K := K) T.kt rfl hu1) (pe_glob (v := (.ref (He.ga K "LETTERS"))) (by rfl) T.let_ rfl) (pv 4) (fun _ _ => rfl))))))
      (pss_one (ps_ret (pe_tup (pa_cons (pe_op op_mod (pe_op op_sub (pv 0) (Rd.cnt_ (pv 3) pe_str)) pe_int) (pa_cons (pv 3) pa_nil)))))), ?_⟩
    rw [show L2.start NN_spelled [.int p, .ref f, .ref g] = [some (.int p), some (.ref f), some (.ref g), none, none] from rfl]
    walk_at "go"
    refine zs_in (.inl (.inl hf)) (.inl (.inl hg)) (fun S h => by walk_at "go"; exact h) ?_
    refine lc_zs (n := l.length) (fun i => .str (l.getD i .I).sig) (.inl (.inl hf)) (.inl (.inl hg)) (by simp) (by simp) (by walk_at "ar") (fun i x y T H' hi hx hy s1 hT R h1 => ?_) fun D H1 hD s1 hL => ?_
    · rw [List.map_map] at hx hy
      obtain ⟨rfl, _⟩ := get_map Lt.I hx
      obtain ⟨rfl, _⟩ := get_map Lt.I hy
      walk_at "go"
      exact ⟨_, [_, _], _, rfl, rfl, .inl (.inl upd_same), kvF_lt _, h1 _ (Same.refl _)⟩
    · have e1 : (List.range l.length).map (fun i => V.str (l.getD i .I).sig) = (l.map Lt.sig).map V.str := by
        rw [List.map_map]
        exact Rd.range_map l _ _ fun i x e => by simp [List.getD, e]
      rw [e1] at hL
      walk_at "go"
      refine ⟨l.map Lt.sig, .inl (.inl (.inl hL)), ?_, ?_⟩
      · rw [len_sigs]
        simp only [Str.ofString]
        show l.length + _ * 0 ≤ _
        omega
      rw [show (Str.ofString "") = (⟨#[]⟩ : Str) from by decide, show (Str.ofString "Y") = (⟨#[89]⟩ : Str) from by decide, join_lt, count_Y]
      walk_at "go"
      intro r hr
      exact q _ _ (s1.trans (Rd.same_new hr)) ⟨r, rfl, upd_same⟩
/-! added_bits -/
def spAdded : Sp := fun vs H Q _ => ∃ f g xs ys, vs = [.ref f, .ref g] ∧ H f = some (.lst ((xs : List Int).map V.int)) ∧ H g = some (.lst ((ys : List Int).map V.int)) ∧ xs.length ≤ 8 ∧ ys.length = xs.length ∧
    ∀ H' c, Same H H' → H' c = some (.lst ((List.zipWith (fun x y => (x + y) % 2) xs ys).map V.int)) → Q (.ref c) H'
abbrev NN_added_bits : List Str := ["bits", "other_bits", "bit", "other"]
theorem sc_added_bits : FnScope NN_added_bits ["bits", "other_bits"] d_added_bits.scope := ⟨rfl, rfl, rfl, by decide +kernel, rfl, by decide +kernel, by decide +kernel⟩
theorem ok_added_bits {fd : FuncData} (F : FnP K d_added_bits fd) (T : Txt K w mg) : FnOk P w K mg base CX0 1 (He.fAd K d_added_bits.at_) fd ["bits", "other_bits"] spAdded := by
  refine F.ok sc_added_bits (fun vs H Q E h => ?_) (fun cdv A outer s H vs Q E hr h => ?_)
  · obtain ⟨f, g, xs, ys, rfl, _⟩ := h
    rfl
  · obtain ⟨f, g, xs, ys, rfl, hf, hg, hl, hl2, q⟩ := h
    refine ⟨_, PSs.nox (pss_one (ps_ret (pe_lc (own := [("bit", 2), ("other", 3)]) (tt := tYes) (g := gTup K 2 (gCons (gName 2) (gCons (gName 3) gNil))) rfl sc_added_bits.nd (pi_zs (by rfl) T.zip (pa_cons (pv 0) (pa_cons (pv 1) pa_nil))) (blkOk_by (N := NN_added_bits) (sc := d_added_bits.scope) (by decide +kernel)) (fun _ _ _ _ _ => by exact (pg_tup (n := 2) rfl (pgs_cons (pg_name (i := 2) sc_added_bits.nd rfl (.inl rfl)) (pgs_cons (pg_name (i := 3) sc_added_bits.nd rfl (.inl rfl)) pgs_nil)))) (fun _ _ _ _ _ => pts_nil) (fun _ _ _ _ _ => (pe_op op_mod (pe_op op_add (pv 2) (pv 3)) pe_int))))), ?_⟩
    rw [show L2.start NN_added_bits [.ref f, .ref g] = [some (.ref f), some (.ref g), none, none] from rfl]
    walk_at "go"
    refine zs_in (.inl (.inl hf)) (.inl (.inl hg)) (fun S h => by walk_at "go"; exact h) ?_
    refine lc_zs (n := xs.length) (fun i => .int ((xs.getD i 0 + ys.getD i 0) % 2)) (.inl (.inl hf)) (.inl (.inl hg)) (by simp) (by simp [hl2]) (by walk_at "ar") (fun i x y T H' hi hx hy s1 hT R h1 => ?_) fun D H1 hD s1 hL => ?_
    · obtain ⟨rfl, _⟩ := get_map (0 : Int) hx
      obtain ⟨rfl, _⟩ := get_map (0 : Int) hy
      walk_at "go"
      exact h1 _ (Same.refl _)
    · rw [zip_vals xs ys (fun x y => (x + y) % 2) _ rfl hl2] at hL
      exact q _ _ s1 hL
/-! multiplied -/
def spMul : Sp := fun vs H Q _ => ∃ v1 v2 p1 l1 p2 l2, vs = [v1, v2] ∧ WAt H v1 p1 l1 ∧ WAt H v2 p2 l2 ∧ l1.length ≤ 8 ∧ l2.length = l1.length ∧ ∀ H' v, Same H H' → WAt H' v (mulP p1 l1 p2 l2) (mulL l1 l2) → Q v H'
abbrev NN_multiplied : List Str := ["word", "second_word", "power", "flips", "signs", "second_power", "second_flips", "second_signs", "exchanged", "sign", "flip"]
theorem sc_multiplied : FnScope NN_multiplied ["word", "second_word"] d_multiplied.scope := ⟨rfl, rfl, rfl, by decide +kernel, rfl, by decide +kernel, by decide +kernel⟩
theorem ok_multiplied {fd : FuncData} (F : FnP K d_multiplied fd) (T : Txt K w mg) (C_factored : Rd.Cal P w K mg base 1 "factored" spFactored []) (C_spelled : Rd.Cal P w K mg base 1 "spelled" spSpelled []) (C_added_bits : Rd.Cal P w K mg base 1 "added_bits" spAdded []) : FnOk P w K mg base CX0 2 (He.fAd K d_multiplied.at_) fd ["word", "second_word"] spMul := by
  refine F.ok sc_multiplied (fun vs H Q E h => ?_) (fun cdv A outer s H vs Q E hr h => ?_)
  · obtain ⟨v1, v2, p1, l1, p2, l2, rfl, _⟩ := h
    rfl
  · obtain ⟨v1, v2, p1, l1, p2, l2, rfl, w1, w2, h1, h2, q⟩ := h
    refine ⟨_, PSs.nox (pss_cons (ps_asg (Rd.pe_c C_factored hr (by decide) (by rfl) (pa_cons (pv 0) pa_nil)) (pg_tup (n := 3) rfl (pgs_cons (pg_name (i := 2) sc_multiplied.nd rfl (.inl rfl)) (pgs_cons (pg_name (i := 3) sc_multiplied.nd rfl (.inl rfl)) (pgs_cons (pg_name (i := 4) sc_multiplied.nd rfl (.inl rfl)) pgs_nil)))))
      (pss_cons (ps_asg (Rd.pe_c C_factored hr (by decide) (by rfl) (pa_cons (pv 1) pa_nil)) (pg_tup (n := 3) rfl (pgs_cons (pg_name (i := 5) sc_multiplied.nd rfl (.inl rfl)) (pgs_cons (pg_name (i := 6) sc_multiplied.nd rfl (.inl rfl)) (pgs_cons (pg_name (i := 7) sc_multiplied.nd rfl (.inl rfl)) pgs_nil)))))
      (pss_cons (ps_set (i := 8) sc_multiplied.nd rfl (.inl rfl) (pe_callB (Rd.sum_ (K := K) rfl rfl) (by rfl) T.sum (by decide +kernel) (pa_cons (pe_lc (own := [("sign", 9), ("flip", 10)]) (tt := tYes) (g := gTup K 2 (gCons (gName 9) (gCons (gName 10) gNil))) rfl sc_multiplied.nd (pi_zs (by rfl) T.zip (pa_cons (pv 4) (pa_cons (pv 6) pa_nil))) (blkOk_by (N := NN_multiplied) (sc := d_multiplied.scope) (by decide +kernel)) (fun _ _ _ _ _ => by exact (pg_tup (n := 2) rfl (pgs_cons (pg_name (i := 9) sc_multiplied.nd rfl (.inl rfl)) (pgs_cons (pg_name (i := 10) sc_multiplied.nd rfl (.inl rfl)) pgs_nil)))) (fun _ _ _ _ _ => pts_nil) (fun _ _ _ _ _ => (pe_op op_mul (pv 9) (pv 10)))) pa_nil)))
      (pss_cons (ps_aug (i := 2) sc_multiplied.nd rfl (.inl rfl) (pe_op op_add (pv 5) (pe_op op_mul pe_int (pv 8))) ip_add)
      (pss_one (ps_ret (Rd.pe_c C_spelled hr (by decide) (by rfl) (pa_cons (pv 2) (pa_cons (Rd.pe_c C_added_bits hr (by decide) (by rfl) (pa_cons (pv 3) (pa_cons (pv 6) pa_nil))) (pa_cons (Rd.pe_c C_added_bits hr (by decide) (by rfl) (pa_cons (pv 4) (pa_cons (pv 7) pa_nil))) pa_nil)))))))))), ?_⟩
    rw [show L2.start NN_multiplied [v1, v2] = [some v1, some v2, none, none, none, none, none, none, none, none, none] from rfl]
    walk_at "go"
    refine ⟨_, _, _, rfl, w1, h1, fun H1 r1 f1 g1 s1 hr1 hf1 hg1 => ?_⟩
    walk_at "go"
    refine ⟨_, _, _, rfl, w2.mono s1, by omega, fun H2 r2 f2 g2 s2 hr2 hf2 hg2 => ?_⟩
    have hf1' := s2 _ _ hf1
    have hg1' := s2 _ _ hg1
    walk_at "go"
    refine zs_in (.inl (.inl hg1')) (.inl (.inl hf2)) (fun S h => by walk_at "go"; exact h) ?_
    refine lc_zs (n := l1.length) (fun i => .int ((l1.map Lt.sg).getD i 0 * (l2.map Lt.fl).getD i 0)) (.inl (.inl hg1')) (.inl (.inl hf2)) (by simp) (by simp [h2]) (by walk_at "ar") (fun i x y T H' hi hx hy s3 hT R hR => ?_) fun D H3 hD s3 hL => ?_
    · rw [show (fun x : Lt => V.int x.sg) = V.int ∘ Lt.sg from rfl, ← List.map_map] at hx
      rw [show (fun x : Lt => V.int x.fl) = V.int ∘ Lt.fl from rfl, ← List.map_map] at hy
      obtain ⟨rfl, hm1⟩ := get_map (0 : Int) hx
      obtain ⟨rfl, hm2⟩ := get_map (0 : Int) hy
      walk_at "go"
      have b1 : (l1.map Lt.sg).getD i 0 = 0 ∨ (l1.map Lt.sg).getD i 0 = 1 := by
        obtain ⟨z, _, e⟩ := List.mem_map.mp hm1
        rw [← e]
        cases z <;> simp [Lt.sg]
      exact ⟨.inl (by rcases b1 with e | e <;> rw [e] <;> omega), hR _ (Same.refl _)⟩
    · rw [zip_vals (l1.map Lt.sg) (l2.map Lt.fl) (fun x y => x * y) l1.length (by simp) (by simp [h2])] at hL
      have hf1'' := s3 _ _ hf1'
      have hg1'' := s3 _ _ hg1'
      have hf2' := s3 _ _ hf2
      have hg2' := s3 _ _ hg2
      walk_at "go"
      refine ⟨_, .inl (.inl hL), ?_⟩
      rw [exL_sum]
      refine ⟨.inl (by omega), _, _, l1.map Lt.fl, l2.map Lt.fl, rfl, by rw [List.map_map]; exact hf1'', by rw [List.map_map]; exact hf2', by simpa using h1, by simpa using h2, fun H4 c4 s4 h4 => ?_⟩
      refine ⟨_, _, l1.map Lt.sg, l2.map Lt.sg, rfl, by rw [List.map_map]; exact s4 _ _ hg1'', by rw [List.map_map]; exact s4 _ _ hg2', by simpa using h1, by simpa using h2, fun H5 c5 s5 h5 => ?_⟩
      refine ⟨_, _, _, mulL l1 l2, rfl, by rw [mulL_fl]; exact s5 _ _ h4, by rw [mulL_sg]; exact h5, by rw [mulL_len h2.symm]; exact h1, fun H6 v s6 hv => ?_⟩
      exact q _ _ (s1.trans (s2.trans (s3.trans (s4.trans (s5.trans s6))))) hv
/-! word_product -/
def spWP : Sp := fun vs H Q _ => ∃ v1 v2 p1 l1 p2 l2, vs = [v1, v2] ∧ WAt H v1 p1 l1 ∧ WAt H v2 p2 l2 ∧ l1.length ≤ 8 ∧ l2.length = l1.length ∧ 0 ≤ p1 ∧ p1 ≤ 3 ∧ 0 ≤ p2 ∧ p2 ≤ 3 ∧ ∀ H' v, Same H H' → WAt H' v (mulP p1 l1 p2 l2) (mulL l1 l2) → Q v H'
abbrev NN_word_product : List Str := ["word", "second_word"]
theorem sc_word_product : FnScope NN_word_product ["word", "second_word"] d_word_product.scope := ⟨rfl, rfl, rfl, by decide +kernel, rfl, by decide +kernel, by decide +kernel⟩
theorem ok_word_product {fd : FuncData} (F : FnP K d_word_product fd) (T : Txt K w mg) (C_need_word1 : Rd.Cal P w K mg base 2 "need_word" spNeed [.non]) (C_need_word : Rd.Cal P w K mg base 2 "need_word" spNeed []) (C_multiplied : Rd.Cal P w K mg base 2 "multiplied" spMul []) : FnOk P w K mg base CX0 3 (He.fAd K d_word_product.at_) fd ["word", "second_word"] spWP := by
  refine F.ok sc_word_product (fun vs H Q E h => ?_) (fun cdv A outer s H vs Q E hr h => ?_)
  · obtain ⟨v1, v2, p1, l1, p2, l2, rfl, _⟩ := h
    rfl
  · obtain ⟨v1, v2, p1, l1, p2, l2, rfl, ⟨a1, rfl, w1⟩, w2, h1, h2, h3, h4, h5, h6, q⟩ := h
    refine ⟨_, PSs.nox (pss_cons (ps_expr (Rd.pe_c C_need_word1 hr (by decide) (by rfl) (pa_cons (pv 0) pa_nil)))
      (pss_cons (ps_expr (Rd.pe_c C_need_word hr (by decide) (by rfl) (pa_cons (pv 1) (pa_cons (pe_callB call_len_str (by rfl) T.len boot_len (pa_cons (pe_ix (Rd.ixT_ (K := K) rfl) (pv 0) pe_int (fun _ _ => rfl)) pa_nil)) pa_nil))))
      (pss_one (ps_ret (Rd.pe_c C_multiplied hr (by decide) (by rfl) (pa_cons (pv 0) (pa_cons (pv 1) pa_nil))))))), ?_⟩
    rw [show L2.start NN_word_product [.ref a1, v2] = [some (.ref a1), some v2] from rfl]
    walk_at "go"
    refine ⟨_, _, _, _, rfl, ⟨a1, rfl, w1⟩, h3, h4, h1, .inl rfl, fun H1 s1 => ?_⟩
    have w1' := s1 _ _ w1
    walk_at "go"
    refine ⟨_, _, _, _, rfl, w2.mono s1, h5, h6, by omega, .inr (by rw [txt_len, h2]), fun H2 s2 => ?_⟩
    walk_at "go"
    exact ⟨_, _, _, _, _, _, rfl, ⟨a1, rfl, s2 _ _ w1'⟩, (w2.mono s1).mono s2, h1, h2, fun H3 v s3 hv => q _ _ ((s1.trans s2).trans s3) hv⟩
end
end K51


set_option Elab.async false
set_option linter.all false
set_option maxRecDepth 100000
set_option maxHeartbeats 4000000
namespace K51
open PySem PySem.Spec PyProof.Rows L2
local macro_rules | `(tactic| walk_at "ar") => `(tactic| first | omega | (simp only [txt_len]; omega) | (rw [sizeLine_eq]; omega) | (rw [sizeLine_eq]; simp only [txt_len]; omega))
local macro_rules | `(tactic| walk_at "rd") => `(tactic| simp only [Rd.seq, Rd.next, Rd.brk, Rd.cont, Rd.drop, Rd.ret, Rd.retN, Rd.ifS, Rd.asg, Rd.par, Rd.par3, Rd.aug, Rd.ipi, Rd.gname, Rd.gnil, Rd.gcons, Rd.gtup, Rd.gsub, Rd.var, Rd.con, Rd.op, Rd.un, Rd.bb, Rd.test, Rd.not, Rd.and, Rd.or, Rd.andV, Rd.orV, Rd.notV, Rd.ifE, Rd.yes, Rd.chain, Rd.ri, Rd.ri0, Rd.ru, Rd.req, Rd.rne, Rd.nil, Rd.cons, Rd.tup, Rd.lst, Rd.cb, Rd.call, Rd.callK, Rd.m0, Rd.m1, Rd.bm0, Rd.bm, Rd.dget, Rd.dput, Rd.disp, Rd.pairs0, Rd.pairs1, Rd.ixL, Rd.ixT, Rd.ixS, Rd.setL, Rd.istr, Rd.ilist, Rd.itup, Rd.irng1, Rd.lc, Rd.for_, Rd.at0, Rd.at1, Rd.at2, Rd.at3, Rd.isN, Rd.notN, Rd.ixD, Rd.cnt, Rd.jn, Rd.thn, Rd.sum, Rd.app, Rd.cxK, Rd.blkK,
  wipe, scal, List.set, List.cons.injEq, List.cons_append, List.nil_append, List.append_nil, List.map_cons, List.map_nil, List.length_cons, List.length_nil, List.length_map, Nat.reduceAdd, Nat.reduceSub, Int.cast_ofNat_Int, Int.natCast_zero, Int.natCast_one, List.getElem?_cons_zero, List.getElem?_cons_succ, Option.some.injEq, V.int.injEq, V.bl.injEq, V.str.injEq, V.ref.injEq, exists_eq_left, exists_eq_left', exists_eq', exists_eq, exists_and_left, and_assoc, and_true, true_and, reduceCtorEq, decide_true, decide_false, Bool.not_true, Bool.not_false, Bool.false_eq_true, ite_true, ite_false, if_true, if_false])
local macro_rules | `(tactic| walk_at "kit") => `(tactic| first | exact Rd.kit_tuple_tuple | exact Rd.kit_int_int | exact Rd.kit_int_bool | exact Rd.kit_str_str | exact Rd.kit_tuple_int | exact Rd.kit_tuple_str | exact Rd.kit_list_tuple | exact Rd.kit_int_str | exact Rd.kit_int_tuple | exact Rd.kit_bool_int | exact Rd.kit_bool_bool | exact Rd.kit_str_int | exact Rd.kit_str_tuple)
local macro_rules | `(tactic| walk_at "lh") => `(tactic| first | assumption | exact upd_same | (refine Rd.look_new ?_ (by assumption); walk_at "lh"))
local macro_rules | `(tactic| walk_at "st") => `(tactic| first
  | (with_reducible refine Rd.tup_is (by walk_at "lh") (by walk_at "kit") ?_)
  | (with_reducible refine Rd.int_is (by walk_at "kit") ?_)
  | (with_reducible refine Rd.str_is (by walk_at "kit") ?_)
  | (with_reducible refine Rd.len_tup (by walk_at "lh") ?_)
  | (with_reducible refine Rd.len_lst (by walk_at "lh") ?_)
  | (with_reducible refine Rd.get_tup (by walk_at "lh") ?_)
  | (with_reducible refine Rd.get_lst (by walk_at "lh") ?_)
  | (with_reducible refine Rd.has_tup (by walk_at "lh") ?_)
  | (with_reducible refine Rd.has_lst (by walk_at "lh") ?_)
  | (with_reducible refine Rd.dr_turn (by walk_at "lh") ?_)
  | (with_reducible refine Rd.dr_cells (by walk_at "lh") ?_)
  | (with_reducible refine Rd.dr_large (by walk_at "lh") ?_)
  | (with_reducible refine Rd.dc_t (by walk_at "ar") ?_)
  | (with_reducible refine Rd.dc_f (by walk_at "ar") ?_)
  | (with_reducible refine Rd.dn_t (by walk_at "ar") ?_)
  | (with_reducible refine Rd.dn_f (by walk_at "ar") ?_)
  | (with_reducible refine And.intro (by walk_at "ar") ?_))
local macro_rules | `(tactic| walk_at "go") => `(tactic| repeat (first | walk_at "rd" | walk_at "st"))

section
variable {P : Program} {w : World} {K : PySem.W.Frag} {mg : Str → Option Value} {base : Heap}
/-! _law_start -/
def spStart (K : PySem.W.Frag) : Sp := fun vs H Q _ => ∃ a ns, vs = [.ref a] ∧ SqL K H a ((ns : List Int).map V.int) ∧ ns.length < 2 ^ 24 ∧ ∀ H' m c g, Same H H' → Rd.Dr m c g 0 H' → Q (.ref m) H'
def bigV : V → V
  | .int n => .int (if n ≥ 1000000000000000000 then n else 0)
  | x => x
abbrev NN_law_start : List Str := ["_law_script", "_law_cell"]
theorem sc_law_start : FnScope NN_law_start ["_law_script"] d_law_start.scope := ⟨rfl, rfl, rfl, by decide +kernel, rfl, by decide +kernel, by decide +kernel⟩
theorem ok_law_start {fd : FuncData} (F : FnP K d_law_start fd) (T : Txt K w mg) : FnOk P w K mg base CX0 1 (He.fAd K d_law_start.at_) fd ["_law_script"] (spStart K) := by
  refine F.ok sc_law_start (fun vs H Q E h => ?_) (fun cdv A outer s H vs Q E hr h => ?_)
  · obtain ⟨a, ns, rfl, _⟩ := h
    rfl
  · obtain ⟨a, ns, rfl, ha, hn, q⟩ := h
    refine ⟨_, PSs.nox (pss_one (ps_ret (pe_disp (pps_cons pe_str (pe_callTy (Rd.listOf_ (K := K) rfl) (by rfl) T.list (by decide +kernel) (pa_cons (pv 0) pa_nil)) (pps_cons pe_str pe_int (pps_cons pe_str (pe_lc (own := [("_law_cell", 1)]) (tt := tYes) rfl sc_law_start.nd (Rd.list_ (K := K) rfl (pv 0)) (blkOk_by (N := NN_law_start) (sc := d_law_start.scope) (by decide +kernel)) (fun _ _ _ _ _ => by exact (pg_name (i := 1) sc_law_start.nd rfl (.inl rfl))) (fun _ _ _ _ _ => pts_nil) (fun _ _ _ _ _ => (pe_ifExp (pt_cmpR op_ge (pv 1) (pe_op op_pow pe_int pe_int) (nomark _)) (pv 1) pe_int))) pps_nil))) rfl rfl (by intro h; cases h) (by decide)))), ?_⟩
    rw [show L2.start NN_law_start [.ref a] = [some (.ref a), none] from rfl]
    walk_at "go"
    intro m hm
    have ha1 := (Rd.same_new (o := HO.dK []) hm).seq ha
    refine ⟨_, .inl ha1, fun c hc => ?_⟩
    have ha2 := (Rd.same_new (o := HO.lst (ns.map V.int)) hc).seq ha1
    refine ⟨⟨_, ha2⟩, ?_⟩
    have hcm : c ≠ m := fun e => by
      rw [e, upd_same] at hc
      cases hc
    refine Rd.lc_lst bigV ha2 (by rw [sizeLine_eq, List.length_map]; omega) (fun x hx H' s1 R h1 => ?_) fun g H' hg s1 hL => ?_
    · obtain ⟨n, _, rfl⟩ := List.mem_map.mp hx
      walk_at "go"
      by_cases e : n ≥ 1000000000000000000
      · have h2 := h1 H' (Same.refl _)
        simp only [bigV, if_pos e] at h2
        refine ⟨⟨by omega, by omega, by decide⟩, ?_⟩
        exact Rd.dc_t (show (10 : Int) ^ Int.toNat 18 ≤ n from e) h2
      · have h2 := h1 H' (Same.refl _)
        simp only [bigV, if_neg e] at h2
        refine ⟨⟨by omega, by omega, by decide⟩, ?_⟩
        exact Rd.dc_f (show ¬ (10 : Int) ^ Int.toNat 18 ≤ n from e) h2
    · have hm1 : H' m = some (.dK []) := s1 _ _ (Rd.look_new upd_same hc)
      have hc1 : H' c = some (.lst (ns.map V.int)) := s1 _ _ upd_same
      refine ⟨hm1, Rd.drK c g 0, rfl, (by show 3 ≤ 15; omega), ?_⟩
      have e1 : mergeK [] (Rd.drK c g 0) = Rd.drK c g 0 := by
        simp only [mergeK, Rd.drK, List.foldl, putK, List.any, List.map, Rd.k1, Rd.k2, Rd.k3, decide_true, decide_false, Bool.or_false, Bool.false_eq_true, if_false, List.nil_append, List.cons_append]
      rw [e1]
      have hgc : c ≠ g := fun e => by
        rw [← e, upd_same] at hg
        cases hg
      have hgm : g ≠ m := fun e => by
        rw [e, Rd.look_new upd_same hc] at hg
        cases hg
      refine q _ m c g (fun b o e => ?_) ⟨ns, ns.map (fun n => if n ≥ 1000000000000000000 then n else 0), upd_same, ?_, ?_, hgc, by simp, hn, fun x hx => ?_, Int.le_refl _⟩
      · rw [upd_ne (ne_of_none e hm)]
        exact s1 _ _ (Rd.same_new hc _ _ (Rd.same_new hm _ _ e))
      · rw [upd_ne hcm]
        exact hc1
      · rw [upd_ne hgm, hL, List.map_map, List.map_map]
        rfl
      · obtain ⟨n, _, rfl⟩ := List.mem_map.mp hx
        by_cases e : n ≥ 1000000000000000000
        · rw [if_pos e]
          omega
        · rw [if_neg e]
          omega
theorem at_in {xs : List Int} {i : Int} (h0 : 0 ≤ i) (h1 : i < xs.length) : atI (xs.map V.int) i = some (.int (xs.getD i.toNat 0)) ∧ xs.getD i.toNat 0 ∈ xs := by
  obtain ⟨k, rfl⟩ := Int.eq_ofNat_of_zero_le h0
  have hk : k < xs.length := by omega
  rw [Rd.at_nat, List.getElem?_map, List.getElem?_eq_getElem hk]
  have e : xs.getD (Int.toNat k) 0 = xs[k] := by simp [List.getD, hk]
  rw [e]
  exact ⟨rfl, List.getElem_mem hk⟩
theorem ixN_in {n : Nat} {i : Int} (h0 : 0 ≤ i) (h1 : i < n) : ixN n i = some i.toNat := by
  unfold ixN
  rw [if_pos h0, if_pos h1]
/-! _law_draw -/
def spDraw : Sp := fun vs H Q _ => ∃ m c g t n, vs = [.ref m, .int n] ∧ Rd.Dr m c g t H ∧ t < 1000000 ∧ 0 < n ∧ n < 1000000 ∧ ∀ H' r, Rd.Mv m g H H' → Rd.Dr m c g (t + 1) H' → 0 ≤ r → r < n → Q (.int r) H'
abbrev NN_law_draw : List Str := ["_law_m", "_law_limit", "_law_turn", "_law_at", "_law_found", "_law_cell", "_law_mixed"]
theorem sc_law_draw : FnScope NN_law_draw ["_law_m", "_law_limit"] d_law_draw.scope := ⟨rfl, rfl, rfl, by decide +kernel, rfl, by decide +kernel, by decide +kernel⟩
theorem ok_law_draw {fd : FuncData} (F : FnP K d_law_draw fd) (T : Txt K w mg) : FnOk P w K mg base CX0 1 (He.fAd K d_law_draw.at_) fd ["_law_m", "_law_limit"] spDraw := by
  refine F.ok sc_law_draw (fun vs H Q E h => ?_) (fun cdv A outer s H vs Q E hr h => ?_)
  · obtain ⟨m, c, g, t, n, rfl, _⟩ := h
    rfl
  · obtain ⟨m, c, g, t, n, rfl, ⟨ns, ls, h⟩, ht, hn0, hn, q⟩ := h
    have hu1 := hu_of hr
    have hu := hr.units
    have hd := h.d
    have ht0 := h.t0
    refine ⟨_, PSs.nox (pss_cons (ps_set (i := 2) sc_law_draw.nd rfl (.inl rfl) (pe_dget hu1 (pv 0) pe_str (fun _ _ => rfl)))
      (pss_cons (ps_dput hu1 (pv 0) pe_str (pe_op op_add (pv 2) pe_int) rfl)
      (pss_cons (ps_set (i := 3) sc_law_draw.nd rfl (.inl rfl) (pe_op op_mod (pv 2) (pe_callB (call_max2 rfl) (by rfl) T.max (by decide +kernel) (pa_cons pe_int (pa_cons (pe_callB (Rd.len_ (K := K) rfl) (by rfl) T.len boot_len (pa_cons (pe_dget hu1 (pv 0) pe_str (fun _ _ => rfl)) pa_nil)) pa_nil)))))
      (pss_cons (ps_if (PW.pt (pw_and (pt_cmpR (Rd.neD_ (K := K) rfl hu) (pe_dget hu1 (pv 0) pe_str (fun _ _ => rfl)) (pe_lst pa_nil) (nomark _)) (pw_and1 (pt_cmpR op_gt (pe_ix (Rd.ixL_ (K := K) rfl) (pe_dget hu1 (pv 0) pe_str (fun _ _ => rfl)) (pv 3) (fun _ _ => rfl)) pe_int (nomark _)))))
      (pss_cons (ps_set (i := 4) sc_law_draw.nd rfl (.inl rfl) (pe_op op_mod (pe_ix (Rd.ixL_ (K := K) rfl) (pe_dget hu1 (pv 0) pe_str (fun _ _ => rfl)) (pv 3) (fun _ _ => rfl)) (pv 1)))
        (pss_cons (ps_asg (hs := by rfl) (pe_op op_fdivN (pe_ix (Rd.ixL_ (K := K) rfl) (pe_dget hu1 (pv 0) pe_str (fun _ _ => rfl)) (pv 3) (fun _ _ => rfl)) (pv 1)) (pg_sub (pe_dget hu1 (pv 0) pe_str (fun _ _ => rfl)) (pv 3) set_list (fun _ => rfl)))
        (pss_one (ps_ret (pv 4)))))
      pss_nil)
      (pss_cons (ps_set (i := 5) sc_law_draw.nd rfl (.inl rfl) (pe_ifExp (pt_cmpR (Rd.neD_ (K := K) rfl hu) (pe_dget hu1 (pv 0) pe_str (fun _ _ => rfl)) (pe_lst pa_nil) (nomark _)) (pe_ix (Rd.ixL_ (K := K) rfl) (pe_dget hu1 (pv 0) pe_str (fun _ _ => rfl)) (pv 3) (fun _ _ => rfl)) pe_int))
      (pss_cons (ps_set (i := 6) sc_law_draw.nd rfl (.inl rfl) (pe_op op_mod (pe_op op_mul (pe_op op_add (pe_op op_add (pe_op op_add (pe_op op_mod (pv 5) pe_int) (pe_op op_mul (pe_op op_mul pe_int (pv 2)) (pv 2))) (pe_op op_mul pe_int (pv 2))) pe_int) pe_int) pe_int))
      (pss_one (ps_ret (pe_op op_mod (pe_op op_fdivN (pe_op op_mod (pe_op op_mul (pv 6) (pe_op op_add (pe_op op_mod (pv 6) pe_int) pe_int)) pe_int) pe_int) (pv 1)))))))))), ?_⟩
    rw [show L2.start NN_law_draw [.ref m, .int n] = [some (.ref m), some (.int n), none, none, none, none, none] from rfl]
    walk_at "go"
    refine Rd.dr_put hd ?_
    obtain ⟨H1, e1⟩ : ∃ H1, H1 = upd H m (.dK (Rd.drK c g (t + 1))) := ⟨_, rfl⟩
    rw [← e1]
    have h1 : Rd.DrS m c g (t + 1) ns ls H1 := by
      subst e1
      exact ⟨upd_same, (by rw [upd_ne h.mc.symm]; exact h.cs), (by rw [upd_ne h.mg.symm]; exact h.gs), h.ne, h.len, h.small, h.nn, by have := h.t0; omega⟩
    have v1 : Rd.Mv m g H H1 := fun b o hb _ e => by rw [e1, upd_ne hb]; exact e
    have hd1 := h1.d
    have hc1 := h1.cs
    have hg1 := h1.gs
    walk_at "go"
    obtain ⟨k0, e0⟩ : ∃ k0, k0 = t % (if (ns.length : Int) > 1 then (ns.length : Int) else 1) := ⟨_, rfl⟩
    rw [← e0]
    intro p hp
    refine Rd.neNil (Rd.look_new hc1 hp) upd_same ?_
    have s2 : Same H1 (upd H1 p (.lst [])) := Rd.same_new hp
    obtain ⟨H2, e2⟩ : ∃ H2, H2 = upd H1 p (.lst []) := ⟨_, rfl⟩
    rw [← e2] at s2 ⊢
    have h2 := h1.mono s2
    have v2 : Rd.Mv m g H H2 := v1.trans (.same s2)
    have hd2 := h2.d
    have hc2 := h2.cs
    have hg2 := h2.gs
    walk_at "go"
    by_cases en : ns = []
    · refine Rd.dn_f en ?_
      walk_at "go"
      intro p3 hp3
      refine Rd.neNil (Rd.look_new hc2 hp3) upd_same ?_
      have s3 : Same H2 (upd H2 p3 (.lst [])) := Rd.same_new hp3
      obtain ⟨H3, e3⟩ : ∃ H3, H3 = upd H2 p3 (.lst []) := ⟨_, rfl⟩
      rw [← e3] at s3 ⊢
      have h3 := h2.mono s3
      walk_at "go"
      refine ⟨.inl (by omega), .inr (by omega), .inl (by omega), .inr (by omega), by omega, by omega, .inr (by omega), by omega, ⟨by omega, by omega⟩, hn0, ?_⟩
      exact q _ _ (v2.trans (.same s3)) ⟨ns, ls, h3⟩ (Int.emod_nonneg _ (by omega)) (Int.emod_lt_of_pos _ hn0)
    · have hl : 0 < ns.length := List.length_pos_iff.mpr en
      have hk : 0 ≤ k0 ∧ k0 < ns.length := by
        rw [e0]
        have := h.t0
        by_cases z : (ns.length : Int) > 1
        · rw [if_pos z]
          exact ⟨Int.emod_nonneg _ (by omega), Int.emod_lt_of_pos _ (by omega)⟩
        · rw [if_neg z]
          omega
      have ag := at_in (xs := ls) hk.1 (by rw [h.len]; exact hk.2)
      have ac := at_in (xs := ns) hk.1 hk.2
      refine Rd.dn_t en ?_
      walk_at "go"
      refine ⟨_, ag.1, _, rfl, ?_⟩
      by_cases ep : 0 < ls.getD k0.toNat 0
      · refine Rd.dc_t ep ?_
        walk_at "go"
        refine ⟨_, ag.1, _, rfl, ?_⟩
        walk_at "go"
        refine ⟨_, ag.1, _, rfl, ⟨by omega, by omega⟩, Rd.dr_large hd2 ⟨_, rfl, _, hg2, _, ixN_in hk.1 (by rw [List.length_map, h.len]; exact hk.2), ?_⟩⟩
        refine q _ _ (v2.trans fun b o _ hb e => by rw [upd_ne hb]; exact e) ⟨ns, ls.set k0.toNat ((ls.getD k0.toNat 0).fdiv n), ?_, ?_, ?_, h2.ne, by rw [List.length_set]; exact h2.len, h2.small, fun x hx => ?_, h2.t0⟩ (Int.emod_nonneg _ (by omega)) (Int.emod_lt_of_pos _ hn0)
        · rw [upd_ne h2.mg]
          exact hd2
        · rw [upd_ne h2.ne]
          exact hc2
        · rw [upd_same, List.map_set]
        · rcases List.mem_or_eq_of_mem_set hx with hx | rfl
          · exact h2.nn x hx
          · rw [Int.fdiv_eq_ediv_of_nonneg _ (by omega)]
            exact Int.ediv_nonneg (by omega) (by omega)
      · refine Rd.dc_f ep ?_
        walk_at "go"
        intro p3 hp3
        refine Rd.neNil (Rd.look_new hc2 hp3) upd_same ?_
        have s3 : Same H2 (upd H2 p3 (.lst [])) := Rd.same_new hp3
        obtain ⟨H3, e3⟩ : ∃ H3, H3 = upd H2 p3 (.lst []) := ⟨_, rfl⟩
        rw [← e3] at s3 ⊢
        have h3 := h2.mono s3
        have hd3 := h3.d
        have hc3 := h3.cs
        walk_at "go"
        refine ⟨_, ac.1, _, rfl, ?_⟩
        refine ⟨by omega, .inl (by omega), .inr (by omega), .inl (by omega), .inr (by omega), by omega, by omega, .inr (by omega), by omega, ⟨by omega, by omega⟩, hn0, ?_⟩
        exact q _ _ (v2.trans (.same s3)) ⟨ns, ls, h3⟩ (Int.emod_nonneg _ (by omega)) (Int.emod_lt_of_pos _ hn0)
/-! _law_pick -/
def spPick : Sp := fun vs H Q _ => ∃ m c g t z, vs = [.ref m, .str z] ∧ Rd.Dr m c g t H ∧ t < 1000000 ∧ 0 < z.length ∧ z.length < 1000000 ∧ ∀ H' x, Rd.Mv m g H H' → Rd.Dr m c g (t + 1) H' → x ∈ z.cps.toList → Q (.str ⟨#[x]⟩) H'
abbrev NN_law_pick : List Str := ["_law_m", "_law_items"]
theorem sc_law_pick : FnScope NN_law_pick ["_law_m", "_law_items"] d_law_pick.scope := ⟨rfl, rfl, rfl, by decide +kernel, rfl, by decide +kernel, by decide +kernel⟩
theorem ok_law_pick {fd : FuncData} (F : FnP K d_law_pick fd) (T : Txt K w mg) (C_law_draw : Rd.Cal P w K mg base 1 "_law_draw" spDraw []) : FnOk P w K mg base CX0 2 (He.fAd K d_law_pick.at_) fd ["_law_m", "_law_items"] spPick := by
  refine F.ok sc_law_pick (fun vs H Q E h => ?_) (fun cdv A outer s H vs Q E hr h => ?_)
  · obtain ⟨m, c, g, t, z, rfl, _⟩ := h
    rfl
  · obtain ⟨m, c, g, t, z, rfl, h, ht, hz0, hz, q⟩ := h
    refine ⟨_, PSs.nox (pss_one (ps_ret (pe_ix ix_str (pv 1) (Rd.pe_c C_law_draw hr (by decide) (by rfl) (pa_cons (pv 0) (pa_cons (pe_callB call_len_str (by rfl) T.len boot_len (pa_cons (pv 1) pa_nil)) pa_nil))) (fun _ _ => rfl)))), ?_⟩
    rw [show L2.start NN_law_pick [.ref m, .str z] = [some (.ref m), some (.str z)] from rfl]
    walk_at "go"
    refine ⟨m, c, g, t, _, rfl, h, ht, by omega, by omega, fun H1 r v1 h1 hr0 hr1 => ⟨r, rfl, by rw [sizeLine_eq]; omega, ?_⟩⟩
    obtain ⟨k, rfl⟩ := Int.eq_ofNat_of_zero_le hr0
    have hk : k < z.cps.toList.length := by
      have : z.length = z.cps.toList.length := by simp [Str.length]
      omega
    exact ⟨z.cps.toList[k], by rw [Rd.at_nat, List.getElem?_eq_getElem hk], q _ _ v1 h1 (List.getElem_mem hk)⟩
theorem ixyz (x : Nat) (h : x ∈ (Str.ofString "IXYZ").cps.toList) : ∃ a : Lt, x = a.cd := by
  rw [show (Str.ofString "IXYZ").cps.toList = [73, 88, 89, 90] from by decide +kernel] at h
  simp only [List.mem_cons, List.not_mem_nil, or_false] at h
  rcases h with rfl | rfl | rfl | rfl
  · exact ⟨.I, rfl⟩
  · exact ⟨.X, rfl⟩
  · exact ⟨.Y, rfl⟩
  · exact ⟨.Z, rfl⟩
/-! _law_letters -/
def spLetters : Sp := fun vs H Q _ => ∃ m c g t n, vs = [.ref m, .int (n : Nat)] ∧ Rd.Dr m c g t H ∧ t < 1000 ∧ n ≤ 8 ∧ ∀ H' v p l, Rd.Mv m g H H' → Rd.Dr m c g (t + 1 + n) H' → 0 ≤ p → p ≤ 3 → l.length = n → WAt H' v p l → Q v H'
abbrev NN_law_letters : List Str := ["_law_m", "_law_count", "_law_k"]
theorem sc_law_letters : FnScope NN_law_letters ["_law_m", "_law_count"] d_law_letters.scope := ⟨rfl, rfl, rfl, by decide +kernel, rfl, by decide +kernel, by decide +kernel⟩
theorem ok_law_letters {fd : FuncData} (F : FnP K d_law_letters fd) (T : Txt K w mg) (C_law_draw : Rd.Cal P w K mg base 1 "_law_draw" spDraw []) (C_law_pick : Rd.Cal P w K mg base 2 "_law_pick" spPick []) : FnOk P w K mg base CX0 3 (He.fAd K d_law_letters.at_) fd ["_law_m", "_law_count"] spLetters := by
  refine F.ok sc_law_letters (fun vs H Q E h => ?_) (fun cdv A outer s H vs Q E hr h => ?_)
  · obtain ⟨m, c, g, t, n, rfl, _⟩ := h
    rfl
  · obtain ⟨m, c, g, t, n, rfl, h, ht, hn, q⟩ := h
    refine ⟨_, PSs.nox (pss_one (ps_ret (pe_tup (pa_cons (Rd.pe_c C_law_draw hr (by decide) (by rfl) (pa_cons (pv 0) (pa_cons pe_int pa_nil))) (pa_cons (Rd.join_ (K := K) rfl pe_str (pe_lc (own := [("_law_k", 2)]) (tt := tYes) rfl sc_law_letters.nd (pi_range1 (by rfl) T.range (pa_cons (pv 1) pa_nil)) (blkOk_by (N := NN_law_letters) (sc := d_law_letters.scope) (by decide +kernel)) (fun _ _ _ _ _ => by exact (pg_name (i := 2) sc_law_letters.nd rfl (.inl rfl))) (fun _ _ _ _ _ => pts_nil) (fun _ _ _ _ _ => (Rd.pe_c C_law_pick hr (by decide) (by rfl) (pa_cons (pv 0) (pa_cons pe_str pa_nil)))))) pa_nil))))), ?_⟩
    rw [show L2.start NN_law_letters [.ref m, .int n] = [some (.ref m), some (.int n), none] from rfl]
    walk_at "go"
    refine ⟨m, c, g, t, 4, rfl, h, by omega, by omega, by omega, fun H1 r v1 h1 hr0 hr1 => ?_⟩
    walk_at "go"
    intro D hD
    obtain ⟨d1, d2, d3⟩ := h1.free3 hD
    rw [Int.toNat_natCast]
    refine lc_range (lo := 0) (fun i H' => ∃ l : List Lt, l.length = i ∧ H' D = some (.lst ((l.map Lt.sig).map V.str)) ∧ Rd.Mv m g H1 H' ∧ Rd.Dr m c g (t + 1 + i) H') ⟨[], rfl, upd_same, .same (Rd.same_new hD), by simpa using h1.upd d1 d2 d3⟩ (fun i H' hi p => ?_) fun H' p => ?_
    · obtain ⟨l, hl, hL, v2, h2⟩ := p
      walk_at "go"
      refine ⟨m, c, g, t + 1 + i, _, rfl, h2, by omega, by decide, by decide, fun H4 x v4 h4 hx => ?_⟩
      obtain ⟨a, rfl⟩ := ixyz x hx
      refine ⟨_, v4 _ _ d1 d3 hL, by rw [sizeLine_eq]; simp; omega, l ++ [a], by simp [hl], ?_, fun b o hb1 hb2 e => ?_, ?_⟩
      · rw [upd_same]
        simp [Lt.sig]
      · rw [upd_ne (ne_of_none e hD)]
        exact v4 _ _ hb1 hb2 (v2 _ _ hb1 hb2 e)
      · have := h4.upd (o := .lst ((l.map Lt.sig).map V.str ++ [.str ⟨#[a.cd]⟩])) d1 d2 d3
        rw [show t + 1 + ((i + 1 : Nat) : Int) = t + 1 + (i : Int) + 1 by omega]
        exact this
    · obtain ⟨l, hl, hL, v2, h2⟩ := p
      walk_at "go"
      refine ⟨l.map Lt.sig, .inl (.inl (.inl hL)), ?_, ?_⟩
      · rw [len_sigs]
        simp only [Str.ofString]
        show l.length + _ * 0 ≤ _
        omega
      rw [show (Str.ofString "") = (⟨#[]⟩ : Str) from by decide, join_lt]
      walk_at "go"
      intro a ha
      exact q _ _ r l ((v1.trans v2).trans (.same (Rd.same_new ha))) (h2.mono (Rd.same_new ha)) hr0 (by omega) hl ⟨a, rfl, upd_same⟩
end
end K51


set_option Elab.async false
set_option linter.all false
set_option maxRecDepth 100000
set_option maxHeartbeats 4000000
namespace K51
open PySem PySem.Spec PyProof.Rows L2
/-! rows of bits moved by a word -/
def mvL : List Lt → List Int → List Int
  | a :: l, b :: r => (if a.fl = 0 then b else 1 - b) :: mvL l r
  | _, _ => []
def mvP : List Lt → List Int → Int
  | a :: l, b :: r => (2 * a.sg * b + (if a = .Y then 1 else 0)) + mvP l r
  | _, _ => 0
theorem mvL_snoc : ∀ {l : List Lt} {r : List Int} (a : Lt) (b : Int), l.length = r.length → mvL (l ++ [a]) (r ++ [b]) = mvL l r ++ [if a.fl = 0 then b else 1 - b]
  | [], [], _, _, _ => rfl
  | x :: l, y :: r, a, b, h => by
    simp only [List.cons_append, mvL, mvL_snoc a b (Nat.succ.inj h)]
theorem mvP_snoc : ∀ {l : List Lt} {r : List Int} (a : Lt) (b : Int), l.length = r.length → mvP (l ++ [a]) (r ++ [b]) = mvP l r + (2 * a.sg * b + (if a = .Y then 1 else 0))
  | [], [], _, _, _ => by simp [mvP]
  | x :: l, y :: r, a, b, h => by
    simp only [List.cons_append, mvP, mvP_snoc a b (Nat.succ.inj h)]
    omega
theorem mvL_len : ∀ {l : List Lt} {r : List Int}, r.length = l.length → (mvL l r).length = l.length
  | [], [], _ => rfl
  | x :: l, y :: r, h => by
    rw [mvL, List.length_cons, mvL_len (Nat.succ.inj h), List.length_cons]
theorem mvL_bit : ∀ {l : List Lt} {r : List Int}, (∀ x ∈ r, x = 0 ∨ x = 1) → ∀ x ∈ mvL l r, x = 0 ∨ x = 1
  | [], _, _, x, h => by simp [mvL] at h
  | _ :: _, [], _, x, h => by simp [mvL] at h
  | a :: l, b :: r, hb, x, h => by
    rw [mvL, List.mem_cons] at h
    rcases h with rfl | h
    · have := hb b (List.mem_cons_self ..)
      by_cases e : a.fl = 0
      · rw [if_pos e]
        exact this
      · rw [if_neg e]
        omega
    · exact mvL_bit (fun y hy => hb y (List.mem_cons_of_mem _ hy)) x h
theorem eZ (a : Lt) : decide ((⟨#[a.cd]⟩ : Str) = Str.ofString "Z") = decide (a = .Z) := by cases a <;> decide +kernel
theorem eY (a : Lt) : decide ((⟨#[a.cd]⟩ : Str) = Str.ofString "Y") = decide (a = .Y) := by cases a <;> decide +kernel
theorem eIZ (a : Lt) : (!(Builtin.Str.occurrences (Str.ofString "IZ") (⟨#[a.cd]⟩ : Str) 0 (Str.ofString "IZ").length 1).isEmpty) = decide (a.fl = 0) := by
  rw [StrLaws.found_one, show (Str.ofString "IZ").cps.toList = [73, 90] from by decide +kernel]
  cases a <;> decide
theorem take_snoc {α : Type} (d : α) {l : List α} {i : Nat} (h : i < l.length) : l.take (i + 1) = l.take i ++ [l.getD i d] := by
  rw [List.take_succ_eq_append_getElem h]
  simp [List.getD, h]
local macro_rules | `(tactic| walk_at "ar") => `(tactic| first | omega | (simp only [txt_len]; omega) | (rw [sizeLine_eq]; omega) | (rw [sizeLine_eq]; simp only [txt_len]; omega))
local macro_rules | `(tactic| walk_at "rd") => `(tactic| simp only [Rd.seq, Rd.next, Rd.brk, Rd.cont, Rd.drop, Rd.ret, Rd.retN, Rd.ifS, Rd.asg, Rd.par, Rd.par3, Rd.aug, Rd.ipi, Rd.gname, Rd.gnil, Rd.gcons, Rd.gtup, Rd.gsub, Rd.var, Rd.con, Rd.op, Rd.un, Rd.bb, Rd.test, Rd.not, Rd.and, Rd.or, Rd.andV, Rd.orV, Rd.notV, Rd.ifE, Rd.yes, Rd.chain, Rd.ri, Rd.ri0, Rd.ru, Rd.req, Rd.rne, Rd.nil, Rd.cons, Rd.tup, Rd.lst, Rd.cb, Rd.call, Rd.callK, Rd.m0, Rd.m1, Rd.bm0, Rd.bm, Rd.dget, Rd.dput, Rd.disp, Rd.pairs0, Rd.pairs1, Rd.ixL, Rd.ixT, Rd.ixS, Rd.setL, Rd.istr, Rd.ilist, Rd.itup, Rd.irng1, Rd.lc, Rd.for_, Rd.at0, Rd.at1, Rd.at2, Rd.at3, Rd.isN, Rd.notN, Rd.ixD, Rd.cnt, Rd.jn, Rd.thn, Rd.sum, Rd.app, Rd.cxK, Rd.blkK,
  wipe, scal, List.set, List.cons.injEq, List.cons_append, List.nil_append, List.append_nil, List.map_cons, List.map_nil, List.length_cons, List.length_nil, List.length_map, Nat.reduceAdd, Nat.reduceSub, Int.cast_ofNat_Int, Int.natCast_zero, Int.natCast_one, List.getElem?_cons_zero, List.getElem?_cons_succ, Option.some.injEq, V.int.injEq, V.bl.injEq, V.str.injEq, V.ref.injEq, exists_eq_left, exists_eq_left', exists_eq', exists_eq, exists_and_left, and_assoc, and_true, true_and, reduceCtorEq, decide_true, decide_false, Bool.not_true, Bool.not_false, Bool.false_eq_true, ite_true, ite_false, if_true, if_false])
local macro_rules | `(tactic| walk_at "kit") => `(tactic| first | exact Rd.kit_tuple_tuple | exact Rd.kit_int_int | exact Rd.kit_int_bool | exact Rd.kit_str_str | exact Rd.kit_tuple_int | exact Rd.kit_tuple_str | exact Rd.kit_list_tuple | exact Rd.kit_int_str | exact Rd.kit_int_tuple | exact Rd.kit_bool_int | exact Rd.kit_bool_bool | exact Rd.kit_str_int | exact Rd.kit_str_tuple)
local macro_rules | `(tactic| walk_at "lh") => `(tactic| first | assumption | exact upd_same | (refine Rd.look_new ?_ (by assumption); walk_at "lh"))
local macro_rules | `(tactic| walk_at "st") => `(tactic| first
  | (with_reducible refine Rd.tup_is (by walk_at "lh") (by walk_at "kit") ?_)
  | (with_reducible refine Rd.int_is (by walk_at "kit") ?_)
  | (with_reducible refine Rd.str_is (by walk_at "kit") ?_)
  | (with_reducible refine Rd.len_tup (by walk_at "lh") ?_)
  | (with_reducible refine Rd.len_lst (by walk_at "lh") ?_)
  | (with_reducible refine Rd.get_tup (by walk_at "lh") ?_)
  | (with_reducible refine Rd.get_lst (by walk_at "lh") ?_)
  | (with_reducible refine Rd.has_tup (by walk_at "lh") ?_)
  | (with_reducible refine Rd.has_lst (by walk_at "lh") ?_)
  | (with_reducible refine Rd.dr_turn (by walk_at "lh") ?_)
  | (with_reducible refine Rd.dr_cells (by walk_at "lh") ?_)
  | (with_reducible refine Rd.dr_large (by walk_at "lh") ?_)
  | (with_reducible refine Rd.dc_t (by walk_at "ar") ?_)
  | (with_reducible refine Rd.dc_f (by walk_at "ar") ?_)
  | (with_reducible refine Rd.dn_t (by walk_at "ar") ?_)
  | (with_reducible refine Rd.dn_f (by walk_at "ar") ?_)
  | (with_reducible refine And.intro (by walk_at "ar") ?_))
local macro_rules | `(tactic| walk_at "go") => `(tactic| repeat (first | walk_at "rd" | walk_at "st"))

local macro_rules | `(tactic| walk_at "ar") => `(tactic| decide)
section
variable {P : Program} {w : World} {K : PySem.W.Frag} {mg : Str → Option Value} {base : Heap}
/-! _law_moved -/
def spMoved : Sp := fun vs H Q _ => ∃ v b p l bs, vs = [v, .ref b] ∧ WAt H v p l ∧ H b = some (.tup ((bs : List Int).map V.int)) ∧ bs.length = l.length ∧ l.length ≤ 8 ∧ (∀ x ∈ bs, x = 0 ∨ x = 1) ∧
    ∀ H' r f, Same H H' → H' r = some (.tup [.ref f, .int ((p + mvP l bs) % 4)]) → H' f = some (.tup ((mvL l bs).map V.int)) → Q (.ref r) H'
abbrev NN_law_moved : List Str := ["_law_own", "_law_bits", "_law_power", "_law_fresh", "_law_bit", "_law_letter"]
theorem sc_law_moved : FnScope NN_law_moved ["_law_own", "_law_bits"] d_law_moved.scope := ⟨rfl, rfl, rfl, by decide +kernel, rfl, by decide +kernel, by decide +kernel⟩
theorem ok_law_moved {fd : FuncData} (F : FnP K d_law_moved fd) (T : Txt K w mg) : FnOk P w K mg base CX0 1 (He.fAd K d_law_moved.at_) fd ["_law_own", "_law_bits"] spMoved := by
  refine F.ok sc_law_moved (fun vs H Q E h => ?_) (fun cdv A outer s H vs Q E hr h => ?_)
  · obtain ⟨v, b, p, l, bs, rfl, _⟩ := h
    rfl
  · obtain ⟨v, b, p, l, bs, rfl, ⟨a, rfl, ha⟩, hb, hl, hl8, h01, q⟩ := h
    refine ⟨_, PSs.nox (pss_cons (ps_par (i := 2) (j := 3) rfl sc_law_moved.nd rfl rfl (by decide) rfl rfl (pa_cons (pe_ix (Rd.ixT_ (K := K) rfl) (pv 0) pe_int (fun _ _ => rfl)) (pa_cons (pe_lst pa_nil) pa_nil)) rfl)
      (pss_cons (ps_for PassesOwn.never rfl (pi_zd (by rfl) T.zip (pa_cons (pv 1) (pa_cons (pe_ix (Rd.ixT_ (K := K) rfl) (pv 0) pe_int (fun _ _ => rfl)) pa_nil))) (pg_tup (n := 2) rfl (pgs_cons (pg_name (i := 4) sc_law_moved.nd rfl (.inl rfl)) (pgs_cons (pg_name (i := 5) sc_law_moved.nd rfl (.inl rfl)) pgs_nil)))
      (pss_cons (ps_expr (Rd.app_ (pv 3) (pe_ifExp (pt_cmpR op_in_str (pv 5) pe_str (by rfl)) (pv 4) (pe_op op_sub pe_int (pv 4)))))
        (pss_cons (ps_if (pt_cmpR op_eq (pv 5) pe_str (nomark _))
        (pss_one (ps_set (i := 2) sc_law_moved.nd rfl (.inl rfl) (pe_op op_add (pv 2) (pe_op op_mul pe_int (pv 4)))))
        pss_nil)
        (pss_one (ps_if (pt_cmpR op_eq (pv 5) pe_str (nomark _))
        (pss_one (ps_set (i := 2) sc_law_moved.nd rfl (.inl rfl) (pe_op op_add (pe_op op_add (pv 2) pe_int) (pe_op op_mul pe_int (pv 4)))))
        pss_nil)))))
      (pss_one (ps_ret (pe_tup (pa_cons (Rd.tupOf_ (K := K) rfl (by rfl) T.tup (pv 3)) (pa_cons (pe_op op_mod (pv 2) pe_int) pa_nil))))))), ?_⟩
    rw [show L2.start NN_law_moved [.ref a, .ref b] = [some (.ref a), some (.ref b), none, none, none, none] from rfl]
    walk_at "go"
    intro F0 hF0
    have ha1 := Rd.look_new (u := .lst []) ha hF0
    have hb1 := Rd.look_new (u := .lst []) hb hF0
    refine (show ∀ (ta : TA) (σ : L2.St) (H : Hp) (R : It → Hp → Prop), (∀ S : List V → Hp → Prop, S [.ref b, .str (txt l)] H → ta σ H S) → R (Itzd K (.tup b) (.txt (txt l))) H → SqT K H b (bs.map V.int) → iZd K ta σ H R from
      fun ta σ H R e q s => e _ ⟨.tup b, .txt (txt l), _, _, rfl, s, rfl, q⟩) _ _ _ _ (fun S hS => by walk_at "go"; exact hS) ?_ (.inl (.inl hb1))
    refine for_it (walk_zd (n := l.length) (xs := bs.map V.int) (ys := (txt l).cps.toList.map fun c => V.str ⟨#[c]⟩) (by rw [txt_cps]; simp [hl]))
      (fun i σ H' => ∃ x4 x5, σ = [some (.ref a), some (.ref b), some (.int (p + mvP (l.take i) (bs.take i))), some (.ref F0), x4, x5] ∧ H' F0 = some (.lst ((mvL (l.take i) (bs.take i)).map V.int)) ∧ Same H H')
      ⟨none, none, by simp [mvP], by simp [mvL, upd_same], Rd.same_new hF0⟩ (fun i σ H' _ h => ⟨.inl (.inl (h.choose_spec.choose_spec.2.2 _ _ hb)), rfl⟩) (fun i x σ H' H'' hi h y => ?_) fun σ H' h => ?_
    · obtain ⟨x4, x5, rfl, hF, s1⟩ := h
      obtain ⟨T0, y1, y2, rfl, hT, rfl, ey1, ey2⟩ := y
      obtain ⟨rfl, hm⟩ := get_map (0 : Int) ey1
      rw [txt_cps, List.map_map] at ey2
      obtain ⟨rfl, _⟩ := get_map (f := fun a : Lt => V.str ⟨#[a.cd]⟩) Lt.I ey2
      have b01 := h01 _ hm
      rw [take_snoc Lt.I hi, take_snoc (0 : Int) (by omega : i < bs.length), mvL_snoc _ _ (by simp; omega), mvP_snoc _ _ (by simp; omega)]
      generalize bs.getD i 0 = b0 at b01 ⊢
      generalize l.getD i .I = a0
      obtain ⟨H2, e2⟩ : ∃ H2, H2 = upd H' T0 (.tup [.int b0, .str ⟨#[a0.cd]⟩]) := ⟨_, rfl⟩
      have s2 : Same H' H2 := e2 ▸ Rd.same_new hT
      have hF2 := s2 _ _ hF
      have hT2 : H2 T0 = some (.tup [.int b0, .str ⟨#[a0.cd]⟩]) := by rw [e2]; exact upd_same
      rw [← e2]
      walk_at "go"
      refine ⟨.inl ⟨rfl, _, .inl (.inl hF2)⟩, ?_⟩
      simp only [eIZ, eZ, eY]
      have hlen : ((mvL (l.take i) (bs.take i)).map V.int).length < sizeLine := by
        rw [List.length_map, mvL_len (by simp; omega), sizeLine_eq, List.length_take]
        omega
      have fin : ∀ z : List V, Same H (upd H2 F0 (.lst z)) := fun z b o e => by
        rw [upd_ne (ne_of_none e hF0)]
        exact s2 _ _ (s1 _ _ e)
      cases a0
      · walk_at "go"
        exact ⟨_, hF2, hlen, by simp only [Lt.sg]; omega, by rw [upd_same]; simp [Lt.fl], fin _⟩
      · walk_at "go"
        exact ⟨_, hF2, hlen, by simp only [Lt.sg]; omega, by rw [upd_same]; simp [Lt.fl], fin _⟩
      · walk_at "go"
        exact ⟨_, hF2, hlen, .inl (by omega), by simp only [Lt.sg]; omega, by rw [upd_same]; simp [Lt.fl], fin _⟩
      · walk_at "go"
        exact ⟨_, hF2, hlen, .inl (by omega), by simp only [Lt.sg]; omega, by rw [upd_same]; simp [Lt.fl], fin _⟩
    · obtain ⟨x4, x5, rfl, hF, s1⟩ := h
      walk_at "go"
      rw [List.take_length, List.take_of_length_le (by omega : bs.length ≤ l.length)] at *
      refine .inl ⟨_, _, rfl, .inl (.inl hF), fun f hf => ?_⟩
      walk_at "go"
      intro r hr
      exact q _ r f (s1.trans ((Rd.same_new hf).trans (Rd.same_new hr))) upd_same (Rd.look_new upd_same hr)
end
end K51


set_option Elab.async false
set_option linter.all false
set_option maxRecDepth 100000
set_option maxHeartbeats 4000000
namespace K51
open PySem PySem.Spec PyProof.Rows L2
/-! the plain law -/
def dot : List Lt → List Int → Int
  | a :: l, b :: r => a.sg * b + dot l r
  | _, _ => 0
theorem mvP_dot : ∀ {l : List Lt} {r : List Int}, r.length = l.length → mvP l r = cY l + 2 * dot l r
  | [], [], _ => rfl
  | a :: l, b :: r, h => by
    rw [mvP, dot, mvP_dot (Nat.succ.inj h)]
    unfold cY
    rw [List.count_cons]
    cases a <;> simp [Lt.sg] <;> omega
def rowE (n j : Nat) : List Int := (List.range n).map fun k => if k = j then 1 else 0
theorem rowE_set (n j : Nat) : rowE n j = (List.replicate n (0 : Int)).set j 1 := by
  unfold rowE
  apply List.ext_getElem
  · simp
  · intro i h1 h2
    simp only [List.getElem_map, List.getElem_range, List.getElem_set, List.getElem_replicate]
    by_cases e : i = j
    · rw [if_pos e, if_pos e.symm]
    · rw [if_neg e, if_neg fun z => e z.symm]
theorem rowE_len (n j : Nat) : (rowE n j).length = n := by simp [rowE]
theorem rowE_bit (n j : Nat) : ∀ x ∈ rowE n j, x = 0 ∨ x = 1 := fun x hx => by
  obtain ⟨k, _, rfl⟩ := List.mem_map.mp hx
  by_cases e : k = j
  · rw [if_pos e]
    exact .inr rfl
  · rw [if_neg e]
    exact .inl rfl
theorem mvL_set : ∀ (l : List Lt) (r : List Int) (j : Nat) (y : Int), mvL l (r.set j y) = (mvL l r).set j (if (l.getD j .I).fl = 0 then y else 1 - y)
  | [], _, _, _ => by simp [mvL]
  | _ :: _, [], _, _ => by simp [mvL]
  | a :: l, b :: r, 0, y => by simp [mvL]
  | a :: l, b :: r, j + 1, y => by
    simp only [List.set_cons_succ, mvL, mvL_set l r j y]
    simp
theorem dot_set : ∀ {l : List Lt} {r : List Int} {j : Nat} (y : Int), j < l.length → r.length = l.length → dot l (r.set j y) = dot l r + (l.getD j .I).sg * (y - r.getD j 0)
  | a :: l, b :: r, 0, y, _, _ => by
    simp only [List.set_cons_zero, dot, List.getD_cons_zero]
    rw [Int.mul_sub]
    omega
  | a :: l, b :: r, j + 1, y, h, e => by
    simp only [List.set_cons_succ, dot, List.getD_cons_succ]
    rw [dot_set y (Nat.lt_of_succ_lt_succ h) (Nat.succ.inj e)]
    omega
theorem mvL_zero : ∀ l : List Lt, mvL l (List.replicate l.length (0 : Int)) = l.map Lt.fl
  | [] => rfl
  | a :: l => by
    rw [List.length_cons, List.replicate_succ, mvL, mvL_zero l]
    cases a <;> rfl
theorem dot_zero : ∀ (l : List Lt) (n : Nat), dot l (List.replicate n (0 : Int)) = 0
  | [], _ => by simp [dot]
  | a :: l, 0 => rfl
  | a :: l, n + 1 => by
    rw [List.replicate_succ, dot, dot_zero l n]
    omega
theorem dot_fl : ∀ l r : List Lt, dot l (r.map Lt.fl) = exL l r
  | [], _ => by simp [dot, exL]
  | _ :: _, [] => by simp [dot, exL]
  | a :: l, b :: r => by
    rw [List.map_cons, dot, exL, dot_fl l r]
theorem mvL_fl : ∀ l r : List Lt, mvL l (r.map Lt.fl) = (mulL l r).map Lt.fl
  | [], _ => by simp [mvL, mulL]
  | _ :: _, [] => by simp [mvL, mulL]
  | a :: l, b :: r => by
    rw [List.map_cons, mvL, mulL, List.map_cons, mvL_fl l r, fl_ltOf (bit2 _ _)]
    cases a <;> cases b <;> rfl
def effN (l1 l2 : List Lt) (j : Nat) : List Int := mvL l1 (mvL l2 (rowE l2.length j))
def effP (p1 : Int) (l1 : List Lt) (p2 : Int) (l2 : List Lt) (j : Nat) : Int := (p2 + mvP l2 (rowE l2.length j)) % 4 + (p1 + mvP l1 (mvL l2 (rowE l2.length j))) % 4
section
variable {p1 p2 : Int} {l1 l2 : List Lt}
theorem set_end {α : Type} (l : List α) (x : α) : l.set l.length x = l := List.set_eq_of_length_le (Nat.le_refl _)
theorem row_end (n : Nat) : rowE n n = List.replicate n (0 : Int) := by
  rw [rowE_set, List.set_eq_of_length_le (by simp)]
theorem effN_end : effN l1 l2 l2.length = (mulL l1 l2).map Lt.fl := by
  unfold effN
  rw [row_end, mvL_zero, mvL_fl]
theorem mvLL (l : List Lt) {r : List Int} (h : r.length = l.length) : (mvL l r).length = l.length := mvL_len h
theorem effP_end (h : l2.length = l1.length) : effP p1 l1 p2 l2 l2.length = (p2 + cY l2) % 4 + (p1 + (cY l1 + 2 * exL l1 l2)) % 4 := by
  unfold effP
  rw [row_end, mvP_dot (by simp), dot_zero, mvL_zero, mvP_dot (by simp [h]), dot_fl]
  simp
theorem sg_mul : ∀ {l1 l2 : List Lt} {j : Nat}, j < l1.length → l2.length = l1.length → ((mulL l1 l2).getD j .I).sg = ((l1.getD j .I).sg + (l2.getD j .I).sg) % 2
  | a :: l, b :: r, 0, _, _ => by
    simp only [mulL, List.getD_cons_zero]
    exact sg_ltOf (bit2 _ _)
  | a :: l, b :: r, j + 1, h, e => by
    simp only [mulL, List.getD_cons_succ]
    exact sg_mul (Nat.lt_of_succ_lt_succ h) (Nat.succ.inj e)
theorem sg01 (a : Lt) : a.sg = 0 ∨ a.sg = 1 := by cases a <;> simp [Lt.sg]
theorem fl01 (a : Lt) : a.fl = 0 ∨ a.fl = 1 := by cases a <;> simp [Lt.fl]
theorem effP_sign {j : Nat} (hj : j < l1.length) (h : l2.length = l1.length) :
    decide ((effP p1 l1 p2 l2 j - effP p1 l1 p2 l2 l2.length) % 4 = 2) = decide (((mulL l1 l2).getD j .I).sg = 1) := by
  rw [effP_end h, sg_mul hj h]
  unfold effP
  rw [rowE_set, mvP_dot (by simp), dot_set 1 (by omega) (by simp), dot_zero, mvL_set, mvL_zero, mvP_dot (by simp [h]), dot_set _ hj (by simp [h]), dot_fl]
  have e1 : (List.replicate l2.length (0 : Int)).getD j 0 = 0 := by simp [List.getD, h, hj]
  have e2 : (l2.map Lt.fl).getD j 0 = (l2.getD j .I).fl := by
    have : j < l2.length := by omega
    simp [List.getD, this]
  rw [e1, e2]
  generalize (l2.getD j .I) = b
  generalize (l1.getD j .I) = a
  cases a <;> cases b <;> simp [Lt.sg, Lt.fl] <;> omega
theorem due_pow (h : l2.length = l1.length) : (effP p1 l1 p2 l2 l2.length - cY (mulL l1 l2)) % 4 = mulP p1 l1 p2 l2 := by
  rw [effP_end h]
  unfold mulP
  omega
end
end K51


set_option Elab.async false
set_option linter.all false
set_option maxRecDepth 100000
set_option maxHeartbeats 4000000
namespace K51
open PySem PySem.Spec PyProof.Rows L2
/-! products: exchange, three, units, squares -/
theorem mulL_comm : ∀ l r : List Lt, mulL l r = mulL r l
  | [], [] => rfl
  | [], _ :: _ => rfl
  | _ :: _, [] => rfl
  | a :: l, b :: r => by
    rw [mulL, mulL, mulL_comm l r, Int.add_comm a.fl, Int.add_comm a.sg]
def lm (a b : Lt) : Lt := ltOf ((a.fl + b.fl) % 2) ((a.sg + b.sg) % 2)
theorem lm_assoc (a b c : Lt) : lm (lm a b) c = lm a (lm b c) := by cases a <;> cases b <;> cases c <;> decide
theorem mulL_assoc : ∀ l r s : List Lt, mulL (mulL l r) s = mulL l (mulL r s)
  | [], _, _ => by simp [mulL]
  | _ :: _, [], _ => by simp [mulL]
  | _ :: _, _ :: _, [] => by simp [mulL]
  | a :: l, b :: r, c :: s => by
    rw [mulL, mulL, mulL, mulL, mulL_assoc l r s]
    exact congrArg (· :: _) (lm_assoc a b c)
theorem mulL_unit : ∀ l : List Lt, mulL l (List.replicate l.length .I) = l
  | [] => rfl
  | a :: l => by
    rw [List.length_cons, List.replicate_succ, mulL, mulL_unit l]
    cases a <;> rfl
theorem mulL_self : ∀ l : List Lt, mulL l l = List.replicate l.length .I
  | [] => rfl
  | a :: l => by
    rw [List.length_cons, List.replicate_succ, mulL, mulL_self l]
    cases a <;> rfl
theorem cY_unit (n : Nat) : cY (List.replicate n Lt.I) = 0 := by
  unfold cY
  rw [List.count_replicate]
  rfl
theorem exL_unit : ∀ (l : List Lt) (n : Nat), exL l (List.replicate n .I) = 0
  | [], _ => by simp [exL]
  | a :: l, 0 => rfl
  | a :: l, n + 1 => by
    rw [List.replicate_succ, exL, exL_unit l n]
    simp [Lt.fl]
theorem exL_unit' : ∀ (l : List Lt) (n : Nat), exL (List.replicate n .I) l = 0
  | [], 0 => rfl
  | [], n + 1 => rfl
  | a :: l, 0 => rfl
  | a :: l, n + 1 => by
    rw [List.replicate_succ, exL, exL_unit' l n]
    simp [Lt.sg]
theorem exL_self : ∀ l : List Lt, exL l l = cY l
  | [] => rfl
  | a :: l => by
    rw [exL, exL_self l]
    unfold cY
    rw [List.count_cons]
    cases a <;> simp [Lt.sg, Lt.fl] <;> omega
theorem exL_left : ∀ a b c : List Lt, b.length = a.length → c.length = a.length → (exL (mulL a b) c - exL a c - exL b c) % 2 = 0
  | [], [], [], _, _ => rfl
  | x :: a, y :: b, z :: c, h1, h2 => by
    have ih := exL_left a b c (Nat.succ.inj h1) (Nat.succ.inj h2)
    simp only [mulL, exL]
    have e : (ltOf ((x.fl + y.fl) % 2) ((x.sg + y.sg) % 2)).sg = (x.sg + y.sg) % 2 := sg_ltOf (bit2 _ _)
    rw [e]
    cases x <;> cases y <;> cases z <;> simp [Lt.sg, Lt.fl] <;> omega
theorem exL_right : ∀ a b c : List Lt, b.length = a.length → c.length = a.length → (exL a (mulL b c) - exL a b - exL a c) % 2 = 0
  | [], [], [], _, _ => rfl
  | x :: a, y :: b, z :: c, h1, h2 => by
    have ih := exL_right a b c (Nat.succ.inj h1) (Nat.succ.inj h2)
    simp only [mulL, exL]
    have e : (ltOf ((y.fl + z.fl) % 2) ((y.sg + z.sg) % 2)).fl = (y.fl + z.fl) % 2 := fl_ltOf (bit2 _ _)
    rw [e]
    cases x <;> cases y <;> cases z <;> simp [Lt.sg, Lt.fl] <;> omega
def clash (a b : Lt) : Bool := decide (a ≠ b) && (decide (a ≠ .I) && decide (b ≠ .I))
def clN : List Lt → List Lt → Int
  | a :: l, b :: r => (if clash a b = true then 1 else 0) + clN l r
  | _, _ => 0
theorem exL_clash : ∀ a b : List Lt, b.length = a.length → (exL a b + exL b a - clN a b) % 2 = 0
  | [], [], _ => rfl
  | x :: a, y :: b, h => by
    have ih := exL_clash a b (Nat.succ.inj h)
    simp only [exL, clN]
    cases x <;> cases y <;> simp [Lt.sg, Lt.fl, clash] <;> omega
theorem clN_filter : ∀ a b : List Lt, b.length = a.length → (((List.range a.length).filter fun i => clash (a.getD i .I) (b.getD i .I)).length : Int) = clN a b
  | [], [], _ => rfl
  | x :: a, y :: b, h => by
    have ih := clN_filter a b (Nat.succ.inj h)
    rw [List.length_cons, List.range_succ_eq_map, List.filter_cons, clN]
    have e : (List.filter (fun i => clash ((x :: a).getD i .I) ((y :: b).getD i .I)) (List.map Nat.succ (List.range a.length))).length = ((List.range a.length).filter fun i => clash (a.getD i .I) (b.getD i .I)).length := by
      rw [List.filter_map, List.length_map]
      rfl
    simp only [List.getD_cons_zero]
    by_cases c : clash x y = true
    · rw [if_pos c, if_pos c, List.length_cons, e]
      omega
    · rw [if_neg c, if_neg c, e]
      omega
section
variable {p1 p2 p3 : Int} {l1 l2 l3 : List Lt}
theorem mulP_mod : 0 ≤ mulP p1 l1 p2 l2 ∧ mulP p1 l1 p2 l2 ≤ 3 := by
  unfold mulP
  omega
theorem mulP_comm (h : l2.length = l1.length) : mulP p2 l2 p1 l1 = (mulP p1 l1 p2 l2 + 2 * clN l1 l2) % 4 := by
  have := exL_clash l1 l2 h
  unfold mulP
  rw [mulL_comm l2 l1]
  omega
theorem mulP_assoc (h2 : l2.length = l1.length) (h3 : l3.length = l1.length) : mulP (mulP p1 l1 p2 l2) (mulL l1 l2) p3 l3 = mulP p1 l1 (mulP p2 l2 p3 l3) (mulL l2 l3) := by
  have e1 := exL_left l1 l2 l3 h2 h3
  have e2 := exL_right l1 l2 l3 h2 h3
  unfold mulP
  rw [mulL_assoc l1 l2 l3]
  omega
theorem mulP_unit (h0 : 0 ≤ p1) (h3 : p1 ≤ 3) : mulP p1 l1 0 (List.replicate l1.length .I) = p1 := by
  unfold mulP
  rw [mulL_unit, cY_unit, exL_unit]
  omega
theorem mulP_unit' (h0 : 0 ≤ p1) (h3 : p1 ≤ 3) : mulP 0 (List.replicate l1.length .I) p1 l1 = p1 := by
  unfold mulP
  rw [mulL_comm, mulL_unit, cY_unit, exL_unit']
  omega
theorem mulP_self : mulP p1 l1 p1 l1 = 2 * p1 % 4 := by
  unfold mulP
  rw [mulL_self, cY_unit, exL_self]
  omega
end
/-! words as data -/
def wD (p : Int) (l : List Lt) : PyData := .tuple [.int p, .str (txt l)]
theorem wD_lay (p : Int) (l : List Lt) : (wD p l).canLay0 = true := by
  simp only [wD, PyData.canLay0, PyData.canLayAll0, Bool.and_true, Bool.true_and]
  unfold PyData.strOk
  rw [← Array.all_toList, txt_cps, List.all_eq_true]
  intro x hx
  obtain ⟨a, _, rfl⟩ := List.mem_map.mp hx
  cases a <;> decide
theorem wD_shaped (p : Int) (l : List Lt) : SeqAt.shaped (wD p l) = true := by
  show ((wD p l).canLay0 && decide ((wD p l).depth ≤ 64)) = true
  rw [wD_lay, Bool.true_and]
  rfl
theorem wD_eqv (p : Int) (l : List Lt) : PyData.eqv (wD p l) (wD p l) = true := by
  simp [wD, PyData.eqv, PyData.eqvAll]
theorem wD_at {K : PySem.W.Frag} {H : Hp} {v : V} {p : Int} {l : List Lt} (h : WAt H v p l) : Dp K H v (wD p l) := by
  obtain ⟨a, rfl, h⟩ := h
  exact .tup (.inl (.inl h)) (.cons (.int p) (.cons (.str _) .nil))
/-- two of one word in a list -/
def wDD (p : Int) (l : List Lt) : PyData := .list [wD p l, wD p l]
theorem wDD_show (p : Int) (l : List Lt) (h0 : 0 ≤ p) (h3 : p ≤ 3) : (wDD p l).showable = true := by
  have e : p = 0 ∨ p = 1 ∨ p = 2 ∨ p = 3 := by omega
  rcases e with rfl | rfl | rfl | rfl <;> simp [wDD, wD, PyData.showable, PyData.showableAll] <;> decide
theorem wDD_len (p : Int) (l : List Lt) (h0 : 0 ≤ p) (h3 : p ≤ 3) (hl : l.length ≤ 8) : (wDD p l).shown.length ≤ sizeLine := by
  have hw : PyData.layable0 (wDD p l) = true := by
    show ((wDD p l).canLay0 && decide ((wDD p l).depth ≤ 64) && decide ((wDD p l).weight ≤ 2 ^ 20)) = true
    have e1 : (wDD p l).canLay0 = true := by simp [wDD, PyData.canLay0, PyData.canLayAll0, wD_lay]
    have e2 : (wDD p l).depth ≤ 64 := by simp [wDD, wD, PyData.depth, PyData.depthAll]
    have e3 : (wDD p l).weight ≤ 2 ^ 20 := by
      have hp : (PyData.int p).weight ≤ 2 := by
        have e : p = 0 ∨ p = 1 ∨ p = 2 ∨ p = 3 := by omega
        rcases e with rfl | rfl | rfl | rfl <;> decide
      have ht : (PyData.str (txt l)).weight ≤ 8 := by
        simp only [PyData.weight]
        have := txt_len l
        unfold Str.length at this
        omega
      simp only [wDD, wD]
      simp only [PyData.weight, PyData.weightAll] at hp ht ⊢
      omega
    rw [e1, decide_eq_true e2, decide_eq_true e3]
    rfl
  have hi : (wDD p l).intsShort 13 = true := by
    have e : p = 0 ∨ p = 1 ∨ p = 2 ∨ p = 3 := by omega
    rcases e with rfl | rfl | rfl | rfl <;> simp [wDD, wD, PyData.intsShort, PyData.intsShortAll, PyData.shown] <;> decide +kernel
  have := shown_le13 hw hi
  rw [sizeLine_eq]
  omega
end K51


set_option Elab.async false
set_option linter.all false
set_option maxRecDepth 100000
set_option maxHeartbeats 4000000
namespace K51
open PySem PySem.Spec PyProof.Rows L2
local macro_rules | `(tactic| walk_at "ar") => `(tactic| first | omega | (simp only [txt_len]; omega) | (rw [sizeLine_eq]; omega) | (rw [sizeLine_eq]; simp only [txt_len]; omega))
local macro_rules | `(tactic| walk_at "rd") => `(tactic| simp only [Rd.seq, Rd.next, Rd.brk, Rd.cont, Rd.drop, Rd.ret, Rd.retN, Rd.ifS, Rd.asg, Rd.par, Rd.par3, Rd.aug, Rd.ipi, Rd.gname, Rd.gnil, Rd.gcons, Rd.gtup, Rd.gsub, Rd.var, Rd.con, Rd.op, Rd.un, Rd.bb, Rd.test, Rd.not, Rd.and, Rd.or, Rd.andV, Rd.orV, Rd.notV, Rd.ifE, Rd.yes, Rd.chain, Rd.ri, Rd.ri0, Rd.ru, Rd.req, Rd.rne, Rd.nil, Rd.cons, Rd.tup, Rd.lst, Rd.cb, Rd.call, Rd.callK, Rd.m0, Rd.m1, Rd.bm0, Rd.bm, Rd.dget, Rd.dput, Rd.disp, Rd.pairs0, Rd.pairs1, Rd.ixL, Rd.ixT, Rd.ixS, Rd.setL, Rd.istr, Rd.ilist, Rd.itup, Rd.irng1, Rd.lc, Rd.for_, Rd.at0, Rd.at1, Rd.at2, Rd.at3, Rd.isN, Rd.notN, Rd.ixD, Rd.cnt, Rd.jn, Rd.thn, Rd.sum, Rd.app, Rd.cxK, Rd.blkK,
  wipe, scal, List.set, List.cons.injEq, List.cons_append, List.nil_append, List.append_nil, List.map_cons, List.map_nil, List.length_cons, List.length_nil, List.length_map, Nat.reduceAdd, Nat.reduceSub, Int.cast_ofNat_Int, Int.natCast_zero, Int.natCast_one, List.getElem?_cons_zero, List.getElem?_cons_succ, Option.some.injEq, V.int.injEq, V.bl.injEq, V.str.injEq, V.ref.injEq, exists_eq_left, exists_eq_left', exists_eq', exists_eq, exists_and_left, and_assoc, and_true, true_and, reduceCtorEq, decide_true, decide_false, Bool.not_true, Bool.not_false, Bool.false_eq_true, ite_true, ite_false, if_true, if_false])
local macro_rules | `(tactic| walk_at "kit") => `(tactic| first | exact Rd.kit_tuple_tuple | exact Rd.kit_int_int | exact Rd.kit_int_bool | exact Rd.kit_str_str | exact Rd.kit_tuple_int | exact Rd.kit_tuple_str | exact Rd.kit_list_tuple | exact Rd.kit_int_str | exact Rd.kit_int_tuple | exact Rd.kit_bool_int | exact Rd.kit_bool_bool | exact Rd.kit_str_int | exact Rd.kit_str_tuple)
local macro_rules | `(tactic| walk_at "lh") => `(tactic| first | assumption | exact upd_same | (refine Rd.look_new ?_ (by assumption); walk_at "lh"))
local macro_rules | `(tactic| walk_at "st") => `(tactic| first
  | (with_reducible refine Rd.tup_is (by walk_at "lh") (by walk_at "kit") ?_)
  | (with_reducible refine Rd.int_is (by walk_at "kit") ?_)
  | (with_reducible refine Rd.str_is (by walk_at "kit") ?_)
  | (with_reducible refine Rd.len_tup (by walk_at "lh") ?_)
  | (with_reducible refine Rd.len_lst (by walk_at "lh") ?_)
  | (with_reducible refine Rd.get_tup (by walk_at "lh") ?_)
  | (with_reducible refine Rd.get_lst (by walk_at "lh") ?_)
  | (with_reducible refine Rd.has_tup (by walk_at "lh") ?_)
  | (with_reducible refine Rd.has_lst (by walk_at "lh") ?_)
  | (with_reducible refine Rd.dr_turn (by walk_at "lh") ?_)
  | (with_reducible refine Rd.dr_cells (by walk_at "lh") ?_)
  | (with_reducible refine Rd.dr_large (by walk_at "lh") ?_)
  | (with_reducible refine Rd.dc_t (by walk_at "ar") ?_)
  | (with_reducible refine Rd.dc_f (by walk_at "ar") ?_)
  | (with_reducible refine Rd.dn_t (by walk_at "ar") ?_)
  | (with_reducible refine Rd.dn_f (by walk_at "ar") ?_)
  | (with_reducible refine And.intro (by walk_at "ar") ?_))
local macro_rules | `(tactic| walk_at "go") => `(tactic| repeat (first | walk_at "rd" | walk_at "st"))

theorem txt_snoc (l : List Lt) (a : Lt) : txt l ++ (⟨#[a.cd]⟩ : Str) = txt (l ++ [a]) := by
  show Str.append _ _ = _
  simp [Str.append, txt]
theorem at_len {α : Type} (l : List α) (i : Nat) (h : i < l.length) : atI l (i : Int) = some l[i] := by
  rw [Rd.at_nat, List.getElem?_eq_getElem h]
section
variable {P : Program} {w : World} {K : PySem.W.Frag} {mg : Str → Option Value} {base : Heap}
/-! _law_due -/
def spDue : Sp := fun vs H Q _ => ∃ v1 v2 p1 l1 p2 l2, vs = [v1, v2] ∧ WAt H v1 p1 l1 ∧ WAt H v2 p2 l2 ∧ l1.length ≤ 8 ∧ l2.length = l1.length ∧ ∀ H' v, Same H H' → WAt H' v (mulP p1 l1 p2 l2) (mulL l1 l2) → Q v H'
/-- what the effects hold -/
def Eff (p1 : Int) (l1 : List Lt) (p2 : Int) (l2 : List Lt) (H : Hp) (es : List V) : Prop := ∀ (j : Nat) (h : j < es.length), ∃ a f, es[j] = .ref a ∧ H a = some (.tup [.ref f, .int (effP p1 l1 p2 l2 j)]) ∧ H f = some (.tup ((effN l1 l2 j).map V.int))
abbrev NN_law_due : List Str := ["_law_one", "_law_other", "_law_effects", "_law_count", "_law_at", "_law_row", "_law_far", "_law_power", "_law_near", "_law_more", "_law_start_here", "_law_letters_here", "_law_is_signed", "_law_k"]
theorem sc_law_due : FnScope NN_law_due ["_law_one", "_law_other"] d_law_due.scope := ⟨rfl, rfl, rfl, by decide +kernel, rfl, by decide +kernel, by decide +kernel⟩
theorem ok_law_due {fd : FuncData} (F : FnP K d_law_due fd) (T : Txt K w mg) (C_law_moved : Rd.Cal P w K mg base 1 "_law_moved" spMoved []) : FnOk P w K mg base CX0 2 (He.fAd K d_law_due.at_) fd ["_law_one", "_law_other"] spDue := by
  refine F.ok sc_law_due (fun vs H Q E h => ?_) (fun cdv A outer s H vs Q E hr h => ?_)
  · obtain ⟨v1, v2, p1, l1, p2, l2, rfl, _⟩ := h
    rfl
  · obtain ⟨v1, v2, p1, l1, p2, l2, rfl, ⟨a1, rfl, w1⟩, w2, hl8, hl, q⟩ := h
    refine ⟨_, PSs.nox (pss_cons (ps_par (i := 2) (j := 3) rfl sc_law_due.nd rfl rfl (by decide) rfl rfl (pa_cons (pe_lst pa_nil) (pa_cons (pe_callB call_len_str (by rfl) T.len boot_len (pa_cons (pe_ix (Rd.ixT_ (K := K) rfl) (pv 0) pe_int (fun _ _ => rfl)) pa_nil)) pa_nil)) rfl)
      (pss_cons (ps_for PassesOwn.never rfl (pi_range1 (by rfl) T.range (pa_cons (pe_op op_add (pv 3) pe_int) pa_nil)) (pg_name (i := 4) sc_law_due.nd rfl (.inr rfl))
      (pss_cons (ps_set (i := 5) sc_law_due.nd rfl (.inl rfl) (Rd.tupOf_ (K := K) rfl (by rfl) T.tup (pe_lc (own := [("_law_k", 13)]) (tt := tYes) rfl sc_law_due.nd (pi_range1 (by rfl) T.range (pa_cons (pv 3) pa_nil)) (blkOk_by (N := NN_law_due) (sc := d_law_due.scope) (by decide +kernel)) (fun _ _ _ _ _ => by exact (pg_name (i := 13) sc_law_due.nd rfl (.inl rfl))) (fun _ _ _ _ _ => pts_nil) (fun _ _ _ _ _ => (pe_callTy call_int1 (by rfl) T.int (by decide +kernel) (pa_cons (pe_cmpR op_eq (pv 13) (pv 4) (nomark _)) pa_nil))))))
        (pss_cons (ps_asg (Rd.pe_c C_law_moved hr (by decide) (by rfl) (pa_cons (pv 1) (pa_cons (pv 5) pa_nil))) (pg_tup (n := 2) rfl (pgs_cons (pg_name (i := 6) sc_law_due.nd rfl (.inl rfl)) (pgs_cons (pg_name (i := 7) sc_law_due.nd rfl (.inl rfl)) pgs_nil))))
        (pss_cons (ps_asg (Rd.pe_c C_law_moved hr (by decide) (by rfl) (pa_cons (pv 0) (pa_cons (pv 6) pa_nil))) (pg_tup (n := 2) rfl (pgs_cons (pg_name (i := 8) sc_law_due.nd rfl (.inl rfl)) (pgs_cons (pg_name (i := 9) sc_law_due.nd rfl (.inl rfl)) pgs_nil))))
        (pss_one (ps_expr (Rd.app_ (pv 2) (pe_tup (pa_cons (pv 8) (pa_cons (pe_op op_add (pv 7) (pv 9)) pa_nil))))))))))
      (pss_cons (ps_asg (pe_ix (Rd.ixL_ (K := K) rfl) (pv 2) (pv 3) (fun _ _ => rfl)) (pg_tup (n := 2) rfl (pgs_cons (pg_name (i := 10) sc_law_due.nd rfl (.inl rfl)) (pgs_cons (pg_name (i := 7) sc_law_due.nd rfl (.inl rfl)) pgs_nil))))
      (pss_cons (ps_set (i := 11) sc_law_due.nd rfl (.inl rfl) pe_str)
      (pss_cons (ps_for PassesOwn.never rfl (pi_range1 (by rfl) T.range (pa_cons (pv 3) pa_nil)) (pg_name (i := 4) sc_law_due.nd rfl (.inr rfl))
      (pss_cons (ps_set (i := 12) sc_law_due.nd rfl (.inl rfl) (pe_cmpR op_eq (pe_op op_mod (pe_op op_sub (pe_ix (Rd.ixT_ (K := K) rfl) (pe_ix (Rd.ixL_ (K := K) rfl) (pv 2) (pv 4) (fun _ _ => rfl)) pe_int (fun _ _ => rfl)) (pv 7)) pe_int) pe_int (nomark _)))
        (pss_one (ps_set (i := 11) sc_law_due.nd rfl (.inl rfl) (pe_op op_add_str (pv 11) (pe_ix (Rd.ixL_ (K := K) rfl) (pe_lst (pa_cons pe_str (pa_cons pe_str (pa_cons pe_str (pa_cons pe_str pa_nil))))) (pe_op op_add (pe_op op_mul pe_int (pe_ix (Rd.ixT_ (K := K) rfl) (pv 10) (pv 4) (fun _ _ => rfl))) (pe_callTy call_int1 (by rfl) T.int (by decide +kernel) (pa_cons (pv 12) pa_nil))) (fun _ _ => rfl)))))))
      (pss_one (ps_ret (pe_tup (pa_cons (pe_op op_mod (pe_op op_sub (pv 7) (Rd.cnt_ (pv 11) pe_str)) pe_int) (pa_cons (pv 11) pa_nil)))))))))), ?_⟩
    rw [show L2.start NN_law_due [.ref a1, v2] = [some (.ref a1), some v2, none, none, none, none, none, none, none, none, none, none, none, none] from rfl]
    walk_at "go"
    intro E0 hE0
    have w1' := Rd.look_new (u := .lst []) w1 hE0
    walk_at "go"
    rw [txt_len]
    rw [show ((l1.length : Int) + 1).toNat = l1.length + 1 by omega]
    refine for_it walk_range (fun i σ H' => ∃ x4 x5 x6 x7 x8 x9 es, σ = [some (.ref a1), some v2, some (.ref E0), some (.int l1.length), x4, x5, x6, x7, x8, x9, none, none, none, none] ∧ H' E0 = some (.lst es) ∧ es.length = i ∧ Eff p1 l1 p2 l2 H' es ∧ Same H H')
      ⟨none, none, none, none, none, none, [], rfl, upd_same, rfl, fun j h => by simp at h, Rd.same_new hE0⟩ (fun _ _ _ _ _ => trivial) (fun i x σ H' H'' hi h y => ?_) fun σ H' h => ?_
    · obtain ⟨x4, x5, x6, x7, x8, x9, es, rfl, hE, hes, hf, s1⟩ := h
      obtain ⟨rfl, rfl⟩ := y
      walk_at "go"
      refine Rd.lc_map walk_range (fun k => .int (if k = i then 1 else 0)) (fun _ _ => trivial) (by walk_at "ar") (fun k x H2 H3 hk s2 y R h1 => ?_) fun D H2 hD s2 hL => ?_
      · obtain ⟨rfl, rfl⟩ := y
        walk_at "go"
        refine .inr ?_
        have h2 := h1 _ (Same.refl _)
        by_cases e : k = i
        · rw [if_pos e] at h2
          rw [decide_eq_true (by omega), if_pos rfl]
          exact h2
        · rw [if_neg e] at h2
          rw [decide_eq_false (by omega)]
          exact h2
      · have hL' : H2 D = some (.lst ((rowE l2.length i).map V.int)) := by
          rw [hL, hl]
          unfold rowE
          rw [List.map_map]
          rfl
        walk_at "go"
        refine .inl ⟨_, _, rfl, .inl (.inl hL'), fun row hrow => ?_⟩
        obtain ⟨H3, e3⟩ : ∃ H3, H3 = upd H2 row (.tup ((rowE l2.length i).map V.int)) := ⟨_, rfl⟩
        have s3 : Same H2 H3 := e3 ▸ Rd.same_new hrow
        have hr3 : H3 row = some (.tup ((rowE l2.length i).map V.int)) := by rw [e3]; exact upd_same
        rw [← e3]
        have s13 : Same H H3 := s1.trans (s2.trans s3)
        refine ⟨_, _, p2, l2, _, rfl, w2.mono s13, hr3, rowE_len _ _, by omega, rowE_bit _ _, fun H4 r4 f4 s4 hr4 hf4 => ?_⟩
        walk_at "go"
        refine ⟨_, _, p1, l1, _, rfl, ⟨a1, rfl, s4 _ _ (s13 _ _ w1)⟩, hf4, by rw [mvL_len (rowE_len _ _), hl], hl8, mvL_bit (rowE_bit _ _), fun H5 r5 f5 s5 hr5 hf5 => ?_⟩
        have s25 : Same H'' H5 := s2.trans (s3.trans (s4.trans s5))
        have hE5 := s25 _ _ hE
        walk_at "go"
        refine ⟨.inl ⟨rfl, _, .inl (.inl hE5)⟩, ?_⟩
        walk_at "go"
        intro t ht
        have s6 : Same H5 (upd H5 t (.tup [.ref f5, .int ((p2 + mvP l2 (rowE l2.length i)) % 4 + (p1 + mvP l1 (mvL l2 (rowE l2.length i))) % 4)])) := Rd.same_new ht
        have hE6 := s6 _ _ hE5
        refine ⟨es, hE6, by rw [hes, sizeLine_eq]; omega, ?_⟩
        have key : ∀ (z : List V) (b : Addr) (xs : List V), H5 b = some (.tup xs) → upd (upd H5 t (.tup [.ref f5, .int ((p2 + mvP l2 (rowE l2.length i)) % 4 + (p1 + mvP l1 (mvL l2 (rowE l2.length i))) % 4)])) E0 (.lst z) b = some (.tup xs) := fun z b xs e => by
          rw [upd_ne fun e2 => by rw [e2, hE5] at e; cases e]
          exact s6 _ _ e
        have htE : t ≠ E0 := fun e2 => by
          rw [e2, hE5] at ht
          cases ht
        refine ⟨es ++ [.ref t], upd_same, by simp [hes], fun j hj => ?_, fun b o e => ?_⟩
        · by_cases hlt : j < es.length
          · obtain ⟨a, f, q1, q2, q3⟩ := hf j hlt
            exact ⟨a, f, by rw [List.getElem_append_left hlt]; exact q1, key _ _ _ (s25 _ _ q2), key _ _ _ (s25 _ _ q3)⟩
          · have ej : j = i := by
              rw [List.length_append, List.length_singleton] at hj
              omega
            subst ej
            refine ⟨t, f5, ?_, ?_, key _ _ _ hf5⟩
            · rw [List.getElem_append_right (by omega)]
              simp [hes]
            · rw [upd_ne htE]
              exact upd_same
        · rw [upd_ne (ne_of_none e hE0)]
          exact s6 _ _ (s25 _ _ (s1 _ _ e))
    · obtain ⟨x4, x5, x6, x7, x8, x9, es, rfl, hE, hes, hf, s1⟩ := h
      obtain ⟨a, f, ee, ha, hff⟩ := hf l1.length (by omega)
      walk_at "go"
      refine ⟨_, at_len es _ (by omega), a, ee, ?_⟩
      walk_at "go"
      rw [show ((l1.length : Int)).toNat = l1.length from rfl]
      refine for_it walk_range (fun i σ H2 => ∃ x4 x12, σ = [some (.ref a1), some v2, some (.ref E0), some (.int l1.length), x4, x5, x6, some (.int (effP p1 l1 p2 l2 l1.length)), x8, x9, some (.ref f), some (.str (txt ((mulL l1 l2).take i))), x12, none] ∧ Same H' H2)
        ⟨x4, none, by simp [txt]; rfl, Same.refl _⟩ (fun _ _ _ _ _ => trivial) (fun i x σ H2 H3 hi h y => ?_) fun σ H2 h => ?_
      · obtain ⟨y4, y12, rfl, s2⟩ := h
        obtain ⟨rfl, rfl⟩ := y
        obtain ⟨ai, fi, ei, hai, hfi⟩ := hf i (by omega)
        have hE3 := s2 _ _ hE
        have hai3 := s2 _ _ hai
        have hf3 := s2 _ _ hff
        walk_at "go"
        refine ⟨_, by rw [show (0 : Int) + (i : Int) = (i : Int) by omega]; exact at_len es _ (by omega), ai, ei, ?_⟩
        walk_at "go"
        intro p4 hp4
        have hf4 := Rd.look_new (u := .lst [.str "I", .str "Z", .str "X", .str "Y"]) hf3 hp4
        have hm : i < ((effN l1 l2 l1.length).map V.int).length := by
          rw [← hl, effN_end, List.length_map, List.length_map, mulL_len hl.symm]
          exact hi
        walk_at "go"
        refine ⟨_, by rw [show (0 : Int) + (i : Int) = (i : Int) by omega]; exact at_len _ _ hm, ?_⟩
        have hM : i < (mulL l1 l2).length := by rw [mulL_len hl.symm]; exact hi
        have ex : (List.map V.int (effN l1 l2 l1.length))[i] = .int ((mulL l1 l2).getD i .I).fl := by
          simp only [← hl, effN_end]
          simp [List.getD, hM]
        have hs : decide ((effP p1 l1 p2 l2 i - effP p1 l1 p2 l2 l1.length) % 4 = 2) = decide (((mulL l1 l2).getD i .I).sg = 1) := by
          rw [← hl]
          exact effP_sign hi hl
        have s4 : ∀ o, Same H' (upd H3 p4 o) := fun o => s2.trans (Rd.same_new hp4)
        have hz : ∀ a : Lt, (txt ((mulL l1 l2).take i)).length + a.sig.length ≤ sizeLine := fun a => by
          have h1 : (txt ((mulL l1 l2).take i)).length ≤ 8 := by
            rw [txt_len, List.length_take, mulL_len hl.symm]
            omega
          have h2 : a.sig.length = 1 := rfl
          rw [sizeLine_eq, h2]
          omega
        refine ⟨_, ex, .inl (by omega), .inr ⟨_, .inl (.inl upd_same), ?_⟩⟩
        simp only [hs, take_snoc Lt.I hM, ← txt_snoc]
        generalize (mulL l1 l2).getD i .I = a0
        cases a0
        · exact ⟨_, Rd.at0, _, rfl, hz .I, rfl, s4 _⟩
        · exact ⟨_, Rd.at2, _, rfl, hz .X, rfl, s4 _⟩
        · exact ⟨_, Rd.at3, _, rfl, hz .Y, rfl, s4 _⟩
        · exact ⟨_, Rd.at1, _, rfl, hz .Z, rfl, s4 _⟩
      · obtain ⟨y4, y12, rfl, s2⟩ := h
        walk_at "go"
        intro r hr
        rw [show (Str.ofString "Y") = (⟨#[89]⟩ : Str) from by decide, List.take_of_length_le (by rw [mulL_len hl.symm]; omega), count_Y, ← hl, due_pow hl]
        exact q _ _ (s1.trans (s2.trans (Rd.same_new hr))) ⟨r, rfl, upd_same⟩
end
end K51


set_option Elab.async false
set_option linter.all false
set_option maxRecDepth 100000
set_option maxHeartbeats 4000000
namespace K51
open PySem PySem.Spec PyProof.Rows L2
local macro_rules | `(tactic| walk_at "ar") => `(tactic| first | omega | (simp only [txt_len]; omega) | (rw [sizeLine_eq]; omega) | (rw [sizeLine_eq]; simp only [txt_len]; omega))
local macro_rules | `(tactic| walk_at "rd") => `(tactic| simp only [Rd.seq, Rd.next, Rd.brk, Rd.cont, Rd.drop, Rd.ret, Rd.retN, Rd.ifS, Rd.asg, Rd.par, Rd.par3, Rd.aug, Rd.ipi, Rd.gname, Rd.gnil, Rd.gcons, Rd.gtup, Rd.gsub, Rd.var, Rd.con, Rd.op, Rd.un, Rd.bb, Rd.test, Rd.not, Rd.and, Rd.or, Rd.andV, Rd.orV, Rd.notV, Rd.ifE, Rd.yes, Rd.chain, Rd.ri, Rd.ri0, Rd.ru, Rd.req, Rd.rne, Rd.nil, Rd.cons, Rd.tup, Rd.lst, Rd.cb, Rd.call, Rd.callK, Rd.m0, Rd.m1, Rd.bm0, Rd.bm, Rd.dget, Rd.dput, Rd.disp, Rd.pairs0, Rd.pairs1, Rd.ixL, Rd.ixT, Rd.ixS, Rd.setL, Rd.istr, Rd.ilist, Rd.itup, Rd.irng1, Rd.lc, Rd.for_, Rd.at0, Rd.at1, Rd.at2, Rd.at3, Rd.isN, Rd.notN, Rd.ixD, Rd.cnt, Rd.jn, Rd.thn, Rd.sum, Rd.app, Rd.cxK, Rd.blkK,
  wipe, scal, List.set, List.cons.injEq, List.cons_append, List.nil_append, List.append_nil, List.map_cons, List.map_nil, List.length_cons, List.length_nil, List.length_map, Nat.reduceAdd, Nat.reduceSub, Int.cast_ofNat_Int, Int.natCast_zero, Int.natCast_one, List.getElem?_cons_zero, List.getElem?_cons_succ, Option.some.injEq, V.int.injEq, V.bl.injEq, V.str.injEq, V.ref.injEq, exists_eq_left, exists_eq_left', exists_eq', exists_eq, exists_and_left, and_assoc, and_true, true_and, reduceCtorEq, decide_true, decide_false, Bool.not_true, Bool.not_false, Bool.false_eq_true, ite_true, ite_false, if_true, if_false])
local macro_rules | `(tactic| walk_at "kit") => `(tactic| first | exact Rd.kit_tuple_tuple | exact Rd.kit_int_int | exact Rd.kit_int_bool | exact Rd.kit_str_str | exact Rd.kit_tuple_int | exact Rd.kit_tuple_str | exact Rd.kit_list_tuple | exact Rd.kit_int_str | exact Rd.kit_int_tuple | exact Rd.kit_bool_int | exact Rd.kit_bool_bool | exact Rd.kit_str_int | exact Rd.kit_str_tuple)
local macro_rules | `(tactic| walk_at "lh") => `(tactic| first | assumption | exact upd_same | (refine Rd.look_new ?_ (by assumption); walk_at "lh"))
local macro_rules | `(tactic| walk_at "st") => `(tactic| first
  | (with_reducible refine Rd.tup_is (by walk_at "lh") (by walk_at "kit") ?_)
  | (with_reducible refine Rd.int_is (by walk_at "kit") ?_)
  | (with_reducible refine Rd.str_is (by walk_at "kit") ?_)
  | (with_reducible refine Rd.len_tup (by walk_at "lh") ?_)
  | (with_reducible refine Rd.len_lst (by walk_at "lh") ?_)
  | (with_reducible refine Rd.get_tup (by walk_at "lh") ?_)
  | (with_reducible refine Rd.get_lst (by walk_at "lh") ?_)
  | (with_reducible refine Rd.has_tup (by walk_at "lh") ?_)
  | (with_reducible refine Rd.has_lst (by walk_at "lh") ?_)
  | (with_reducible refine Rd.dr_turn (by walk_at "lh") ?_)
  | (with_reducible refine Rd.dr_cells (by walk_at "lh") ?_)
  | (with_reducible refine Rd.dr_large (by walk_at "lh") ?_)
  | (with_reducible refine Rd.dc_t (by walk_at "ar") ?_)
  | (with_reducible refine Rd.dc_f (by walk_at "ar") ?_)
  | (with_reducible refine Rd.dn_t (by walk_at "ar") ?_)
  | (with_reducible refine Rd.dn_f (by walk_at "ar") ?_)
  | (with_reducible refine And.intro (by walk_at "ar") ?_))
local macro_rules | `(tactic| walk_at "go") => `(tactic| repeat (first | walk_at "rd" | walk_at "st"))

theorem neW {K : PySem.W.Frag} {H : Hp} {x y : V} {p : Int} {l : List Lt} {Q : VK} (hx : WAt H x p l) (hy : WAt H y p l) (q : Q (.bl false) H) : rNeD K x y H Q :=
  ⟨wD p l, wD p l, wD_at hx, wD_at hy, wD_shaped p l, wD_shaped p l, by rw [wD_eqv]; exact q⟩
theorem eqW {K : PySem.W.Frag} {H : Hp} {x y : V} {p : Int} {l : List Lt} {Q : VK} (hx : WAt H x p l) (hy : WAt H y p l) (q : Q (.bl true) H) : rEqD K x y H Q :=
  ⟨wD p l, wD p l, wD_at hx, wD_at hy, wD_shaped p l, wD_shaped p l, by rw [wD_eqv]; exact q⟩
theorem reprW {K : PySem.W.Frag} {H : Hp} {a : Addr} {x y : V} {p : Int} {l : List Lt} {Q : VK} (ha : H a = some (.lst [x, y])) (hx : WAt H x p l) (hy : WAt H y p l) (h0 : 0 ≤ p) (h3 : p ≤ 3) (hl : l.length ≤ 8) (q : Q (.str (wDD p l).shown) H) : rRepr K [.ref a] H Q :=
  ⟨_, wDD p l, rfl, .lst (.inl (.inl ha)) (.cons (wD_at hx) (.cons (wD_at hy) .nil)), wDD_show p l h0 h3, rfl, by show (2 : Nat) ≤ 60; omega, wDD_len p l h0 h3 hl, q⟩
theorem eI (a : Lt) : decide ((⟨#[a.cd]⟩ : Str) = Str.ofString "I") = decide (a = .I) := by cases a <;> decide +kernel
theorem eLt (a b : Lt) : decide ((⟨#[a.cd]⟩ : Str) = ⟨#[b.cd]⟩) = decide (a = b) := by cases a <;> cases b <;> decide +kernel
def gKW (vs zs : List V) : List V := match zs with
  | [b, a] => vs ++ [a, b]
  | _ => vs ++ zs
section
variable {P : Program} {w : World} {K : PySem.W.Frag} {mg : Str → Option Value} {base : Heap}
theorem kb_wp {fd : FuncData} (F : FnP K d_word_product fd) : ∃ g, KBinds K fd ["word", "second_word"] ["second_word", "word"] g gKW := by
  obtain ⟨oc, od, dV, kV, doc, pm, an, cdv, ct, osl, rfl, lk, hcd, hD, hK⟩ := F.ex
  rcases hD with ⟨_, rfl⟩ | ⟨e, _⟩
  · refine ⟨fun us ws => match ws with
      | [b, a] => us ++ [a, b]
      | _ => us ++ ws, fun s us ws X hl => BindsTo.of_eq ?_, fun r rz => ?_⟩
    · match us, ws, hl with
      | [], [b, a], _ => rfl
      | [a], [b], _ => rfl
      | [a, b], [], _ => rfl
      | [], [], h => cases h
      | [], [_], h => cases h
      | [], _ :: _ :: _ :: _, h => simp at h
      | [_], [], h => cases h
      | [_], [_, _], h => cases h
      | [_], _ :: _ :: _ :: _, h => simp at h
      | [_, _], [_], h => cases h
      | [_, _], [_, _], h => cases h
      | [_, _], _ :: _ :: _ :: _, h => simp at h
      | _ :: _ :: _ :: _, [], h => simp at h
      | _ :: _ :: _ :: _, [_], h => simp at h
      | _ :: _ :: _ :: _, [_, _], h => simp at h
      | _ :: _ :: _ :: _, _ :: _ :: _ :: _, h => simp at h
    · cases rz with
      | nil => exact r.append .nil
      | cons r1 t1 => cases t1 with
        | nil => exact r.append (.cons r1 .nil)
        | cons r2 t2 => cases t2 with
          | nil => exact r.append (.cons r2 (.cons r1 .nil))
          | cons r3 t3 => exact r.append (.cons r1 (.cons r2 (.cons r3 t3)))
  · exact absurd rfl e
/-! _law_pair_right -/
def spPair : Sp := fun vs H Q _ => ∃ v1 v2 p1 l1 p2 l2, vs = [v1, v2] ∧ WAt H v1 p1 l1 ∧ WAt H v2 p2 l2 ∧ l1.length ≤ 8 ∧ l2.length = l1.length ∧ 0 ≤ p1 ∧ p1 ≤ 3 ∧ 0 ≤ p2 ∧ p2 ≤ 3 ∧ ∀ H', Same H H' → Q (.bl true) H'
abbrev NN_law_pair_right : List Str := ["_law_one", "_law_other", "_law_due_here", "_law_clashes", "_law_a", "_law_b"]
theorem sc_law_pair_right : FnScope NN_law_pair_right ["_law_one", "_law_other"] d_law_pair_right.scope := ⟨rfl, rfl, rfl, by decide +kernel, rfl, by decide +kernel, by decide +kernel⟩
theorem ok_law_pair_right {fd : FuncData} (F : FnP K d_law_pair_right fd) (T : Txt K w mg) (C_law_due : Rd.Cal P w K mg base 2 "_law_due" spDue []) (C_word_product : Rd.Cal P w K mg base 3 "word_product" spWP [])
    (C_kw : Rd.CalK P w K mg base 3 "word_product" spWP ["second_word", "word"] gKW) : FnG P w K mg base CX0 4 (He.fAd K d_law_pair_right.at_) fd ["_law_one", "_law_other"] spPair := by
  refine F.okG sc_law_pair_right (fun vs H Q E h => ?_) (fun cdv A outer s H vs Q E gd hr h => ?_)
  · obtain ⟨v1, v2, p1, l1, p2, l2, rfl, _⟩ := h
    rfl
  · obtain ⟨v1, v2, p1, l1, p2, l2, rfl, ⟨a1, rfl, w1⟩, ⟨a2, rfl, w2⟩, hl8, hl, h10, h13, h20, h23, q⟩ := h
    have hu := hr.units
    refine ⟨_, PSs.nox (pss_cons (ps_set (i := 2) sc_law_pair_right.nd rfl (.inl rfl) (Rd.pe_c C_law_due hr (by decide) (by rfl) (pa_cons (pv 0) (pa_cons (pv 1) pa_nil))))
      (pss_cons (ps_if (pt_cmpR op_ne (pe_callB (Rd.repr_ (K := K) rfl gd hu) (by rfl) T.repr (by decide +kernel) (pa_cons (pe_lst (pa_cons (Rd.pe_c C_word_product hr (by decide) (by rfl) (pa_cons (pv 0) (pa_cons (pv 1) pa_nil))) (pa_cons (Rd.pe_ck C_kw hr (by decide) (by rfl) (pk_cons (pv 1) (pk_cons (pv 0) pk_nil))) pa_nil))) pa_nil)) (pe_callB (Rd.repr_ (K := K) rfl gd hu) (by rfl) T.repr (by decide +kernel) (pa_cons (pe_op op_rep (pe_lst (pa_cons (pv 2) pa_nil)) pe_int) pa_nil)) (nomark _))
      (pss_one (ps_ret pe_bl))
      pss_nil)
      (pss_cons (ps_set (i := 3) sc_law_pair_right.nd rfl (.inl rfl) (pe_callB (Rd.len_ (K := K) rfl) (by rfl) T.len boot_len (pa_cons (pe_lc (own := [("_law_a", 4), ("_law_b", 5)]) (g := gTup K 2 (gCons (gName 4) (gCons (gName 5) gNil))) rfl sc_law_pair_right.nd (pi_zd (by rfl) T.zip (pa_cons (pe_ix (Rd.ixT_ (K := K) rfl) (pv 0) pe_int (fun _ _ => rfl)) (pa_cons (pe_ix (Rd.ixT_ (K := K) rfl) (pv 1) pe_int (fun _ _ => rfl)) pa_nil))) (blkOk_by (N := NN_law_pair_right) (sc := d_law_pair_right.scope) (by decide +kernel)) (fun _ _ _ _ _ => by exact (pg_tup (n := 2) rfl (pgs_cons (pg_name (i := 4) sc_law_pair_right.nd rfl (.inl rfl)) (pgs_cons (pg_name (i := 5) sc_law_pair_right.nd rfl (.inl rfl)) pgs_nil)))) (fun _ _ _ _ _ => (pts_one (PW.pt (pw_and (pt_cmpR op_ne (pv 4) (pv 5) (nomark _)) (pw_and (pt_cmpR op_ne (pv 4) pe_str (nomark _)) (pw_and1 (pt_cmpR op_ne (pv 5) pe_str (nomark _)))))))) (fun _ _ _ _ _ => pe_int)) pa_nil)))
      (pss_one (ps_ret (pe_cmpR (Rd.eqD_ (K := K) rfl hu) (Rd.pe_c C_word_product hr (by decide) (by rfl) (pa_cons (pv 1) (pa_cons (pv 0) pa_nil))) (pe_tup (pa_cons (pe_op op_mod (pe_op op_add (pe_ix (Rd.ixT_ (K := K) rfl) (pv 2) pe_int (fun _ _ => rfl)) (pe_op op_mul pe_int (pv 3))) pe_int) (pa_cons (pe_ix (Rd.ixT_ (K := K) rfl) (pv 2) pe_int (fun _ _ => rfl)) pa_nil))) (nomark _))))))), ?_⟩
    rw [show L2.start NN_law_pair_right [.ref a1, .ref a2] = [some (.ref a1), some (.ref a2), none, none, none, none] from rfl]
    walk_at "go"
    refine ⟨_, _, p1, l1, p2, l2, rfl, ⟨a1, rfl, w1⟩, ⟨a2, rfl, w2⟩, hl8, hl, fun H1 v3 s1 ⟨a3, e3, w3⟩ => ?_⟩
    subst e3
    walk_at "go"
    refine ⟨_, _, p1, l1, p2, l2, rfl, ⟨a1, rfl, s1 _ _ w1⟩, ⟨a2, rfl, s1 _ _ w2⟩, hl8, hl, h10, h13, h20, h23, fun H2 v4 s2 w4 => ?_⟩
    walk_at "go"
    refine ⟨_, _, p1, l1, p2, l2, rfl, ⟨a1, rfl, s2 _ _ (s1 _ _ w1)⟩, ⟨a2, rfl, s2 _ _ (s1 _ _ w2)⟩, hl8, hl, h10, h13, h20, h23, fun H3 v5 s3 w5 => ?_⟩
    walk_at "go"
    intro r1 hr1
    have s4 : Same H3 (upd H3 r1 (.lst [v4, v5])) := Rd.same_new hr1
    refine reprW upd_same ((w4.mono s3).mono s4) (w5.mono s4) mulP_mod.1 mulP_mod.2 (by rw [mulL_len hl.symm]; exact hl8) ?_
    walk_at "go"
    intro q1 hq1
    refine ⟨q1, 2, [.ref a3], rfl, rfl, upd_same, by omega, by omega, by rw [sizeLine_eq]; show 1 * 2 ≤ _; omega, fun r2 hr2 => ?_⟩
    rw [show (List.replicate (Int.toNat 2) [V.ref a3]).flatten = [.ref a3, .ref a3] from rfl]
    obtain ⟨H4, e4⟩ : ∃ H4, H4 = upd (upd (upd H3 r1 (.lst [v4, v5])) q1 (.lst [.ref a3])) r2 (.lst [.ref a3, .ref a3]) := ⟨_, rfl⟩
    have s14 : Same H1 H4 := e4 ▸ ((s2.trans s3).trans s4).trans ((Rd.same_new hq1).trans (Rd.same_new hr2))
    have l4 : H4 r2 = some (.lst [.ref a3, .ref a3]) := by rw [e4]; exact upd_same
    rw [← e4]
    have w14 : H4 a1 = some (.tup [.int p1, .str (txt l1)]) := s14 _ _ (s1 _ _ w1)
    have w24 : H4 a2 = some (.tup [.int p2, .str (txt l2)]) := s14 _ _ (s1 _ _ w2)
    have w34 := s14 _ _ w3
    have hLl : (mulL l1 l2).length ≤ 8 := by rw [mulL_len hl.symm]; exact hl8
    refine reprW l4 ⟨a3, rfl, w34⟩ ⟨a3, rfl, w34⟩ mulP_mod.1 mulP_mod.2 hLl ?_
    walk_at "go"
    refine (show ∀ (ta : TA) (σ : L2.St) (H : Hp) (R : It → Hp → Prop), (∀ S : List V → Hp → Prop, S [.str (txt l1), .str (txt l2)] H → ta σ H S) → R (Itzd K (.txt (txt l1)) (.txt (txt l2))) H → iZd K ta σ H R from
      fun ta σ H R e q => e _ ⟨.txt (txt l1), .txt (txt l2), _, _, rfl, rfl, rfl, q⟩) _ _ _ _ (fun S hS => by walk_at "go"; exact hS) ?_
    refine Rd.lc_sel (walk_zd (n := l1.length) (xs := (txt l1).cps.toList.map fun c => V.str ⟨#[c]⟩) (ys := (txt l2).cps.toList.map fun c => V.str ⟨#[c]⟩) (by rw [txt_cps, txt_cps]; simp [hl])) (fun _ => .int 1) (fun i => clash (l1.getD i .I) (l2.getD i .I)) (fun _ _ => ⟨rfl, rfl⟩) (by walk_at "ar")
      (fun i x H' H'' hi s5 y R S hR hS => ?_) fun D H5 hD s5 hL => ?_
    · obtain ⟨T0, y1, y2, rfl, hT, rfl, ey1, ey2⟩ := y
      rw [txt_cps, List.map_map] at ey1 ey2
      obtain ⟨rfl, _⟩ := get_map (f := fun a : Lt => V.str ⟨#[a.cd]⟩) Lt.I ey1
      obtain ⟨rfl, _⟩ := get_map (f := fun a : Lt => V.str ⟨#[a.cd]⟩) Lt.I ey2
      have hT2 := Rd.same_new (o := .tup [.str ⟨#[(l1.getD i .I).cd]⟩, .str ⟨#[(l2.getD i .I).cd]⟩]) hT
      unfold clash at hR hS
      generalize l1.getD i .I = b1 at hR hS hT2 ⊢
      generalize l2.getD i .I = b2 at hR hS hT2 ⊢
      walk_at "go"
      simp only [eI, eLt]
      by_cases c1 : b1 = b2
      · exact Rd.dn_f c1 (hS (by simp [c1]) _ hT2)
      · refine Rd.dn_t c1 ?_
        by_cases c2 : b1 = .I
        · exact Rd.dn_f c2 (hS (by simp [c2]) _ hT2)
        · refine Rd.dn_t c2 ?_
          by_cases c3 : b2 = .I
          · exact Rd.dn_f c3 (hS (by simp [c3]) _ hT2)
          · exact Rd.dn_t c3 (hR (by simp [c1, c2, c3]) _ hT2)
    · have w15 := s5 _ _ w14
      have w25 := s5 _ _ w24
      have w35 := s5 _ _ w34
      walk_at "go"
      refine ⟨_, _, p2, l2, p1, l1, rfl, ⟨a2, rfl, w25⟩, ⟨a1, rfl, w15⟩, by omega, hl.symm, h20, h23, h10, h13, fun H6 v6 s6 w6 => ?_⟩
      have w36 := s6 _ _ w35
      rw [clN_filter l1 l2 hl]
      walk_at "go"
      refine ⟨.inl (by omega), ?_⟩
      walk_at "go"
      intro r6 hr6
      rw [mulL_comm l2 l1, mulP_comm hl] at w6
      exact eqW (w6.mono (Rd.same_new hr6)) ⟨r6, rfl, upd_same⟩ (q _ (s1.trans (s14.trans (s5.trans (s6.trans (Rd.same_new hr6))))))
end
end K51


set_option Elab.async false
set_option linter.all false
set_option maxRecDepth 100000
set_option maxHeartbeats 4000000
namespace K51
open PySem PySem.Spec PyProof.Rows L2
local macro_rules | `(tactic| walk_at "ar") => `(tactic| first | omega | (simp only [txt_len]; omega) | (rw [sizeLine_eq]; omega) | (rw [sizeLine_eq]; simp only [txt_len]; omega))
local macro_rules | `(tactic| walk_at "rd") => `(tactic| simp only [Rd.seq, Rd.next, Rd.brk, Rd.cont, Rd.drop, Rd.ret, Rd.retN, Rd.ifS, Rd.asg, Rd.par, Rd.par3, Rd.aug, Rd.ipi, Rd.gname, Rd.gnil, Rd.gcons, Rd.gtup, Rd.gsub, Rd.var, Rd.con, Rd.op, Rd.un, Rd.bb, Rd.test, Rd.not, Rd.and, Rd.or, Rd.andV, Rd.orV, Rd.notV, Rd.ifE, Rd.yes, Rd.chain, Rd.ri, Rd.ri0, Rd.ru, Rd.req, Rd.rne, Rd.nil, Rd.cons, Rd.tup, Rd.lst, Rd.cb, Rd.call, Rd.callK, Rd.m0, Rd.m1, Rd.bm0, Rd.bm, Rd.dget, Rd.dput, Rd.disp, Rd.pairs0, Rd.pairs1, Rd.ixL, Rd.ixT, Rd.ixS, Rd.setL, Rd.istr, Rd.ilist, Rd.itup, Rd.irng1, Rd.lc, Rd.for_, Rd.at0, Rd.at1, Rd.at2, Rd.at3, Rd.isN, Rd.notN, Rd.ixD, Rd.cnt, Rd.jn, Rd.thn, Rd.sum, Rd.app, Rd.cxK, Rd.blkK,
  wipe, scal, List.set, List.cons.injEq, List.cons_append, List.nil_append, List.append_nil, List.map_cons, List.map_nil, List.length_cons, List.length_nil, List.length_map, Nat.reduceAdd, Nat.reduceSub, Int.cast_ofNat_Int, Int.natCast_zero, Int.natCast_one, List.getElem?_cons_zero, List.getElem?_cons_succ, Option.some.injEq, V.int.injEq, V.bl.injEq, V.str.injEq, V.ref.injEq, exists_eq_left, exists_eq_left', exists_eq', exists_eq, exists_and_left, and_assoc, and_true, true_and, reduceCtorEq, decide_true, decide_false, Bool.not_true, Bool.not_false, Bool.false_eq_true, ite_true, ite_false, if_true, if_false])
local macro_rules | `(tactic| walk_at "kit") => `(tactic| first | exact Rd.kit_tuple_tuple | exact Rd.kit_int_int | exact Rd.kit_int_bool | exact Rd.kit_str_str | exact Rd.kit_tuple_int | exact Rd.kit_tuple_str | exact Rd.kit_list_tuple | exact Rd.kit_int_str | exact Rd.kit_int_tuple | exact Rd.kit_bool_int | exact Rd.kit_bool_bool | exact Rd.kit_str_int | exact Rd.kit_str_tuple)
local macro_rules | `(tactic| walk_at "lh") => `(tactic| first | assumption | exact upd_same | (refine Rd.look_new ?_ (by assumption); walk_at "lh"))
local macro_rules | `(tactic| walk_at "st") => `(tactic| first
  | (with_reducible refine Rd.tup_is (by walk_at "lh") (by walk_at "kit") ?_)
  | (with_reducible refine Rd.int_is (by walk_at "kit") ?_)
  | (with_reducible refine Rd.str_is (by walk_at "kit") ?_)
  | (with_reducible refine Rd.len_tup (by walk_at "lh") ?_)
  | (with_reducible refine Rd.len_lst (by walk_at "lh") ?_)
  | (with_reducible refine Rd.get_tup (by walk_at "lh") ?_)
  | (with_reducible refine Rd.get_lst (by walk_at "lh") ?_)
  | (with_reducible refine Rd.has_tup (by walk_at "lh") ?_)
  | (with_reducible refine Rd.has_lst (by walk_at "lh") ?_)
  | (with_reducible refine Rd.dr_turn (by walk_at "lh") ?_)
  | (with_reducible refine Rd.dr_cells (by walk_at "lh") ?_)
  | (with_reducible refine Rd.dr_large (by walk_at "lh") ?_)
  | (with_reducible refine Rd.dc_t (by walk_at "ar") ?_)
  | (with_reducible refine Rd.dc_f (by walk_at "ar") ?_)
  | (with_reducible refine Rd.dn_t (by walk_at "ar") ?_)
  | (with_reducible refine Rd.dn_f (by walk_at "ar") ?_)
  | (with_reducible refine And.intro (by walk_at "ar") ?_))
local macro_rules | `(tactic| walk_at "go") => `(tactic| repeat (first | walk_at "rd" | walk_at "st"))

theorem rep_txt (n : Nat) : (⟨(List.replicate n 73).toArray⟩ : Str) = txt (List.replicate n .I) := by simp [txt, Lt.cd]
section
variable {P : Program} {w : World} {K : PySem.W.Frag} {mg : Str → Option Value} {base : Heap}
/-! _law_three_right -/
def spThree : Sp := fun vs H Q _ => ∃ v1 v2 v3 p1 l1 p2 l2 p3 l3, vs = [v1, v2, v3] ∧ WAt H v1 p1 l1 ∧ WAt H v2 p2 l2 ∧ WAt H v3 p3 l3 ∧ l1.length ≤ 8 ∧ l2.length = l1.length ∧ l3.length = l1.length ∧ 0 ≤ p1 ∧ p1 ≤ 3 ∧ 0 ≤ p2 ∧ p2 ≤ 3 ∧ 0 ≤ p3 ∧ p3 ≤ 3 ∧ ∀ H', Same H H' → Q (.bl true) H'
abbrev NN_law_three_right : List Str := ["_law_one", "_law_other", "_law_third", "_law_count", "_law_plain"]
theorem sc_law_three_right : FnScope NN_law_three_right ["_law_one", "_law_other", "_law_third"] d_law_three_right.scope := ⟨rfl, rfl, rfl, by decide +kernel, rfl, by decide +kernel, by decide +kernel⟩
theorem ok_law_three_right {fd : FuncData} (F : FnP K d_law_three_right fd) (T : Txt K w mg) (C_word_product : Rd.Cal P w K mg base 3 "word_product" spWP []) : FnOk P w K mg base CX0 4 (He.fAd K d_law_three_right.at_) fd ["_law_one", "_law_other", "_law_third"] spThree := by
  refine F.ok sc_law_three_right (fun vs H Q E h => ?_) (fun cdv A outer s H vs Q E hr h => ?_)
  · obtain ⟨v1, v2, v3, p1, l1, p2, l2, p3, l3, rfl, _⟩ := h
    rfl
  · obtain ⟨v1, v2, v3, p1, l1, p2, l2, p3, l3, rfl, ⟨a1, rfl, w1⟩, w2, w3, hl8, h2, h3, h10, h13, h20, h23, h30, h33, q⟩ := h
    have hu := hr.units
    refine ⟨_, PSs.nox (pss_cons (ps_set (i := 3) sc_law_three_right.nd rfl (.inl rfl) (pe_callB call_len_str (by rfl) T.len boot_len (pa_cons (pe_ix (Rd.ixT_ (K := K) rfl) (pv 0) pe_int (fun _ _ => rfl)) pa_nil)))
      (pss_cons (ps_set (i := 4) sc_law_three_right.nd rfl (.inl rfl) (pe_tup (pa_cons pe_int (pa_cons (pe_op op_mulS pe_str (pv 3)) pa_nil))))
      (pss_cons (ps_if (pt_cmpR (Rd.neD_ (K := K) rfl hu) (Rd.pe_c C_word_product hr (by decide) (by rfl) (pa_cons (Rd.pe_c C_word_product hr (by decide) (by rfl) (pa_cons (pv 0) (pa_cons (pv 1) pa_nil))) (pa_cons (pv 2) pa_nil))) (Rd.pe_c C_word_product hr (by decide) (by rfl) (pa_cons (pv 0) (pa_cons (Rd.pe_c C_word_product hr (by decide) (by rfl) (pa_cons (pv 1) (pa_cons (pv 2) pa_nil))) pa_nil))) (nomark _))
      (pss_one (ps_ret pe_bl))
      pss_nil)
      (pss_cons (ps_if (PW.pt (pw_or (pt_cmpR (Rd.neD_ (K := K) rfl hu) (Rd.pe_c C_word_product hr (by decide) (by rfl) (pa_cons (pv 0) (pa_cons (pv 4) pa_nil))) (pv 0) (nomark _)) (pw_or1 (pt_cmpR (Rd.neD_ (K := K) rfl hu) (Rd.pe_c C_word_product hr (by decide) (by rfl) (pa_cons (pv 4) (pa_cons (pv 0) pa_nil))) (pv 0) (nomark _)))))
      (pss_one (ps_ret pe_bl))
      pss_nil)
      (pss_one (ps_ret (pe_cmpR (Rd.eqD_ (K := K) rfl hu) (Rd.pe_c C_word_product hr (by decide) (by rfl) (pa_cons (pv 0) (pa_cons (pv 0) pa_nil))) (pe_tup (pa_cons (pe_op op_mod (pe_op op_mul pe_int (pe_ix (Rd.ixT_ (K := K) rfl) (pv 0) pe_int (fun _ _ => rfl))) pe_int) (pa_cons (pe_op op_mulS pe_str (pv 3)) pa_nil))) (nomark _)))))))), ?_⟩
    rw [show L2.start NN_law_three_right [.ref a1, v2, v3] = [some (.ref a1), some v2, some v3, none, none] from rfl]
    walk_at "go"
    rw [txt_len]
    refine ⟨73, (l1.length : Int), congrArg V.str (by decide), rfl, by omega, by omega, ?_⟩
    rw [Int.toNat_natCast, rep_txt]
    walk_at "go"
    intro r1 hr1
    have s1 : Same H (upd H r1 (.tup [.int 0, .str (txt (List.replicate l1.length .I))])) := Rd.same_new hr1
    refine ⟨_, _, p1, l1, p2, l2, rfl, ⟨a1, rfl, s1 _ _ w1⟩, w2.mono s1, hl8, h2, h10, h13, h20, h23, fun H2 v4 s2 w4 => ?_⟩
    have hL12 : (mulL l1 l2).length = l1.length := mulL_len h2.symm
    have hL23 : (mulL l2 l3).length = l1.length := (mulL_len (h2.trans h3.symm)).trans h2
    have s12 := s1.trans s2
    refine ⟨_, _, _, _, p3, l3, rfl, w4, w3.mono s12, by omega, by omega, mulP_mod.1, mulP_mod.2, h30, h33, fun H3 v5 s3 w5 => ?_⟩
    have s13 := s12.trans s3
    walk_at "go"
    refine ⟨_, _, p2, l2, p3, l3, rfl, w2.mono s13, w3.mono s13, by omega, by omega, h20, h23, h30, h33, fun H4 v6 s4 w6 => ?_⟩
    have s14 := s13.trans s4
    refine ⟨_, _, p1, l1, _, _, rfl, ⟨a1, rfl, s14 _ _ w1⟩, w6, hl8, hL23, h10, h13, mulP_mod.1, mulP_mod.2, fun H5 v7 s5 w7 => ?_⟩
    have s15 := s14.trans s5
    rw [mulL_assoc, mulP_assoc h2 h3] at w5
    refine neW ((w5.mono s4).mono s5) w7 ?_
    walk_at "go"
    have hp : ∀ {H' : Hp}, Same (upd H r1 (.tup [.int 0, .str (txt (List.replicate l1.length .I))])) H' → WAt H' (.ref r1) 0 (List.replicate l1.length .I) := fun s => ⟨r1, rfl, s _ _ upd_same⟩
    have t15 := ((s2.trans s3).trans s4).trans s5
    refine ⟨_, _, p1, l1, 0, _, rfl, ⟨a1, rfl, s15 _ _ w1⟩, hp t15, hl8, by simp, h10, h13, by omega, by omega, fun H6 v8 s6 w8 => ?_⟩
    have s16 := s15.trans s6
    rw [mulL_unit, mulP_unit h10 h13] at w8
    walk_at "go"
    refine neW w8 ⟨a1, rfl, s16 _ _ w1⟩ ?_
    walk_at "go"
    have t16 := t15.trans s6
    refine ⟨_, _, 0, _, p1, l1, rfl, hp t16, ⟨a1, rfl, s16 _ _ w1⟩, by simpa using hl8, by simp, by omega, by omega, h10, h13, fun H7 v9 s7 w9 => ?_⟩
    have s17 := s16.trans s7
    rw [mulL_comm, mulL_unit, mulP_unit' h10 h13] at w9
    walk_at "go"
    refine neW w9 ⟨a1, rfl, s17 _ _ w1⟩ ?_
    walk_at "go"
    refine ⟨_, _, p1, l1, p1, l1, rfl, ⟨a1, rfl, s17 _ _ w1⟩, ⟨a1, rfl, s17 _ _ w1⟩, hl8, rfl, h10, h13, h10, h13, fun H8 v10 s8 w10 => ?_⟩
    have s18 := s17.trans s8
    have w18 := s18 _ _ w1
    rw [mulL_self, mulP_self] at w10
    walk_at "go"
    refine ⟨.inl (by omega), ?_⟩
    walk_at "go"
    refine ⟨73, (l1.length : Int), congrArg V.str (by decide), rfl, by omega, by omega, ?_⟩
    rw [Int.toNat_natCast, rep_txt]
    walk_at "go"
    intro r9 hr9
    exact eqW (w10.mono (Rd.same_new hr9)) ⟨r9, rfl, upd_same⟩ (q _ (s18.trans (Rd.same_new hr9)))
/-! _law_hand_right -/
def spHand : Sp := fun vs H Q _ => vs = [] ∧ ∀ H', Q (.bl true) H'
def abc : List (Lt × Lt × Lt) := [(.X, .Y, .Z), (.Y, .Z, .X), (.Z, .X, .Y)]
theorem xyz (i : Nat) (h : i < 3) : ∃ a b c : Lt, (a, b, c) ∈ abc ∧ atI (Str.ofString "XYZ").cps.toList (0 + (i : Int)) = some a.cd ∧ atI (Str.ofString "XYZ").cps.toList ((0 + (i : Int) + 1) % 3) = some b.cd ∧ atI (Str.ofString "XYZ").cps.toList ((0 + (i : Int) + 2) % 3) = some c.cd := by
  rw [show (Str.ofString "XYZ").cps.toList = [88, 89, 90] from by decide +kernel]
  have e : i = 0 ∨ i = 1 ∨ i = 2 := by omega
  rcases e with rfl | rfl | rfl
  · exact ⟨.X, .Y, .Z, by decide, Rd.at0, Rd.at1, Rd.at2⟩
  · exact ⟨.Y, .Z, .X, by decide, Rd.at1, Rd.at2, Rd.at0⟩
  · exact ⟨.Z, .X, .Y, by decide, Rd.at2, Rd.at0, Rd.at1⟩
theorem abc_law {a b c : Lt} (h : (a, b, c) ∈ abc) : mulP 0 [a] 0 [b] = 1 ∧ mulL [a] [b] = [c] ∧ mulP 0 [b] 0 [a] = 3 ∧ mulL [b] [a] = [c] ∧ mulP 0 [a] 0 [a] = 0 ∧ mulL [a] [a] = [.I] ∧ mulP 3 [.I] 2 [a] = 1 ∧ mulL [.I] [a] = [a] := by
  simp only [abc, List.mem_cons, List.not_mem_nil, or_false, Prod.mk.injEq] at h
  rcases h with ⟨rfl, rfl, rfl⟩ | ⟨rfl, rfl, rfl⟩ | ⟨rfl, rfl, rfl⟩ <;> decide
abbrev NN_law_hand_right : List Str := ["_law_k", "_law_a", "_law_b", "_law_c"]
theorem sc_law_hand_right : FnScope NN_law_hand_right [] d_law_hand_right.scope := ⟨rfl, rfl, rfl, by decide +kernel, rfl, by decide +kernel, by decide +kernel⟩
theorem ok_law_hand_right {fd : FuncData} (F : FnP K d_law_hand_right fd) (T : Txt K w mg) (C_word_product : Rd.Cal P w K mg base 3 "word_product" spWP []) : FnOk P w K mg base CX0 4 (He.fAd K d_law_hand_right.at_) fd [] spHand := by
  refine F.ok sc_law_hand_right (fun vs H Q E h => ?_) (fun cdv A outer s H vs Q E hr h => ?_)
  · obtain ⟨rfl, _⟩ := h
    rfl
  · obtain ⟨rfl, q⟩ := h
    have hu := hr.units
    refine ⟨_, PSs.nox (pss_cons (ps_for PassesOwn.never rfl (pi_range1 (by rfl) T.range (pa_cons pe_int pa_nil)) (pg_name (i := 0) sc_law_hand_right.nd rfl (.inl rfl))
      (pss_cons (ps_par3 (i := 1) (j := 2) (l := 3) rfl sc_law_hand_right.nd rfl rfl rfl (by decide) (by decide) (by decide) rfl rfl rfl (pa_cons (pe_ix ix_str pe_str (pv 0) (fun _ _ => rfl)) (pa_cons (pe_ix ix_str pe_str (pe_op op_mod (pe_op op_add (pv 0) pe_int) pe_int) (fun _ _ => rfl)) (pa_cons (pe_ix ix_str pe_str (pe_op op_mod (pe_op op_add (pv 0) pe_int) pe_int) (fun _ _ => rfl)) pa_nil))) rfl)
        (pss_cons (ps_if (PW.pt (pw_or (pt_cmpR (Rd.neD_ (K := K) rfl hu) (Rd.pe_c C_word_product hr (by decide) (by rfl) (pa_cons (pe_tup (pa_cons pe_int (pa_cons (pv 1) pa_nil))) (pa_cons (pe_tup (pa_cons pe_int (pa_cons (pv 2) pa_nil))) pa_nil))) (pe_tup (pa_cons pe_int (pa_cons (pv 3) pa_nil))) (nomark _)) (pw_or1 (pt_cmpR (Rd.neD_ (K := K) rfl hu) (Rd.pe_c C_word_product hr (by decide) (by rfl) (pa_cons (pe_tup (pa_cons pe_int (pa_cons (pv 2) pa_nil))) (pa_cons (pe_tup (pa_cons pe_int (pa_cons (pv 1) pa_nil))) pa_nil))) (pe_tup (pa_cons pe_int (pa_cons (pv 3) pa_nil))) (nomark _)))))
        (pss_one (ps_ret pe_bl))
        pss_nil)
        (pss_one (ps_if (PW.pt (pw_or (pt_cmpR (Rd.neD_ (K := K) rfl hu) (Rd.pe_c C_word_product hr (by decide) (by rfl) (pa_cons (pe_tup (pa_cons pe_int (pa_cons (pv 1) pa_nil))) (pa_cons (pe_tup (pa_cons pe_int (pa_cons (pv 1) pa_nil))) pa_nil))) (pe_tup (pa_cons pe_int (pa_cons pe_str pa_nil))) (nomark _)) (pw_or1 (pt_cmpR (Rd.neD_ (K := K) rfl hu) (Rd.pe_c C_word_product hr (by decide) (by rfl) (pa_cons (pe_tup (pa_cons pe_int (pa_cons pe_str pa_nil))) (pa_cons (pe_tup (pa_cons pe_int (pa_cons (pv 1) pa_nil))) pa_nil))) (pe_tup (pa_cons pe_int (pa_cons (pv 1) pa_nil))) (nomark _)))))
        (pss_one (ps_ret pe_bl))
        pss_nil)))))
      (pss_one (ps_ret (pe_and (pe_cmpR (Rd.eqD_ (K := K) rfl hu) (Rd.pe_c C_word_product hr (by decide) (by rfl) (pa_cons (pe_tup (pa_cons pe_int (pa_cons pe_str pa_nil))) (pa_cons (pe_tup (pa_cons pe_int (pa_cons pe_str pa_nil))) pa_nil))) (pe_tup (pa_cons pe_int (pa_cons pe_str pa_nil))) (nomark _)) (pe_one (pe_cmpR (Rd.eqD_ (K := K) rfl hu) (Rd.pe_c C_word_product hr (by decide) (by rfl) (pa_cons (pe_tup (pa_cons pe_int (pa_cons pe_str pa_nil))) (pa_cons (pe_tup (pa_cons pe_int (pa_cons pe_str pa_nil))) pa_nil))) (pe_tup (pa_cons pe_int (pa_cons pe_str pa_nil))) (nomark _))))))), ?_⟩
    rw [show L2.start NN_law_hand_right [] = [none, none, none, none] from rfl]
    walk_at "go"
    refine for_it walk_range (fun i σ H' => ∃ x0 x1 x2 x3, σ = [x0, x1, x2, x3]) ⟨none, none, none, none, rfl⟩ (fun _ _ _ _ _ => trivial) (fun i x σ H' H'' hi h y => ?_) fun σ H' h => ?_
    · obtain ⟨x0, x1, x2, x3, rfl⟩ := h
      obtain ⟨rfl, rfl⟩ := y
      obtain ⟨a, b, c, habc, ea, eb, ec⟩ := xyz i hi
      obtain ⟨m1, m2, m3, m4, m5, m6, m7, m8⟩ := abc_law habc
      walk_at "go"
      refine ⟨by decide +kernel, _, ea, ?_⟩
      walk_at "go"
      refine ⟨by decide +kernel, _, eb, ?_⟩
      walk_at "go"
      refine ⟨by decide +kernel, _, ec, ?_⟩
      walk_at "go"
      intro r1 hr1
      walk_at "go"
      intro r2 hr2
      refine ⟨_, _, 0, [a], 0, [b], rfl, ⟨r1, rfl, Rd.look_new upd_same hr2⟩, ⟨r2, rfl, upd_same⟩, by simp, rfl, by omega, by omega, by omega, by omega, fun H1 v1 s1 w1 => ?_⟩
      rw [m1, m2] at w1
      walk_at "go"
      intro r3 hr3
      refine neW (w1.mono (Rd.same_new hr3)) ⟨r3, rfl, upd_same⟩ ?_
      walk_at "go"
      intro r4 hr4
      walk_at "go"
      intro r5 hr5
      refine ⟨_, _, 0, [b], 0, [a], rfl, ⟨r4, rfl, Rd.look_new upd_same hr5⟩, ⟨r5, rfl, upd_same⟩, by simp, rfl, by omega, by omega, by omega, by omega, fun H2 v2 s2 w2 => ?_⟩
      rw [m3, m4] at w2
      walk_at "go"
      intro r6 hr6
      refine neW (w2.mono (Rd.same_new hr6)) ⟨r6, rfl, upd_same⟩ ?_
      walk_at "go"
      intro r7 hr7
      walk_at "go"
      intro r8 hr8
      refine ⟨_, _, 0, [a], 0, [a], rfl, ⟨r7, rfl, Rd.look_new upd_same hr8⟩, ⟨r8, rfl, upd_same⟩, by simp, rfl, by omega, by omega, by omega, by omega, fun H3 v3 s3 w3 => ?_⟩
      rw [m5, m6] at w3
      walk_at "go"
      intro r9 hr9
      refine neW (w3.mono (Rd.same_new hr9)) ⟨r9, rfl, upd_same⟩ ?_
      walk_at "go"
      intro r10 hr10
      walk_at "go"
      intro r11 hr11
      refine ⟨_, _, 3, [.I], 2, [a], rfl, ⟨r10, rfl, Rd.look_new upd_same hr11⟩, ⟨r11, rfl, upd_same⟩, by simp, rfl, by omega, by omega, by omega, by omega, fun H4 v4 s4 w4 => ?_⟩
      rw [m7, m8] at w4
      walk_at "go"
      intro r12 hr12
      refine neW (w4.mono (Rd.same_new hr12)) ⟨r12, rfl, upd_same⟩ ?_
      walk_at "go"
    · obtain ⟨x0, x1, x2, x3, rfl⟩ := h
      walk_at "go"
      intro r1 hr1
      walk_at "go"
      intro r2 hr2
      refine ⟨_, _, 3, [], 2, [], rfl, ⟨r1, rfl, Rd.look_new upd_same hr2⟩, ⟨r2, rfl, upd_same⟩, by simp, rfl, by omega, by omega, by omega, by omega, fun H1 v1 s1 w1 => ?_⟩
      walk_at "go"
      intro r3 hr3
      refine eqW (p := 1) (l := []) (w1.mono (Rd.same_new hr3)) ⟨r3, rfl, upd_same⟩ ?_
      walk_at "go"
      intro r4 hr4
      walk_at "go"
      intro r5 hr5
      refine ⟨_, _, 0, [.X], 0, [.Z], rfl, ⟨r4, rfl, Rd.look_new upd_same hr5⟩, ⟨r5, rfl, upd_same⟩, by simp, rfl, by omega, by omega, by omega, by omega, fun H2 v2 s2 w2 => ?_⟩
      walk_at "go"
      intro r6 hr6
      refine eqW (p := 3) (l := [.Y]) (w2.mono (Rd.same_new hr6)) ⟨r6, rfl, upd_same⟩ ?_
      walk_at "go"
      exact q _
end
end K51


set_option Elab.async false
set_option linter.all false
set_option maxRecDepth 100000
set_option maxHeartbeats 4000000
namespace K51
open PySem PySem.Spec PyProof.Rows L2
local macro_rules | `(tactic| walk_at "ar") => `(tactic| first | omega | (simp only [txt_len]; omega) | (rw [sizeLine_eq]; omega) | (rw [sizeLine_eq]; simp only [txt_len]; omega))
local macro_rules | `(tactic| walk_at "rd") => `(tactic| simp only [Rd.seq, Rd.next, Rd.brk, Rd.cont, Rd.drop, Rd.ret, Rd.retN, Rd.ifS, Rd.asg, Rd.par, Rd.par3, Rd.aug, Rd.ipi, Rd.gname, Rd.gnil, Rd.gcons, Rd.gtup, Rd.gsub, Rd.var, Rd.con, Rd.op, Rd.un, Rd.bb, Rd.test, Rd.not, Rd.and, Rd.or, Rd.andV, Rd.orV, Rd.notV, Rd.ifE, Rd.yes, Rd.chain, Rd.ri, Rd.ri0, Rd.ru, Rd.req, Rd.rne, Rd.nil, Rd.cons, Rd.tup, Rd.lst, Rd.cb, Rd.call, Rd.callK, Rd.m0, Rd.m1, Rd.bm0, Rd.bm, Rd.dget, Rd.dput, Rd.disp, Rd.pairs0, Rd.pairs1, Rd.ixL, Rd.ixT, Rd.ixS, Rd.setL, Rd.istr, Rd.ilist, Rd.itup, Rd.irng1, Rd.lc, Rd.for_, Rd.at0, Rd.at1, Rd.at2, Rd.at3, Rd.isN, Rd.notN, Rd.ixD, Rd.cnt, Rd.jn, Rd.thn, Rd.sum, Rd.app, Rd.cxK, Rd.blkK,
  wipe, scal, List.set, List.cons.injEq, List.cons_append, List.nil_append, List.append_nil, List.map_cons, List.map_nil, List.length_cons, List.length_nil, List.length_map, Nat.reduceAdd, Nat.reduceSub, Int.cast_ofNat_Int, Int.natCast_zero, Int.natCast_one, List.getElem?_cons_zero, List.getElem?_cons_succ, Option.some.injEq, V.int.injEq, V.bl.injEq, V.str.injEq, V.ref.injEq, exists_eq_left, exists_eq_left', exists_eq', exists_eq, exists_and_left, and_assoc, and_true, true_and, reduceCtorEq, decide_true, decide_false, Bool.not_true, Bool.not_false, Bool.false_eq_true, ite_true, ite_false, if_true, if_false])
local macro_rules | `(tactic| walk_at "kit") => `(tactic| first | exact Rd.kit_tuple_tuple | exact Rd.kit_int_int | exact Rd.kit_int_bool | exact Rd.kit_str_str | exact Rd.kit_tuple_int | exact Rd.kit_tuple_str | exact Rd.kit_list_tuple | exact Rd.kit_int_str | exact Rd.kit_int_tuple | exact Rd.kit_bool_int | exact Rd.kit_bool_bool | exact Rd.kit_str_int | exact Rd.kit_str_tuple)
local macro_rules | `(tactic| walk_at "lh") => `(tactic| first | assumption | exact upd_same | (refine Rd.look_new ?_ (by assumption); walk_at "lh"))
local macro_rules | `(tactic| walk_at "st") => `(tactic| first
  | (with_reducible refine Rd.tup_is (by walk_at "lh") (by walk_at "kit") ?_)
  | (with_reducible refine Rd.int_is (by walk_at "kit") ?_)
  | (with_reducible refine Rd.str_is (by walk_at "kit") ?_)
  | (with_reducible refine Rd.len_tup (by walk_at "lh") ?_)
  | (with_reducible refine Rd.len_lst (by walk_at "lh") ?_)
  | (with_reducible refine Rd.get_tup (by walk_at "lh") ?_)
  | (with_reducible refine Rd.get_lst (by walk_at "lh") ?_)
  | (with_reducible refine Rd.has_tup (by walk_at "lh") ?_)
  | (with_reducible refine Rd.has_lst (by walk_at "lh") ?_)
  | (with_reducible refine Rd.dr_turn (by walk_at "lh") ?_)
  | (with_reducible refine Rd.dr_cells (by walk_at "lh") ?_)
  | (with_reducible refine Rd.dr_large (by walk_at "lh") ?_)
  | (with_reducible refine Rd.dc_t (by walk_at "ar") ?_)
  | (with_reducible refine Rd.dc_f (by walk_at "ar") ?_)
  | (with_reducible refine Rd.dn_t (by walk_at "ar") ?_)
  | (with_reducible refine Rd.dn_f (by walk_at "ar") ?_)
  | (with_reducible refine And.intro (by walk_at "ar") ?_))
local macro_rules | `(tactic| walk_at "go") => `(tactic| repeat (first | walk_at "rd" | walk_at "st"))

section
variable {P : Program} {w : World} {K : PySem.W.Frag} {mg : Str → Option Value} {base : Heap}
/-! law -/
def spLaw (K : PySem.W.Frag) : Sp := fun vs H Q _ => ∃ a ns, vs = [.ref a] ∧ SqL K H a ((ns : List Int).map V.int) ∧ ns.length < 2 ^ 24 ∧ ∀ H', Q (.bl true) H'
abbrev NN_law : List Str := ["_law_script", "_law_m", "_law_turn", "_law_count", "_law_one", "_law_other", "_law_third", "_law_pair"]
theorem sc_law : FnScope NN_law ["_law_script"] d_law.scope := ⟨rfl, rfl, rfl, by decide +kernel, rfl, by decide +kernel, by decide +kernel⟩
theorem ok_law {fd : FuncData} (F : FnP K d_law fd) (T : Txt K w mg) (C_law_start : Rd.Cal P w K mg base 1 "_law_start" (spStart K) []) (C_law_draw : Rd.Cal P w K mg base 1 "_law_draw" spDraw []) (C_law_letters : Rd.Cal P w K mg base 3 "_law_letters" spLetters [])
    (C_law_pair_right : Rd.CalG P w K mg base 4 "_law_pair_right" spPair []) (C_law_three_right : Rd.Cal P w K mg base 4 "_law_three_right" spThree []) (C_law_hand_right : Rd.Cal P w K mg base 4 "_law_hand_right" spHand []) :
    FnG P w K mg base CX0 5 (He.fAd K d_law.at_) fd ["_law_script"] (spLaw K) := by
  refine F.okG sc_law (fun vs H Q E h => ?_) (fun cdv A outer s H vs Q E gd hr h => ?_)
  · obtain ⟨a, ns, rfl, _⟩ := h
    rfl
  · obtain ⟨a, ns, rfl, ha, hn, q⟩ := h
    refine ⟨_, PSs.nox (pss_cons (ps_set (i := 1) sc_law.nd rfl (.inl rfl) (Rd.pe_c C_law_start hr (by decide) (by rfl) (pa_cons (pv 0) pa_nil)))
      (pss_cons (ps_for PassesOwn.never rfl (pi_range1 (by rfl) T.range (pa_cons (pe_op op_add pe_int (pe_callB (call_min2 rfl) (by rfl) T.min (by decide +kernel) (pa_cons pe_int (pa_cons (pe_callB (Rd.len_ (K := K) rfl) (by rfl) T.len boot_len (pa_cons (pv 0) pa_nil)) pa_nil)))) pa_nil)) (pg_name (i := 2) sc_law.nd rfl (.inl rfl))
      (pss_cons (ps_set (i := 3) sc_law.nd rfl (.inl rfl) (Rd.pe_c C_law_draw hr (by decide) (by rfl) (pa_cons (pv 1) (pa_cons pe_int pa_nil))))
        (pss_cons (ps_par3 (i := 4) (j := 5) (l := 6) rfl sc_law.nd rfl rfl rfl (by decide) (by decide) (by decide) rfl rfl rfl (pa_cons (Rd.pe_c C_law_letters hr (by decide) (by rfl) (pa_cons (pv 1) (pa_cons (pv 3) pa_nil))) (pa_cons (Rd.pe_c C_law_letters hr (by decide) (by rfl) (pa_cons (pv 1) (pa_cons (pv 3) pa_nil))) (pa_cons (Rd.pe_c C_law_letters hr (by decide) (by rfl) (pa_cons (pv 1) (pa_cons (pv 3) pa_nil))) pa_nil))) rfl)
        (pss_cons (ps_for PassesOwn.never rfl (Rd.tup_ (K := K) rfl (pe_tup (pa_cons (pe_tup (pa_cons (pv 4) (pa_cons (pv 5) pa_nil))) (pa_cons (pe_tup (pa_cons (pv 5) (pa_cons (pv 6) pa_nil))) (pa_cons (pe_tup (pa_cons (pv 4) (pa_cons (pv 4) pa_nil))) pa_nil))))) (pg_name (i := 7) sc_law.nd rfl (.inl rfl))
        (pss_one (ps_if (pt_not (pt_val (Rd.pe_cg C_law_pair_right gd hr (by decide) (by rfl) (pa_cons (pe_ix (Rd.ixT_ (K := K) rfl) (pv 7) pe_int (fun _ _ => rfl)) (pa_cons (pe_ix (Rd.ixT_ (K := K) rfl) (pv 7) pe_int (fun _ _ => rfl)) pa_nil)))))
          (pss_one (ps_ret pe_bl))
          pss_nil)))
        (pss_one (ps_if (pt_not (pt_val (Rd.pe_c C_law_three_right hr (by decide) (by rfl) (pa_cons (pv 4) (pa_cons (pv 5) (pa_cons (pv 6) pa_nil))))))
        (pss_one (ps_ret pe_bl))
        pss_nil))))))
      (pss_one (ps_ret (Rd.pe_c0 C_law_hand_right hr (by decide) (by rfl)))))), ?_⟩
    rw [show L2.start NN_law [.ref a] = [some (.ref a), none, none, none, none, none, none, none] from rfl]
    walk_at "go"
    refine ⟨a, ns, rfl, ha, hn, fun H1 m c g s1 h1 => ?_⟩
    have ha1 := s1.seq ha
    walk_at "go"
    refine ⟨_, .inl ⟨_, ha1, rfl⟩, ?_⟩
    walk_at "go"
    obtain ⟨k, ek, hk⟩ : ∃ k : Nat, (4 : Int) + (if (ns.length : Int) < 6 then (ns.length : Int) else 6) = k ∧ k ≤ 10 := by
      by_cases e : (ns.length : Int) < 6
      · rw [if_pos e]
        exact ⟨4 + ns.length, by omega, by omega⟩
      · rw [if_neg e]
        exact ⟨10, by omega, by omega⟩
    rw [ek]
    rw [Int.toNat_natCast]
    refine for_it walk_range (fun i σ H' => ∃ x2 x3 x4 x5 x6 x7 t, σ = [some (.ref a), some (.ref m), x2, x3, x4, x5, x6, x7] ∧ Rd.Dr m c g t H' ∧ t ≤ 28 * i) ⟨none, none, none, none, none, none, 0, rfl, h1, by omega⟩ (fun _ _ _ _ _ => trivial) (fun i x σ H' H'' hi h y => ?_) fun σ H' h => ?_
    · obtain ⟨x2, x3, x4, x5, x6, x7, t, rfl, h2, ht⟩ := h
      obtain ⟨rfl, rfl⟩ := y
      walk_at "go"
      refine ⟨m, c, g, t, 9, rfl, h2, by omega, by omega, by omega, fun H2 r v2 h3 hr0 hr1 => ?_⟩
      obtain ⟨n, rfl⟩ := Int.eq_ofNat_of_zero_le hr0
      walk_at "go"
      refine ⟨m, c, g, t + 1, n, rfl, h3, by omega, by omega, fun H3 w1 p1 l1 u3 h4 a10 a13 al1 ww1 => ?_⟩
      walk_at "go"
      refine ⟨m, c, g, t + 1 + 1 + n, n, rfl, h4, by omega, by omega, fun H4 w2 p2 l2 u4 h5 a20 a23 al2 ww2 => ?_⟩
      walk_at "go"
      refine ⟨m, c, g, t + 1 + 1 + n + 1 + n, n, rfl, h5, by omega, by omega, fun H5 w3 p3 l3 u5 h6 a30 a33 al3 ww3 => ?_⟩
      obtain ⟨b1, rfl, ww1⟩ := ww1
      obtain ⟨b2, rfl, ww2⟩ := ww2
      obtain ⟨b3, rfl, ww3⟩ := ww3
      have ww1 := h5.tup u5 (h4.tup u4 ww1)
      have ww2 := h5.tup u5 ww2
      walk_at "go"
      intro t1 ht1
      walk_at "go"
      intro t2 ht2
      walk_at "go"
      intro t3 ht3
      walk_at "go"
      intro t4 ht4
      obtain ⟨HN, eN⟩ : ∃ HN, HN = upd (upd (upd (upd H5 t1 (.tup [.ref b1, .ref b2])) t2 (.tup [.ref b2, .ref b3])) t3 (.tup [.ref b1, .ref b1])) t4 (.tup [.ref t1, .ref t2, .ref t3]) := ⟨_, rfl⟩
      have sN : Same H5 HN := eN ▸ (((Rd.same_new ht1).trans (Rd.same_new ht2)).trans (Rd.same_new ht3)).trans (Rd.same_new ht4)
      have lt4 : HN t4 = some (.tup [.ref t1, .ref t2, .ref t3]) := by rw [eN]; exact upd_same
      have lt3 : HN t3 = some (.tup [.ref b1, .ref b1]) := by rw [eN]; exact Rd.look_new upd_same ht4
      have lt2 : HN t2 = some (.tup [.ref b2, .ref b3]) := by rw [eN]; exact Rd.look_new (Rd.look_new upd_same ht3) ht4
      have lt1 : HN t1 = some (.tup [.ref b1, .ref b2]) := by rw [eN]; exact Rd.look_new (Rd.look_new (Rd.look_new upd_same ht2) ht3) ht4
      have h7 := h6.mono sN
      have n1 := sN _ _ ww1
      have n2 := sN _ _ ww2
      have n3 := sN _ _ ww3
      rw [← eN]
      have prs : ∀ (i : Nat) (x : V), i < 3 → [V.ref t1, .ref t2, .ref t3][i]? = some x → ∃ tt u v pu lu pv lv, x = .ref tt ∧ HN tt = some (.tup [.ref u, .ref v]) ∧ HN u = some (.tup [.int pu, .str (txt lu)]) ∧ HN v = some (.tup [.int pv, .str (txt lv)]) ∧ lu.length = n ∧ lv.length = n ∧ 0 ≤ pu ∧ pu ≤ 3 ∧ 0 ≤ pv ∧ pv ≤ 3 := fun i x hi e => by
        have e3 : i = 0 ∨ i = 1 ∨ i = 2 := by omega
        rcases e3 with rfl | rfl | rfl
        · exact ⟨t1, b1, b2, p1, l1, p2, l2, (Option.some.inj e).symm, lt1, n1, n2, al1, al2, a10, a13, a20, a23⟩
        · exact ⟨t2, b2, b3, p2, l2, p3, l3, (Option.some.inj e).symm, lt2, n2, n3, al2, al3, a20, a23, a30, a33⟩
        · exact ⟨t3, b1, b1, p1, l1, p1, l1, (Option.some.inj e).symm, lt3, n1, n1, al1, al1, a10, a13, a10, a13⟩
      walk_at "go"
      refine for_it (walk_tup (xs := [.ref t1, .ref t2, .ref t3])) (fun j σ H6 => ∃ x7, σ = [some (.ref a), some (.ref m), some (.int (0 + (i : Int))), some (.int (n : Int)), some (.ref b1), some (.ref b2), some (.ref b3), x7] ∧ Same HN H6)
        ⟨x7, rfl, Same.refl _⟩ (fun j σ H6 _ h => .inl (.inl (h.choose_spec.2 _ _ lt4))) (fun j x σ H6 H7 hj h y => ?_) fun σ H6 h => ?_
      · obtain ⟨y7, rfl, s7⟩ := h
        obtain ⟨rfl, ey⟩ := y
        obtain ⟨tt, u, v, pu, lu, pv, lv, rfl, e1, e2, e3, c1, c2, c3, c4, c5, c6⟩ := prs j x hj ey
        have e1' := s7 _ _ e1
        walk_at "go"
        refine ⟨_, _, pu, lu, pv, lv, rfl, ⟨u, rfl, s7 _ _ e2⟩, ⟨v, rfl, s7 _ _ e3⟩, by omega, by omega, c3, c4, c5, c6, fun H8 s8 => ?_⟩
        walk_at "go"
        exact s7.trans s8
      · obtain ⟨y7, rfl, s7⟩ := h
        walk_at "go"
        refine ⟨_, _, _, p1, l1, p2, l2, p3, l3, rfl, ⟨b1, rfl, s7 _ _ n1⟩, ⟨b2, rfl, s7 _ _ n2⟩, ⟨b3, rfl, s7 _ _ n3⟩, by omega, by omega, by omega, a10, a13, a20, a23, a30, a33, fun H8 s8 => ?_⟩
        walk_at "go"
        exact ⟨_, h7.mono (s7.trans s8), by omega⟩
    · obtain ⟨x2, x3, x4, x5, x6, x7, t, rfl, h2, ht⟩ := h
      walk_at "go"
      exact ⟨rfl, q⟩
end
end K51


set_option Elab.async false
set_option linter.all false
set_option maxRecDepth 100000
set_option maxHeartbeats 4000000
namespace K51
open PySem PySem.Spec PyProof.Rows L2
section
variable {P : Program} {w : World} {K : PySem.W.Frag} {h : Heap} {mg : Str → Option Value} {base : Heap}
theorem txt_of (X : K.In h) (G : h.Ns mainGlobals mg) (c : He.SaysM fa fn tabs more w K) : Txt K w mg := by
  obtain ⟨m1, m2⟩ := He.ba c.more
  obtain ⟨m3, m4⟩ := He.ba m2
  obtain ⟨m5, m6⟩ := He.ba m4
  obtain ⟨m7, m8⟩ := He.ba m6
  have fr : ∀ {x : Str}, (He.Fa.free x).ok K = true → mg x = none := fun z => He.free_ok X G z
  refine ⟨fr (c.fact 21), fr (c.fact 22), fr (c.fact 23), fr (c.fact 24), fr (c.fact 25), fr (c.fact 26), fr (c.fact 27), fr (c.fact 28), fr (c.fact 29), fr (c.fact 30), fr (c.fact 31), fr (c.fact 32), fr (c.fact 33), fr (c.fact 34),
    He.int_ok X G (c.fact 35), He.glo_ok X G (c.fact 17), He.glo_ok X G (c.fact 18), c.tab 0, fun l => ?_, ktB_ok m1⟩
  cases l
  · exact He.tupAt_ok m3
  · exact He.tupAt_ok m5
  · exact He.tupAt_ok m7
  · exact He.tupAt_ok m8
theorem cal_of {d : He.DefD} {fd : FuncData} {x : Str} {k : Nat} {ps : List Str} {sp : Sp} {ds : List Value} {dvs : List V} (F : FnP K d fd) (ok : FnOk P w K mg base CX0 k (He.fAd K d.at_) fd ps sp) (hm : mg x = some (.ref (He.fAd K d.at_))) (b : Binds K fd ps ds) (v : Vals dvs ds) :
    Rd.Cal P w K mg base k x sp dvs := ⟨_, fd, ps, ds, ok, hm, F.kp, b, v⟩
theorem facts {f : Addr} (X : K.In h) (G : h.Ns mainGlobals mg) (hfa : mg ("law" : Str) = some (.ref f)) (c : He.SaysM fa fn tabs more w K) :
    ∃ fd : FuncData, (∀ (s : Shared) (v : Value), BindsTo s fd ⟨[v], []⟩ [("_law_script", v)]) ∧ ∀ base : Heap, K.In base → base.Ns mainGlobals mg → FnG P w K mg base CX0 5 f fd ["_law_script"] (spLaw K) := by
  have T := txt_of X G c
  obtain ⟨fd1, F1⟩ := c.def_ 1 (d := d_is_word)
  obtain ⟨fd2, F2⟩ := c.def_ 2 (d := d_need_word)
  obtain ⟨fd3, F3⟩ := c.def_ 3 (d := d_factored)
  obtain ⟨fd4, F4⟩ := c.def_ 4 (d := d_spelled)
  obtain ⟨fd5, F5⟩ := c.def_ 5 (d := d_added_bits)
  obtain ⟨fd6, F6⟩ := c.def_ 6 (d := d_multiplied)
  obtain ⟨fd7, F7⟩ := c.def_ 7 (d := d_word_product)
  obtain ⟨fd8, F8⟩ := c.def_ 8 (d := d_law_start)
  obtain ⟨fd9, F9⟩ := c.def_ 9 (d := d_law_draw)
  obtain ⟨fd10, F10⟩ := c.def_ 10 (d := d_law_pick)
  obtain ⟨fd11, F11⟩ := c.def_ 11 (d := d_law_letters)
  obtain ⟨fd12, F12⟩ := c.def_ 12 (d := d_law_moved)
  obtain ⟨fd13, F13⟩ := c.def_ 13 (d := d_law_due)
  obtain ⟨fd14, F14⟩ := c.def_ 14 (d := d_law_pair_right)
  obtain ⟨fd15, F15⟩ := c.def_ 15 (d := d_law_three_right)
  obtain ⟨fd16, F16⟩ := c.def_ 16 (d := d_law_hand_right)
  obtain ⟨fd17, F17⟩ := c.def_ 17 (d := d_law)
  have e := hfa.symm.trans (He.glo_ok X G (c.fact 16))
  cases e
  have b := FunD.bindsA (ps := ["_law_script"]) F17 fun _ _ _ _ _ _ us hl => match us, hl with | [_], _ => rfl
  refine ⟨fd17, fun s v => b s [v] rfl, fun base _ _ => ?_⟩
  have g : ∀ {x : Str}, (He.Fa.glo x).ok K = true → mg x = some (.ref (He.ga K x)) := fun z => He.glo_ok X G z
  have C1 : Rd.Cal P w K mg base 1 "is_word" spIsWord [] := cal_of F1 (ok_is_word F1 T) (g (c.fact 0)) (FunD.bindsN F1 fun _ _ _ _ _ _ us hl => match us, hl with | [_], _ => rfl) .nil
  have ok2 := ok_need_word (base := base) (P := P) F2 T C1
  have C2 : Rd.Cal P w K mg base 2 "need_word" spNeed [] := by
    obtain ⟨ds, v, b2⟩ := FunD.binds1 (ps := ["value", "count"]) F2 2 1 (by intro z; cases z) rfl fun T kV doc pm an cdv ct us its hu hi => match us, its, hu, hi with | [_, _], [_], _, _ => ⟨_, rfl, rfl⟩
    exact cal_of F2 ok2 (g (c.fact 1)) b2 v
  have C2' : Rd.Cal P w K mg base 2 "need_word" spNeed [.non] := by
    obtain ⟨ds, v, b2⟩ := FunD.binds1 (ps := ["value", "count"]) F2 1 0 (by intro z; cases z) rfl fun T kV doc pm an cdv ct us its hu hi => match us, its, hu, hi with | [_], [_], _, _ => ⟨_, rfl, rfl⟩
    exact cal_of F2 ok2 (g (c.fact 1)) b2 v
  have C3 : Rd.Cal P w K mg base 1 "factored" spFactored [] := cal_of F3 (ok_factored F3 T) (g (c.fact 2)) (FunD.bindsN F3 fun _ _ _ _ _ _ us hl => match us, hl with | [_], _ => rfl) .nil
  have C4 : Rd.Cal P w K mg base 1 "spelled" spSpelled [] := cal_of F4 (ok_spelled F4 T) (g (c.fact 3)) (FunD.bindsN F4 fun _ _ _ _ _ _ us hl => match us, hl with | [_, _, _], _ => rfl) .nil
  have C5 : Rd.Cal P w K mg base 1 "added_bits" spAdded [] := cal_of F5 (ok_added_bits F5 T) (g (c.fact 4)) (FunD.bindsN F5 fun _ _ _ _ _ _ us hl => match us, hl with | [_, _], _ => rfl) .nil
  have C6 : Rd.Cal P w K mg base 2 "multiplied" spMul [] := cal_of F6 (ok_multiplied F6 T C3 C4 C5) (g (c.fact 5)) (FunD.bindsN F6 fun _ _ _ _ _ _ us hl => match us, hl with | [_, _], _ => rfl) .nil
  have ok7 := ok_word_product F7 T C2' C2 C6
  have C7 : Rd.Cal P w K mg base 3 "word_product" spWP [] := cal_of F7 ok7 (g (c.fact 6)) (FunD.bindsN F7 fun _ _ _ _ _ _ us hl => match us, hl with | [_, _], _ => rfl) .nil
  have C7' : Rd.CalK P w K mg base 3 "word_product" spWP ["second_word", "word"] gKW := by
    obtain ⟨gg, kb⟩ := kb_wp F7
    exact ⟨_, fd7, _, gg, ok7, g (c.fact 6), F7.kp, kb⟩
  have C8 : Rd.Cal P w K mg base 1 "_law_start" (spStart K) [] := cal_of F8 (ok_law_start F8 T) (g (c.fact 7)) (FunD.bindsN F8 fun _ _ _ _ _ _ us hl => match us, hl with | [_], _ => rfl) .nil
  have C9 : Rd.Cal P w K mg base 1 "_law_draw" spDraw [] := cal_of F9 (ok_law_draw F9 T) (g (c.fact 8)) (FunD.bindsN F9 fun _ _ _ _ _ _ us hl => match us, hl with | [_, _], _ => rfl) .nil
  have C10 : Rd.Cal P w K mg base 2 "_law_pick" spPick [] := cal_of F10 (ok_law_pick F10 T C9) (g (c.fact 9)) (FunD.bindsN F10 fun _ _ _ _ _ _ us hl => match us, hl with | [_, _], _ => rfl) .nil
  have C11 : Rd.Cal P w K mg base 3 "_law_letters" spLetters [] := cal_of F11 (ok_law_letters F11 T C9 C10) (g (c.fact 10)) (FunD.bindsN F11 fun _ _ _ _ _ _ us hl => match us, hl with | [_, _], _ => rfl) .nil
  have C12 : Rd.Cal P w K mg base 1 "_law_moved" spMoved [] := cal_of F12 (ok_law_moved F12 T) (g (c.fact 11)) (FunD.bindsN F12 fun _ _ _ _ _ _ us hl => match us, hl with | [_, _], _ => rfl) .nil
  have C13 : Rd.Cal P w K mg base 2 "_law_due" spDue [] := cal_of F13 (ok_law_due F13 T C12) (g (c.fact 12)) (FunD.bindsN F13 fun _ _ _ _ _ _ us hl => match us, hl with | [_, _], _ => rfl) .nil
  have C14 : Rd.CalG P w K mg base 4 "_law_pair_right" spPair [] := ⟨_, fd14, _, _, ok_law_pair_right F14 T C13 C7 C7', g (c.fact 13), F14.kp, FunD.bindsN F14 fun _ _ _ _ _ _ us hl => match us, hl with | [_, _], _ => rfl, .nil⟩
  have C15 : Rd.Cal P w K mg base 4 "_law_three_right" spThree [] := cal_of F15 (ok_law_three_right F15 T C7) (g (c.fact 14)) (FunD.bindsN F15 fun _ _ _ _ _ _ us hl => match us, hl with | [_, _, _], _ => rfl) .nil
  have C16 : Rd.Cal P w K mg base 4 "_law_hand_right" spHand [] := cal_of F16 (ok_law_hand_right F16 T C7) (g (c.fact 15)) (FunD.bindsN F16 fun _ _ _ _ _ _ us hl => match us, hl with | [], _ => rfl) .nil
  exact ok_law F17 T C8 C9 C11 C14 C15 C16
end
end K51
open PySem PySem.W PySem.Calls PyProof.Rows
theorem PySem.Challenge.cw_spiderwires_k51_products_of_words_holds : PySem.Challenge.rw_spiderwires_k51_products_of_words.Holds := by
  w_on; o_law
  refine HandSHeadRun.head_any (r := OpenLaw.row PySem.Challenge.rw_spiderwires_k51_products_of_words) (q := view (OpenLaw.row PySem.Challenge.rw_spiderwires_k51_products_of_words).prog [24]) (H := K51.hk) (ob := K51.ob) (M := 3000) (loose := K51.loose) (d := HandSHeadRun.topDef (OpenLaw.row PySem.Challenge.rw_spiderwires_k51_products_of_words).prog 24) (kwd := []) K51.ob_eq
    (by kernel_rfl) (fun s => by kernel_rfl) K51.run (by kernel_rfl) (by kernel_rfl) (by kernel_rfl) (by rfl) (by first | assumption | decide +kernel) (by decide +kernel) ⟨rfl, rfl, rfl, rfl, rfl, by decide +kernel⟩ ?hw ?hc
  case hw => w_witness2
  case hc =>
    refine L2.walk_ofG (l := PySem.Challenge.rw_spiderwires_k51_products_of_words) (n := 63) (k := 5) (x := "_law_script") (CX := L2.CX0) rfl (by decide) (by kernel_rfl) ⟨rfl, by decide, by decide⟩ ?F (fun _ _ _ _ z => z)
    intro w mg fa h Y G hmg0
    obtain ⟨K, KX, c⟩ := Y
    have hmg : mg ("law" : PySem.Str) = some (.ref fa) := by
      have e : (HandSHeadRun.topDef (OpenLaw.row PySem.Challenge.rw_spiderwires_k51_products_of_words).prog 24).name = ("law" : PySem.Str) := by kernel_rfl
      rw [← e]
      exact hmg0
    obtain ⟨fd, hb, hF⟩ := K51.facts (P := (PySem.Challenge.rw_spiderwires_k51_products_of_words).prog) (w := w) KX G hmg c
    exact ⟨K, fd, K51.spLaw K, KX, hb, fun H a ns hl _ _ hS => ⟨a, ns, rfl, hS, Nat.lt_of_le_of_lt hl (by decide), fun _ => rfl⟩, hF⟩

