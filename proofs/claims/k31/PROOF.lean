import PyProof.Rows.All
import Wide.All
import OpenK.AllK
import Wide.FinOn
import HandS.ForMost
import HandS.Iter
import HandS.Zip
import KE.GoesEnum
import KE.KDictZip
import PyProof.EnumMake
import PyProof.ReprReads
import HandS.ForExc
import HandS.Lambda
import HandS.CallSlots
import HandS.Wide
import HandS.TupAny
import HandS.TryMany
import HandS.IsInst
import HandS.Deep
import HandS.SortInts
import HandS.SetFor
import HandS.Strs
import HandS.Style
import HandS.TupMul
import HandS.Conv
import HandS.RaiseMore
import HandS.Flow
import PyProof.FactsLen
import HandS.Star
import PyProof.Rows.FactsT2
import PyProof.Rows.FactsT3
import PyProof.Rows.FactsN_isinstance
import PyProof.FactsAll.list_0
import HandS.Comp
import HandS.ExcField
import HandS.ExcInit
import HandS.ExcSuper
import KE.KExcSuper
import KE.KSuper
import HandS.HeadWalk
import KE.KExcInit
import HandS.HeadHook4
import HandS.Head0
import HandS.Head1
import HandS.Head2
import HandS.HeadEnd
import PySem.Challenge.RW_heedcells_k31_errors_of_states
section
set_option Elab.async false
set_option linter.all false
set_option maxRecDepth 100000
set_option maxHeartbeats 1000000
/-! VIz: zip and enumerate of lists and tuples in any mix, enumerate(zip(..)). -/
namespace VI.Ez
open PySem PySem.Spec PyProof.Rows L2 RZ
open PySem.W (kdx_alive)

/-- an iterator over a list (k false) or a tuple (k true) -/
def ItK (k : Bool) (h : Heap) (it l : Addr) (i : Nat) : Prop := if k then h.IsTupleIter it l i else h.IsListIter it l i
def SqK (k : Bool) (h : Heap) (l : Addr) (its : Array Value) : Prop := if k then h.IsTuple l its else h.IsList l its
def SqV (k : Bool) (K : PySem.W.Frag) (H : Hp) (a : Addr) (xs : List V) : Prop := if k then SqT K H a xs else SqL K H a xs
def itO (k : Bool) (l : Addr) : Obj := if k then { cls := .type "tuple_iterator", data := .fields #[.ref l, .int 0 0] } else { cls := .type "list_iterator", data := .fields #[.ref l, .int 0 0] }
theorem itO_begins (k : Bool) (l : Addr) (its : Array Value) : Begins (.ref l) (itO k l) fun h => SqK k h l its := by
  cases k
  · exact begins_list l its
  · exact begins_tuple l its
theorem itO_at {k : Bool} {h : Heap} {it l : Addr} (e : h.get? it = some (itO k l)) : ItK k h it l 0 := by
  cases k
  · exact ⟨_, e, rfl, rfl⟩
  · exact ⟨_, e, rfl, rfl⟩
theorem ItK.extBut {k : Bool} {h h' : Heap} {a b l : Addr} {i : Nat} (x : ItK k h a l i) (hs : Heap.ExtBut b h h') (hab : a ≠ b) : ItK k h' a l i := by
  cases k
  · exact Heap.IsListIter.extBut x hs hab
  · exact Heap.IsTupleIter.extBut x hs hab
theorem ItK.at {k : Bool} {h h' : Heap} {a l : Addr} {i : Nat} (x : ItK k h a l i) (e : ∀ o, h.get? a = some o → h'.get? a = some o) : ItK k h' a l i := by
  cases k
  · exact Heap.IsListIter.at x e
  · exact Heap.IsTupleIter.at x e
theorem ItK.obj {k : Bool} {h : Heap} {a l : Addr} {i : Nat} (x : ItK k h a l i) : ∃ o, h.get? a = some o ∧ ∀ v, o.data ≠ .cell v := by
  cases k
  · obtain ⟨o, e, _, d⟩ := (show h.IsListIter a l i from x)
    exact ⟨o, e, fun v q => by rw [d] at q; cases q⟩
  · obtain ⟨o, e, _, d⟩ := (show h.IsTupleIter a l i from x)
    exact ⟨o, e, fun v q => by rw [d] at q; cases q⟩
theorem ItK.lt {k : Bool} {h : Heap} {a l : Addr} {i : Nat} (x : ItK k h a l i) : a < h.objs.size := let ⟨_, e, _⟩ := x.obj; Heap.lt_size e
theorem SqK.extBut {k : Bool} {h h' : Heap} {a b : Addr} {its : Array Value} (x : SqK k h a its) (hs : Heap.ExtBut b h h') (hab : a ≠ b) : SqK k h' a its := by
  cases k
  · exact Heap.IsList.extBut x hs hab
  · exact Heap.IsTuple.extBut x hs hab
theorem SqK.lt {k : Bool} {h : Heap} {a : Addr} {its : Array Value} (x : SqK k h a its) : a < h.objs.size := by
  cases k
  · obtain ⟨o, e, _⟩ := (show h.IsList a its from x)
    exact Heap.lt_size e
  · obtain ⟨o, e, _⟩ := (show h.IsTuple a its from x)
    exact Heap.lt_size e
section
variable {prog : Program} {w : World} {A : Around} {E : Value → Shared → Prop} {s : Shared}
theorem nextK_item {k : Bool} {it l : Addr} {i : Nat} {items : Array Value} {x : Value} {Q : Value → Shared → Prop} (hit : ItK k s.heap it l i) (hl : SqK k s.heap l items) (hx : items[i]? = some x)
    (hQ : ∀ h', ItK k h' it l (i + 1) → Heap.SameBut it s.heap h' → Q x { s with heap := h' }) : wpAny (model prog w) A (Builtin.SmallTypes.nextOf (.ref it)) Q E s := by
  cases k
  · exact wpAny_nextOf_list_item hit hl hx hQ
  · exact RZ.nextOf_tuple_item hit hl hx hQ
theorem nextK_end {k : Bool} {it l : Addr} {i : Nat} {items : Array Value} {Q : Value → Shared → Prop} (hh : A.handled = none) (hit : ItK k s.heap it l i) (hl : SqK k s.heap l items) (hx : items[i]? = none)
    (hE : ∀ h' e, Heap.ExtBut it s.heap h' → (∃ o, h'.get? e = some o ∧ o.cls = .type "StopIteration") → E (.ref e) { s with heap := h' }) : wpAny (model prog w) A (Builtin.SmallTypes.nextOf (.ref it)) Q E s := by
  cases k
  · exact wpAny_nextOf_list_end hh hit hl hx hE
  · exact RZ.nextOf_tuple_end hh hit hl hx hE
theorem alive_none {a : Addr} {Q : Option Obj → Shared → Prop} (h : s.heap.get? a = none) (q : Q none s) : wpAny (model prog w) A (loadIfAlive a) Q E s := by
  have h' : Q (s.heap.get? a) s := by rw [h]; exact q
  exact fun _ _ _ => h'
/-- a zip, whatever became of the pair that it gave out -/
abbrev ZipA (h : Heap) (z TI TO : Addr) (f0 : Value) (fl : Bool) : Prop :=
  h.get? z = some { cls := .type "zip", dict := none, data := .fields #[f0, .bool fl, .bool false, .ref TI, .ref TO], slots := #[] }
def F0 (f : Value) : Prop := f = .none ∨ ∃ T : Nat, f = rawInt T
theorem free_zip {z TI TO : Addr} {f0 : Value} {fl : Bool} {Q : Bool → Shared → Prop} (hz : ZipA s.heap z TI TO f0 fl) (hf : F0 f0) (h1 : Q true s)
    (h2 : f0 ≠ .none → ∀ h' T, ZipA h' z TI TO (rawInt (T : Nat)) true → Heap.SameBut z s.heap h' → Q false { s with heap := h' }) : wpAny (model prog w) A (Builtin.SmallTypes.ownedTupleIsFree (.ref z)) Q E s := by
  unfold Builtin.SmallTypes.ownedTupleIsFree
  rcases hf with rfl | ⟨T, rfl⟩
  · exact wpAny_bind (wpAny_field hz rfl (x := .none) rfl (wpAny_pure h1))
  · refine wpAny_bind (wpAny_field hz rfl (x := rawInt T) rfl ?_)
    show wpAny _ _ (loadIfAlive ((T : Int).toNat) >>= _) _ _ _
    rw [Int.toNat_natCast]
    cases hT : s.heap.get? T with
    | none =>
      exact wpAny_bind (alive_none hT (wpAny_pure h1))
    | some oT =>
      refine wpAny_bind (kdx_alive hT ?_)
      simp only [Option.isNone_some, Bool.false_eq_true, if_false]
      refine wpAny_bind (wpAny_field hz rfl (x := .bool fl) rfl ?_)
      cases fl with
      | true =>
        rw [if_neg (show ¬ ((Value.bool true != Value.bool true) = true) from Bool.false_ne_true)]
        exact wpAny_pure (h2 (fun q => nomatch q) s.heap T hz (Heap.SameBut.refl _ _))
      | false =>
        rw [if_pos (show (Value.bool false != Value.bool true) = true from rfl)]
        exact wpAny_bind (wpAny_setField_rec hz (by simp) fun h₁ hz₁ hs₁ => wpAny_pure (h2 (fun q => nomatch q) h₁ T hz₁ hs₁))
theorem zipK_item {k k' : Bool} {z TI TO i1 i2 l1 l2 : Addr} {n1 n2 : Nat} {xs ys : Array Value} {x y a b f0 : Value} {fl : Bool} {Q : Value → Shared → Prop} (D : ZipApart z TI TO i1 i2 l1 l2)
    (hz : ZipA s.heap z TI TO f0 fl) (hf : F0 f0) (hTI : IsPair s.heap TI (.ref i1) (.ref i2)) (hTO : IsPair s.heap TO a b)
    (h1 : ItK k s.heap i1 l1 n1) (h2 : ItK k' s.heap i2 l2 n2) (hl1 : SqK k s.heap l1 xs) (hl2 : SqK k' s.heap l2 ys) (hx : xs[n1]? = some x) (hy : ys[n2]? = some y)
    (hQ : ∀ h' f0' fl' a' b', ZipA h' z TI TO f0' fl' → F0 f0' → (f0' = rawInt s.heap.objs.size ∧ fl' = false ∨ f0 ≠ .none) → IsPair h' TO a' b' → ItK k h' i1 l1 (n1 + 1) → ItK k' h' i2 l2 (n2 + 1) → IsPair h' s.heap.objs.size x y → h'.objs.size = s.heap.objs.size + 1 →
      (∀ c o, c ≠ z → c ≠ TO → c ≠ i1 → c ≠ i2 → s.heap.get? c = some o → h'.get? c = some o) → Q (.ref s.heap.objs.size) { s with heap := h' }) :
    wpAny (model prog w) A (Builtin.«zip.__next__» ⟨[.ref z], []⟩) (fun fin s' => ∃ v, fin = .done (.ret v) ∧ Q v s') E s := by
  show wpAny _ _ (field (.ref z) 2 >>= _) _ _ _
  refine wpAny_bind (wpAny_field hz rfl (x := .bool false) rfl ?_)
  show wpAny _ _ (field (.ref z) 3 >>= _) _ _ _
  refine wpAny_bind (wpAny_field hz rfl (x := .ref TI) rfl ?_)
  refine wpAny_bind (wpAny_seqItems hTI rfl ?_)
  show wpAny _ _ (Builtin.SmallTypes.ownedTupleIsFree (.ref z) >>= _) _ _ _
  refine wpAny_bind (free_zip hz hf ?_ fun hnn h₁ T hz₁ hs₁ => ?_)
  · simp only [if_true]
    refine wpAny_bind (wpAny_rule ?_)
    refine wpAny_bind (wpAny_field hz rfl (x := .ref TO) rfl ?_)
    refine wpAny_bind (wpAny_setField_rec hz (by simp) fun h₁ hz₁ hs₁ => ?_)
    replace hz₁ : ZipA h₁ z TI TO .ellipsis fl := hz₁
    refine wpAny_bind ?_
    simp only [List.zipIdx_cons, List.zipIdx_nil, List.forIn_cons, List.forIn_nil]
    refine wpAny_bind (wpAny_bind (wpAny_onRaise ?_))
    show wpAny _ _ (Builtin.SmallTypes.nextOf (.ref i1) >>= _) _ _ _
    refine wpAny_bind (nextK_item (h1.extBut hs₁.extBut D.i1z) (hl1.extBut hs₁.extBut D.l1z) hx fun h₂ h1₂ hs₂ => wpAny_pure ?_)
    have hTO₂ : IsPair h₂ TO a b := hs₂.extBut _ _ D.TOi1 (hs₁.extBut _ _ D.TOz hTO)
    refine wpAny_bind (wpAny_seqItems hTO₂ rfl ?_)
    refine wpAny_bind (wpAny_updateSeq_pair hTO₂ fun h₃ hTO₃ hs₃ => ?_)
    replace hTO₃ : IsPair h₃ TO x b := hTO₃
    refine wpAny_bind (wpAny_letGo (wpAny_pure ?_))
    refine wpAny_bind (wpAny_bind (wpAny_onRaise ?_))
    show wpAny _ _ (Builtin.SmallTypes.nextOf (.ref i2) >>= _) _ _ _
    refine wpAny_bind (nextK_item (((h2.extBut hs₁.extBut D.i2z).extBut hs₂.extBut D.i12.symm).extBut hs₃.extBut D.TOi2.symm)
      (((hl2.extBut hs₁.extBut D.l2z).extBut hs₂.extBut D.l2i1).extBut hs₃.extBut D.l2TO) hy fun h₄ h2₄ hs₄ => wpAny_pure ?_)
    have hTO₄ : IsPair h₄ TO x b := hs₄.extBut _ _ D.TOi2 hTO₃
    refine wpAny_bind (wpAny_seqItems hTO₄ rfl ?_)
    refine wpAny_bind (wpAny_updateSeq_pair hTO₄ fun h₅ hTO₅ hs₅ => ?_)
    replace hTO₅ : IsPair h₅ TO x y := hTO₅
    refine wpAny_bind (wpAny_letGo (wpAny_pure (wpAny_pure ?_)))
    refine wpAny_bind (wpAny_seqItems hTO₅ rfl ?_)
    refine wpAny_bind (wpAny_newTuple ?_)
    have hsz : h₅.objs.size = s.heap.objs.size := by rw [hs₅.1, hs₄.1, hs₃.1, hs₂.1, hs₁.1]
    have hz₅ : ZipA h₅ z TI TO .ellipsis fl := hs₅.extBut _ _ D.TOz.symm (hs₄.extBut _ _ D.i2z.symm (hs₃.extBut _ _ D.TOz.symm (hs₂.extBut _ _ D.i1z.symm hz₁)))
    have hk₅ : ∀ c o, c ≠ z → c ≠ TO → c ≠ i1 → c ≠ i2 → s.heap.get? c = some o → h₅.get? c = some o := fun c o c1 c2 c3 c4 e =>
      hs₅.extBut _ _ c2 (hs₄.extBut _ _ c4 (hs₃.extBut _ _ c2 (hs₂.extBut _ _ c3 (hs₁.extBut _ _ c1 e))))
    have h1₅ : ItK k h₅ i1 l1 (n1 + 1) := ((h1₂.extBut hs₃.extBut D.TOi1.symm).extBut hs₄.extBut D.i12).extBut hs₅.extBut D.TOi1.symm
    have h2₅ : ItK k' h₅ i2 l2 (n2 + 1) := h2₄.extBut hs₅.extBut D.TOi2.symm
    have hzlt : z < h₅.objs.size := Heap.lt_size hz₅
    show wpAny _ _ (Builtin.SmallTypes.ownedTupleHandOut (.ref z) (.ref h₅.objs.size) >>= _) _ _ _
    refine wpAny_bind ?_
    unfold Builtin.SmallTypes.ownedTupleHandOut
    have hz₆ : ZipA (h₅.push { cls := .type "tuple", data := .seq #[x, y] }) z TI TO .ellipsis fl := Heap.get?_push_of_some _ hz₅
    refine wpAny_bind (wpAny_setField_rec hz₆ (by simp) fun h₇ hz₇ hs₇ => ?_)
    replace hz₇ : ZipA h₇ z TI TO (rawInt h₅.objs.size) fl := hz₇
    refine wpAny_setField_rec hz₇ (by simp) fun h₈ hz₈ hs₈ => ?_
    replace hz₈ : ZipA h₈ z TI TO (rawInt h₅.objs.size) false := hz₈
    have up : ∀ c o, c ≠ z → h₅.get? c = some o → h₈.get? c = some o := fun c o c1 e => hs₈.extBut _ _ c1 (hs₇.extBut _ _ c1 (Heap.get?_push_of_some _ e))
    have hT₈ : IsPair h₈ h₅.objs.size x y := hs₈.extBut _ _ (Nat.ne_of_gt hzlt) (hs₇.extBut _ _ (Nat.ne_of_gt hzlt) (Heap.get?_push_size _ rfl))
    have hz8 : h₈.objs.size = h₅.objs.size + 1 := by rw [hs₈.1, hs₇.1, Heap.size_push]
    rw [hsz] at hz₈ hT₈ hz8
    refine wpAny_pure ⟨_, rfl, ?_⟩
    show Q (.ref h₅.objs.size) _
    rw [hsz]
    exact hQ h₈ _ _ _ _ hz₈ (.inr ⟨_, rfl⟩) (.inl ⟨rfl, rfl⟩) (up _ _ D.TOz hTO₅) (h1₅.at fun o e => up _ o D.i1z e) (h2₅.at fun o e => up _ o D.i2z e) hT₈ hz8 fun c o c1 c2 c3 c4 e => up c o c1 (hk₅ c o c1 c2 c3 c4 e)
  · simp only [Bool.false_eq_true, if_false]
    refine wpAny_bind ?_
    rw [← Array.forIn_toList]
    simp only [List.forIn_cons, List.forIn_nil]
    refine wpAny_bind (wpAny_bind (wpAny_holding ?_))
    show wpAny _ _ (Builtin.SmallTypes.nextOf (.ref i1) >>= _) _ _ _
    refine wpAny_bind (nextK_item (s := { s with heap := h₁ }) (h1.extBut hs₁.extBut D.i1z) (hl1.extBut hs₁.extBut D.l1z) hx fun h₂ h1₂ hs₂ => wpAny_pure ?_)
    refine wpAny_pure ?_
    refine wpAny_bind (wpAny_bind (wpAny_holding ?_))
    show wpAny _ _ (Builtin.SmallTypes.nextOf (.ref i2) >>= _) _ _ _
    refine wpAny_bind (nextK_item (s := { s with heap := h₂ }) ((h2.extBut hs₁.extBut D.i2z).extBut hs₂.extBut D.i12.symm) ((hl2.extBut hs₁.extBut D.l2z).extBut hs₂.extBut D.l2i1) hy fun h₃ h2₃ hs₃ => wpAny_pure ?_)
    refine wpAny_pure (wpAny_pure ?_)
    show wpAny _ _ (newTuple [x, y] >>= _) _ _ _
    refine wpAny_bind (wpAny_newTuple ?_)
    have hsz : h₃.objs.size = s.heap.objs.size := by rw [hs₃.1, hs₂.1, hs₁.1]
    have hz₃ : ZipA h₃ z TI TO (rawInt T) true := hs₃.extBut _ _ D.i2z.symm (hs₂.extBut _ _ D.i1z.symm hz₁)
    have hk : ∀ c o, c ≠ z → c ≠ i1 → c ≠ i2 → s.heap.get? c = some o → h₃.get? c = some o := fun c o c1 c2 c3 e => hs₃.extBut _ _ c3 (hs₂.extBut _ _ c2 (hs₁.extBut _ _ c1 e))
    have h1₃ : ItK k h₃ i1 l1 (n1 + 1) := h1₂.extBut hs₃.extBut D.i12
    refine wpAny_pure ⟨_, rfl, ?_⟩
    show Q (.ref h₃.objs.size) _
    have hp : IsPair (h₃.push { cls := .type "tuple", data := .seq #[x, y] }) h₃.objs.size x y := Heap.get?_push_size _ rfl
    have hz4 : (h₃.push { cls := .type "tuple", data := .seq #[x, y] }).objs.size = h₃.objs.size + 1 := Heap.size_push ..
    rw [hsz] at hp hz4 ⊢
    exact hQ _ _ _ _ _ (Heap.get?_push_of_some _ hz₃) (.inr ⟨_, rfl⟩) (.inr hnn) (Heap.get?_push_of_some _ (hk _ _ D.TOz D.TOi1 D.TOi2 hTO)) (h1₃.at fun o e => Heap.get?_push_of_some _ e) (h2₃.at fun o e => Heap.get?_push_of_some _ e) hp hz4 fun c o c1 c2 c3 c4 e => Heap.get?_push_of_some _ (hk c o c1 c3 c4 e)
theorem zipK_end {k k' : Bool} {z TI TO i1 i2 l1 l2 : Addr} {n1 n2 : Nat} {xs ys : Array Value} {a b f0 : Value} {fl : Bool} {Q : Fin → Shared → Prop} (hh : A.handled = none) (D : ZipApart z TI TO i1 i2 l1 l2)
    (hz : ZipA s.heap z TI TO f0 fl) (hf : F0 f0) (hTI : IsPair s.heap TI (.ref i1) (.ref i2)) (hTO : IsPair s.heap TO a b)
    (h1 : ItK k s.heap i1 l1 n1) (h2 : ItK k' s.heap i2 l2 n2) (hl1 : SqK k s.heap l1 xs) (hl2 : SqK k' s.heap l2 ys) (hend : xs[n1]? = none ∨ ys[n2]? = none)
    (hE : ∀ h' e, (∀ c o, c ≠ z → c ≠ TO → c ≠ i1 → c ≠ i2 → s.heap.get? c = some o → h'.get? c = some o) → (∃ o, h'.get? e = some o ∧ o.cls = .type "StopIteration") → E (.ref e) { s with heap := h' }) :
    wpAny (model prog w) A (Builtin.«zip.__next__» ⟨[.ref z], []⟩) Q E s := by
  show wpAny _ _ (field (.ref z) 2 >>= _) _ _ _
  refine wpAny_bind (wpAny_field hz rfl (x := .bool false) rfl ?_)
  show wpAny _ _ (field (.ref z) 3 >>= _) _ _ _
  refine wpAny_bind (wpAny_field hz rfl (x := .ref TI) rfl ?_)
  refine wpAny_bind (wpAny_seqItems hTI rfl ?_)
  show wpAny _ _ (Builtin.SmallTypes.ownedTupleIsFree (.ref z) >>= _) _ _ _
  refine wpAny_bind (free_zip hz hf ?_ fun hnn h₁ T hz₁ hs₁ => ?_)
  · simp only [if_true]
    refine wpAny_bind (wpAny_rule ?_)
    refine wpAny_bind (wpAny_field hz rfl (x := .ref TO) rfl ?_)
    refine wpAny_bind (wpAny_setField_rec hz (by simp) fun h₁ hz₁ hs₁ => ?_)
    replace hz₁ : ZipA h₁ z TI TO .ellipsis fl := hz₁
    refine wpAny_bind ?_
    simp only [List.zipIdx_cons, List.zipIdx_nil, List.forIn_cons, List.forIn_nil]
    refine wpAny_bind (wpAny_bind (wpAny_onRaise ?_))
    show wpAny _ _ (Builtin.SmallTypes.nextOf (.ref i1) >>= _) _ _ _
    cases hx : xs[n1]? with
    | none =>
      refine wpAny_bind (nextK_end hh (h1.extBut hs₁.extBut D.i1z) (hl1.extBut hs₁.extBut D.l1z) hx fun h₂ e hs₂ he => ?_)
      obtain ⟨oe, hoe, hce⟩ := he
      have hz₂ : ZipA h₂ z TI TO .ellipsis fl := hs₂ _ _ D.i1z.symm hz₁
      have hez : e ≠ z := fun x => by subst x; rw [hz₂] at hoe; cases hoe; simp at hce
      refine wpAny_setField_rec hz₂ (by simp) fun h₃ _ hs₃ => hE h₃ e (fun c o c1 _ c3 _ x => hs₃.extBut _ _ c1 (hs₂ _ _ c3 (hs₁.extBut _ _ c1 x))) ⟨oe, hs₃.extBut _ _ hez hoe, hce⟩
    | some x =>
      have hy : ys[n2]? = none := by rcases hend with h | h; rw [hx] at h; cases h; exact h
      refine wpAny_bind (nextK_item (h1.extBut hs₁.extBut D.i1z) (hl1.extBut hs₁.extBut D.l1z) hx fun h₂ h1₂ hs₂ => wpAny_pure ?_)
      have hTO₂ : IsPair h₂ TO a b := hs₂.extBut _ _ D.TOi1 (hs₁.extBut _ _ D.TOz hTO)
      refine wpAny_bind (wpAny_seqItems hTO₂ rfl ?_)
      refine wpAny_bind (wpAny_updateSeq_pair hTO₂ fun h₃ hTO₃ hs₃ => ?_)
      refine wpAny_bind (wpAny_letGo (wpAny_pure ?_))
      refine wpAny_bind (wpAny_bind (wpAny_onRaise ?_))
      show wpAny _ _ (Builtin.SmallTypes.nextOf (.ref i2) >>= _) _ _ _
      refine wpAny_bind (nextK_end hh (((h2.extBut hs₁.extBut D.i2z).extBut hs₂.extBut D.i12.symm).extBut hs₃.extBut D.TOi2.symm)
        (((hl2.extBut hs₁.extBut D.l2z).extBut hs₂.extBut D.l2i1).extBut hs₃.extBut D.l2TO) hy fun h₄ e hs₄ he => ?_)
      obtain ⟨oe, hoe, hce⟩ := he
      have hz₄ : ZipA h₄ z TI TO .ellipsis fl := hs₄ _ _ D.i2z.symm (hs₃.extBut _ _ D.TOz.symm (hs₂.extBut _ _ D.i1z.symm hz₁))
      have hez : e ≠ z := fun x => by subst x; rw [hz₄] at hoe; cases hoe; simp at hce
      refine wpAny_setField_rec hz₄ (by simp) fun h₅ _ hs₅ => hE h₅ e (fun c o c1 c2 c3 c4 x => hs₅.extBut _ _ c1 (hs₄ _ _ c4 (hs₃.extBut _ _ c2 (hs₂.extBut _ _ c3 (hs₁.extBut _ _ c1 x))))) ⟨oe, hs₅.extBut _ _ hez hoe, hce⟩
  · simp only [Bool.false_eq_true, if_false]
    refine wpAny_bind ?_
    rw [← Array.forIn_toList]
    simp only [List.forIn_cons, List.forIn_nil]
    refine wpAny_bind (wpAny_bind (wpAny_holding ?_))
    show wpAny _ _ (Builtin.SmallTypes.nextOf (.ref i1) >>= _) _ _ _
    cases hx : xs[n1]? with
    | none =>
      refine wpAny_bind (nextK_end (s := { s with heap := h₁ }) hh (h1.extBut hs₁.extBut D.i1z) (hl1.extBut hs₁.extBut D.l1z) hx fun h₂ e hs₂ he => ?_)
      exact hE h₂ e (fun c o c1 _ c2 _ x => hs₂ _ _ c2 (hs₁.extBut _ _ c1 x)) he
    | some x =>
      have hy : ys[n2]? = none := by rcases hend with h | h; rw [hx] at h; cases h; exact h
      refine wpAny_bind (nextK_item (s := { s with heap := h₁ }) (h1.extBut hs₁.extBut D.i1z) (hl1.extBut hs₁.extBut D.l1z) hx fun h₂ h1₂ hs₂ => wpAny_pure ?_)
      refine wpAny_pure ?_
      refine wpAny_bind (wpAny_bind (wpAny_holding ?_))
      show wpAny _ _ (Builtin.SmallTypes.nextOf (.ref i2) >>= _) _ _ _
      refine wpAny_bind (nextK_end (s := { s with heap := h₂ }) hh ((h2.extBut hs₁.extBut D.i2z).extBut hs₂.extBut D.i12.symm) ((hl2.extBut hs₁.extBut D.l2z).extBut hs₂.extBut D.l2i1) hy fun h₃ e hs₃ he => ?_)
      exact hE h₃ e (fun c o c1 _ c2 c3 x => hs₃ _ _ c3 (hs₂.extBut _ _ c2 (hs₁.extBut _ _ c1 x))) he
theorem nextZ_item {k k' : Bool} {z TI TO i1 i2 l1 l2 : Addr} {n1 n2 : Nat} {xs ys : Array Value} {x y a b f0 : Value} {fl : Bool} {Q : Value → Shared → Prop} (D : ZipApart z TI TO i1 i2 l1 l2)
    (hz : ZipA s.heap z TI TO f0 fl) (hf : F0 f0) (hTI : IsPair s.heap TI (.ref i1) (.ref i2)) (hTO : IsPair s.heap TO a b)
    (h1 : ItK k s.heap i1 l1 n1) (h2 : ItK k' s.heap i2 l2 n2) (hl1 : SqK k s.heap l1 xs) (hl2 : SqK k' s.heap l2 ys) (hx : xs[n1]? = some x) (hy : ys[n2]? = some y)
    (hQ : ∀ h' f0' fl' a' b', ZipA h' z TI TO f0' fl' → F0 f0' → IsPair h' TO a' b' → ItK k h' i1 l1 (n1 + 1) → ItK k' h' i2 l2 (n2 + 1) → IsPair h' s.heap.objs.size x y → h'.objs.size = s.heap.objs.size + 1 →
      (∀ c o, c ≠ z → c ≠ TO → c ≠ i1 → c ≠ i2 → s.heap.get? c = some o → h'.get? c = some o) → Q (.ref s.heap.objs.size) { s with heap := h' }) :
    wpAny (model prog w) A (Builtin.SmallTypes.nextOf (.ref z)) Q E s := by
  have hT : s.TypeIs (.ref z) "zip" := ⟨_, hz, rfl⟩
  unfold Builtin.SmallTypes.nextOf
  exact wpAny_bind (wpAny_callSpecial?_slot (name := Str.ofString "__next__") hT F.slot_zip_next
    (wpAny_call_entry F.slot_zip_next hT F.entry_zip_next
      (zipK_item D hz hf hTI hTO h1 h2 hl1 hl2 hx hy fun h' f0' fl' a' b' a1 a2 _ a4 a5 a6 a7 a8 a9 => wpAny_pure (hQ h' f0' fl' a' b' a1 a2 a4 a5 a6 a7 a8 a9)) (F.args_zip_next_1 _)))
theorem nextZ_end {k k' : Bool} {z TI TO i1 i2 l1 l2 : Addr} {n1 n2 : Nat} {xs ys : Array Value} {a b f0 : Value} {fl : Bool} {Q : Value → Shared → Prop} (hh : A.handled = none) (D : ZipApart z TI TO i1 i2 l1 l2)
    (hz : ZipA s.heap z TI TO f0 fl) (hf : F0 f0) (hTI : IsPair s.heap TI (.ref i1) (.ref i2)) (hTO : IsPair s.heap TO a b)
    (h1 : ItK k s.heap i1 l1 n1) (h2 : ItK k' s.heap i2 l2 n2) (hl1 : SqK k s.heap l1 xs) (hl2 : SqK k' s.heap l2 ys) (hend : xs[n1]? = none ∨ ys[n2]? = none)
    (hE : ∀ h' e, (∀ c o, c ≠ z → c ≠ TO → c ≠ i1 → c ≠ i2 → s.heap.get? c = some o → h'.get? c = some o) → (∃ o, h'.get? e = some o ∧ o.cls = .type "StopIteration") → E (.ref e) { s with heap := h' }) :
    wpAny (model prog w) A (Builtin.SmallTypes.nextOf (.ref z)) Q E s := by
  have hT : s.TypeIs (.ref z) "zip" := ⟨_, hz, rfl⟩
  unfold Builtin.SmallTypes.nextOf
  exact wpAny_bind (wpAny_callSpecial?_slot (name := Str.ofString "__next__") hT F.slot_zip_next
    (wpAny_call_entry F.slot_zip_next hT F.entry_zip_next (zipK_end hh D hz hf hTI hTO h1 h2 hl1 hl2 hend hE) (F.args_zip_next_1 _)))
theorem pyNextZ_item {k k' : Bool} {z TI TO i1 i2 l1 l2 : Addr} {n1 n2 : Nat} {xs ys : Array Value} {x y a b : Value} {fl : Bool} {Q : Option Value → Shared → Prop} (D : ZipApart z TI TO i1 i2 l1 l2)
    (hz : ZipA s.heap z TI TO .none fl) (hTI : IsPair s.heap TI (.ref i1) (.ref i2)) (hTO : IsPair s.heap TO a b)
    (h1 : ItK k s.heap i1 l1 n1) (h2 : ItK k' s.heap i2 l2 n2) (hl1 : SqK k s.heap l1 xs) (hl2 : SqK k' s.heap l2 ys) (hx : xs[n1]? = some x) (hy : ys[n2]? = some y)
    (hQ : ∀ h' a' b', ZipA h' z TI TO (rawInt s.heap.objs.size) false → IsPair h' TO a' b' → ItK k h' i1 l1 (n1 + 1) → ItK k' h' i2 l2 (n2 + 1) → IsPair h' s.heap.objs.size x y → h'.objs.size = s.heap.objs.size + 1 →
      (∀ c o, c ≠ z → c ≠ TO → c ≠ i1 → c ≠ i2 → s.heap.get? c = some o → h'.get? c = some o) → Q (some (.ref s.heap.objs.size)) { s with heap := h' }) :
    wpAny (model prog w) A (pyNext (.ref z)) Q E s := by
  have hT : s.TypeIs (.ref z) "zip" := ⟨_, hz, rfl⟩
  unfold pyNext
  refine wpAny_bind (wpAny_attempt (wpAny_callSpecial?_slot (name := Str.ofString "__next__") hT F.slot_zip_next
    (wpAny_call_entry F.slot_zip_next hT F.entry_zip_next
      (zipK_item D hz (.inl rfl) hTI hTO h1 h2 hl1 hl2 hx hy fun h' f0' fl' a' b' a1 a2 a3 a4 a5 a6 a7 a8 a9 => wpAny_pure ?_) (F.args_zip_next_1 _))))
  rcases a3 with ⟨rfl, rfl⟩ | a3
  · exact hQ h' a' b' a1 a4 a5 a6 a7 a8 a9
  · exact (a3 rfl).elim
theorem pyNextZ_end {k k' : Bool} {z TI TO i1 i2 l1 l2 : Addr} {n1 n2 : Nat} {xs ys : Array Value} {a b f0 : Value} {fl : Bool} {Q : Option Value → Shared → Prop} (hh : A.handled = none) (D : ZipApart z TI TO i1 i2 l1 l2)
    (hz : ZipA s.heap z TI TO f0 fl) (hf : F0 f0) (hTI : IsPair s.heap TI (.ref i1) (.ref i2)) (hTO : IsPair s.heap TO a b)
    (h1 : ItK k s.heap i1 l1 n1) (h2 : ItK k' s.heap i2 l2 n2) (hl1 : SqK k s.heap l1 xs) (hl2 : SqK k' s.heap l2 ys) (hend : xs[n1]? = none ∨ ys[n2]? = none)
    (hQ : ∀ h', (∀ c o, c ≠ z → c ≠ TO → c ≠ i1 → c ≠ i2 → s.heap.get? c = some o → h'.get? c = some o) → Q none { s with heap := h' }) : wpAny (model prog w) A (pyNext (.ref z)) Q E s := by
  have hT : s.TypeIs (.ref z) "zip" := ⟨_, hz, rfl⟩
  unfold pyNext
  refine wpAny_bind (wpAny_attempt (wpAny_callSpecial?_slot (name := Str.ofString "__next__") hT F.slot_zip_next
    (wpAny_call_entry F.slot_zip_next hT F.entry_zip_next (zipK_end hh D hz hf hTI hTO h1 h2 hl1 hl2 hend fun h' e hk he => ?_) (F.args_zip_next_1 _))))
  obtain ⟨o, ho, hc⟩ := he
  refine wpAny_bind (wpAny_isInstance (T := "StopIteration") (b := true) ⟨o, ho, hc⟩ isSubtype_stop ?_)
  exact wpAny_pure (hQ _ hk)
theorem letGoZ {elts : List Expr} {x1 : Nat} {pos : Pos} {z TI TO T : Addr} {fl : Bool} {Q : Unit → Shared → Prop} (hz : ZipA s.heap z TI TO (rawInt T) fl)
    (hQ : ∀ h', ZipA h' z TI TO .none fl → Heap.SameBut z s.heap h' → Q () { s with heap := h' }) :
    wpAny (model prog w) A (letOwnedTupleGo (.Tuple elts x1 pos) (.ref z) (.ref T)) Q E s := by
  unfold letOwnedTupleGo
  refine wpAny_bind (wpAny_load hz ?_)
  show wpAny _ _ (if (["enumerate", "zip", "dict_itemiterator", "dict_reverseitemiterator", "odict_iterator", "itertools.zip_longest", "itertools.pairwise"].contains "zip" &&
      (#[rawInt T, .bool fl, .bool false, .ref TI, .ref TO] : Array Value)[0]? == some (rawInt T)) = true then _ else _) Q E s
  rw [if_pos (by simp)]
  refine wpAny_bind (wpAny_rule ?_)
  show wpAny _ _ (setField (.ref z) 0 .none) Q E s
  exact wpAny_setField_rec hz (by simp) fun h' hz' hs' => hQ h' hz' hs'
/-- enumerate's next, whatever it draws from -/
theorem enumA_item {e it : Addr} {i : Nat} {old : Value} {P : Value → Heap → Nat → Prop} {Q : Value → Shared → Prop} (he : IsEnum s.heap e it i old)
    (hin : ∀ (Q' : Value → Shared → Prop) (E' : Value → Shared → Prop) (A' : Around), A'.handled = A.handled → (∀ x h₁ tk, P x h₁ tk → Q' x { s with heap := h₁, toks := tk }) → wpAny (model prog w) A' (Builtin.SmallTypes.nextOf (.ref it)) Q' E' s)
    (hPe : ∀ x h₁ tk, P x h₁ tk → h₁.get? e = s.heap.get? e)
    (hQ : ∀ x h₁ tk h', P x h₁ tk → IsEnumOut h' e it ((i : Int) + 1) x h₁.objs.size → h'.get? h₁.objs.size = some { cls := .type "tuple", data := .seq #[.int i tk, x] } → h'.objs.size = h₁.objs.size + 1 →
      (∀ b o, b ≠ e → h₁.get? b = some o → h'.get? b = some o) → Q (.ref h₁.objs.size) { s with heap := h', toks := tk + 1 }) :
    wpAny (model prog w) A (Builtin.«enumerate.__next__» ⟨[.ref e], []⟩) (fun fin s' => ∃ v, fin = .done (.ret v) ∧ Q v s') E s := by
  obtain ⟨hp, g, d, tk₀, os⟩ := s
  show wpAny _ _ (field (.ref e) 2 >>= _) _ _ _
  refine wpAny_bind (wpAny_field he rfl (x := .ref it) rfl ?_)
  refine wpAny_bind (hin _ _ _ rfl fun x h₁ tk hP => ?_)
  have he₁ : IsEnum h₁ e it i old := (hPe x h₁ tk hP).trans he
  show wpAny _ _ (field (.ref e) 3 >>= _) _ _ ⟨h₁, g, d, tk, os⟩
  refine wpAny_bind (wpAny_field he₁ rfl (x := rawInt i) rfl ?_)
  show wpAny _ _ (field (.ref e) 4 >>= _) _ _ ⟨h₁, g, d, tk, os⟩
  refine wpAny_bind (wpAny_field he₁ rfl (x := .none) rfl ?_)
  show wpAny _ _ (mkInt i >>= _) _ _ ⟨h₁, g, d, tk, os⟩
  refine wpAny_bind (wpAny_mkInt ?_)
  show wpAny _ _ (setField (.ref e) 3 (rawInt ((i : Int) + 1)) >>= _) _ _ ⟨h₁, g, d, tk + 1, os⟩
  refine wpAny_bind (wpAny_setField_rec he₁ (by simp) fun h₂ he₂ hs₂ => ?_)
  replace hs₂ : Heap.SameBut e h₁ h₂ := hs₂
  replace he₂ : IsEnum h₂ e it ((i : Int) + 1) old := he₂
  show wpAny _ _ (setField (.ref e) 4 .none >>= _) _ _ ⟨h₂, g, d, tk + 1, os⟩
  refine wpAny_bind (wpAny_setField_rec he₂ (by simp) fun h₃ he₃ hs₃ => ?_)
  replace hs₃ : Heap.SameBut e h₂ h₃ := hs₃
  replace he₃ : IsEnum h₃ e it ((i : Int) + 1) old := he₃
  show wpAny _ _ (newTuple [.int i tk, x] >>= _) _ _ ⟨h₃, g, d, tk + 1, os⟩
  refine wpAny_bind (wpAny_newTuple ?_)
  have he₄ : IsEnum (h₃.push { cls := .type "tuple", data := .seq #[.int i tk, x] }) e it ((i : Int) + 1) old := Heap.get?_push_of_some _ he₃
  generalize hh₄ : h₃.push { cls := .type "tuple", data := .seq #[.int i tk, x] } = h₄ at he₄
  have hsz : h₃.objs.size = h₁.objs.size := by rw [hs₃.1, hs₂.1]
  have hel : e < h₁.objs.size := Heap.lt_size he₁
  have ht₄ : h₄.get? h₁.objs.size = some { cls := .type "tuple", data := .seq #[.int i tk, x] } := by rw [← hh₄, ← hsz]; exact Heap.get?_push_size _ rfl
  have hz₄ : h₄.objs.size = h₁.objs.size + 1 := by rw [← hh₄, Heap.size_push, hsz]
  have hk₄ : ∀ b o, b ≠ e → h₁.get? b = some o → h₄.get? b = some o := fun b o hbe hb => by
    rw [← hh₄]; exact Heap.get?_push_of_some _ (hs₃.extBut b o hbe (hs₂.extBut b o hbe hb))
  show wpAny _ _ (Builtin.SmallTypes.ownedTupleIsFree (.ref e) >>= _) _ _ ⟨h₄, g, d, tk + 1, os⟩
  rw [hsz]
  clear hh₄ he₃ hs₃ he₂ hs₂ hsz h₃ h₂
  refine wpAny_bind ?_
  · unfold Builtin.SmallTypes.ownedTupleIsFree
    refine wpAny_bind (wpAny_field he₄ rfl (x := .none) rfl (wpAny_pure ?_))
    simp only [if_true]
    refine wpAny_bind (wpAny_rule ?_)
    refine wpAny_bind (wpAny_field he₄ rfl (x := old) rfl ?_)
    refine wpAny_bind (wpAny_setField_rec he₄ (by simp) fun h₅ he₅ hs₅ => ?_)
    replace hs₅ : Heap.SameBut e h₄ h₅ := hs₅
    replace he₅ : IsEnum h₅ e it ((i : Int) + 1) x := he₅
    show wpAny _ _ (Builtin.SmallTypes.ownedTupleHandOut (.ref e) (.ref h₁.objs.size) >>= _) _ _ ⟨h₅, g, d, tk + 1, os⟩
    refine wpAny_bind ?_
    · unfold Builtin.SmallTypes.ownedTupleHandOut
      refine wpAny_bind (wpAny_setField_rec he₅ (by simp) fun h₆ he₆ hs₆ => ?_)
      replace hs₆ : Heap.SameBut e h₅ h₆ := hs₆
      replace he₆ : IsEnumOut h₆ e it ((i : Int) + 1) x h₁.objs.size := he₆
      refine wpAny_setField_rec he₆ (by simp) fun h₇ he₇ hs₇ => ?_
      replace hs₇ : Heap.SameBut e h₆ h₇ := hs₇
      replace he₇ : IsEnumOut h₇ e it ((i : Int) + 1) x h₁.objs.size := he₇
      refine wpAny_bind (wpAny_letGo (wpAny_pure ⟨_, rfl, hQ x h₁ tk h₇ hP he₇ ?_ ?_ ?_⟩))
      · exact hs₇.extBut _ _ (Nat.ne_of_gt hel) (hs₆.extBut _ _ (Nat.ne_of_gt hel) (hs₅.extBut _ _ (Nat.ne_of_gt hel) ht₄))
      · rw [hs₇.1, hs₆.1, hs₅.1, hz₄]
      · exact fun b o hbe hb => hs₇.extBut b o hbe (hs₆.extBut b o hbe (hs₅.extBut b o hbe (hk₄ b o hbe hb)))
theorem pyNextE_item {e it : Addr} {i : Nat} {old : Value} {P : Value → Heap → Nat → Prop} {Q : Option Value → Shared → Prop} (he : IsEnum s.heap e it i old)
    (hin : ∀ (Q' : Value → Shared → Prop) (E' : Value → Shared → Prop) (A' : Around), (A.handled = none → A'.handled = none) → (∀ x h₁ tk, P x h₁ tk → Q' x { s with heap := h₁, toks := tk }) → wpAny (model prog w) A' (Builtin.SmallTypes.nextOf (.ref it)) Q' E' s)
    (hPe : ∀ x h₁ tk, P x h₁ tk → h₁.get? e = s.heap.get? e)
    (hQ : ∀ x h₁ tk h', P x h₁ tk → IsEnumOut h' e it ((i : Int) + 1) x h₁.objs.size → h'.get? h₁.objs.size = some { cls := .type "tuple", data := .seq #[.int i tk, x] } → h'.objs.size = h₁.objs.size + 1 →
      (∀ b o, b ≠ e → h₁.get? b = some o → h'.get? b = some o) → Q (some (.ref h₁.objs.size)) { s with heap := h', toks := tk + 1 }) : wpAny (model prog w) A (pyNext (.ref e)) Q E s := by
  have hT : s.TypeIs (.ref e) "enumerate" := ⟨_, he, rfl⟩
  unfold pyNext
  exact wpAny_bind (wpAny_attempt (wpAny_callSpecial?_slot (name := Str.ofString "__next__") hT F.slot_enumerate_next
    (wpAny_call_entry F.slot_enumerate_next hT F.entry_enumerate_next
      (enumA_item he (fun Q' E' A' ha k => hin Q' E' A' (fun z => ha.trans z) k) hPe fun x h₁ tk h' a b c d f => wpAny_pure (hQ x h₁ tk h' a b c d f)) (F.args_enumerate_next_1 _))))
theorem pyNextE_end {e it : Addr} {i : Nat} {old : Value} {R : Heap → Prop} {Q : Option Value → Shared → Prop} (he : IsEnum s.heap e it i old)
    (hin : ∀ (Q' : Value → Shared → Prop) (E' : Value → Shared → Prop) (A' : Around), (A.handled = none → A'.handled = none) → (∀ h' x, R h' → (∃ o, h'.get? x = some o ∧ o.cls = .type "StopIteration") → E' (.ref x) { s with heap := h' }) → wpAny (model prog w) A' (Builtin.SmallTypes.nextOf (.ref it)) Q' E' s)
    (hQ : ∀ h', R h' → Q none { s with heap := h' }) : wpAny (model prog w) A (pyNext (.ref e)) Q E s := by
  have hT : s.TypeIs (.ref e) "enumerate" := ⟨_, he, rfl⟩
  unfold pyNext
  refine wpAny_bind (wpAny_attempt (wpAny_callSpecial?_slot (name := Str.ofString "__next__") hT F.slot_enumerate_next
    (wpAny_call_entry F.slot_enumerate_next hT F.entry_enumerate_next ?_ (F.args_enumerate_next_1 _))))
  show wpAny _ _ (field (.ref e) 2 >>= _) _ _ _
  refine wpAny_bind (wpAny_field he rfl (x := .ref it) rfl ?_)
  refine wpAny_bind (hin _ _ _ (fun z => z) fun h' x he' hx' => ?_)
  obtain ⟨o, ho, hc⟩ := hx'
  refine wpAny_bind (wpAny_isInstance (T := "StopIteration") (b := true) ⟨o, ho, hc⟩ isSubtype_stop ?_)
  exact wpAny_pure (hQ _ he')
end

theorem seqK {X : Cx} {pins : List (Addr × Obj)} {σ : L2.St} {H : Hp} {s : Shared} (I : Inv X pins σ H s) {k : Bool} {a : Addr} {xs : List V} (h : SqV k X.K H a xs) : ∃ its : List Value, Vals xs its ∧ SqK k s.heap a its.toArray := by
  cases k
  · obtain ⟨its, rv, p, _⟩ := I.list h
    exact ⟨its, rv, p.isList⟩
  · obtain ⟨its, rv, p, _⟩ := I.tuple h
    exact ⟨its, rv, p⟩
theorem seqK_inj {X : Cx} {pins : List (Addr × Obj)} {σ : L2.St} {H : Hp} {s : Shared} (I : Inv X pins σ H s) {k : Bool} {a : Addr} {xs ys : List V} (h : SqV k X.K H a xs) (h' : SqV k X.K H a ys) : xs = ys := by
  cases k
  · exact I.list_inj h h'
  · exact I.tuple_inj h h'
/-- our own records have turned, and two new things stand -/
theorem turned2 {X : Cx} {pins : List (Addr × Obj)} {σ : L2.St} {H : Hp} {s : Shared} {h2 : Heap} {tk : Nat} {own : List Addr} {o1 o2 : HO} (I : Inv X pins σ H s) (kp : ∀ b o, b ∉ own → s.heap.get? b = some o → h2.get? b = some o) (fo : ∀ b ∈ own, FpOk X pins H b)
    (n1 : ObjOk X.prog X.w (upd H s.heap.objs.size o1) h2 s.heap.objs.size o1) (n2 : ObjOk X.prog X.w (upd (upd H s.heap.objs.size o1) (s.heap.objs.size + 1) o2) h2 (s.heap.objs.size + 1) o2) :
    Inv X pins σ (upd (upd H s.heap.objs.size o1) (s.heap.objs.size + 1) o2) { s with heap := h2, toks := tk } := by
  have e1 : H s.heap.objs.size = none := I.hok.fresh (Nat.le_refl _)
  have e2 : upd H s.heap.objs.size o1 (s.heap.objs.size + 1) = none := by
    rw [upd_ne (Nat.succ_ne_self _)]
    exact I.hok.fresh (Nat.le_succ _)
  have up : ∀ {b : Addr} {u : HO}, H b = some u → upd (upd H s.heap.objs.size o1) (s.heap.objs.size + 1) o2 b = some u := fun {b u} e => by
    have e' : upd H s.heap.objs.size o1 b = some u := by rw [upd_ne (ne_of_none e e1)]; exact e
    rw [upd_ne (ne_of_none e' e2)]
    exact e'
  have up1 : ∀ {b : Addr} {u : HO}, upd H s.heap.objs.size o1 b = some u → upd (upd H s.heap.objs.size o1) (s.heap.objs.size + 1) o2 b = some u := fun {b u} e => by
    rw [upd_ne (ne_of_none e e2)]
    exact e
  have nown : ∀ b u, H b = some u → b ∉ own := fun b u e z => by
    have q := (fo b z).1
    rw [q] at e
    cases e
  refine I.step (g' := s.gens) (d' := s.drawn) (ch := own) (fun b hb => ⟨(fo b hb).2.2.2.1, (fo b hb).2.1, (fo b hb).2.2.2.2.1, (fo b hb).2.2.2.2.2⟩) (fun b o _ _ hc e _ => kp b o hc e) (fun b o _ _ hc e _ => ⟨o.slots, kp b o hc e⟩)
    (fun b o _ e n => ?_) (fun b o hc e => ⟨o, kp b o hc e⟩) (fun b xs e => up e) (fun b o u e => up e) (fun b ps e => ⟨#[], ?_⟩) (fun m hm => ?_) (fun b u e => ?_) I.bare
  · have lt := Heap.lt_size e
    rw [upd_ne (Nat.ne_of_lt (Nat.lt_succ_of_lt lt)), upd_ne (Nat.ne_of_lt lt)]
    exact n
  · rw [up e]
    simp
  · obtain ⟨o, es, ep, ho, r⟩ := hm
    exact ⟨o, es, ep, kp _ o (fun z => (fo _ z).2.1 rfl) ho, r⟩
  · by_cases hb : b = s.heap.objs.size + 1
    · subst hb
      rw [upd_same] at e
      cases e
      exact n2
    · rw [upd_ne hb] at e
      by_cases hb1 : b = s.heap.objs.size
      · subst hb1
        rw [upd_same] at e
        cases e
        exact n1.stay (fun c v _ q => q) (fun c q => up1 q) fun c xs q => up1 q
      · rw [upd_ne hb1] at e
        refine (I.hok b u e).stay (fun c v hc q => kp c v ?_ q) (fun c q => up q) fun c xs q => up q
        rcases hc with z | z
        · rw [z]; exact nown b u e
        · exact nown c _ z
/-- the pairs of zip -/
def JZ (K : PySem.W.Frag) (k k' : Bool) (a b : Addr) : L2.It :=
  ⟨fun i H => ∃ (xs ys : List V) (x y : V), SqV k K H a xs ∧ SqV k' K H b ys ∧ xs[i]? = some x ∧ ys[i]? = some y,
    fun i H v H' => ∃ T x y, v = .ref T ∧ H T = none ∧ H' = upd H T (.tup [x, y]) ∧ (∀ xs, SqV k K H a xs → xs[i]? = some x) ∧ ∀ ys, SqV k' K H b ys → ys[i]? = some y,
    fun i H => ∃ xs ys : List V, SqV k K H a xs ∧ SqV k' K H b ys ∧ (xs.length ≤ i ∨ ys.length ≤ i)⟩
/-- .. of enumerate -/
def JE (K : PySem.W.Frag) (k : Bool) (a : Addr) : L2.It :=
  ⟨fun i H => ∃ (xs : List V) (x : V), SqV k K H a xs ∧ xs[i]? = some x, fun i H v H' => ∃ T x, v = .ref T ∧ H T = none ∧ H' = upd H T (.tup [.int (i : Nat), x]) ∧ ∀ xs, SqV k K H a xs → xs[i]? = some x, fun i H => ∃ xs : List V, SqV k K H a xs ∧ xs.length ≤ i⟩
/-- .. of enumerate over zip -/
def JEZ (K : PySem.W.Frag) (k k' : Bool) (a b : Addr) : L2.It :=
  ⟨fun i H => ∃ (xs ys : List V) (x y : V), SqV k K H a xs ∧ SqV k' K H b ys ∧ xs[i]? = some x ∧ ys[i]? = some y,
    fun i H v H' => ∃ T U x y, v = .ref T ∧ H U = none ∧ upd H U (.tup [x, y]) T = none ∧ H' = upd (upd H U (.tup [x, y])) T (.tup [.int (i : Nat), .ref U]) ∧ (∀ xs, SqV k K H a xs → xs[i]? = some x) ∧ ∀ ys, SqV k' K H b ys → ys[i]? = some y,
    fun i H => ∃ xs ys : List V, SqV k K H a xs ∧ SqV k' K H b ys ∧ (xs.length ≤ i ∨ ys.length ≤ i)⟩
theorem turn_zipK {P : Program} {w : World} {K : PySem.W.Frag} {elts : List Expr} {kk : Nat} {tpos : Pos} {k k' : Bool} {a b z TI TO i1 i2 : Addr} (D : ZipApart z TI TO i1 i2 a b) :
    Turn P w K (.Tuple elts kk tpos) (JZ K k k' a b) [z, TI, TO, i1, i2] z (fun i h => (∃ fl, ZipA h z TI TO .none fl) ∧ IsPair h TI (.ref i1) (.ref i2) ∧ (∃ x y, IsPair h TO x y) ∧ ItK k h i1 a i ∧ ItK k' h i2 b i) where
  mem := by simp
  obj := fun i h st c hc => by
    obtain ⟨⟨fl, hz⟩, hTI, ⟨x, y, hTO⟩, h1, h2⟩ := st
    have e' : c = z ∨ c = TI ∨ c = TO ∨ c = i1 ∨ c = i2 := by simpa using hc
    rcases e' with q | q | q | q | q
    · rw [q]; exact ⟨_, hz, fun v q => nomatch q⟩
    · rw [q]; exact ⟨_, hTI, fun v q => nomatch q⟩
    · rw [q]; exact ⟨_, hTO, fun v q => nomatch q⟩
    · rw [q]; exact h1.obj
    · rw [q]; exact h2.obj
  keep := fun i h h' st kp => by
    obtain ⟨⟨fl, hz⟩, hTI, ⟨x, y, hTO⟩, h1, h2⟩ := st
    exact ⟨⟨fl, kp z (by simp) _ hz⟩, kp TI (by simp) _ hTI, ⟨x, y, kp TO (by simp) _ hTO⟩, h1.at fun o q => kp i1 (by simp) o q, h2.at fun o q => kp i2 (by simp) o q⟩
  item := by
    intro X hP hw hK hc i pins s σ H E I hf st hg
    subst hP hw hK
    obtain ⟨⟨fl, hz⟩, hTI, ⟨x0, y0, hTO⟩, h1, h2⟩ := st
    obtain ⟨xs, ys, x, y, hqx, hqy, hx, hy⟩ := hg
    obtain ⟨its, rv, p⟩ := seqK I hqx
    obtain ⟨its2, rv2, p2⟩ := seqK I hqy
    obtain ⟨u, hu, ru⟩ := rv.get hx
    obtain ⟨u2, hu2, ru2⟩ := rv2.get hy
    have hzl : z < s.heap.objs.size := Heap.lt_size hz
    refine pyNextZ_item D hz hTI hTO h1 h2 p p2 (x := u) (y := u2) (by simpa using hu) (by simpa using hu2) fun h' a' b' z' TO' h1' h2' hT hsz hk => ?_
    refine ⟨_, rfl, letGoZ (s := { s with heap := h' }) z' fun h'' z'' sb => ?_⟩
    have hT2 : h''.get? s.heap.objs.size = some { cls := .type "tuple", data := .seq #[u, u2] } := (sb.2 _ (Nat.ne_of_gt hzl)).trans hT
    have new : ObjOk X.prog X.w (upd H s.heap.objs.size (.tup [x, y])) h'' s.heap.objs.size (.tup [x, y]) :=
      ⟨by show 2 ≤ sizeLine; decide, [u, u2], .cons ru (.cons ru2 .nil), ⟨_, hT2, rfl, _, rfl⟩⟩
    have I1 : Inv X pins σ (upd H s.heap.objs.size (.tup [x, y])) { s with heap := h'' } :=
      I.turnedNew (t' := s.toks) (ch := [z, TI, TO, i1, i2]) (fun c o hb q => (sb.2 c (fun q' => hb (by simp [q']))).trans (hk c o (fun q' => hb (by simp [q'])) (fun q' => hb (by simp [q'])) (fun q' => hb (by simp [q'])) (fun q' => hb (by simp [q'])) q)) hf (Nat.le_refl _) new
    refine ⟨.ref s.heap.objs.size, _, I1, rfl, ⟨_, x, y, rfl, I.hok.fresh (Nat.le_refl _), rfl, fun l hl => by rw [seqK_inj I hl hqx]; exact hx, fun l hl => by rw [seqK_inj I hl hqy]; exact hy⟩, ⟨⟨_, z''⟩, ?_, ⟨a', b', ?_⟩, ?_, ?_⟩, fun c hcm => ?_⟩
    · exact (sb.2 _ D.TIz).trans (hk _ _ D.TIz D.TITO D.TIi1 D.TIi2 hTI)
    · exact (sb.2 _ D.TOz).trans TO'
    · exact h1'.at fun o q => (sb.2 _ D.i1z).trans q
    · exact h2'.at fun o q => (sb.2 _ D.i2z).trans q
    · have hlt : c < s.heap.objs.size := by
        have e' : c = z ∨ c = TI ∨ c = TO ∨ c = i1 ∨ c = i2 := by simpa using hcm
        rcases e' with q | q | q | q | q
        · rw [q]; exact hzl
        · rw [q]; exact Heap.lt_size hTI
        · rw [q]; exact Heap.lt_size hTO
        · rw [q]; exact h1.lt
        · rw [q]; exact h2.lt
      rw [upd_ne (Nat.ne_of_lt hlt)]
      exact (hf c hcm).1
  done := by
    intro X hP hw hK hc i pins s σ H E I hf st hg
    subst hP hw hK
    obtain ⟨⟨fl, hz⟩, hTI, ⟨x0, y0, hTO⟩, h1, h2⟩ := st
    obtain ⟨xs, ys, hqx, hqy, hend⟩ := hg
    obtain ⟨its, rv, p⟩ := seqK I hqx
    obtain ⟨its2, rv2, p2⟩ := seqK I hqy
    have l1 := rv.length
    have l2 := rv2.length
    have he : its.toArray[i]? = none ∨ its2.toArray[i]? = none := by
      rcases hend with q | q
      · exact .inl (by simp; omega)
      · exact .inr (by simp; omega)
    exact pyNextZ_end (I.ok.hd hc) D hz (.inl rfl) hTI hTO h1 h2 p p2 he fun h' hk => ⟨rfl, I.turnedL (t' := s.toks) (ch := [z, TI, TO, i1, i2]) (fun c o hb q =>
      hk c o (fun q' => hb (by simp [q'])) (fun q' => hb (by simp [q'])) (fun q' => hb (by simp [q'])) (fun q' => hb (by simp [q'])) q) hf⟩
  self := fun A i s Q E st h => by
    obtain ⟨⟨fl, hz⟩, _⟩ := st
    have hT : s.TypeIs (.ref z) "zip" := ⟨_, hz, rfl⟩
    refine wpAny_pyIter_slot hT F.slot_zip_iter (wpAny_call_entry F.slot_zip_iter hT F.entry_zip_iter ?_ (F.args_zip_iter_1 _))
    show wpAny _ _ (ret (.ref z)) _ _ s
    exact wpAny_pure ⟨_, rfl, "zip", _, hT, F.slot_zip_next.lookup, h⟩
theorem turn_enK {P : Program} {w : World} {K : PySem.W.Frag} {elts : List Expr} {kk : Nat} {tpos : Pos} {k : Bool} (a e it : Addr) (hae : a ≠ it) :
    Turn P w K (.Tuple elts kk tpos) (JE K k a) [e, it] e (fun i h => (∃ old, IsEnum h e it ((i : Nat) : Int) old) ∧ ItK k h it a i ∧ e ≠ it) where
  mem := by simp
  obj := fun i h st b hb => by
    obtain ⟨⟨old, he⟩, hi, _⟩ := st
    have e' : b = e ∨ b = it := by simpa using hb
    rcases e' with z | z
    · rw [z]; exact ⟨_, he, fun v q => nomatch q⟩
    · rw [z]; exact hi.obj
  keep := fun i h h' st kp => let ⟨⟨old, he⟩, hi, hne⟩ := st; ⟨⟨old, kp e (by simp) _ he⟩, hi.at fun o q => kp it (by simp) o q, hne⟩
  item := by
    intro X hP hw hK hc i pins s σ H E I hf st hg
    subst hP hw hK
    obtain ⟨⟨old, he⟩, hit, hne⟩ := st
    obtain ⟨xs, x, hq, hx⟩ := hg
    obtain ⟨its, rv, p⟩ := seqK I hq
    obtain ⟨u, hu, ru⟩ := rv.get hx
    have hel : e < s.heap.objs.size := Heap.lt_size he
    refine pyNextE_item (P := fun v h₁ tk => v = u ∧ tk = s.toks ∧ ItK k h₁ it a (i + 1) ∧ Heap.SameBut it s.heap h₁) he (fun Q' E' A' _ k => nextK_item hit p (x := u) (by simpa using hu) fun h' h1 h2 => k u h' s.toks ⟨rfl, rfl, h1, h2⟩) (fun v h₁ tk hp => hp.2.2.2.2 e hne) fun v h₁ tk h' hp ho hT hsz hk => ?_
    obtain ⟨rfl, rfl, hit', hs₁⟩ := hp
    refine ⟨_, rfl, wpAny_letOwnedTupleGo_enum (s := { s with heap := h', toks := s.toks + 1 }) ho fun h'' he' sb => ?_⟩
    have esz : h₁.objs.size = s.heap.objs.size := hs₁.1
    rw [esz] at hT hsz ⊢
    have hT2 : h''.get? s.heap.objs.size = some { cls := .type "tuple", data := .seq #[.int i s.toks, v] } := (sb.2 _ (Nat.ne_of_gt hel)).trans hT
    have new : ObjOk X.prog X.w (upd H s.heap.objs.size (.tup [.int (i : Nat), x])) h'' s.heap.objs.size (.tup [.int (i : Nat), x]) :=
      ⟨by show 2 ≤ sizeLine; decide, [.int i s.toks, v], .cons ⟨_, rfl⟩ (.cons ru .nil), ⟨_, hT2, rfl, _, rfl⟩⟩
    have I1 : Inv X pins σ (upd H s.heap.objs.size (.tup [.int (i : Nat), x])) { s with heap := h'', toks := s.toks + 1 } :=
      I.turnedNew (ch := [e, it]) (fun b ob hb q => (sb.2 b (fun z => hb (by simp [z]))).trans (hk b ob (fun z => hb (by simp [z])) (hs₁.extBut b ob (fun z => hb (by simp [z])) q))) hf (Nat.le_refl _) new
    refine ⟨.ref s.heap.objs.size, _, I1, rfl, ⟨_, x, rfl, I.hok.fresh (Nat.le_refl _), rfl, fun ys hy => by rw [seqK_inj I hy hq]; exact hx⟩, ⟨⟨v, ?_⟩, hit'.at fun o q => (sb.2 it (Ne.symm hne)).trans (hk it o (Ne.symm hne) q), hne⟩, fun b hb => ?_⟩
    · have e1 : ((i + 1 : Nat) : Int) = (i : Int) + 1 := by omega
      rw [e1]; exact he'
    · have hb' : b < s.heap.objs.size := by
        have e' : b = e ∨ b = it := by simpa using hb
        rcases e' with z | z
        · rw [z]; exact hel
        · rw [z]; exact hit.lt
      rw [upd_ne (Nat.ne_of_lt hb')]
      exact (hf b hb).1
  done := by
    intro X hP hw hK hc i pins s σ H E I hf st hg
    subst hP hw hK
    obtain ⟨⟨old, he⟩, hit, hne⟩ := st
    obtain ⟨xs, hq, hx⟩ := hg
    obtain ⟨its, rv, p⟩ := seqK I hq
    obtain ⟨f0, f1, f2, f3, f4, f5⟩ := hf it (by simp)
    have hl := rv.length
    exact pyNextE_end (R := fun h' => Heap.ExtBut it s.heap h') he (fun Q' E' A' ha k => nextK_end (ha (I.ok.hd hc)) hit p (by simp; omega) k) fun h' eb => ⟨rfl, I.turned (t' := s.toks) (fun b o hb q => eb b o hb q) f0 f1 f3 f4 f5⟩
  self := fun A i s Q E st h => let ⟨⟨_, he⟩, _⟩ := st; wpAny_pyIter_enum he h
theorem turn_ez {P : Program} {w : World} {K : PySem.W.Frag} {elts : List Expr} {kk : Nat} {tpos : Pos} {k k' : Bool} {a b e z TI TO i1 i2 : Addr} (D : ZipApart z TI TO i1 i2 a b) (hn : e ≠ z ∧ e ≠ TI ∧ e ≠ TO ∧ e ≠ i1 ∧ e ≠ i2) :
    Turn P w K (.Tuple elts kk tpos) (JEZ K k k' a b) [e, z, TI, TO, i1, i2] e (fun i h => (∃ old, IsEnum h e z ((i : Nat) : Int) old) ∧ (∃ f0 fl, ZipA h z TI TO f0 fl ∧ F0 f0) ∧ IsPair h TI (.ref i1) (.ref i2) ∧ (∃ x y, IsPair h TO x y) ∧ ItK k h i1 a i ∧ ItK k' h i2 b i) where
  mem := by simp
  obj := fun i h st c hc => by
    obtain ⟨⟨old, he⟩, ⟨f0, fl, hz, _⟩, hTI, ⟨x, y, hTO⟩, h1, h2⟩ := st
    have e' : c = e ∨ c = z ∨ c = TI ∨ c = TO ∨ c = i1 ∨ c = i2 := by simpa using hc
    rcases e' with q | q | q | q | q | q
    · rw [q]; exact ⟨_, he, fun v q => nomatch q⟩
    · rw [q]; exact ⟨_, hz, fun v q => nomatch q⟩
    · rw [q]; exact ⟨_, hTI, fun v q => nomatch q⟩
    · rw [q]; exact ⟨_, hTO, fun v q => nomatch q⟩
    · rw [q]; exact h1.obj
    · rw [q]; exact h2.obj
  keep := fun i h h' st kp => by
    obtain ⟨⟨old, he⟩, ⟨f0, fl, hz, hf0⟩, hTI, ⟨x, y, hTO⟩, h1, h2⟩ := st
    exact ⟨⟨old, kp e (by simp) _ he⟩, ⟨f0, fl, kp z (by simp) _ hz, hf0⟩, kp TI (by simp) _ hTI, ⟨x, y, kp TO (by simp) _ hTO⟩, h1.at fun o q => kp i1 (by simp) o q, h2.at fun o q => kp i2 (by simp) o q⟩
  item := by
    intro X hP hw hK hc i pins s σ H E I hf st hg
    subst hP hw hK
    obtain ⟨⟨old, he⟩, ⟨f0, fl, hz, hf0⟩, hTI, ⟨x0, y0, hTO⟩, h1, h2⟩ := st
    obtain ⟨xs, ys, x, y, hqx, hqy, hx, hy⟩ := hg
    obtain ⟨its, rv, p⟩ := seqK I hqx
    obtain ⟨its2, rv2, p2⟩ := seqK I hqy
    obtain ⟨u, hu, ru⟩ := rv.get hx
    obtain ⟨u2, hu2, ru2⟩ := rv2.get hy
    have hel : e < s.heap.objs.size := Heap.lt_size he
    have hzl : z < s.heap.objs.size := Heap.lt_size hz
    obtain ⟨n1, n2, n3, n4, n5⟩ := hn
    refine pyNextE_item (P := fun v h₁ tk => v = .ref s.heap.objs.size ∧ tk = s.toks ∧ (∃ f0 fl, ZipA h₁ z TI TO f0 fl ∧ F0 f0) ∧ (∃ x y, IsPair h₁ TO x y) ∧ ItK k h₁ i1 a (i + 1) ∧ ItK k' h₁ i2 b (i + 1) ∧ IsPair h₁ s.heap.objs.size u u2 ∧ h₁.objs.size = s.heap.objs.size + 1 ∧ ∀ c o, c ≠ z → c ≠ TO → c ≠ i1 → c ≠ i2 → s.heap.get? c = some o → h₁.get? c = some o) he
      (fun Q' E' A' _ kq => nextZ_item D hz hf0 hTI hTO h1 h2 p p2 (x := u) (y := u2) (by simpa using hu) (by simpa using hu2) fun h' f0' fl' a' b' a1 a2 a3 a4 a5 a6 a7 a8 => kq _ h' s.toks ⟨rfl, rfl, ⟨f0', fl', a1, a2⟩, ⟨a', b', a3⟩, a4, a5, a6, a7, a8⟩)
      (fun v h₁ tk hp => (hp.2.2.2.2.2.2.2.2 e _ n1 n3 n4 n5 he).trans he.symm) fun v h₁ tk h' hp ho hT hsz hk => ?_
    obtain ⟨rfl, rfl, ⟨f0', fl', z', hf0'⟩, ⟨a', b', TO'⟩, h1', h2', hU, hsz1, hk1⟩ := hp
    rw [hsz1] at ho hT hsz
    refine ⟨_, rfl, wpAny_letOwnedTupleGo_enum (s := { s with heap := h', toks := s.toks + 1 }) (by rw [hsz1]; exact ho) fun h'' he' sb => ?_⟩
    rw [hsz1]
    have he1 : e ≠ s.heap.objs.size + 1 := Nat.ne_of_lt (Nat.lt_succ_of_lt hel)
    have hT2 : h''.get? (s.heap.objs.size + 1) = some { cls := .type "tuple", data := .seq #[.int i s.toks, .ref s.heap.objs.size] } := (sb.2 _ (Ne.symm he1)).trans hT
    have hU2 : h''.get? s.heap.objs.size = some { cls := .type "tuple", data := .seq #[u, u2] } := (sb.2 _ (Nat.ne_of_gt hel)).trans (hk _ _ (Nat.ne_of_gt hel) hU)
    have new : ObjOk X.prog X.w (upd H s.heap.objs.size (.tup [x, y])) h'' s.heap.objs.size (.tup [x, y]) :=
      ⟨by show 2 ≤ sizeLine; decide, [u, u2], .cons ru (.cons ru2 .nil), ⟨_, hU2, rfl, _, rfl⟩⟩
    have kept : ∀ c o, c ∉ [e, z, TI, TO, i1, i2] → s.heap.get? c = some o → h''.get? c = some o := fun c o hb q => (sb.2 c (fun q' => hb (by simp [q']))).trans (hk c o (fun q' => hb (by simp [q'])) (hk1 c o (fun q' => hb (by simp [q'])) (fun q' => hb (by simp [q'])) (fun q' => hb (by simp [q'])) (fun q' => hb (by simp [q'])) q))
    have hU1 : H s.heap.objs.size = none := I.hok.fresh (Nat.le_refl _)
    have hTn : upd H s.heap.objs.size (.tup [x, y]) (s.heap.objs.size + 1) = none := by
      rw [upd_ne (Nat.succ_ne_self _)]
      exact I.hok.fresh (Nat.le_succ _)
    have new2 : ObjOk X.prog X.w (upd (upd H s.heap.objs.size (.tup [x, y])) (s.heap.objs.size + 1) (.tup [.int (i : Nat), .ref s.heap.objs.size])) h'' (s.heap.objs.size + 1) (.tup [.int (i : Nat), .ref s.heap.objs.size]) :=
      ⟨by show 2 ≤ sizeLine; decide, [.int i s.toks, .ref s.heap.objs.size], .cons ⟨_, rfl⟩ (.cons rfl .nil), ⟨_, hT2, rfl, _, rfl⟩⟩
    have I2 : Inv X pins σ (upd (upd H s.heap.objs.size (.tup [x, y])) (s.heap.objs.size + 1) (.tup [.int (i : Nat), .ref s.heap.objs.size])) { s with heap := h'', toks := s.toks + 1 } :=
      turned2 I kept hf new new2
    refine ⟨.ref (s.heap.objs.size + 1), _, I2, rfl, ⟨_, _, x, y, rfl, hU1, hTn, rfl, fun l hl => by rw [seqK_inj I hl hqx]; exact hx, fun l hl => by rw [seqK_inj I hl hqy]; exact hy⟩, ⟨⟨.ref s.heap.objs.size, ?_⟩, ⟨f0', fl', ?_, hf0'⟩, ?_, ⟨a', b', ?_⟩, ?_, ?_⟩, fun c hcm => ?_⟩
    · have e1 : ((i + 1 : Nat) : Int) = (i : Int) + 1 := by omega
      rw [e1]; exact he'
    · exact (sb.2 _ (Ne.symm n1)).trans (hk _ _ (Ne.symm n1) z')
    · exact (sb.2 _ (Ne.symm n2)).trans (hk _ _ (Ne.symm n2) (hk1 _ _ D.TIz D.TITO D.TIi1 D.TIi2 hTI))
    · exact (sb.2 _ (Ne.symm n3)).trans (hk _ _ (Ne.symm n3) TO')
    · exact h1'.at fun o q => (sb.2 _ (Ne.symm n4)).trans (hk _ _ (Ne.symm n4) q)
    · exact h2'.at fun o q => (sb.2 _ (Ne.symm n5)).trans (hk _ _ (Ne.symm n5) q)
    · have hlt : c < s.heap.objs.size := by
        have e' : c = e ∨ c = z ∨ c = TI ∨ c = TO ∨ c = i1 ∨ c = i2 := by simpa using hcm
        rcases e' with q | q | q | q | q | q
        · rw [q]; exact hel
        · rw [q]; exact hzl
        · rw [q]; exact Heap.lt_size hTI
        · rw [q]; exact Heap.lt_size hTO
        · rw [q]; exact h1.lt
        · rw [q]; exact h2.lt
      rw [upd_ne (Nat.ne_of_lt (Nat.lt_succ_of_lt hlt)), upd_ne (Nat.ne_of_lt hlt)]
      exact (hf c hcm).1
  done := by
    intro X hP hw hK hc i pins s σ H E I hf st hg
    subst hP hw hK
    obtain ⟨⟨old, he⟩, ⟨f0, fl, hz, hf0⟩, hTI, ⟨x0, y0, hTO⟩, h1, h2⟩ := st
    obtain ⟨xs, ys, hqx, hqy, hend⟩ := hg
    obtain ⟨its, rv, p⟩ := seqK I hqx
    obtain ⟨its2, rv2, p2⟩ := seqK I hqy
    have l1 := rv.length
    have l2 := rv2.length
    have hen : its.toArray[i]? = none ∨ its2.toArray[i]? = none := by
      rcases hend with q | q
      · exact .inl (by simp; omega)
      · exact .inr (by simp; omega)
    exact pyNextE_end (R := fun h' => ∀ c o, c ≠ z → c ≠ TO → c ≠ i1 → c ≠ i2 → s.heap.get? c = some o → h'.get? c = some o) he (fun Q' E' A' ha kq => nextZ_end (ha (I.ok.hd hc)) D hz hf0 hTI hTO h1 h2 p p2 hen kq) fun h' hk => ⟨rfl, I.turnedL (t' := s.toks) (ch := [e, z, TI, TO, i1, i2]) (fun c o hb q =>
      hk c o (fun q' => hb (by simp [q'])) (fun q' => hb (by simp [q'])) (fun q' => hb (by simp [q'])) (fun q' => hb (by simp [q'])) q) hf⟩
  self := fun A i s Q E st h => let ⟨⟨_, he⟩, _⟩ := st; wpAny_pyIter_enum he h
end VI.Ez
end

section
set_option Elab.async false
set_option linter.all false
set_option maxRecDepth 100000
set_option maxHeartbeats 1000000
namespace VI.Ez
open PySem PySem.Spec PyProof.Rows L2 RZ
open AutoSeq1 (wpAny_loadPart')
theorem meets_enB {l : Addr} {ob o : Obj} {H : Heap → Prop} (B : Begins (.ref l) o H) :
    Meets (Builtin.«enumerate.__new__» ⟨[.type "enumerate", .ref l], []⟩) (fun _ R s => (H s.heap ∧ s.heap.get? l = some ob) ∧
      R (.ok (.ret (.ref (s.heap.push o).objs.size))) { s with heap := (s.heap.push o).push { cls := .type "enumerate", data := .fields #[.none, .bool false, .ref s.heap.objs.size, rawInt 0, .none, .none] } }) :=
  .of_wp fun prog w A R s h => by
    obtain ⟨hp, g, d, tk, os⟩ := s; obtain ⟨⟨h1, hl⟩, h⟩ := h
    have hsub := sub_enumerate
    have q1 : ∀ {A' : Around} {E : Value → Shared → Prop} {Q : Value → Shared → Prop}, Q (.ref hp.objs.size) ⟨hp.push o, g, d, tk, os⟩ → wpAny (model prog w) A' (pyIter (.ref l)) Q E ⟨hp, g, d, tk, os⟩ :=
      fun q => B.iter prog w _ _ ⟨hp, g, d, tk, os⟩ _ h1 q
    wp_walk using wpAny_loadPart' hl
    refine wpAny_stack_any fun st => wpAny_pure ?_
    split
    · rename_i c _ _ _ _ _
      cases (c == Value.type "enumerate")
      · wp_walk using wpAny_loadPart' hl, q1
        exact ⟨_, rfl, h⟩
      · wp_walk using wpAny_loadPart' hl, q1
        exact ⟨_, rfl, h⟩
    · wp_walk using wpAny_loadPart' hl, q1
      exact ⟨_, rfl, h⟩
theorem meets_enZ {z TI TO : Addr} :
    Meets (Builtin.«enumerate.__new__» ⟨[.type "enumerate", .ref z], []⟩) (fun _ R s => IsZip s.heap z TI TO .none ∧
      R (.ok (.ret (.ref s.heap.objs.size))) { s with heap := s.heap.push { cls := .type "enumerate", data := .fields #[.none, .bool false, .ref z, rawInt 0, .none, .none] } }) :=
  .of_wp fun prog w A R s h => by
    obtain ⟨hp, g, d, tk, os⟩ := s; obtain ⟨hl, h⟩ := h
    have hsub := sub_enumerate
    have hZ : IsZip (Shared.heap ⟨hp, g, d, tk, os⟩) z TI TO .none := hl
    wp_walk using wpAny_loadPart' hl
    refine wpAny_stack_any fun st => wpAny_pure ?_
    split
    · rename_i c _ _ _ _ _
      cases (c == Value.type "enumerate")
      · wp_walk using wpAny_loadPart' hl, wpAny_pyIter_zip hZ
        exact ⟨_, rfl, h⟩
      · wp_walk using wpAny_loadPart' hl, wpAny_pyIter_zip hZ
        exact ⟨_, rfl, h⟩
    · wp_walk using wpAny_loadPart' hl, wpAny_pyIter_zip hZ
      exact ⟨_, rfl, h⟩
section
variable {prog : Program} {w : World} {A : Around} {E : Value → Shared → Prop} {s : Shared}
theorem call_enB {l : Addr} {ob o : Obj} {H : Heap → Prop} {Q : Value → Shared → Prop} (B : Begins (.ref l) o H) (h1 : H s.heap) (hl : s.heap.get? l = some ob)
    (h : ∀ h', IsEnum h' (s.heap.objs.size + 1) s.heap.objs.size 0 .none → h'.get? s.heap.objs.size = some o → h'.objs.size = s.heap.objs.size + 2 →
      (∀ b o, s.heap.get? b = some o → h'.get? b = some o) → Q (.ref (s.heap.objs.size + 1)) { s with heap := h' }) :
    wpAny (model prog w) A (call (.type "enumerate") [.ref l]) Q E s := by
  refine callType_new F.called_enumerate (by decide) (F.typeCall_enumerate_1 _) (F.newCall_enumerate_1 _) (fun obj => F.args_object_init_2 obj _) F.entry_enumerate_new
    (meets_enB B) ⟨⟨h1, hl⟩, ?_⟩
  have hz : (s.heap.push o).objs.size = s.heap.objs.size + 1 := Heap.size_push ..
  show _ ∧ _
  rw [hz]
  have he : IsEnum ((s.heap.push o).push { cls := .type "enumerate", data := .fields #[.none, .bool false, .ref s.heap.objs.size, rawInt 0, .none, .none] }) (s.heap.objs.size + 1) s.heap.objs.size 0 .none := by
    have := Heap.get?_push_size (s.heap.push o) (o := { cls := .type "enumerate", data := .fields #[.none, .bool false, .ref s.heap.objs.size, rawInt 0, .none, .none] }) rfl
    rw [hz] at this; exact this
  exact ⟨⟨_, he, rfl⟩, h _ he (Heap.get?_push_of_some _ (Heap.get?_push_size _ B.free)) (by rw [Heap.size_push, hz]) fun b o x => Heap.get?_push_of_some _ (Heap.get?_push_of_some _ x)⟩
theorem call_enZ {z TI TO : Addr} {Q : Value → Shared → Prop} (hz : IsZip s.heap z TI TO .none)
    (h : ∀ h', IsEnum h' s.heap.objs.size z 0 .none → h'.objs.size = s.heap.objs.size + 1 →
      (∀ b o, s.heap.get? b = some o → h'.get? b = some o) → Q (.ref s.heap.objs.size) { s with heap := h' }) :
    wpAny (model prog w) A (call (.type "enumerate") [.ref z]) Q E s := by
  refine callType_new F.called_enumerate (by decide) (F.typeCall_enumerate_1 _) (F.newCall_enumerate_1 _) (fun obj => F.args_object_init_2 obj _) F.entry_enumerate_new
    (meets_enZ (TI := TI) (TO := TO)) ⟨hz, ?_⟩
  show _ ∧ _
  have he : IsEnum (s.heap.push { cls := .type "enumerate", data := .fields #[.none, .bool false, .ref z, rawInt 0, .none, .none] }) s.heap.objs.size z 0 .none :=
    Heap.get?_push_size s.heap (o := { cls := .type "enumerate", data := .fields #[.none, .bool false, .ref z, rawInt 0, .none, .none] }) rfl
  exact ⟨⟨_, he, rfl⟩, h _ he (by rw [Heap.size_push]) fun b o x => Heap.get?_push_of_some _ x⟩
end

def iZK (K : PySem.W.Frag) (ta : TA) : TI := fun σ H R => ta σ H fun vs H1 => ∃ k k' a b xs ys, vs = [.ref a, .ref b] ∧ SqV k K H1 a xs ∧ SqV k' K H1 b ys ∧ R (JZ K k k' a b) H1
def iEK (K : PySem.W.Frag) (ta : TA) : TI := fun σ H R => ta σ H fun vs H1 => ∃ k a xs, vs = [.ref a] ∧ SqV k K H1 a xs ∧ R (JE K k a) H1
def iEZK (K : PySem.W.Frag) (ta : TA) : TI := fun σ H R => ta σ H fun vs H1 => ∃ k k' a b xs ys, vs = [.ref a, .ref b] ∧ SqV k K H1 a xs ∧ SqV k' K H1 b ys ∧ R (JEZ K k k' a b) H1
theorem above {n c : Nat} (h : c = n + 5 ∨ c = n + 4 ∨ c = n + 2 ∨ c = n + 3 ∨ c = n ∨ c = n + 1) : n ≤ c := by omega
theorem mem5 {n c : Nat} (h : c ∈ [n + 4, n + 2, n + 3, n, n + 1]) : n ≤ c := above (.inr (by simpa using h))
theorem mem6 {n c : Nat} (h : c ∈ [n + 5, n + 4, n + 2, n + 3, n, n + 1]) : n ≤ c := above (by simpa using h)
theorem lt_ne {a n : Nat} (h : a < n) : a ≠ n := by omega
theorem e_apart (n : Nat) : n + 5 ≠ n + 4 ∧ n + 5 ≠ n + 2 ∧ n + 5 ≠ n + 3 ∧ n + 5 ≠ n ∧ n + 5 ≠ n + 1 := by omega
theorem SqK.here {k : Bool} {h : Heap} {a : Addr} {its : Array Value} (x : SqK k h a its) : ∃ o, h.get? a = some o := by
  cases k
  · obtain ⟨o, e, _⟩ := (show h.IsList a its from x)
    exact ⟨o, e⟩
  · obtain ⟨o, e, _⟩ := (show h.IsTuple a its from x)
    exact ⟨o, e⟩
theorem pi_zK {X : Cx} {e e2 : Expr} {ta : TA} {p pos tpos : Pos} {elts : List Expr} {kk : Nat} (hg : Gl X "zip") (hm : X.mg "zip" = none) (ha : PA X [e, e2] ta)
    (hs : starEach [e, e2] X.env = (false, eval e X.env) :: starEach [e2] X.env) (hpl : (backTo pos (starEach [e2] X.env)).any (·.1) = false) :
    PI X (.Tuple elts kk tpos) (.Call (.Name "zip" p) [e, e2] [] pos) (iZK X.K ta) := by
  refine ⟨fun pins s σ H R I h => ?_⟩
  refine Call_ (ld_blt I hg hm PyProof.Rows.boot_zip (PyProof.Rows.callWith_type1 (thn (ha.run pos pins s σ H _ I h) fun us s1 ⟨vs, H1, I1, r1, q1⟩ => ?_) hs hpl))
  obtain ⟨k, k', a, b, xs, ys, rfl, hqx, hqy, q⟩ := q1
  cases r1 with
  | cons r rr =>
    cases rr with
    | cons r' rr =>
      cases rr
      cases r
      cases r'
      obtain ⟨its, rv, p1⟩ := seqK I1 hqx
      obtain ⟨its2, rv2, p2⟩ := seqK I1 hqy
      refine zip_begins2 (itO_begins k a its.toArray) (itO_begins k' b its2.toArray) p1 p2 fun h' hz hTI hTO h1 h2 hsz hk => wpAny_pyIter_zip hz ?_
      have I2 : Inv X pins σ H1 { s1 with heap := h' } := I1.kept (t' := s1.toks) hk
      exact ⟨s1.heap.objs.size + 4, [s1.heap.objs.size + 4, s1.heap.objs.size + 2, s1.heap.objs.size + 3, s1.heap.objs.size, s1.heap.objs.size + 1], _, _, H1, rfl, I2, turn_zipK (PySem.W.ktu_apart s1.heap.objs.size a b p1.lt p2.lt),
        ⟨⟨false, hz⟩, hTI, ⟨_, _, hTO⟩, itO_at h1, itO_at h2⟩, fun c hc => I1.fpOk (mem5 hc) (I1.hok.fresh (mem5 hc)), q⟩
theorem pi_eK {X : Cx} {e : Expr} {ta : TA} {p pos tpos : Pos} {elts : List Expr} {kk : Nat} (hg : Gl X "enumerate") (hm : X.mg "enumerate" = none) (ha : PA X [e] ta) (hs : starEach [e] X.env = [(false, eval e X.env)]) :
    PI X (.Tuple elts kk tpos) (.Call (.Name "enumerate" p) [e] [] pos) (iEK X.K ta) := by
  refine ⟨fun pins s σ H R I h => ?_⟩
  refine Call_ (ld_blt I hg hm boot_enumerate (PyProof.Rows.callWith_type1 (thn (ha.run pos pins s σ H _ I h) fun us s1 ⟨vs, H1, I1, r1, q1⟩ => ?_) hs rfl))
  obtain ⟨k, a, xs, rfl, hq, q⟩ := q1
  cases r1 with
  | cons r rr =>
    cases rr
    cases r
    obtain ⟨its, rv, p'⟩ := seqK I1 hq
    obtain ⟨ob, hob⟩ := p'.here
    refine call_enB (itO_begins k a its.toArray) p' hob fun h' he hit hsz hk => wpAny_pyIter_enum he ?_
    have I2 : Inv X pins σ H1 { s1 with heap := h' } := I1.kept (t' := s1.toks) hk
    refine ⟨s1.heap.objs.size + 1, [s1.heap.objs.size + 1, s1.heap.objs.size], _, _, H1, rfl, I2, turn_enK a (s1.heap.objs.size + 1) s1.heap.objs.size (lt_ne p'.lt), ⟨⟨.none, he⟩, itO_at hit, Nat.succ_ne_self _⟩, fun b hb => ?_, q⟩
    have e' : b = s1.heap.objs.size + 1 ∨ b = s1.heap.objs.size := by simpa using hb
    have hle : s1.heap.objs.size ≤ b := by
      rcases e' with z | z
      · rw [z]; exact Nat.le_add_right _ _
      · rw [z]; exact Nat.le_refl _
    exact I1.fpOk hle (I1.hok.fresh hle)
theorem pi_ezK {X : Cx} {e e2 : Expr} {ta : TA} {p1 p2 pos pos2 tpos : Pos} {elts : List Expr} {kk : Nat} (hg : Gl X "enumerate") (hm : X.mg "enumerate" = none) (hg2 : Gl X "zip") (hm2 : X.mg "zip" = none) (ha : PA X [e, e2] ta)
    (hs : starEach [e, e2] X.env = (false, eval e X.env) :: starEach [e2] X.env) (hpl : (backTo pos2 (starEach [e2] X.env)).any (·.1) = false) :
    PI X (.Tuple elts kk tpos) (.Call (.Name "enumerate" p1) [.Call (.Name "zip" p2) [e, e2] [] pos2] [] pos) (iEZK X.K ta) := by
  refine ⟨fun pins s σ H R I h => ?_⟩
  refine Call_ (ld_blt I hg hm boot_enumerate (PyProof.Rows.callWith_type1 ?_ rfl rfl))
  show wpAny _ _ (spliced [(false, eval (.Call (.Name "zip" p2) [e, e2] [] pos2) X.env)]) _ _ s
  refine Calls.spliced_cons (Call_ (ld_blt I hg2 hm2 PyProof.Rows.boot_zip (PyProof.Rows.callWith_type1 (thn (ha.run pos2 pins s σ H _ I h) fun us s1 ⟨vs, H1, I1, r1, q1⟩ => ?_) hs hpl)))
  obtain ⟨k, k', a, b, xs, ys, rfl, hqx, hqy, q⟩ := q1
  cases r1 with
  | cons r rr =>
    cases rr with
    | cons r' rr =>
      cases rr
      cases r
      cases r'
      obtain ⟨its, rv, p1⟩ := seqK I1 hqx
      obtain ⟨its2, rv2, p2⟩ := seqK I1 hqy
      refine zip_begins2 (itO_begins k a its.toArray) (itO_begins k' b its2.toArray) p1 p2 fun h' hz hTI hTO h1 h2 hsz hk => Calls.spliced_nil ?_
      refine call_enZ (s := { s1 with heap := h' }) hz fun h2' he hsz2 hk2 => wpAny_pyIter_enum he ?_
      have I2 : Inv X pins σ H1 { s1 with heap := h2' } := I1.kept (t' := s1.toks) fun b o q => hk2 b o (hk b o q)
      have esz : h'.objs.size = s1.heap.objs.size + 5 := hsz
      have he' : IsEnum h2' (s1.heap.objs.size + 5) (s1.heap.objs.size + 4) 0 .none := esz ▸ he
      exact ⟨s1.heap.objs.size + 5, [s1.heap.objs.size + 5, s1.heap.objs.size + 4, s1.heap.objs.size + 2, s1.heap.objs.size + 3, s1.heap.objs.size, s1.heap.objs.size + 1], _, _, H1, congrArg Value.ref esz, I2,
        turn_ez (PySem.W.ktu_apart s1.heap.objs.size a b p1.lt p2.lt) (e_apart s1.heap.objs.size),
        ⟨⟨.none, he'⟩, ⟨.none, false, hk2 _ _ hz, .inl rfl⟩, hk2 _ _ hTI, ⟨_, _, hk2 _ _ hTO⟩, itO_at (hk2 _ _ h1), itO_at (hk2 _ _ h2)⟩, fun c hc => I1.fpOk (mem6 hc) (I1.hok.fresh (mem6 hc)), q⟩
end VI.Ez
end

section
set_option Elab.async false
set_option linter.all false
/-! VI1: data, owned data, core syntax, evaluator. -/
namespace VI
open PySem

/-- plain data -/
inductive D where
  | non | bl (b : Bool) | int (i : Int) | str (s : Str)
  | tup (l : List D) | lst (l : List D) | dct (l : List (D × D)) | set (l : List Int)
  | ins (c : Nat) (l : List (Nat × D))
  | fn (f : Nat) | lam | scr (l : List Int)
  deriving Repr, Inhabited
/-- data that a slot owns: what may be changed in place -/
inductive O where
  | fz (d : D) | lst (l : List O) | dct (l : List (D × O)) | ins (c : Nat) (l : List (Nat × O))
  deriving Repr, Inhabited

mutual
def O.toD : O → D
  | .fz d => d
  | .lst l => .lst (O.toDs l)
  | .dct l => .dct (O.toDk l)
  | .ins c l => .ins c (O.toDn l)
def O.toDs : List O → List D
  | [] => []
  | o :: l => o.toD :: O.toDs l
def O.toDk : List (D × O) → List (D × D)
  | [] => []
  | (k, o) :: l => (k, o.toD) :: O.toDk l
def O.toDn : List (Nat × O) → List (Nat × D)
  | [] => []
  | (k, o) :: l => (k, o.toD) :: O.toDn l
end
/-- a new object with frozen parts -/
def O.new : D → O
  | .lst l => .lst (l.map .fz)
  | .dct l => .dct (l.map fun p => (p.1, .fz p.2))
  | d => .fz d

mutual
/-- as the library's data; none: not such -/
def D.toP : D → Option PyData
  | .non => some .none
  | .bl b => some (.bool b)
  | .int i => some (.int i)
  | .str s => some (.str s)
  | .tup l => (D.toPs l).map .tuple
  | .lst l => (D.toPs l).map .list
  | _ => none
def D.toPs : List D → Option (List PyData)
  | [] => some []
  | d :: l => match d.toP with
    | some p => (match D.toPs l with
      | some ps => some (p :: ps)
      | none => none)
    | none => none
end

inductive Op where
  | add | sub | mul | fdiv | mod | pow | shl | shr | band | bor | bxor
  deriving DecidableEq, Repr, Inhabited
inductive Cm where
  | eq | ne | lt | le | gt | ge | isk | isn | isin | nin
  deriving DecidableEq, Repr, Inhabited
inductive Ty where
  | int | bool | str | tuple | list | dict | own (c : Nat)
  deriving DecidableEq, Repr, Inhabited
/-- built-in functions of one argument list -/
inductive Bi where
  | len | int | abs | max2 | min2 | max1 | min1 | sum | all | any | tuple | list | sorted | set | repr | str | bool | dict | sortset | lenset
  deriving DecidableEq, Repr, Inhabited
/-- what a for walks, besides a value -/
inductive It where
  | val | range1 | range2 | range3 | enum | zip | enumzip | zipall | zip3
  deriving DecidableEq, Repr, Inhabited
/-- methods that change their receiver -/
inductive Mu where
  | append | extend | pop0 | pop1 | insert | setitem
  deriving DecidableEq, Repr, Inhabited
/-- methods that do not -/
inductive Me where
  | index | count | get1 | get2 | values | items | keys
  deriving DecidableEq, Repr, Inhabited
/-- targets -/
inductive T where
  | name (i : Nat) | tup (l : List T) | sub (i : Nat) | attr (i : Nat) (f : Nat)
  deriving Repr, Inhabited

inductive E where
  | k (d : D) | loc (i : Nat) | glob (x : Nat)
  | bin (op : Op) (a b : E) | neg (a : E) | inv (a : E) | not (a : E) | and (l : List E) | or (l : List E)
  | cmp (a : E) (l : List (Cm × E)) | ite (c a b : E)
  | tup (l : List (Bool × E)) | lst (l : List (Bool × E)) | dct (l : List (E × E))
  | idx (a b : E) | slc (a : E) (lo hi : Option E) | rev (a : E)
  | lc (e : E) (own : List Nat) (gs : List (T × It × List E × List E)) | dc (k v : E) (own : List Nat) (gs : List (T × It × List E × List E))
  | call (f : Nat) (args : List E) | lcall (i : Nat) (args : List E) | bi (b : Bi) (args : List E) | isi (a : E) (t : Ty)
  | mut (m : Mu) (i : Nat) (args : List E) | met (m : Me) (a : E) (args : List E)
  | lam (g : Nat) (f : E) (args : List E)
  deriving Repr, Inhabited

/-- names and constants -/
def E.flat : E → Bool
  | .k _ => true
  | .loc _ => true
  | _ => false
def E.fnl : E → Bool
  | .glob _ => true
  | .loc _ => true
  | _ => false
def D.flat : D → Bool
  | .non => true
  | .bl _ => true
  | .int _ => true
  | .str _ => true
  | _ => false

/-- what an except clause hands back: a text, a text and the repr of what the error keeps, that itself -/
inductive Hk where
  | ret (d : D) | rep (i : Nat) (pre : Str)
  deriving Repr, Inhabited
inductive S where
  | expr (e : E) | asg (t : T) (e : E) | par (t u : T) (a b : E) | seti (i : Nat) (k e : E) | aug (i : Nat) (op : Op) (e : E)
  | ife (c : E) (a b : List S) | forr (t : T) (it : It) (args : List E) (b : List S) | whil (c : E) (b : List S)
  | ret (e : Option E) | raise (c : Nat) (e : Option E) | pass | brk | cont
  | trye (b : List S) (hs : List (Nat × Hk))
  deriving Repr, Inhabited

/-- a def: how many parameters and slots, which parameters are changed in place, the body -/
structure Fn where
  np : Nat
  nl : Nat
  io : List Nat
  body : List S
  deriving Repr, Inhabited
/-- a module's name -/
inductive G where
  | fn (f : Fn) | val (d : D) | exc (sup : List Nat) (field : Option Nat) | cls
  deriving Repr, Inhabited

abbrev St := List (Option O)
inductive R (α : Type) where
  | ok (a : α) (s : St) | ex (c : Nat) (p : D) (s : St) | bad (n : Nat)
  deriving Repr, Inhabited
inductive Fl where
  | next | ret (o : O) | brk | cont
  deriving Repr, Inhabited
/-- a call's end: what is handed back, the parameters behind it -/
inductive CR where
  | ok (o : O) (ps : List (Option O)) | ex (c : Nat) (p : D) (ps : List (Option O)) | bad (n : Nat)
  deriving Repr, Inhabited

def CR.pl : CR → Nat
  | .ok _ ps => ps.length
  | .ex _ _ ps => ps.length
  | .bad _ => 0
@[inline] def R.bind {α β : Type} (r : R α) (f : α → St → R β) : R β :=
  match r with
  | .ok a s => f a s
  | .ex c p s => .ex c p s
  | .bad n => .bad n

/-- no exception comes out of here -/
def R.noex {α : Type} (r : R α) : R α := match r with
  | .ok a s => .ok a s
  | .ex _ _ _ => .bad 70
  | .bad n => .bad n

/-! ### operations on data -/
def two64 : Int := 18446744073709551616
def big (i : Int) : Nat := i.natAbs.log2
def binO (op : Op) (x y : D) : Option O :=
  match op, x, y with
  | .add, .int i, .int j => some (.fz (.int (i + j)))
  | .sub, .int i, .int j => some (.fz (.int (i - j)))
  | .mul, .int i, .int j => if big i + big j < 1000000 then some (.fz (.int (i * j))) else none
  | .fdiv, .int i, .int j => if 0 < j ∧ big j < 9000 then some (.fz (.int (i / j))) else none
  | .mod, .int i, .int j => if 0 < j then some (.fz (.int (i % j))) else none
  | .pow, .int i, .int j => if 0 ≤ j ∧ ((big i + 1 : Nat) : Int) * j ≤ 134217728 then some (.fz (.int (i ^ j.toNat))) else none
  | .shl, .int i, .int j => if 0 ≤ j ∧ j ≤ 1000000 ∧ i.natAbs < 18446744073709551616 then some (.fz (.int (i * 2 ^ j.toNat))) else none
  | .shr, .int i, .int j => if 0 ≤ j then some (.fz (.int (i / 2 ^ j.toNat))) else none
  | .band, .int i, .int j => some (.fz (.int (Builtin.bitAnd i j)))
  | .bor, .int i, .int j => some (.fz (.int (Builtin.bitOr i j)))
  | .bxor, .int i, .int j => some (.fz (.int (Builtin.bitXor i j)))
  | .add, .tup a, .tup b => if a.length + b.length ≤ 1000000 then some (.fz (.tup (a ++ b))) else none
  | .add, .lst a, .lst b => if a.length + b.length ≤ 1000000 then some (.lst ((a ++ b).map .fz)) else none
  | .add, .str a, .str b => if a.length + b.length ≤ 1000000 then some (.fz (.str (a ++ b))) else none
  | .mul, .tup a, .int k => if a ≠ [] ∧ 2 ≤ k ∧ k ≤ 1000 ∧ a.length ≤ 1000 then some (.fz (.tup (List.replicate k.toNat a).flatten)) else none
  | .mul, .lst a, .int k => if 0 ≤ k ∧ k ≤ 1000000 ∧ (a.length : Int) * k ≤ 1000000 then some (.lst ((List.replicate k.toNat a).flatten.map .fz)) else none
  | _, _, _ => none
def eqD (x y : D) : Option Bool :=
  match x, y with
  | .int i, .int j => some (decide (i = j))
  | _, _ => match x.toP, y.toP with
    | some p, some q => if SeqAt.shaped p = true ∧ SeqAt.shaped q = true then some (PyData.eqv p q) else none
    | _, _ => none
/-- intsOf -/
def intsOf : List D → Option (List Int)
  | [] => some []
  | .int i :: l => (intsOf l).map (i :: ·)
  | _ :: _ => none
def lexLt : List Int → List Int → Bool
  | [], [] => false
  | [], _ :: _ => true
  | _ :: _, [] => false
  | x :: xs, y :: ys => if x = y then lexLt xs ys else decide (x < y)
def ltD (x y : D) : Option Bool :=
  match x, y with
  | .int i, .int j => some (decide (i < j))
  | .tup a, .tup b => (match intsOf a, intsOf b with
    | some m, some n => some (lexLt m n)
    | _, _ => none)
  | _, _ => none
/-- x in the items -/
def inD (x y : D) : Option Bool :=
  match x.toP, y.toP with
  | some d, some (.list ds) => if SeqAt.shaped d = true ∧ SeqAt.shaped (.list ds) = true then some (ds.any fun z => PyData.eqv z d) else none
  | some d, some (.tuple ds) => if SeqAt.shaped d = true ∧ SeqAt.shaped (.tuple ds) = true then some (ds.any fun z => PyData.eqv z d) else none
  | _, _ => none
def dget (k : D) : List (D × D) → Option (Option D)
  | [] => some none
  | (q, v) :: l => match eqD q k with
    | some true => some (some v)
    | some false => dget k l
    | none => none
def cmpD (c : Cm) (x y : D) : Option Bool :=
  match c with
  | .eq => eqD x y
  | .ne => (eqD x y).map (!·)
  | .lt => ltD x y
  | .gt => (match x, y with
    | .int i, .int j => some (decide (j < i))
    | _, _ => none)
  | .le => (match x, y with
    | .int i, .int j => some (decide (i ≤ j))
    | _, _ => none)
  | .ge => (match x, y with
    | .int i, .int j => some (decide (j ≤ i))
    | _, _ => none)
  | .isk => (match x, y with
    | .non, .non => some true
    | _, .non => some false
    | .bl a, .bl b => some (decide (a = b))
    | _, _ => none)
  | .isn => (match x, y with
    | .non, .non => some false
    | _, .non => some true
    | .bl a, .bl b => some (!decide (a = b))
    | _, _ => none)
  | .isin => (match y with
    | .dct _ => none
    | _ => inD x y)
  | .nin => (match y with
    | .dct _ => none
    | _ => (inD x y).map (!·))
def truthD : D → Option Bool
  | .bl b => some b
  | .non => some false
  | .int i => some (i != 0)
  | .tup l => some (!l.isEmpty)
  | .lst l => some (!l.isEmpty)
  | _ => none
def isiD (x : D) (t : Ty) : Option Bool :=
  match x, t with
  | .int _, .int => some true
  | .bl _, .int => some true
  | .bl _, .bool => some true
  | .str _, .str => some true
  | .tup _, .tuple => some true
  | .lst _, .list => some true
  | .dct _, .dict => some true
  | _, .own _ => none
  | .ins _ _, _ => some false
  | .fn _, _ => none
  | .lam, _ => none
  | .set _, _ => none
  | .scr _, _ => none
  | _, _ => some false
def ixN (n : Nat) (i : Int) : Option Nat := if 0 ≤ i then (if i < n then some i.toNat else none) else if -(n : Int) ≤ i then some (i + n).toNat else none
def idxD (x y : D) : Option D :=
  match x, y with
  | .tup l, .int i => (ixN l.length i).bind fun j => l[j]?
  | .lst l, .int i => (ixN l.length i).bind fun j => l[j]?
  | .dct l, k => (dget k l).bind id
  | .scr l, .int i => (ixN l.length i).bind fun j => (l[j]?).map D.int
  | _, _ => none
def sIx (n d : Nat) : Option Int → Nat
  | none => d
  | some v => if v < 0 then (v + n).toNat else min v.toNat n
def cutL {α : Type} (xs : List α) (lo hi : Option Int) : List α := (xs.drop (sIx xs.length 0 lo)).take (sIx xs.length xs.length hi - sIx xs.length 0 lo)
def slcO (x : D) (lo hi : Option Int) : Option O :=
  match x with
  | .tup l => some (.fz (.tup (cutL l lo hi)))
  | .lst l => some (.lst ((cutL l lo hi).map .fz))
  | _ => none
def revO (x : D) : Option O :=
  match x with
  | .lst l => some (.lst (l.reverse.map .fz))
  | _ => none
def boolsOf : List D → Option (List Bool)
  | [] => some []
  | .bl b :: l => (boolsOf l).map (b :: ·)
  | _ :: _ => none
def insI (x : Int) : List Int → List Int
  | [] => [x]
  | y :: l => if x ≤ y then x :: y :: l else y :: insI x l
def sortI : List Int → List Int
  | [] => []
  | x :: l => insI x (sortI l)
/-- each once -/
def ddI : List Int → List Int
  | [] => []
  | x :: l => if x ∈ ddI l then ddI l else x :: ddI l
def seqOf : D → Option (List D)
  | .tup l => some l
  | .lst l => some l
  | _ => none
def len1 : D → Option Int
  | .tup l => some l.length
  | .lst l => some l.length
  | .scr l => some l.length
  | _ => none
def bi1 (b : Bi) (d : D) : Option O :=
  match b with
  | .len => (len1 d).map fun n => .fz (.int n)
  | .int => (match d with
    | .int i => some (.fz (.int i))
    | .bl c => some (.fz (.int (if c then 1 else 0)))
    | _ => none)
  | .abs => (match d with
    | .int i => some (.fz (.int (if i < 0 then -i else i)))
    | _ => none)
  | .max1 => (match d with
    | .lst l => (match intsOf l with
      | some (x :: r) => some (.fz (.int (r.foldl max x)))
      | _ => none)
    | _ => none)
  | .min1 => (match d with
    | .lst l => (match intsOf l with
      | some (x :: r) => some (.fz (.int (r.foldl min x)))
      | _ => none)
    | _ => none)
  | .sum => (match d with
    | .lst l => (intsOf l).map fun l => .fz (.int l.sum)
    | _ => none)
  | .all => (match d with
    | .lst l => (boolsOf l).map fun bs => .fz (.bl (bs.all id))
    | _ => none)
  | .any => (match d with
    | .lst l => (boolsOf l).map fun bs => .fz (.bl (bs.any id))
    | _ => none)
  | .tuple => (match d with
    | .tup l => some (.fz (.tup l))
    | .lst l => some (.fz (.tup l))
    | _ => none)
  | .list => (match d with
    | .tup l => some (.lst (l.map .fz))
    | .lst l => some (.lst (l.map .fz))
    | _ => none)
  | .sorted => (match d with
    | .lst l => (intsOf l).map fun l => .lst ((sortI l).map fun i => .fz (.int i))
    | _ => none)
  | .sortset => (match d with
    | .tup l => (match intsOf l with
      | some l => if l.length < 64 then some (.lst ((sortI (ddI l)).map fun i => .fz (.int i))) else none
      | none => none)
    | _ => none)
  | .repr => (match d.toP with
    | some p => if PyData.showable p = true ∧ p.shown.length ≤ 100000 ∧ p.depth ≤ 30 then some (.fz (.str p.shown)) else none
    | none => none)
  | _ => none
def bi2 (b : Bi) (d e : D) : Option O :=
  match b with
  | .max2 => (match d, e with
    | .int m, .int n => some (.fz (.int (if n > m then n else m)))
    | _, _ => none)
  | .min2 => (match d, e with
    | .int m, .int n => some (.fz (.int (if n < m then n else m)))
    | _, _ => none)
  | _ => none
def biO (b : Bi) (xs : List D) : Option O :=
  match xs with
  | [d] => bi1 b d
  | [d, e] => bi2 b d e
  | _ => none
def lexZip : List D → List D → List D
  | x :: xs, y :: ys => .tup [x, y] :: lexZip xs ys
  | _, _ => []
def enumFrom (n : Nat) : List D → List D
  | [] => []
  | x :: l => .tup [.int n, x] :: enumFrom (n + 1) l
def rangeL (lo : Int) : Nat → List D
  | 0 => []
  | n + 1 => .int lo :: rangeL (lo + 1) n
def rangeC (lo c : Int) : Nat → List D
  | 0 => []
  | n + 1 => .int lo :: rangeC (lo + c) c n
/-- what is walked -/
def itD (it : It) (xs : List D) : Option (List D) :=
  match it, xs with
  | .val, [.tup l] => some l
  | .val, [.lst l] => some l
  | .range1, [.int j] => if -1000000 < j ∧ j < 1000000 then some (rangeL 0 j.toNat) else none
  | .range2, [.int i, .int j] => if -1000000 < i ∧ i < 1000000 ∧ -1000000 < j ∧ j < 1000000 then some (rangeL i (j - i).toNat) else none
  | .range3, [.int i, .int j, .int c] => if -1000000 < i ∧ i < 1000000 ∧ -1000000 < j ∧ j < 1000000 ∧ c = -1 then some (rangeC i (-1) (i - j).toNat) else none
  | .enum, [x] => (seqOf x).map (enumFrom 0)
  | .zip, [x, y] => (match seqOf x, seqOf y with
    | some l, some m => some (lexZip l m)
    | _, _ => none)
  | .enumzip, [x, y] => (match seqOf x, seqOf y with
    | some l, some m => some (enumFrom 0 (lexZip l m))
    | _, _ => none)
  | _, _ => none
def meO (m : Me) (x : D) (xs : List D) : Option O := none

/-! ### the evaluator -/
/-- what a body leans on: the module's names, the call of a def, what the lambda at hand gives, the slots that stay -/
structure Cfg where
  glob : Nat → Option G
  call : Nat → List O → CR
  lamc : CR → Nat → CR
  lamr : Option CR
  io : List Nat
def sub? (g : Nat → Option G) (c h : Nat) : Bool := c == h || (match g c with
  | some (.exc sup _) => sup.contains h
  | _ => false)
/-- a slot's value is handed out: frozen from then on -/
def rdLoc (i : Nat) (s : St) : R D :=
  match s[i]? with
  | some (some (.fz d)) => .ok d s
  | some (some o) => .ok o.toD (s.set i (some (.fz o.toD)))
  | _ => .bad 1
/-- a slot's value is read, not kept: only its parts are frozen -/
def O.parts : O → O
  | .lst l => .lst ((O.toDs l).map .fz)
  | .dct l => .dct ((O.toDk l).map fun p => (p.1, .fz p.2))
  | .ins c l => .ins c ((O.toDn l).map fun p => (p.1, .fz p.2))
  | o => o
def pkLoc (i : Nat) (s : St) : R D :=
  match s[i]? with
  | some (some (.fz d)) => .ok d s
  | some (some o) => .ok o.toD (s.set i (some o.parts))
  | _ => .bad 1
def stLoc (C : Cfg) (i : Nat) (o : O) (s : St) : R Unit := if C.io.contains i then .bad 2 else if i < s.length then .ok () (s.set i (some o)) else .bad 3
def ofO {α : Type} (o : Option α) (n : Nat) (s : St) : R α := match o with
  | some a => .ok a s
  | none => .bad n
def evDs (f : E → St → R D) : List E → St → R (List D)
  | [], s => .ok [] s
  | e :: l, s => (f e s).bind fun d s => (evDs f l s).bind fun ds s => .ok (d :: ds) s
def evSpl (f : E → St → R D) : List (Bool × E) → St → R (List D)
  | [], s => .ok [] s
  | (b, e) :: l, s => (f e s).bind fun d s => if b then (match seqOf d with
      | some xs => (evSpl f l s).bind fun ds s => .ok (xs ++ ds) s
      | none => .bad 4) else (evSpl f l s).bind fun ds s => .ok (d :: ds) s
def evKvs (f : E → St → R D) : List (E × E) → St → R (List (D × D))
  | [], s => .ok [] s
  | (a, b) :: l, s => (f a s).bind fun x s => (f b s).bind fun y s => (evKvs f l s).bind fun r s => .ok ((x, y) :: r) s
def dput (k v : D) : List (D × D) → Option (List (D × D))
  | [] => some [(k, v)]
  | (q, w) :: l => match eqD q k with
    | some true => some ((q, v) :: l)
    | some false => (dput k v l).map ((q, w) :: ·)
    | none => none
def dmerge : List (D × D) → List (D × D) → Option (List (D × D))
  | acc, [] => some acc
  | acc, (k, v) :: l => match dput k v acc with
    | some a => dmerge a l
    | none => none
mutual
def asgT (C : Cfg) : T → D → St → R Unit
  | .name i, d, s => stLoc C i (.fz d) s
  | .tup ts, .tup ds, s => asgTs C ts ds s
  | _, _, _ => .bad 5
def asgTs (C : Cfg) : List T → List D → St → R Unit
  | [], [], s => .ok () s
  | t :: ts, d :: ds, s => match asgT C t d s with
    | .ok _ s => asgTs C ts ds s
    | .ex c p s => .ex c p s
    | .bad n => .bad n
  | _, _, _ => .bad 6
end
def lcLoop (f : D → St → R (List O)) : List D → St → R (List O)
  | [], s => .ok [] s
  | d :: l, s => (f d s).bind fun os s => (lcLoop f l s).bind fun r s => .ok (os ++ r) s
def dcLoop (f : D → List (D × D) → St → R (List (D × D))) : List D → List (D × D) → St → R (List (D × D))
  | [], acc, s => .ok acc s
  | d :: l, acc, s => (f d acc s).bind fun acc s => dcLoop f l acc s
def forLoop (f : D → St → R Fl) : List D → St → R Fl
  | [], s => .ok .next s
  | d :: l, s => (f d s).bind fun r s => match r with
    | .next => forLoop f l s
    | .cont => forLoop f l s
    | .brk => .ok .next s
    | .ret o => .ok (.ret o) s
def whLoop (c : St → R Bool) (f : St → R Fl) : Nat → St → R Fl
  | 0, _ => .bad 7
  | m + 1, s => (c s).bind fun b s => if b then (f s).bind fun r s => (match r with
    | .next => whLoop c f m s
    | .cont => whLoop c f m s
    | .brk => .ok .next s
    | .ret o => .ok (.ret o) s) else .ok .next s
def evTests (f : E → St → R Bool) : List E → St → R Bool
  | [], s => .ok true s
  | e :: l, s => (f e s).bind fun b s => if b then evTests f l s else .ok false s
/-- the slots are forgotten -/
def wipeO : List Nat → St → St
  | [], s => s
  | i :: l, s => (wipeO l s).set i none
mutual
/-- the slots that a target stores -/
def T.vars : T → List Nat
  | .name i => [i]
  | .tup l => T.varsL l
  | _ => []
def T.varsL : List T → List Nat
  | [] => []
  | t :: l => t.vars ++ T.varsL l
end
/-- the arguments of a def: the parameters at io are handed over as they stand -/
def evArgs (f : E → St → R D) (io : List Nat) : Nat → List E → St → R (List (Option Nat × D))
  | _, [], s => .ok [] s
  | j, e :: l, s => if io.contains j then (match e with
      | .loc i => (match s[i]? with
        | some (some _) => (evArgs f io (j + 1) l s).bind fun r s => .ok ((some i, .non) :: r) s
        | _ => .bad 8)
      | _ => .bad 8) else (f e s).bind fun d s => (evArgs f io (j + 1) l s).bind fun r s => .ok ((none, d) :: r) s
/-- the slots that are handed over are taken out -/
def argOs : List (Option Nat × D) → St → Option (List O × St)
  | [], s => some ([], s)
  | (none, d) :: l, s => match argOs l s with
    | some (os, s1) => some (.fz d :: os, s1)
    | none => none
  | (some i, _) :: l, s => match s[i]? with
    | some (some o) => (match argOs l (s.set i none) with
      | some (os, s1) => some (o :: os, s1)
      | none => none)
    | _ => none
/-- .. and put back -/
def argBack : List (Option Nat × D) → List (Option O) → St → Option St
  | [], _, s => some s
  | (none, _) :: l, _ :: os, s => argBack l os s
  | (some i, _) :: l, some o :: os, s => if i < s.length then argBack l os (s.set i (some o)) else none
  | _, _, _ => none
def doCall (C : Cfg) (f : Nat) (as : List (Option Nat × D)) (s : St) : R O :=
  match argOs as s with
  | some (os, s1) => (match C.call f os with
    | .ok o ps => (match argBack as ps s1 with
      | some s2 => .ok o s2
      | none => .bad 9)
    | .ex c p ps => (match argBack as ps s1 with
      | some s2 => .ex c p s2
      | none => .bad 9)
    | .bad n => .bad n)
  | none => .bad 10
/-- the function that is called later -/
def fnV (f : E) (s : St) : R D := match f with
  | .glob m => .ok (.fn m) s
  | .loc i => rdLoc i s
  | _ => .bad 42
/-- what the def makes of what the lambda gives -/
def lamEnd (C : Cfg) (g n : Nat) (r : CR) (s : St) : R O := match r with
  | .bad k => .bad k
  | r => if r.pl = n then (match C.lamc r g with
    | .ok (.fz d) _ => if d.flat then .ok (.fz d) s else .bad 41
    | .ok _ _ => .bad 41
    | .ex _ _ _ => .bad 41
    | .bad k => .bad k) else .bad 43
def LIM : Nat := 16000000

def evQd (q : Sum Nat D) (s : St) : R D := match q with
  | .inl i => pkLoc i s
  | .inr d => .ok d s
def andV (f : E → St → R D) : List E → St → R D
  | [], _ => .bad 13
  | [e], s => f e s
  | e :: l, s => (f e s).bind fun d s => (ofO (truthD d) 14 s).bind fun b s => if b then andV f l s else .ok d s
def orV (f : E → St → R D) : List E → St → R D
  | [], _ => .bad 13
  | [e], s => f e s
  | e :: l, s => (f e s).bind fun d s => (ofO (truthD d) 14 s).bind fun b s => if b then .ok d s else orV f l s
def andC (f : E → St → R Bool) : List E → St → R Bool
  | [], _ => .bad 13
  | [e], s => f e s
  | e :: l, s => (f e s).bind fun b s => if b then andC f l s else .ok false s
def orC (f : E → St → R Bool) : List E → St → R Bool
  | [], _ => .bad 13
  | [e], s => f e s
  | e :: l, s => (f e s).bind fun b s => if b then .ok true s else orC f l s

mutual
def evE (C : Cfg) : Nat → E → St → R O
  | 0, _, _ => .bad 0
  | n + 1, e, s => match e with
    | .k d => .ok (.fz d) s
    | .loc i => (rdLoc i s).bind fun d s => .ok (.fz d) s
    | .glob x => (match C.glob x with
      | some (.fn _) => .ok (.fz (.fn x)) s
      | some (.val d) => .ok (.fz d) s
      | _ => .bad 20)
    | .bin op a b => (evD C n a s).bind fun x s => (evD C n b s).bind fun y s => ofO (binO op x y) 21 s
    | .neg a => (evD C n a s).bind fun x s => (match x with
      | .int i => .ok (.fz (.int (-i))) s
      | _ => .bad 22)
    | .inv a => (evD C n a s).bind fun x s => (match x with
      | .int i => .ok (.fz (.int (Builtin.bitNot i))) s
      | _ => .bad 22)
    | .not a => (evP C n a s).bind fun d s => (ofO (truthD d) 44 s).bind fun b s => .ok (.fz (.bl (!b))) s
    | .and l => (andV (evD C n) l s).bind fun d s => .ok (.fz d) s
    | .or l => (orV (evD C n) l s).bind fun d s => .ok (.fz d) s
    | .cmp a l => (match l with
      | [(c, b)] => (evQ C n a s).bind fun q s => (evP C n b s).bind fun y s => (evQd q s).bind fun x s => (ofO (cmpD c x y) 12 s).bind fun t s => .ok (.fz (.bl t)) s
      | [(c, b), (c2, b2)] => (evD C n a s).bind fun x s => (evD C n b s).bind fun y s => (ofO (cmpD c x y) 12 s).bind fun t s =>
          if t then (evD C n b2 s).bind fun z s => (ofO (cmpD c2 y z) 12 s).bind fun t s => .ok (.fz (.bl t)) s else .ok (.fz (.bl false)) s
      | _ => .bad 11)
    | .ite c a b => (evC C n c s).bind fun t s => if t then (evD C n a s).bind fun d s => .ok (.fz d) s else (evD C n b s).bind fun d s => .ok (.fz d) s
    | .tup l => (evSpl (evD C n) l s).bind fun ds s => if ds.length ≤ LIM then .ok (.fz (.tup ds)) s else .bad 23
    | .lst l => (evSpl (evD C n) l s).bind fun ds s => if ds.length ≤ LIM then .ok (.lst (ds.map .fz)) s else .bad 23
    | .dct l => (evKvs (evD C n) l s).bind fun kvs s => (ofO (dmerge [] kvs) 24 s).bind fun r s => .ok (.dct (r.map fun p => (p.1, .fz p.2))) s
    | .idx a b => (evQ C n a s).bind fun q s => (evD C n b s).bind fun y s => (evQd q s).bind fun x s => (ofO (idxD x y) 25 s).bind fun d s => .ok (.fz d) s
    | .slc a lo hi => (evQ C n a s).bind fun q s => (evPart C n lo s).bind fun l s => (evPart C n hi s).bind fun h s => (evQd q s).bind fun x s => ofO (slcO x l h) 26 s
    | .rev a => (evP C n a s).bind fun x s => ofO (revO x) 26 s
    | .lc e own gs => if C.lamr.isSome then .bad 29 else (match gs with
      | [(t, it, as, cs)] => (evDs (evD C n) as s).bind fun xs s => (ofO (itD it xs) 27 s).bind fun items s =>
        (lcLoop (fun d s => (asgT C t d (wipeO own s)).bind fun _ s => (evTests (evC C n) cs s).bind fun b s => if b then (evE C n e s).bind fun o s => .ok [o] s else .ok [] s) items s).noex.bind fun os s =>
          if os.length ≤ LIM then .ok (.lst os) (wipeO own s) else .bad 28
      | [(t, it, as, cs), (t2, it2, as2, cs2)] => (evDs (evD C n) as s).bind fun xs s => (ofO (itD it xs) 27 s).bind fun items s =>
        (lcLoop (fun d s => (asgT C t d (wipeO own s)).bind fun _ s => (evTests (evC C n) cs s).bind fun b s => if b then
          (evDs (evD C n) as2 s).bind fun xs2 s => (ofO (itD it2 xs2) 27 s).bind fun items2 s =>
            lcLoop (fun d s => (asgT C t2 d (wipeO t2.vars s)).bind fun _ s => (evTests (evC C n) cs2 s).bind fun b s => if b then (evE C n e s).bind fun o s => .ok [o] s else .ok [] s) items2 s
          else .ok [] s) items s).noex.bind fun os s =>
          if os.length ≤ LIM then .ok (.lst os) (wipeO own s) else .bad 28
      | _ => .bad 29)
    | .dc k v own gs => if C.lamr.isSome then .bad 29 else (match gs with
      | [(t, it, as, cs)] => (evDs (evD C n) as s).bind fun xs s => (ofO (itD it xs) 27 s).bind fun items s =>
        (dcLoop (fun d acc s => (asgT C t d (wipeO own s)).bind fun _ s => (evTests (evC C n) cs s).bind fun b s => if b then (evD C n k s).bind fun x s => (evD C n v s).bind fun y s => ofO (dput x y acc) 30 s else .ok acc s) items [] s).noex.bind fun r s =>
          if r.length ≤ LIM then .ok (.dct (r.map fun p => (p.1, .fz p.2))) (wipeO own s) else .bad 28
      | _ => .bad 29)
    | .call f as => (match C.glob f with
      | some (.fn fd) => if as.length = fd.np then (evArgs (evD C n) fd.io 0 as s).bind fun as s => doCall C f as s else .bad 31
      | _ => .bad 31)
    | .lcall i as => (match s[i]? with
      | some (some (.fz (.fn f))) => (match C.glob f with
        | some (.fn fd) => if as.length = fd.np then (evArgs (evD C n) fd.io 0 as s).bind fun as s => doCall C f as s else .bad 31
        | _ => .bad 31)
      | some (some (.fz .lam)) => if i = 0 then (match as, C.lamr with
        | [], some (.ok o _) => .ok o s
        | [], some (.ex c p _) => .ex c p s
        | _, _ => .bad 32) else .bad 32
      | _ => .bad 33)
    | .bi b as => (match as with
      | [a] => (evP C n a s).bind fun x s => ofO (biO b [x]) 34 s
      | _ => (evDs (evD C n) as s).bind fun xs s => ofO (biO b xs) 34 s)
    | .isi a t => (evP C n a s).bind fun x s => (ofO (isiD x t) 35 s).bind fun b s => .ok (.fz (.bl b)) s
    | .mut m i as => (match s[i]? with
      | some (some (.lst _)) => (match m, as with
      | .append, [e] => (evE C n e s).bind fun o s => (match s[i]? with
        | some (some (.lst l)) => if l.length < LIM then .ok (.fz .non) (s.set i (some (.lst (l ++ [o])))) else .bad 36
        | _ => .bad 37)
      | .extend, [e] => (evD C n e s).bind fun d s => (match d, s[i]? with
        | .lst ds, some (some (.lst l)) => if l.length + ds.length < LIM then .ok (.fz .non) (s.set i (some (.lst (l ++ ds.map .fz)))) else .bad 36
        | _, _ => .bad 37)
      | .pop0, [] => (match s[i]? with
        | some (some (.lst l)) => (match l.getLast? with
          | some o => .ok o (s.set i (some (.lst l.dropLast)))
          | none => .bad 38)
        | _ => .bad 37)
      | .pop1, [e] => (evD C n e s).bind fun d s => (match d, s[i]? with
        | .int k, some (some (.lst l)) => if LIM ≤ l.length then .bad 36 else (match ixN l.length k with
          | some j => (match l[j]? with
            | some o => .ok o (s.set i (some (.lst (l.eraseIdx j))))
            | none => .bad 38)
          | none => .bad 38)
        | _, _ => .bad 37)
      | _, _ => .bad 39)
      | _ => .bad 37)
    | .met m a as => (evQ C n a s).bind fun q s => (evDs (evD C n) as s).bind fun xs s => (evQd q s).bind fun x s => ofO (meO m x xs) 40 s
    | .lam g f as => if as.all E.flat then (fnV f s).bind fun fv s => (evDs (evD C n) as s).bind fun xs s => (match fv with
      | .fn f => (match C.glob f with
        | some (.fn fd) => if as.length = fd.np ∧ fd.io = [] then lamEnd C g xs.length (C.call f (xs.map .fz)) s else .bad 42
        | _ => .bad 42)
      | _ => .bad 42) else .bad 42
/-- the value, frozen -/
def evD (C : Cfg) : Nat → E → St → R D
  | 0, _, _ => .bad 0
  | n + 1, e, s => (evE C n e s).bind fun o s => .ok o.toD s
/-- the value, to be read at once -/
def evP (C : Cfg) : Nat → E → St → R D
  | 0, _, _ => .bad 0
  | n + 1, e, s => match e with
    | .loc i => pkLoc i s
    | _ => evD C n e s
/-- a name's value is not looked at yet -/
def evQ (C : Cfg) : Nat → E → St → R (Sum Nat D)
  | 0, _, _ => .bad 0
  | n + 1, e, s => match e with
    | .loc i => (match s[i]? with
      | some (some _) => .ok (.inl i) s
      | _ => .bad 1)
    | _ => (evD C n e s).bind fun d s => .ok (.inr d) s
def evPart (C : Cfg) : Nat → Option E → St → R (Option Int)
  | 0, _, _ => .bad 0
  | n + 1, e, s => match e with
    | none => .ok none s
    | some e => (evD C n e s).bind fun d s => (match d with
      | .int i => .ok (some i) s
      | _ => .bad 43)
def evC (C : Cfg) : Nat → E → St → R Bool
  | 0, _, _ => .bad 0
  | n + 1, e, s => match e with
    | .and l => andC (evC C n) l s
    | .or l => orC (evC C n) l s
    | .not a => (evC C n a s).bind fun b s => .ok (!b) s
    | .ite c a b => (evC C n c s).bind fun t s => if t then evC C n a s else evC C n b s
    | _ => (evP C n e s).bind fun d s => ofO (truthD d) 44 s
end

def evRep (pre : Str) (p : D) (s : St) : R Fl := match p.toP with
  | some q => if PyData.showable q = true ∧ q.shown.length ≤ 100000 ∧ q.depth ≤ 30 ∧ pre.length ≤ 100000 then .ok (.ret (.fz (.str (pre ++ q.shown)))) s else .bad 45
  | none => .bad 46
def handle (g : Nat → Option G) (c : Nat) (p : D) : List (Nat × Hk) → St → R Fl
  | [], s => .ex c p s
  | (h, k) :: l, s => if sub? g c h then (match k with
    | .ret d => .ok (.ret (.fz d)) s
    | .rep i pre => if c = h ∧ i < s.length then evRep pre p s else .bad 47) else handle g c p l s
def isExc (g : Nat → Option G) (c : Nat) : Bool := match g c with
  | some (.exc _ _) => true
  | _ => false
def WFUEL : Nat := 1000000
mutual
def evS (C : Cfg) : Nat → S → St → R Fl
  | 0, _, _ => .bad 0
  | n + 1, c, s => match c with
    | .expr e => (evE C n e s).bind fun _ s => .ok .next s
    | .asg t e => (match t with
      | .name i => (evE C n e s).bind fun o s => (stLoc C i o s).bind fun _ s => .ok .next s
      | _ => (evD C n e s).bind fun d s => (asgT C t d s).bind fun _ s => .ok .next s)
    | .par t u a b => (evD C n a s).bind fun x s => (evD C n b s).bind fun y s => (asgT C t x s).bind fun _ s => (asgT C u y s).bind fun _ s => .ok .next s
    | .seti i k e => (evD C n e s).bind fun d s => (match s[i]? with
      | some (some _) => (evD C n k s).bind fun q s => (match q, s[i]? with
        | .int z, some (some (.lst l)) => (match ixN l.length z with
          | some j => .ok .next (s.set i (some (.lst (l.set j (.fz d)))))
          | none => .bad 50)
        | _, _ => .bad 53)
      | _ => .bad 53)
    | .aug i op e => (match s[i]? with
      | some (some (.fz (.int x))) => (evD C n e s).bind fun y s => (match y with
        | .int y => (ofO (binO op (.int x) (.int y)) 54 s).bind fun o s => (stLoc C i o s).bind fun _ s => .ok .next s
        | _ => .bad 55)
      | _ => .bad 55)
    | .ife c a b => (evC C n c s).bind fun t s => if t then evSs C n a s else evSs C n b s
    | .forr t it as b => (evDs (evD C n) as s).bind fun xs s => (ofO (itD it xs) 27 s).bind fun items s =>
        forLoop (fun d s => (asgT C t d s).bind fun _ s => evSs C n b s) items s
    | .whil c b => whLoop (evC C n c) (evSs C n b) WFUEL s
    | .ret e => (match e with
      | none => .ok (.ret (.fz .non)) s
      | some (.loc i) => if C.io.contains i then (rdLoc i s).bind fun d s => .ok (.ret (.fz d)) s else (match s[i]? with
        | some (some o) => .ok (.ret o) (s.set i none)
        | _ => .bad 57)
      | some e => (evE C n e s).bind fun o s => .ok (.ret o) s)
    | .raise c e => (match e with
      | none => .ex c .non s
      | some e => (evD C n e s).bind fun d s => .ex c d s)
    | .pass => .ok .next s
    | .brk => .ok .brk s
    | .cont => .ok .cont s
    | .trye b hs => (match evSs C n b s with
      | .ok f s => .ok f s
      | .ex c p s => if isExc C.glob c then handle C.glob c p hs s else .bad 48
      | .bad k => .bad k)
def evSs (C : Cfg) : Nat → List S → St → R Fl
  | 0, _, _ => .bad 0
  | n + 1, l, s => match l with
    | [] => .ok .next s
    | c :: l => (evS C n c s).bind fun f s => (match f with
      | .next => evSs C n l s
      | f => .ok f s)
end
def DEPTH : Nat := 200
def endCR (io : List Nat) (np : Nat) (s : St) : List (Option O) := (List.range np).map fun j => if io.contains j then (s[j]?).join else none
def runFn (C : Cfg) (fd : Fn) (os : List O) : CR :=
  if os.length = fd.np then (match evSs { C with io := fd.io } DEPTH fd.body (os.map some ++ List.replicate (fd.nl - fd.np) none) with
    | .ok (.ret o) s => .ok o (endCR fd.io fd.np s)
    | .ok .next s => .ok (.fz .non) (endCR fd.io fd.np s)
    | .ok _ _ => .bad 60
    | .ex c p s => .ex c p (endCR fd.io fd.np s)
    | .bad n => .bad n) else .bad 61
def callK (glob : Nat → Option G) : Nat → Option CR → Nat → List O → CR
  | 0, _, _, _ => .bad 62
  | k + 1, lr, f, os => match glob f with
    | some (.fn fd) => runFn ⟨glob, match lr with
      | none => callK glob k none
      | some _ => fun _ _ => .bad 64, fun r g => callK glob k (some r) g [.fz .lam], lr, []⟩ fd os
    | _ => .bad 63
end VI
end

section
set_option Elab.async false
set_option linter.all false
/-! VI2: from the model's syntax to the core. -/
namespace VI
open PySem

/-- a name as a number -/
def enc (s : Str) : Nat := s.cps.foldl (fun a c => a * 256 + c) 0
inductive GK where
  | fn | val | exc0 | exc1 (f : Str) | cls
  deriving DecidableEq, Repr, Inhabited
/-- what the text's names stand for: the module's names, the built-in names that it leaves alone -/
structure Tx where
  gs : List (Str × GK)
  bs : List Str
  ls : List Str
  deriving Repr
/-- where the translation stands: the slots' names, the scope -/
structure Sc where
  tx : Tx
  N : List Str
  sc : Scope
  lm : Bool
def Sc.vis (c : Sc) (x : Str) : Bool := match c.sc.names.lookup x with
  | some .local => true
  | some .cell => true
  | some .free => true
  | _ => false
def Sc.glo (c : Sc) (x : Str) : Bool := match c.sc.names.lookup x with
  | some .globalImplicit => true
  | _ => false
def ixOf (x : Str) : List Str → Option Nat
  | [] => none
  | y :: l => if x = y then some 0 else (ixOf x l).map (· + 1)
def Sc.slot (c : Sc) (x : Str) : Option Nat := if c.vis x then ixOf x c.N else none
def Sc.glob (c : Sc) (x : Str) : Option (Nat × GK) := if c.glo x then (c.tx.gs.lookup x).map fun k => (enc x, k) else none
def Sc.blt (c : Sc) (x : Str) : Bool := c.glo x && c.tx.bs.contains x && (c.tx.gs.lookup x).isNone
def trOp : Operator → Option Op
  | .Add => some .add | .Sub => some .sub | .Mult => some .mul | .FloorDiv => some .fdiv | .Mod => some .mod | .Pow => some .pow
  | .LShift => some .shl | .RShift => some .shr | .BitAnd => some .band | .BitOr => some .bor | .BitXor => some .bxor
  | _ => none
def trCm : CmpOp → Cm
  | .Eq => .eq | .NotEq => .ne | .Lt => .lt | .LtE => .le | .Gt => .gt | .GtE => .ge | .Is => .isk | .IsNot => .isn | .In => .isin | .NotIn => .nin
def trCmps (f : Expr → Option E) : List CmpOp → List Expr → Option (List (Cm × E))
  | [], [] => some []
  | o :: os, e :: es => match f e, trCmps f os es with
    | some a, some l => some ((trCm o, a) :: l)
    | _, _ => none
  | _, _ => none
def trAll (f : Expr → Option E) : List Expr → Option (List E)
  | [] => some []
  | e :: l => match f e, trAll f l with
    | some a, some r => some (a :: r)
    | _, _ => none
def trSpl (f : Expr → Option E) : List Expr → Option (List (Bool × E))
  | [] => some []
  | .Starred e _ :: l => match f e, trSpl f l with
    | some a, some r => some ((true, a) :: r)
    | _, _ => none
  | e :: l => match f e, trSpl f l with
    | some a, some r => some ((false, a) :: r)
    | _, _ => none
def trKvs (f : Expr → Option E) : List (Option Expr) → List Expr → Option (List (E × E))
  | [], [] => some []
  | some k :: ks, v :: vs => match f k, f v, trKvs f ks vs with
    | some a, some b, some r => some ((a, b) :: r)
    | _, _, _ => none
  | _, _ => none
def isStar : Expr → Bool
  | .Starred _ _ => true
  | _ => false
def trConst : Const → Option D
  | .none => some .non
  | .bool b => some (.bl b)
  | .int i => some (.int i)
  | .str s => some (.str s)
  | _ => none
def biTab : List ((Str × Nat) × Bi) := [(("len", 1), .len), (("int", 1), .int), (("abs", 1), .abs), (("max", 2), .max2), (("min", 2), .min2), (("max", 1), .max1), (("min", 1), .min1), (("sum", 1), .sum), (("all", 1), .all), (("any", 1), .any),
  (("tuple", 1), .tuple), (("list", 1), .list), (("sorted", 1), .sorted), (("repr", 1), .repr), (("dict", 1), .dict), (("str", 1), .str)]
def biOf (x : Str) (n : Nat) : Option Bi := (biTab.find? fun t => t.1 == (x, n)).map (·.2)
def tyTab : List (Str × Ty) := [("int", .int), ("bool", .bool), ("str", .str), ("tuple", .tuple), ("list", .list), ("dict", .dict)]
def tyOf (x : Str) : Option Ty := (tyTab.find? fun t => t.1 == x).map (·.2)
def muOf (m : Str) (n : Nat) : Option Mu :=
  if m = "append" ∧ n = 1 then some .append else if m = "extend" ∧ n = 1 then some .extend else none
def meOf (m : Str) (n : Nat) : Option Me :=
  if m = "index" ∧ n = 1 then some .index else if m = "count" ∧ n = 1 then some .count else if m = "get" ∧ n = 2 then some .get2 else if m = "get" ∧ n = 1 then some .get1 else none
mutual
def trT (c : Sc) : Expr → Option T
  | .Name x _ => (match c.sc.names.lookup x with
    | some .local => (ixOf x c.N).map .name
    | some .cell => (ixOf x c.N).map .name
    | _ => none)
  | .Tuple es _ _ => (trTs c es).map .tup
  | _ => none
def trTs (c : Sc) : List Expr → Option (List T)
  | [] => some []
  | e :: l => match trT c e, trTs c l with
    | some a, some r => some (a :: r)
    | _, _ => none
end
/-- what a for walks -/
def trIt (c : Sc) (f : Expr → Option E) (e : Expr) : Option (It × List E) :=
  match e with
  | .Call (.Name x _) [a] [] _ =>
    if x = "range" ∧ c.blt x then (f a).map fun a => (.range1, [a])
    else if x = "enumerate" ∧ c.blt x then (match a with
      | .Call (.Name y _) [a1, a2] [] _ => if y = "zip" ∧ c.blt y then (match f a1, f a2 with
          | some b1, some b2 => some (.enumzip, [b1, b2])
          | _, _ => none) else (f a).map fun a => (.enum, [a])
      | _ => (f a).map fun a => (.enum, [a]))
    else (f e).map fun a => (.val, [a])
  | .Call (.Name x _) [a, b] [] _ =>
    if x = "range" ∧ c.blt x then (match f a, f b with
      | some a, some b => some (.range2, [a, b])
      | _, _ => none)
    else if x = "zip" ∧ c.blt x then (match f a, f b with
      | some a, some b => some (.zip, [a, b])
      | _, _ => none)
    else (f e).map fun a => (.val, [a])
  | .Call (.Name x _) [a, b, d] [] _ =>
    if x = "range" ∧ c.blt x then (match f a, f b, f d with
      | some a, some b, some d => some (.range3, [a, b, d])
      | _, _, _ => none)
    else (f e).map fun a => (.val, [a])
  | _ => (f e).map fun a => (.val, [a])
/-- the own names of a comprehension's block -/
def ownOf (N : List Str) (scope : Scope) : List (Str × Nat) := scope.names.filterMap fun y => match y.2 with
  | .local => (ixOf y.1 N).map fun i => (y.1, i)
  | .cell => (ixOf y.1 N).map fun i => (y.1, i)
  | _ => none
/-- what hands out pairs asks a target that takes them apart -/
def itFit (it : It) (tg : Expr) : Bool := match it, tg with
  | .enum, .Tuple _ _ _ => true
  | .zip, .Tuple _ _ _ => true
  | .enumzip, .Tuple _ _ _ => true
  | .val, _ => true
  | .range1, _ => true
  | .range2, _ => true
  | .range3, _ => true
  | _, _ => false
def trGen (c c2 : Sc) (f f2 : Expr → Option E) (g : Comprehension) : Option (T × It × List E × List E) :=
  match trT c2 g.target, trIt c f g.iter, trAll f2 g.ifs with
  | some t, some (it, as), some cs => if g.is_async = 0 ∧ cs.length ≤ 1 ∧ itFit it g.target = true then some (t, it, as, cs) else none
  | _, _, _ => none
def noArgs : Arguments → Bool
  | ⟨[], [], none, [], [], none, []⟩ => true
  | _ => false
def nmOk (x : Str) : Bool := !(x == "__debug__") && !(x == "__classdict__")
def trPart (f : Expr → Option E) : Option Expr → Option (Option E)
  | none => some none
  | some e => (f e).map some
def isOne : Expr → Bool
  | .UnaryOp .USub (.Constant (.int i) _ _) _ => i == 1
  | _ => false
def trSub (f : Expr → Option E) (a b : Expr) : Option E := match b with
  | .Slice lo hi st _ => (match st with
    | none => (match f a, trPart f lo, trPart f hi with
      | some a, some lo, some hi => some (.slc a lo hi)
      | _, _, _ => none)
    | some e => if isOne e && lo.isNone && hi.isNone then (f a).map .rev else none)
  | b => (match f a, f b with
    | some a, some b => some (.idx a b)
    | _, _ => none)
/-- a lambda -/
def lamArg : List Expr → Option (Arguments × Expr × Scope)
  | [.Lambda ps body scope _] => some (ps, body, scope)
  | _ => none
def trLam (f : Expr → Option E) (n : Nat) (body : Expr) : Option E := match f body with
  | some (.call g l) => some (.lam n (.glob g) l)
  | some (.lcall i l) => some (.lam n (.loc i) l)
  | _ => none
def setArg (c : Sc) : List Expr → Option Expr
  | [.Call (.Name y _) [b] [] _] => if y = "set" ∧ c.blt y then some b else none
  | _ => none
def isiArg (c : Sc) : List Expr → Option (Expr × Ty)
  | [a, .Name t _] => if c.blt t then (tyOf t).map fun t => (a, t) else none
  | _ => none
def trBlt (c : Sc) (f : Expr → Option E) (x : Str) (as : List Expr) : Option E :=
  if x = "isinstance" then (match isiArg c as with
    | some (a, t) => (f a).map fun a => .isi a t
    | none => none)
  else match (if x = "sorted" then setArg c as else none) with
    | some b => (f b).map fun b => .bi .sortset [b]
    | none => (match biOf x as.length, trAll f as with
      | some b, some as => some (.bi b as)
      | _, _ => none)
def trMeth (c : Sc) (f : Expr → Option E) (o : Expr) (mth : Str) (as : List Expr) : Option E := match o, as with
  | .Name y _, [a] => if nmOk y then (match c.slot y, f a with
    | some i, some a => if mth = "append" then some (.mut .append i [a]) else if mth = "extend" then some (.mut .extend i [a]) else none
    | _, _ => none) else none
  | _, _ => none
def trE : Nat → Sc → Expr → Option E
  | 0, _, _ => none
  | m + 1, c, e => match e with
    | .Constant k _ _ => (trConst k).map .k
    | .Name x _ => if nmOk x then (match c.slot x with
      | some i => some (.loc i)
      | none => (match c.glob x with
        | some (n, .fn) => some (.glob n)
        | some (n, .val) => some (.glob n)
        | _ => none)) else none
    | .BinOp a op b _ => (match trOp op, trE m c a, trE m c b with
      | some o, some a, some b => some (.bin o a b)
      | _, _, _ => none)
    | .UnaryOp op a _ => (match op, trE m c a with
      | .USub, some a => some (.neg a)
      | .Invert, some a => some (.inv a)
      | .Not, some a => some (.not a)
      | _, _ => none)
    | .BoolOp op l _ => (match op, trAll (trE m c) l with
      | .And, some l => some (.and l)
      | .Or, some l => some (.or l)
      | _, _ => none)
    | .Compare a ops cs _ => (match trE m c a, trCmps (trE m c) ops cs with
      | some a, some l => some (.cmp a l)
      | _, _ => none)
    | .IfExp t a b _ => (match trE m c t, trE m c a, trE m c b with
      | some t, some a, some b => some (.ite t a b)
      | _, _, _ => none)
    | .Tuple es _ _ => (trSpl (trE m c) es).map .tup
    | .List es _ => (trSpl (trE m c) es).map .lst
    | .Dict _ _ _ => none
    | .Subscript a b _ => trSub (trE m c) a b
    | .ListComp el gs scope _ =>
      let c2 : Sc := { c with sc := scope, lm := false }
      let own := ownOf c.N scope
      if L2.blkC c.N c.sc scope own then (match gs with
        | [g] => (match trE m c2 el, trGen c c2 (trE m c) (trE m c2) g with
          | some e, some g => some (.lc e (own.map (·.2)) [g])
          | _, _ => none)
        | [g, g2] => (match trE m c2 el, trGen c c2 (trE m c) (trE m c2) g, trGen c2 c2 (trE m c2) (trE m c2) g2 with
          | some e, some g, some g2 => some (.lc e (own.map (·.2)) [g, g2])
          | _, _, _ => none)
        | _ => none) else none
    | .Call f as kws cp => if kws.isEmpty = false ∨ as.any isStar then none else (match f with
      | .Name x _ => if nmOk x then (match c.slot x with
        | some i => (trAll (trE m c) as).map (.lcall i)
        | none => (match c.glob x with
          | some (n, .fn) => (match lamArg as with
            | some (ps, body, scope) => if LamX.lamSB c.sc scope = true ∧ noArgs ps = true ∧ c.lm = true ∧ c.tx.ls.contains x = true then
                trLam (trE m { c with sc := scope, lm := false }) n body else none
            | none => (trAll (trE m c) as).map (.call n))
          | some _ => none
          | none => if c.blt x then trBlt c (trE m c) x as else none)) else none
      | .Attribute o mth ap => if (ap.endLine == cp.line) = true then trMeth c (trE m c) o mth as else none
      | _ => none)
    | _ => none
/-- an except clause: the class' field, the name bound, the body -/
def trHk (c : Sc) (fld : Option Str) (n : Option Str) (body : List Stmt) : Option Hk :=
  match n, body with
  | none, [.Return (some (.Constant k _ _)) _] => (trConst k).map .ret
  | some n, [.Return (some (.BinOp (.Constant (.str pre) _ _) .Add (.Call (.Name r _) [.Attribute (.Name y _) at_ _] [] _) _)) _] => if r = "repr" ∧ c.blt r ∧ n = y ∧ fld = some at_ ∧ nmOk y = true ∧ c.sc.names.lookup y = some .local then (ixOf y c.N).map fun i => .rep i pre else none
  | _, _ => none
def trHs (c : Sc) : List ExceptHandler → Option (List (Nat × Hk))
  | [] => some []
  | .ExceptHandler (some (.Name x _)) n body _ :: l => if nmOk x then (match c.glob x, trHs c l with
    | some (h, .exc0), some r => (trHk c none n body).map fun k => (h, k) :: r
    | some (h, .exc1 f), some r => (trHk c (some f) n body).map fun k => (h, k) :: r
    | _, _ => none) else none
  | _ => none
def trAllS (f : Stmt → Option S) : List Stmt → Option (List S)
  | [] => some []
  | e :: l => match f e, trAllS f l with
    | some a, some r => some (a :: r)
    | _, _ => none
def noSl : Expr → Bool
  | .Slice _ _ _ _ => false
  | _ => true
def isTup : Expr → Bool
  | .Tuple _ _ _ => true
  | .List _ _ => true
  | _ => false
/-- x, y = a, b that is stored from the right -/
def parArg (c : Sc) (t e : Expr) : Option (Nat × Nat × Expr × Expr) := match t, e with
  | .Tuple [.Name x px, .Name y py] _ _, .Tuple [a, b] _ _ =>
    if c.sc.names.lookup x = some .local ∧ c.sc.names.lookup y = some .local ∧ py.line = px.line ∧ x ≠ y ∧ isStar a = false ∧ isStar b = false ∧ ([a, b].all (foldedForSure 8)) = false ∧ ([a, b].all (constantsAlone 8)) = false then
      (match ixOf x c.N, ixOf y c.N with
      | some i, some j => some (i, j, a, b)
      | _, _ => none) else none
  | _, _ => none
def isCompr : Expr → Bool
  | .ListComp _ _ _ _ => true
  | .DictComp _ _ _ _ _ => true
  | .SetComp _ _ _ _ => true
  | _ => false
def subT : Expr → Option (Str × Expr)
  | .Subscript (.Name x _) k _ => if noSl k && nmOk x then some (x, k) else none
  | _ => none
def isSub : Expr → Bool
  | .Subscript _ _ _ => true
  | _ => false
def trAsg (c : Sc) (f : Expr → Option E) (t e : Expr) : Option S := match subT t with
  | some (x, k) => (match c.slot x, f k, f e with
    | some i, some k, some e => some (.seti i k e)
    | _, _, _ => none)
  | none => (match parArg c t e with
    | some (i, j, a, b) => (match f a, f b with
      | some a, some b => some (.par (.name i) (.name j) a b)
      | _, _ => none)
    | none => if isTup t && isTup e then none else (match trT c t, f e with
      | some t, some e => some (.asg t e)
      | _, _ => none))
def trRaise (c : Sc) (f : Expr → Option E) (x : Str) (as : List Expr) : Option S := match c.glob x, as with
  | some (n, .exc0), [.Constant (.str _) _ _] => some (.raise n none)
  | some (n, .exc1 _), [e] => (f e).map fun e => .raise n (some e)
  | _, _ => none
def trAug (c : Sc) (f : Expr → Option E) (t : Expr) (op : Operator) (e : Expr) : Option S := match trT c t, op, f e with
  | some (.name i), .Add, some e => some (.aug i .add e)
  | some (.name i), .Sub, some e => some (.aug i .sub e)
  | _, _, _ => none
def trS : Nat → Sc → Stmt → Option S
  | 0, _, _ => none
  | m + 1, c, s => match s with
    | .Expr e _ => if isCompr e then none else (trE m c e).map .expr
    | .Assign [t] e _ => trAsg c (trE (m + 1) c) t e
    | .AugAssign t op e _ => trAug c (trE m c) t op e
    | .If t a b _ => (match trE m c t, trAllS (trS m c) a, trAllS (trS m c) b with
      | some t, some a, some b => some (.ife t a b)
      | _, _, _ => none)
    | .For t it b [] _ => (match trT c t, trIt c (trE m c) it, trAllS (trS m c) b with
      | some t', some (it, as), some b => if itFit it t = true then some (.forr t' it as b) else none
      | _, _, _ => none)
    | .While t b [] _ => (match trE m c t, trAllS (trS m c) b with
      | some t, some b => some (.whil t b)
      | _, _ => none)
    | .Return none _ => some (.ret none)
    | .Return (some e) _ => (trE m c e).map fun e => .ret (some e)
    | .Raise (some (.Call (.Name x _) as [] _)) none _ => if nmOk x then trRaise c (trE m c) x as else none
    | .Try b (h :: hs) [] [] _ => (match trAllS (trS m c) b, trHs c (h :: hs) with
      | some b, some hs => some (.trye b hs)
      | _, _ => none)
    | .Pass _ => some .pass
    | .Break _ => some .brk
    | .Continue _ => some .cont
    | _ => none
/-- the names of all slots: parameters, the scope's other names, those of the comprehensions in it -/
def addN (x : Str) (l : List Str) : List Str := if l.contains x then l else l ++ [x]
def scopeNs (sc : Scope) : List Str := sc.names.filterMap fun y => match y.2 with
  | .local => some y.1
  | .cell => some y.1
  | _ => none
def compNs : Nat → Expr → List Str
  | 0, _ => []
  | m + 1, e => match e with
    | .BoolOp _ l _ => l.flatMap (compNs m)
    | .BinOp a _ b _ => compNs m a ++ compNs m b
    | .UnaryOp _ a _ => compNs m a
    | .IfExp a b d _ => compNs m a ++ compNs m b ++ compNs m d
    | .Dict ks vs _ => (ks.flatMap fun k => match k with | some k => compNs m k | none => []) ++ vs.flatMap (compNs m)
    | .ListComp el gs sc _ => scopeNs sc ++ compNs m el ++ gs.flatMap fun g => compNs m g.iter ++ g.ifs.flatMap (compNs m)
    | .DictComp k v gs sc _ => scopeNs sc ++ compNs m k ++ compNs m v ++ gs.flatMap fun g => compNs m g.iter ++ g.ifs.flatMap (compNs m)
    | .Compare a _ cs _ => compNs m a ++ cs.flatMap (compNs m)
    | .Call f as _ _ => compNs m f ++ as.flatMap (compNs m)
    | .Attribute o _ _ => compNs m o
    | .Subscript a b _ => compNs m a ++ compNs m b
    | .Starred a _ => compNs m a
    | .List es _ => es.flatMap (compNs m)
    | .Tuple es _ _ => es.flatMap (compNs m)
    | .Slice a b d _ => (match a with | some a => compNs m a | none => []) ++ (match b with | some a => compNs m a | none => []) ++ (match d with | some a => compNs m a | none => [])
    | _ => []
def compNsS : Nat → Stmt → List Str
  | 0, _ => []
  | m + 1, s => match s with
    | .Expr e _ => compNs m e
    | .Assign ts e _ => ts.flatMap (compNs m) ++ compNs m e
    | .AugAssign _ _ e _ => compNs m e
    | .If t a b _ => compNs m t ++ a.flatMap (compNsS m) ++ b.flatMap (compNsS m)
    | .For _ it b _ _ => compNs m it ++ b.flatMap (compNsS m)
    | .While t b _ _ => compNs m t ++ b.flatMap (compNsS m)
    | .Return (some e) _ => compNs m e
    | .Raise (some e) _ _ => compNs m e
    | .Try b _ _ _ _ => b.flatMap (compNsS m)
    | _ => []
def paramsOf (s : Stmt) : List Str := (L2.defArgs s).args.map (·.arg)
def slotsOf (s : Stmt) : List Str :=
  ((scopeNs (L2.defScope s) ++ (L2.defBody s).flatMap (compNsS 60)).filter fun x => x != Str.ofString ".0").foldl (fun l x => addN x l) (paramsOf s)
/-- slots that the body assigns -/
def asgsT : T → List Nat
  | .name i => [i]
  | .tup l => l.attach.flatMap fun ⟨t, _⟩ => asgsT t
  | _ => []
def trFn (tx : Tx) (io : List Nat) (lm : Bool) (s : Stmt) : Option Fn :=
  let N := slotsOf s
  (trAllS (trS 60 ⟨tx, N, L2.defScope s, lm⟩) (L2.defBody s)).map fun b => ⟨(paramsOf s).length, N.length, io, b⟩
end VI
end

section
set_option Elab.async false
set_option linter.all false
/-! VI3: what data stands for in the abstract heap. -/
namespace VI
open PySem PySem.Spec PyProof.Rows L2

/-- where things stand: the written part, the defs, the lambda at hand, the errors' classes -/
structure Pl where
  K : PySem.W.Frag
  fn : Nat → Addr
  lam : Addr → Prop
  exc : Nat → Addr
  fld : Nat → Option Str
  T : List (Addr × Str)
  Z0 : Hp
  B : Hp

mutual
def RD (p : Pl) (Z : Hp) : D → V → Prop
  | .non, v => v = .non
  | .bl b, v => v = .bl b
  | .int i, v => v = .int i
  | .str s, v => v = .str s
  | .tup ds, v => ∃ a xs, v = .ref a ∧ SqT p.K Z a xs ∧ RDs p Z ds xs
  | .lst ds, v => ∃ a xs, v = .ref a ∧ Z a = some (.lst xs) ∧ RDs p Z ds xs
  | .dct kvs, v => ∃ a, v = .ref a ∧ kvs = [] ∧ (Z a = some (.dK []) ∨ Z a = some (.dT []))
  | .set _, _ => False
  | .ins _ _, _ => False
  | .fn f, v => v = .ref (p.fn f)
  | .lam, v => ∃ a, v = .ref a ∧ p.lam a
  | .scr ns, v => ∃ a, v = .ref a ∧ SqL p.K Z a (ns.map V.int)
def RDs (p : Pl) (Z : Hp) : List D → List V → Prop
  | [], xs => xs = []
  | d :: ds, xs => ∃ v r, xs = v :: r ∧ RD p Z d v ∧ RDs p Z ds r
end
/-- what was frozen stays so -/
def Le (Z Z' : Hp) : Prop := ∀ a o, Z a = some o → Z' a = some o
theorem Le.rfl' {Z : Hp} : Le Z Z := fun _ _ h => h
theorem Le.tr {Z Z1 Z2 : Hp} (x : Le Z Z1) (y : Le Z1 Z2) : Le Z Z2 := fun a o h => y a o (x a o h)
theorem Le.rd {Z Z' : Hp} (l : Le Z Z') {a : Addr} {u : HO} (h : Rd Z a u) : Rd Z' a u := by
  rcases h with h | ⟨o, h⟩
  · exact .inl (l _ _ h)
  · exact .inr ⟨o, l _ _ h⟩
theorem Le.sqT {K : PySem.W.Frag} {Z Z' : Hp} (l : Le Z Z') {a : Addr} {xs : List V} (h : SqT K Z a xs) : SqT K Z' a xs := h.imp l.rd id
theorem Le.sqL {K : PySem.W.Frag} {Z Z' : Hp} (l : Le Z Z') {a : Addr} {xs : List V} (h : SqL K Z a xs) : SqL K Z' a xs := h.imp l.rd id
mutual
theorem RD.le {p : Pl} {Z Z' : Hp} (l : Le Z Z') : ∀ {d : D} {v : V}, RD p Z d v → RD p Z' d v
  | .non, _, h => h
  | .bl _, _, h => h
  | .int _, _, h => h
  | .str _, _, h => h
  | .tup ds, v, h => by
    unfold RD at h ⊢
    obtain ⟨a, xs, e, q, r⟩ := h
    exact ⟨a, xs, e, l.sqT q, RDs.le l r⟩
  | .lst ds, v, h => by
    unfold RD at h ⊢
    obtain ⟨a, xs, e, q, r⟩ := h
    exact ⟨a, xs, e, l _ _ q, RDs.le l r⟩
  | .dct kvs, v, h => by
    unfold RD at h ⊢
    obtain ⟨a, e, n, q⟩ := h
    exact ⟨a, e, n, q.imp (l _ _) (l _ _)⟩
  | .set _, _, h => h
  | .ins _ _, _, h => h
  | .fn _, _, h => h
  | .lam, _, h => h
  | .scr _, _, h => by
    unfold RD at h ⊢
    obtain ⟨a, e, q⟩ := h
    exact ⟨a, e, l.sqL q⟩
theorem RDs.le {p : Pl} {Z Z' : Hp} (l : Le Z Z') : ∀ {ds : List D} {xs : List V}, RDs p Z ds xs → RDs p Z' ds xs
  | [], _, h => h
  | d :: ds, xs, h => by
    unfold RDs at h ⊢
    obtain ⟨v, r, e, q, t⟩ := h
    exact ⟨v, r, e, RD.le l q, RDs.le l t⟩
end
section
variable {p : Pl} {Z : Hp}
theorem RDs.nil : RDs p Z [] [] := by unfold RDs; rfl
theorem RDs.cons {d : D} {v : V} {ds : List D} {vs : List V} (h : RD p Z d v) (t : RDs p Z ds vs) : RDs p Z (d :: ds) (v :: vs) := by
  unfold RDs
  exact ⟨v, vs, rfl, h, t⟩
theorem RDs.len : ∀ {ds : List D} {xs : List V}, RDs p Z ds xs → ds.length = xs.length
  | [], _, h => by unfold RDs at h; subst h; rfl
  | d :: ds, _, h => by
    unfold RDs at h
    obtain ⟨v, r, rfl, _, t⟩ := h
    simp [RDs.len t]
theorem RDs.get : ∀ {ds : List D} {xs : List V} {i : Nat} {d : D}, RDs p Z ds xs → ds[i]? = some d → ∃ v, xs[i]? = some v ∧ RD p Z d v
  | [], _, _, _, _, e => by simp at e
  | d :: ds, _, 0, d', h, e => by
    unfold RDs at h
    obtain ⟨v, r, rfl, q, _⟩ := h
    simp at e
    subst e
    exact ⟨v, rfl, q⟩
  | d :: ds, _, i + 1, d', h, e => by
    unfold RDs at h
    obtain ⟨v, r, rfl, _, t⟩ := h
    obtain ⟨w, h1, h2⟩ := RDs.get (i := i) t (by simpa using e)
    exact ⟨w, by simpa using h1, h2⟩
theorem RDs.getR : ∀ {ds : List D} {xs : List V} {i : Nat} {v : V}, RDs p Z ds xs → xs[i]? = some v → ∃ d, ds[i]? = some d ∧ RD p Z d v := fun {ds xs i v} h e => by
  have l := h.len
  have hi : i < xs.length := (List.getElem?_eq_some_iff.mp e).1
  obtain ⟨w, h1, h2⟩ := h.get (i := i) (d := ds[i]'(by omega)) (List.getElem?_eq_getElem _)
  rw [h1] at e
  cases e
  exact ⟨_, List.getElem?_eq_getElem _, h2⟩
theorem RDs.app : ∀ {ds es : List D} {xs ys : List V}, RDs p Z ds xs → RDs p Z es ys → RDs p Z (ds ++ es) (xs ++ ys)
  | [], _, _, _, h, t => by unfold RDs at h; subst h; exact t
  | d :: ds, es, _, ys, h, t => by
    unfold RDs at h
    obtain ⟨v, r, rfl, q, u⟩ := h
    exact RDs.cons q (u.app t)
theorem RDs.take : ∀ (n : Nat) {ds : List D} {xs : List V}, RDs p Z ds xs → RDs p Z (ds.take n) (xs.take n)
  | 0, _, _, _ => by simpa using RDs.nil
  | n + 1, [], _, h => by unfold RDs at h; subst h; exact RDs.nil
  | n + 1, d :: ds, _, h => by
    unfold RDs at h
    obtain ⟨v, r, rfl, q, u⟩ := h
    exact RDs.cons q (u.take n)
theorem RDs.drop : ∀ (n : Nat) {ds : List D} {xs : List V}, RDs p Z ds xs → RDs p Z (ds.drop n) (xs.drop n)
  | 0, _, _, h => by simpa using h
  | n + 1, [], _, h => by unfold RDs at h; subst h; exact RDs.nil
  | n + 1, d :: ds, _, h => by
    unfold RDs at h
    obtain ⟨v, r, rfl, q, u⟩ := h
    exact u.drop n
theorem RDs.reverse : ∀ {ds : List D} {xs : List V}, RDs p Z ds xs → RDs p Z ds.reverse xs.reverse
  | [], _, h => by unfold RDs at h; subst h; exact RDs.nil
  | d :: ds, _, h => by
    unfold RDs at h
    obtain ⟨v, r, rfl, q, u⟩ := h
    simp only [List.reverse_cons]
    exact u.reverse.app (RDs.cons q RDs.nil)
theorem RDs.ints : ∀ {ds : List D} {xs : List V} {ns : List Int}, RDs p Z ds xs → intsOf ds = some ns → xs = ns.map V.int
  | [], _, _, h, e => by
    unfold RDs at h
    subst h
    simp [intsOf] at e
    subst e
    rfl
  | .int i :: ds, _, ns, h, e => by
    unfold RDs at h
    obtain ⟨v, r, rfl, q, u⟩ := h
    simp only [intsOf, Option.map_eq_some_iff] at e
    obtain ⟨m, hm, rfl⟩ := e
    have q' : v = .int i := by simpa [RD] using q
    rw [u.ints hm, q']
    rfl
  | .non :: _, _, _, _, e => by simp [intsOf] at e
  | .bl _ :: _, _, _, _, e => by simp [intsOf] at e
  | .str _ :: _, _, _, _, e => by simp [intsOf] at e
  | .tup _ :: _, _, _, _, e => by simp [intsOf] at e
  | .lst _ :: _, _, _, _, e => by simp [intsOf] at e
  | .dct _ :: _, _, _, _, e => by simp [intsOf] at e
  | .set _ :: _, _, _, _, e => by simp [intsOf] at e
  | .ins _ _ :: _, _, _, _, e => by simp [intsOf] at e
  | .fn _ :: _, _, _, _, e => by simp [intsOf] at e
  | .lam :: _, _, _, _, e => by simp [intsOf] at e
  | .scr _ :: _, _, _, _, e => by simp [intsOf] at e
theorem rd_ints : ∀ ns : List Int, RDs p Z (ns.map D.int) (ns.map V.int)
  | [] => RDs.nil
  | n :: ns => RDs.cons (by simp [RD]) (rd_ints ns)
end

/-! ### owned data -/
mutual
/-- F: the addresses of what is owned -/
def RO (p : Pl) (Z H : Hp) : O → V → List Addr → Prop
  | .fz d, v, F => RD p Z d v ∧ F = []
  | .lst os, v, F => ∃ a xs G, v = .ref a ∧ H a = some (.lst xs) ∧ ROs p Z H os xs G ∧ F = a :: G
  | .dct kvs, v, F => ∃ a, v = .ref a ∧ kvs = [] ∧ H a = some (.dK []) ∧ F = [a]
  | .ins _ _, _, _ => False
def ROs (p : Pl) (Z H : Hp) : List O → List V → List Addr → Prop
  | [], xs, F => xs = [] ∧ F = []
  | o :: os, xs, F => ∃ v r F1 F2, xs = v :: r ∧ RO p Z H o v F1 ∧ ROs p Z H os r F2 ∧ F = F1 ++ F2
end
mutual
theorem RO.le {p : Pl} {Z Z' H H' : Hp} (l : Le Z Z') : ∀ {o : O} {v : V} {F : List Addr}, RO p Z H o v F → (∀ a ∈ F, H' a = H a) → RO p Z' H' o v F
  | .fz d, v, F, h, _ => by
    unfold RO at h ⊢
    exact ⟨RD.le l h.1, h.2⟩
  | .lst os, v, F, h, k => by
    unfold RO at h ⊢
    obtain ⟨a, xs, G, e, q, r, rfl⟩ := h
    exact ⟨a, xs, G, e, (k a List.mem_cons_self).trans q, ROs.le l r fun b hb => k b (List.mem_cons_of_mem _ hb), rfl⟩
  | .dct kvs, v, F, h, k => by
    unfold RO at h ⊢
    obtain ⟨a, e, n, q, rfl⟩ := h
    exact ⟨a, e, n, (k a List.mem_cons_self).trans q, rfl⟩
  | .ins _ _, _, _, h, _ => by
    unfold RO at h
    exact h.elim
theorem ROs.le {p : Pl} {Z Z' H H' : Hp} (l : Le Z Z') : ∀ {os : List O} {xs : List V} {F : List Addr}, ROs p Z H os xs F → (∀ a ∈ F, H' a = H a) → ROs p Z' H' os xs F
  | [], _, _, h, _ => by
    unfold ROs at h ⊢
    exact h
  | o :: os, xs, F, h, k => by
    unfold ROs at h ⊢
    obtain ⟨v, r, F1, F2, e, q, t, rfl⟩ := h
    exact ⟨v, r, F1, F2, e, RO.le l q fun a ha => k a (List.mem_append_left _ ha), ROs.le l t fun a ha => k a (List.mem_append_right _ ha), rfl⟩
end
/-- what is owned: a list, a dict -/
def Ow : HO → Prop
  | .lst _ => True
  | .dK _ => True
  | .dT _ => True
  | _ => False
def NT (o : HO) : Prop := ∀ ps, o ≠ .tbl ps
theorem Ow.nt {o : HO} (h : Ow o) : NT o := fun ps e => by
  subst e
  exact h
theorem Ow.mut {o : HO} (h : Ow o) : Mut (some o) := by
  cases o <;> first | trivial | exact h.elim
mutual
theorem RO.there {p : Pl} {Z H : Hp} : ∀ {o : O} {v : V} {F : List Addr}, RO p Z H o v F → ∀ a ∈ F, ∃ u, H a = some u ∧ Ow u
  | .fz d, v, F, h => by
    unfold RO at h
    rw [h.2]
    intro a ha
    cases ha
  | .lst os, v, F, h => by
    unfold RO at h
    obtain ⟨a, xs, G, e, q, r, rfl⟩ := h
    intro b hb
    rcases List.mem_cons.mp hb with rfl | hb
    · exact ⟨_, q, trivial⟩
    · exact ROs.there r b hb
  | .dct kvs, v, F, h => by
    unfold RO at h
    obtain ⟨a, e, n, q, rfl⟩ := h
    intro b hb
    rcases List.mem_cons.mp hb with rfl | hb
    · exact ⟨_, q, trivial⟩
    · cases hb
  | .ins _ _, _, _, h => by
    unfold RO at h
    exact h.elim
theorem ROs.there {p : Pl} {Z H : Hp} : ∀ {os : List O} {xs : List V} {F : List Addr}, ROs p Z H os xs F → ∀ a ∈ F, ∃ u, H a = some u ∧ Ow u
  | [], _, _, h => by
    unfold ROs at h
    rw [h.2]
    intro a ha
    cases ha
  | o :: os, xs, F, h => by
    unfold ROs at h
    obtain ⟨v, r, F1, F2, e, q, t, rfl⟩ := h
    intro a ha
    rcases List.mem_append.mp ha with ha | ha
    · exact RO.there q a ha
    · exact ROs.there t a ha
end
/-- what is owned at F is frozen -/
def frz (Z H : Hp) (F : List Addr) : Hp := fun a => if a ∈ F then H a else Z a
theorem le_frz {Z H : Hp} {F : List Addr} (n : ∀ a ∈ F, Z a = none) : Le Z (frz Z H F) := fun a o h => by
  unfold frz
  by_cases ha : a ∈ F
  · rw [n a ha] at h
    cases h
  · rw [if_neg ha]
    exact h
theorem frz_in {Z H : Hp} {F : List Addr} {a : Addr} (h : a ∈ F) : frz Z H F a = H a := by unfold frz; rw [if_pos h]
theorem frz_out {Z H : Hp} {F : List Addr} {a : Addr} (h : a ∉ F) : frz Z H F a = Z a := by unfold frz; rw [if_neg h]
mutual
theorem RO.frz {p : Pl} {Z H : Hp} {W : Hp} (l : Le Z W) : ∀ {o : O} {v : V} {F : List Addr}, RO p Z H o v F → (∀ a ∈ F, W a = H a) → RD p W o.toD v
  | .fz d, v, F, h, _ => by
    unfold RO at h
    unfold O.toD
    exact RD.le l h.1
  | .lst os, v, F, h, k => by
    unfold RO at h
    obtain ⟨a, xs, G, e, q, r, rfl⟩ := h
    unfold O.toD RD
    exact ⟨a, xs, e, (k a List.mem_cons_self).trans q, ROs.frz l r fun b hb => k b (List.mem_cons_of_mem _ hb)⟩
  | .dct kvs, v, F, h, k => by
    unfold RO at h
    obtain ⟨a, e, rfl, q, rfl⟩ := h
    simp only [O.toD, O.toDk]
    unfold RD
    exact ⟨a, e, rfl, .inl ((k a List.mem_cons_self).trans q)⟩
  | .ins _ _, _, _, h, _ => by
    unfold RO at h
    exact h.elim
theorem ROs.frz {p : Pl} {Z H : Hp} {W : Hp} (l : Le Z W) : ∀ {os : List O} {xs : List V} {F : List Addr}, ROs p Z H os xs F → (∀ a ∈ F, W a = H a) → RDs p W (O.toDs os) xs
  | [], _, _, h, _ => by
    unfold ROs at h
    rw [h.1]
    unfold O.toDs
    exact RDs.nil
  | o :: os, xs, F, h, k => by
    unfold ROs at h
    obtain ⟨v, r, F1, F2, rfl, q, t, rfl⟩ := h
    unfold O.toDs
    exact RDs.cons (RO.frz l q fun a ha => k a (List.mem_append_left _ ha)) (ROs.frz l t fun a ha => k a (List.mem_append_right _ ha))
end
theorem RO.fz {p : Pl} {Z H : Hp} {d : D} {v : V} (h : RD p Z d v) : RO p Z H (.fz d) v [] := by
  unfold RO
  exact ⟨h, rfl⟩
theorem RO.of_fz {p : Pl} {Z H : Hp} {d : D} {v : V} {F : List Addr} (h : RO p Z H (.fz d) v F) : RD p Z d v ∧ F = [] := by
  unfold RO at h
  exact h
theorem ros_map {p : Pl} {Z H : Hp} : ∀ {ds : List D} {xs : List V}, RDs p Z ds xs → ROs p Z H (ds.map .fz) xs []
  | [], _, h => by
    unfold RDs at h
    subst h
    unfold ROs
    exact ⟨rfl, rfl⟩
  | d :: ds, _, h => by
    unfold RDs at h
    obtain ⟨v, r, rfl, q, u⟩ := h
    rw [List.map_cons]
    unfold ROs
    exact ⟨v, r, [], [], rfl, RO.fz q, ros_map u, rfl⟩
theorem of_ros_map {p : Pl} {Z H : Hp} : ∀ {ds : List D} {xs : List V} {F : List Addr}, ROs p Z H (ds.map .fz) xs F → RDs p Z ds xs ∧ F = []
  | [], _, _, h => by
    rw [List.map_nil] at h
    unfold ROs at h
    rw [h.1, h.2]
    exact ⟨RDs.nil, rfl⟩
  | d :: ds, _, _, h => by
    rw [List.map_cons] at h
    unfold ROs at h
    obtain ⟨v, r, F1, F2, rfl, q, t, rfl⟩ := h
    obtain ⟨h1, rfl⟩ := q.of_fz
    obtain ⟨h2, rfl⟩ := of_ros_map t
    exact ⟨RDs.cons h1 h2, rfl⟩
theorem ROs.len {p : Pl} {Z H : Hp} : ∀ {os : List O} {xs : List V} {F : List Addr}, ROs p Z H os xs F → os.length = xs.length
  | [], _, _, h => by unfold ROs at h; rw [h.1]; rfl
  | o :: os, _, _, h => by
    unfold ROs at h
    obtain ⟨v, r, F1, F2, rfl, _, t, _⟩ := h
    simp [ROs.len t]
theorem ROs.nil {p : Pl} {Z H : Hp} : ROs p Z H [] [] [] := by unfold ROs; exact ⟨rfl, rfl⟩
theorem ROs.cons {p : Pl} {Z H : Hp} {o : O} {os : List O} {v : V} {vs : List V} {F G : List Addr} (h : RO p Z H o v F) (t : ROs p Z H os vs G) : ROs p Z H (o :: os) (v :: vs) (F ++ G) := by
  unfold ROs
  exact ⟨v, vs, F, G, rfl, h, t, rfl⟩
theorem ROs.app {p : Pl} {Z H : Hp} : ∀ {os us : List O} {xs ys : List V} {F G : List Addr}, ROs p Z H os xs F → ROs p Z H us ys G → ROs p Z H (os ++ us) (xs ++ ys) (F ++ G)
  | [], us, _, ys, _, G, h, t => by
    unfold ROs at h
    rw [h.1, h.2]
    exact t
  | o :: os, us, _, ys, _, G, h, t => by
    unfold ROs at h
    obtain ⟨v, r, F1, F2, rfl, q, u, rfl⟩ := h
    rw [List.append_assoc]
    exact ROs.cons q (u.app t)
/-- an item, and the rest with another one in its place -/
theorem ROs.at {p : Pl} {Z H : Hp} : ∀ {os : List O} {xs : List V} {F : List Addr} {i : Nat} {o : O}, ROs p Z H os xs F → os[i]? = some o →
    ∃ v A B C, xs[i]? = some v ∧ F = A ++ (B ++ C) ∧ RO p Z H o v B ∧ ∀ o' v' B', RO p Z H o' v' B' → ROs p Z H (os.set i o') (xs.set i v') (A ++ (B' ++ C))
  | [], _, _, _, _, _, e => by simp at e
  | u :: os, _, _, 0, o, h, e => by
    unfold ROs at h
    obtain ⟨v, r, F1, F2, rfl, q, t, rfl⟩ := h
    simp at e
    subst e
    exact ⟨v, [], F1, F2, rfl, rfl, q, fun o' v' B' h' => (ROs.cons h' t : ROs p Z H (o' :: os) (v' :: r) (B' ++ F2))⟩
  | u :: os, _, _, i + 1, o, h, e => by
    unfold ROs at h
    obtain ⟨v, r, F1, F2, rfl, q, t, rfl⟩ := h
    obtain ⟨w, A, B, C, h1, rfl, h3, h4⟩ := ROs.at (i := i) t (by simpa using e)
    refine ⟨w, F1 ++ A, B, C, by simpa using h1, by rw [List.append_assoc], h3, fun o' v' B' h' => ?_⟩
    rw [List.append_assoc]
    exact ROs.cons q (h4 o' v' B' h')

/-! ### slots -/
inductive SL (p : Pl) (Z H : Hp) : List (Option O) → List (Option V) → List (List Addr) → Prop where
  | nil : SL p Z H [] [] []
  | skip {ρ : List (Option O)} {x : Option V} {σ : List (Option V)} {Fs : List (List Addr)} : SL p Z H ρ σ Fs → SL p Z H (none :: ρ) (x :: σ) ([] :: Fs)
  | cons {o : O} {ρ : List (Option O)} {v : V} {σ : List (Option V)} {F : List Addr} {Fs : List (List Addr)} : RO p Z H o v F → SL p Z H ρ σ Fs → SL p Z H (some o :: ρ) (some v :: σ) (F :: Fs)
theorem SL.le {p : Pl} {Z Z' H H' : Hp} (l : Le Z Z') : ∀ {ρ : List (Option O)} {σ : List (Option V)} {Fs : List (List Addr)}, SL p Z H ρ σ Fs → (∀ a ∈ Fs.flatten, H' a = H a) → SL p Z' H' ρ σ Fs
  | _, _, _, .nil, _ => .nil
  | _, _, _, .skip t, k => .skip (SL.le l t fun a ha => k a (by simpa using ha))
  | _, _, _, .cons q t, k => .cons (q.le l fun a ha => k a (by rw [List.flatten_cons]; exact List.mem_append_left _ ha)) (SL.le l t fun a ha => k a (by rw [List.flatten_cons]; exact List.mem_append_right _ ha))
theorem SL.there {p : Pl} {Z H : Hp} : ∀ {ρ : List (Option O)} {σ : List (Option V)} {Fs : List (List Addr)}, SL p Z H ρ σ Fs → ∀ a ∈ Fs.flatten, ∃ u, H a = some u ∧ Ow u
  | _, _, _, .nil, a, ha => by simp at ha
  | _, _, _, .skip t, a, ha => SL.there t a (by simpa using ha)
  | _, _, _, .cons q t, a, ha => by
    rw [List.flatten_cons] at ha
    rcases List.mem_append.mp ha with ha | ha
    · exact q.there a ha
    · exact SL.there t a ha
theorem SL.len {p : Pl} {Z H : Hp} : ∀ {ρ : List (Option O)} {σ : List (Option V)} {Fs : List (List Addr)}, SL p Z H ρ σ Fs → ρ.length = σ.length ∧ Fs.length = σ.length
  | _, _, _, .nil => ⟨rfl, rfl⟩
  | _, _, _, .skip t => by
    obtain ⟨h1, h2⟩ := SL.len t
    exact ⟨by simp [h1], by simp [h2]⟩
  | _, _, _, .cons q t => by
    obtain ⟨h1, h2⟩ := SL.len t
    exact ⟨by simp [h1], by simp [h2]⟩
/-- the slot i taken out: what it owned is B; the others own A and C; another value may come in its place, at a later heap -/
structure Hole (p : Pl) (Z H : Hp) (ρ : List (Option O)) (σ : List (Option V)) (i : Nat) (A C : List Addr) : Prop where
  put : ∀ Z' H', Le Z Z' → (∀ a ∈ A ++ C, H' a = H a) → ∀ o' v' B', RO p Z' H' o' v' B' → ∃ Gs, List.flatten Gs = A ++ (B' ++ C) ∧ SL p Z' H' (ρ.set i (some o')) (σ.set i (some v')) Gs
  out : ∀ Z' H', Le Z Z' → (∀ a ∈ A ++ C, H' a = H a) → ∀ x, ∃ Gs, List.flatten Gs = A ++ C ∧ SL p Z' H' (ρ.set i none) (σ.set i x) Gs
theorem Hole.zero {p : Pl} {Z H : Hp} {x : Option O} {y : Option V} {ρ : List (Option O)} {σ : List (Option V)} {Fs : List (List Addr)} (t : SL p Z H ρ σ Fs) : Hole p Z H (x :: ρ) (y :: σ) 0 [] (List.flatten Fs) :=
  ⟨fun Z' H' l k o' v' B' h => ⟨B' :: Fs, rfl, .cons h (t.le l k)⟩, fun Z' H' l k x => ⟨[] :: Fs, rfl, .skip (t.le l k)⟩⟩
theorem Hole.skip {p : Pl} {Z H : Hp} {y : Option V} {ρ : List (Option O)} {σ : List (Option V)} {i : Nat} {A C : List Addr} (h : Hole p Z H ρ σ i A C) : Hole p Z H (none :: ρ) (y :: σ) (i + 1) A C :=
  ⟨fun Z' H' l k o' v' B' q => let ⟨Gs, g1, g2⟩ := h.put Z' H' l k o' v' B' q; ⟨[] :: Gs, by simpa using g1, .skip g2⟩, fun Z' H' l k x => let ⟨Gs, g1, g2⟩ := h.out Z' H' l k x; ⟨[] :: Gs, by simpa using g1, .skip g2⟩⟩
theorem Hole.cons {p : Pl} {Z H : Hp} {o : O} {v : V} {F : List Addr} {ρ : List (Option O)} {σ : List (Option V)} {i : Nat} {A C : List Addr} (q : RO p Z H o v F) (h : Hole p Z H ρ σ i A C) : Hole p Z H (some o :: ρ) (some v :: σ) (i + 1) (F ++ A) C := by
  refine ⟨fun Z' H' l k o' v' B' r => ?_, fun Z' H' l k x => ?_⟩
  · obtain ⟨Gs, g1, g2⟩ := h.put Z' H' l (fun a ha => k a (by rw [List.append_assoc]; exact List.mem_append_right _ ha)) o' v' B' r
    exact ⟨F :: Gs, by rw [List.flatten_cons, g1, List.append_assoc], .cons (q.le l fun a ha => k a (by rw [List.append_assoc]; exact List.mem_append_left _ ha)) g2⟩
  · obtain ⟨Gs, g1, g2⟩ := h.out Z' H' l (fun a ha => k a (by rw [List.append_assoc]; exact List.mem_append_right _ ha)) x
    exact ⟨F :: Gs, by rw [List.flatten_cons, g1, List.append_assoc], .cons (q.le l fun a ha => k a (by rw [List.append_assoc]; exact List.mem_append_left _ ha)) g2⟩
theorem SL.at {p : Pl} {Z H : Hp} : ∀ {ρ : List (Option O)} {σ : List (Option V)} {Fs : List (List Addr)} {i : Nat} {o : O}, SL p Z H ρ σ Fs → ρ[i]? = some (some o) →
    ∃ v A B C, σ[i]? = some (some v) ∧ List.flatten Fs = A ++ (B ++ C) ∧ RO p Z H o v B ∧ Hole p Z H ρ σ i A C
  | _, _, _, 0, o, .cons (F := F) (Fs := Fs) q t, e => by
    simp at e
    subst e
    exact ⟨_, [], F, List.flatten Fs, rfl, rfl, q, .zero t⟩
  | _, _, _, 0, o, .skip t, e => by simp at e
  | _, _, _, i + 1, o, .skip t, e => by
    obtain ⟨v, A, B, C, h1, h2, h3, h4⟩ := SL.at (i := i) t (by simpa using e)
    exact ⟨v, A, B, C, by simpa using h1, by simpa using h2, h3, h4.skip⟩
  | _, _, _, i + 1, o, .cons (F := F) q t, e => by
    obtain ⟨v, A, B, C, h1, h2, h3, h4⟩ := SL.at (i := i) t (by simpa using e)
    exact ⟨v, F ++ A, B, C, by simpa using h1, by rw [List.flatten_cons, h2, List.append_assoc], h3, h4.cons q⟩
  | _, _, _, _, _, .nil, e => by simp at e
/-- a slot that is stored anew, whatever it held -/
theorem SL.hole {p : Pl} {Z H : Hp} : ∀ {ρ : List (Option O)} {σ : List (Option V)} {Fs : List (List Addr)} {i : Nat}, SL p Z H ρ σ Fs → i < ρ.length →
    ∃ A B C, List.flatten Fs = A ++ (B ++ C) ∧ Hole p Z H ρ σ i A C
  | _, _, _, 0, .cons (F := F) (Fs := Fs) q t, _ => ⟨[], F, List.flatten Fs, rfl, .zero t⟩
  | _, _, _, 0, .skip (Fs := Fs) t, _ => ⟨[], [], List.flatten Fs, rfl, .zero t⟩
  | _, _, _, i + 1, .skip t, e => by
    obtain ⟨A, B, C, h2, h4⟩ := SL.hole (i := i) t (by simpa using e)
    exact ⟨A, B, C, by simpa using h2, h4.skip⟩
  | _, _, _, i + 1, .cons (F := F) q t, e => by
    obtain ⟨A, B, C, h2, h4⟩ := SL.hole (i := i) t (by simpa using e)
    exact ⟨F ++ A, B, C, by rw [List.flatten_cons, h2, List.append_assoc], h4.cons q⟩
  | _, _, _, _, .nil, e => by simp at e

/-! ### steps of the abstract heap -/
/-- nothing but a table of codes stands there -/
def Fresh (H : Hp) (a : Addr) : Prop := ∀ o, H a = some o → ∃ ps, o = .tbl ps
theorem Fresh.of {H : Hp} {a : Addr} (h : H a = none) : Fresh H a := fun o e => by rw [h] at e; cases e
theorem Fresh.no {H : Hp} {a : Addr} {o : HO} (h : Fresh H a) (e : H a = some o) (n : NT o) : False := by
  obtain ⟨ps, z⟩ := h o e
  exact n ps z
/-- from frozen Z, heap H, owned F to Z', H', F' -/
structure Tr (Z H : Hp) (F : List Addr) (Z' H' : Hp) (F' : List Addr) : Prop where
  zle : Le Z Z'
  zn : ∀ a o, Z' a = some o → Z a = some o ∨ a ∈ F ∨ Fresh H a
  keep : ∀ a o, H a = some o → NT o → a ∉ F → H' a = some o
  new : ∀ a ∈ F', a ∈ F ∨ Fresh H a
/-- what has stood since the entry: the frozen data Z0, the objects B -/
structure Bas (p : Pl) (Z H : Hp) (F : List Addr) : Prop where
  zb : Le p.Z0 Z
  kb : ∀ a o, p.B a = some o → H a = some o ∧ NT o ∧ a ∉ F
  zf : ∀ a o, Z a = some o → p.Z0 a = some o ∨ p.B a = none
theorem Bas.tr {p : Pl} {Z H Z' H' : Hp} {F F' : List Addr} (b : Bas p Z H F) (t : Tr Z H F Z' H' F') : Bas p Z' H' F' := by
  refine ⟨b.zb.tr t.zle, fun a o e => ?_, fun a o e => ?_⟩
  · obtain ⟨h1, h2, h3⟩ := b.kb a o e
    refine ⟨t.keep a o h1 h2 h3, h2, fun hf => ?_⟩
    rcases t.new a hf with z | z
    · exact h3 z
    · exact z.no h1 h2
  · rcases t.zn a o e with z | z | z
    · exact b.zf a o z
    · right
      cases eb : p.B a with
      | none => rfl
      | some u => exact ((b.kb a u eb).2.2 z).elim
    · right
      cases eb : p.B a with
      | none => rfl
      | some u =>
        obtain ⟨h1, h2, h3⟩ := b.kb a u eb
        exact (z.no h1 h2).elim
theorem Bas.sub {p : Pl} {Z H : Hp} {F G : List Addr} (b : Bas p Z H F) (h : ∀ x ∈ G, x ∈ F) : Bas p Z H G := ⟨b.zb, fun a o e => let ⟨h1, h2, h3⟩ := b.kb a o e; ⟨h1, h2, fun z => h3 (h a z)⟩, b.zf⟩
structure Good (p : Pl) (Z H : Hp) (F : List Addr) : Prop where
  zh : Le Z H
  zt : ∀ a o, Z a = some o → NT o
  fz : ∀ a ∈ F, Z a = none
  nd : F.Nodup
  tb : LamX.Tabs p.T H
  ba : Bas p Z H F
theorem Tr.id {Z H : Hp} {F : List Addr} : Tr Z H F Z H F := ⟨fun _ _ h => h, fun _ _ h => .inl h, fun _ _ h _ _ => h, fun _ h => .inl h⟩
theorem Tr.trans {Z H Z1 H1 Z2 H2 : Hp} {F F1 F2 : List Addr} (a : Tr Z H F Z1 H1 F1) (b : Tr Z1 H1 F1 Z2 H2 F2) : Tr Z H F Z2 H2 F2 := by
  have back : ∀ x, Fresh H1 x → x ∈ F ∨ Fresh H x := fun x hx => by
    by_cases hf : x ∈ F
    · exact .inl hf
    · refine .inr fun o e => ?_
      by_cases hn : NT o
      · exact (hx.no (a.keep x o e hn hf) hn).elim
      · exact Classical.byContradiction fun z => hn fun ps e' => z ⟨ps, e'⟩
  refine ⟨a.zle.tr b.zle, fun x o h => ?_, fun x o h hn hf => b.keep x o (a.keep x o h hn hf) hn fun hx => ?_, fun x hx => ?_⟩
  · rcases b.zn x o h with h | h | h
    · exact a.zn x o h
    · exact .inr (a.new x h)
    · exact .inr (back x h)
  · rcases a.new x hx with z | z
    · exact hf z
    · exact z.no h hn
  · rcases b.new x hx with h | h
    · exact a.new x h
    · exact back x h
theorem Tr.sub {Z H Z' H' : Hp} {F F' G : List Addr} (a : Tr Z H F Z' H' F') (h : ∀ x ∈ G, x ∈ F') : Tr Z H F Z' H' G := ⟨a.zle, a.zn, a.keep, fun x hx => a.new x (h x hx)⟩
theorem Tr.more {Z H Z' H' : Hp} {F F' G : List Addr} (a : Tr Z H F Z' H' F') (h : ∀ x ∈ F, x ∈ G) : Tr Z H G Z' H' F' :=
  ⟨a.zle, fun x o e => (a.zn x o e).imp _root_.id fun q => q.imp (h x) _root_.id, fun x o e m n => a.keep x o e m fun z => n (h x z), fun x hx => (a.new x hx).imp (h x) _root_.id⟩
/-- with more that is owned aside -/
theorem Tr.frame {Z H Z' H' : Hp} {F F' : List Addr} (G : List Addr) (a : Tr Z H F Z' H' F') : Tr Z H (G ++ F) Z' H' (G ++ F') :=
  ⟨a.zle, fun x o e => (a.zn x o e).imp _root_.id fun q => q.imp (List.mem_append_right _) _root_.id, fun x o e m n => a.keep x o e m fun z => n (List.mem_append_right _ z), fun x hx => by
    rcases List.mem_append.mp hx with h | h
    · exact .inl (List.mem_append_left _ h)
    · exact (a.new x h).imp (List.mem_append_right _) _root_.id⟩
section
variable {p : Pl} {Z H : Hp} {F : List Addr} {q : Addr}
theorem tabs_upd {u : HO} (t : LamX.Tabs p.T H) (n : H q = none) : LamX.Tabs p.T (upd H q u) := t.ext fun b o e => by rw [upd_ne (ne_of_none e n)]; exact e
theorem tabs_wr {u w : HO} (t : LamX.Tabs p.T H) (e : H q = some w) (ow : Ow w) : LamX.Tabs p.T (upd H q u) := fun z hz => by
  obtain ⟨ps, h1, h2, h3⟩ := t z hz
  refine ⟨ps, by rw [upd_ne (fun y => by rw [y, e] at h1; cases h1; exact ow)]; exact h1, h2, fun pos cv hc => ?_⟩
  obtain ⟨c, e1, e2⟩ := h3 pos cv hc
  exact ⟨c, e1, by rw [upd_ne (fun y => by rw [y, e] at e2; unfold LamX.CodeO at e2; cases e2; exact ow)]; exact e2⟩
/-- a new object, frozen -/
theorem Tr.newZ (u : HO) (g : Good p Z H F) (h : H q = none) : Tr Z H F (upd Z q u) (upd H q u) F := by
  have zq : Z q = none := by
    cases e : Z q with
    | none => rfl
    | some w => rw [g.zh q w e] at h; cases h
  refine ⟨fun a o e => by rw [upd_ne (ne_of_none e zq)]; exact e, fun a o e => ?_, fun a o e _ _ => by rw [upd_ne (ne_of_none e h)]; exact e, fun a ha => .inl ha⟩
  by_cases hq : a = q
  · subst hq
    exact .inr (.inr (.of h))
  · rw [upd_ne hq] at e
    exact .inl e
theorem Good.newZ {u : HO} (g : Good p Z H F) (hF : ∀ a ∈ F, ∃ w, H a = some w) (h : H q = none) (nt : NT u) : Good p (upd Z q u) (upd H q u) F := by
  refine ⟨fun a o e => ?_, fun a o e => ?_, fun a ha => ?_, g.nd, tabs_upd g.tb h, g.ba.tr (Tr.newZ u g h)⟩
  · by_cases hq : a = q
    · subst hq
      rw [upd_same] at e ⊢
      exact e
    · rw [upd_ne hq] at e ⊢
      exact g.zh a o e
  · by_cases hq : a = q
    · subst hq
      rw [upd_same] at e
      cases e
      exact nt
    · rw [upd_ne hq] at e
      exact g.zt a o e
  · obtain ⟨w, hw⟩ := hF a ha
    rw [upd_ne (ne_of_none hw h)]
    exact g.fz a ha
/-- a new object, owned -/
theorem Tr.newO (u : HO) (h : H q = none) : Tr Z H F Z (upd H q u) (q :: F) := by
  refine ⟨Le.rfl', fun a o e => .inl e, fun a o e _ _ => by rw [upd_ne (ne_of_none e h)]; exact e, fun a ha => ?_⟩
  rcases List.mem_cons.mp ha with rfl | ha
  · exact .inr (.of h)
  · exact .inl ha
theorem Good.newO {u : HO} (g : Good p Z H F) (hF : ∀ a ∈ F, ∃ w, H a = some w) (h : H q = none) : Good p Z (upd H q u) (q :: F) := by
  have zq : Z q = none := by
    cases e : Z q with
    | none => rfl
    | some w => rw [g.zh q w e] at h; cases h
  refine ⟨fun a o e => by rw [upd_ne (ne_of_none e zq)]; exact g.zh a o e, g.zt, fun a ha => ?_, List.nodup_cons.mpr ⟨fun hm => ?_, g.nd⟩, tabs_upd g.tb h, g.ba.tr (Tr.newO u h)⟩
  · rcases List.mem_cons.mp ha with rfl | ha
    · exact zq
    · exact g.fz a ha
  · obtain ⟨w, hw⟩ := hF q hm
    rw [h] at hw
    cases hw
/-- an owned object is written -/
theorem Tr.wr (u : HO) (h : q ∈ F) : Tr Z H F Z (upd H q u) F :=
  ⟨Le.rfl', fun a o e => .inl e, fun a o e _ n => by rw [upd_ne (fun z => n (by rw [z]; exact h))]; exact e, fun a ha => .inl ha⟩
theorem Good.wr {u w : HO} (g : Good p Z H F) (h : q ∈ F) (e : H q = some w) (ow : Ow w) : Good p Z (upd H q u) F :=
  ⟨fun a o e => by rw [upd_ne (ne_of_none e (g.fz q h))]; exact g.zh a o e, g.zt, g.fz, g.nd, tabs_wr g.tb e ow, g.ba.tr (Tr.wr u h)⟩
/-- what is owned at B is frozen -/
theorem Tr.fr {B : List Addr} (g : Good p Z H F) (hB : ∀ a ∈ B, a ∈ F) (F' : List Addr) (hF : ∀ a ∈ F', a ∈ F) : Tr Z H F (frz Z H B) H F' := by
  refine ⟨le_frz fun a ha => g.fz a (hB a ha), fun a o e => ?_, fun a o e _ _ => e, fun a ha => .inl (hF a ha)⟩
  by_cases hb : a ∈ B
  · exact .inr (.inl (hB a hb))
  · rw [frz_out hb] at e
    exact .inl e
theorem Good.fr {B F' : List Addr} (g : Good p Z H F) (hO : ∀ a ∈ B, ∃ u, H a = some u ∧ Ow u) (hF : ∀ a ∈ F', a ∈ F) (nd : F'.Nodup) (dj : ∀ a ∈ F', a ∉ B) (hB : ∀ a ∈ B, a ∈ F) : Good p (frz Z H B) H F' := by
  refine ⟨fun a o e => ?_, fun a o e => ?_, fun a ha => ?_, nd, g.tb, g.ba.tr (Tr.fr g hB F' hF)⟩
  · by_cases hb : a ∈ B
    · rw [frz_in hb] at e
      exact e
    · rw [frz_out hb] at e
      exact g.zh a o e
  · by_cases hb : a ∈ B
    · rw [frz_in hb] at e
      obtain ⟨u, h1, h2⟩ := hO a hb
      rw [h1] at e
      cases e
      exact h2.nt
    · rw [frz_out hb] at e
      exact g.zt a o e
  · rw [frz_out (dj a ha)]
    exact g.fz a (hF a ha)
theorem Good.sub {G : List Addr} (g : Good p Z H F) (h : ∀ x ∈ G, x ∈ F) (nd : G.Nodup) : Good p Z H G := ⟨g.zh, g.zt, fun a ha => g.fz a (h a ha), nd, g.tb, g.ba.sub h⟩
end
end VI
end

section
set_option Elab.async false
set_option linter.all false
set_option maxRecDepth 10000
/-! VI4: the operations by values. -/
namespace VI
open PySem PySem.Spec PyProof.Rows L2

/-- a value that is read at once: a list may be owned, its items are frozen -/
def RP (p : Pl) (Z H : Hp) (d : D) (v : V) : Prop := match d with
  | .lst ds => ∃ a xs, v = .ref a ∧ H a = some (.lst xs) ∧ RDs p Z ds xs
  | .dct kvs => ∃ a, v = .ref a ∧ kvs = [] ∧ (H a = some (.dK []) ∨ H a = some (.dT []))
  | d => RD p Z d v
theorem RP.up {p : Pl} {Z H : Hp} (l : Le Z H) {d : D} {v : V} (h : RP p Z H d v) : RD p H d v := by
  cases d with
  | lst ds =>
    obtain ⟨a, xs, e, q, r⟩ := h
    unfold RD
    exact ⟨a, xs, e, q, r.le l⟩
  | dct kvs =>
    obtain ⟨a, e, n, q⟩ := h
    unfold RD
    exact ⟨a, e, n, q⟩
  | _ => exact RD.le l (show RD p Z _ v from h)
theorem RD.rp {p : Pl} {Z H : Hp} (l : Le Z H) {d : D} {v : V} (h : RD p Z d v) : RP p Z H d v := by
  cases d with
  | lst ds =>
    unfold RD at h
    obtain ⟨a, xs, e, q, r⟩ := h
    exact ⟨a, xs, e, l _ _ q, r⟩
  | dct kvs =>
    unfold RD at h
    obtain ⟨a, e, n, q⟩ := h
    exact ⟨a, e, n, q.imp (l _ _) (l _ _)⟩
  | _ => exact h
section
variable {p : Pl} {Z H : Hp} {v : V}
theorem RP.int {i : Int} (h : RP p Z H (.int i) v) : v = .int i := by
  have h' : RD p Z (.int i) v := h
  unfold RD at h'
  exact h'
theorem RP.bl {b : Bool} (h : RP p Z H (.bl b) v) : v = .bl b := by
  have h' : RD p Z (.bl b) v := h
  unfold RD at h'
  exact h'
theorem RP.non (h : RP p Z H .non v) : v = .non := by
  have h' : RD p Z .non v := h
  unfold RD at h'
  exact h'
theorem RP.str {s : Str} (h : RP p Z H (.str s) v) : v = .str s := by
  have h' : RD p Z (.str s) v := h
  unfold RD at h'
  exact h'
theorem RP.tup {ds : List D} (h : RP p Z H (.tup ds) v) : ∃ a xs, v = .ref a ∧ SqT p.K Z a xs ∧ RDs p Z ds xs := by
  have h' : RD p Z (.tup ds) v := h
  unfold RD at h'
  exact h'
theorem RP.scr {ns : List Int} (h : RP p Z H (.scr ns) v) : ∃ a, v = .ref a ∧ SqL p.K Z a (ns.map V.int) := by
  have h' : RD p Z (.scr ns) v := h
  unfold RD at h'
  exact h'
end
mutual
theorem dp_of {p : Pl} {H : Hp} : ∀ {d : D} {v : V} {q : PyData}, RD p H d v → d.toP = some q → Dp p.K H v q
  | .non, v, q, h, e => by
    unfold RD at h
    simp only [D.toP, Option.some.injEq] at e
    subst e h
    exact .non
  | .bl b, v, q, h, e => by
    unfold RD at h
    simp only [D.toP, Option.some.injEq] at e
    subst e h
    exact .bl b
  | .int i, v, q, h, e => by
    unfold RD at h
    simp only [D.toP, Option.some.injEq] at e
    subst e h
    exact .int i
  | .str x, v, q, h, e => by
    unfold RD at h
    simp only [D.toP, Option.some.injEq] at e
    subst e h
    exact .str x
  | .tup ds, v, q, h, e => by
    unfold RD at h
    obtain ⟨a, xs, rfl, t, r⟩ := h
    simp only [D.toP, Option.map_eq_some_iff] at e
    obtain ⟨qs, hq, rfl⟩ := e
    exact .tup t (dps_of r hq)
  | .lst ds, v, q, h, e => by
    unfold RD at h
    obtain ⟨a, xs, rfl, t, r⟩ := h
    simp only [D.toP, Option.map_eq_some_iff] at e
    obtain ⟨qs, hq, rfl⟩ := e
    exact .lst (.inl (.inl t)) (dps_of r hq)
  | .dct _, _, _, _, e => by simp [D.toP] at e
  | .set _, _, _, _, e => by simp [D.toP] at e
  | .ins _ _, _, _, _, e => by simp [D.toP] at e
  | .fn _, _, _, _, e => by simp [D.toP] at e
  | .lam, _, _, _, e => by simp [D.toP] at e
  | .scr _, _, _, _, e => by simp [D.toP] at e
theorem dps_of {p : Pl} {H : Hp} : ∀ {ds : List D} {xs : List V} {qs : List PyData}, RDs p H ds xs → D.toPs ds = some qs → DpAll p.K H xs qs
  | [], xs, qs, h, e => by
    unfold RDs at h
    simp only [D.toPs, Option.some.injEq] at e
    subst e h
    exact .nil
  | d :: ds, xs, qs, h, e => by
    unfold RDs at h
    obtain ⟨v, r, rfl, h1, h2⟩ := h
    unfold D.toPs at e
    split at e
    · rename_i q hq
      split at e
      · rename_i ps hp
        cases e
        exact .cons (dp_of h1 hq) (dps_of h2 hp)
      · cases e
    · cases e
end

/-! ### a result: a value, or a new object -/
def Res (p : Pl) (Z H : Hp) (o : O) (v : V) (H' : Hp) : Prop := ∃ Z' G, ∀ F, Good p Z H F → (∀ a ∈ F, ∃ w, H a = some w) →
  Tr Z H F Z' H' (G ++ F) ∧ Good p Z' H' (G ++ F) ∧ RO p Z' H' o v G ∧ ∀ a ∈ F, H' a = H a
section
variable {p : Pl} {Z H : Hp}
theorem Res.same {d : D} {v : V} (h : RD p Z d v) : Res p Z H (.fz d) v H := ⟨Z, [], fun F g _ => ⟨Tr.id, g, RO.fz h, fun _ _ => rfl⟩⟩
theorem new_same {F : List Addr} {q : Addr} {u : HO} (hF : ∀ a ∈ F, ∃ w, H a = some w) (n : H q = none) : ∀ a ∈ F, upd H q u a = H a := fun a ha => by
  obtain ⟨w, hw⟩ := hF a ha
  rw [upd_ne (ne_of_none hw n)]
theorem zfree (l : Le Z H) {q : Addr} (n : H q = none) : Z q = none := by
  cases e : Z q with
  | none => rfl
  | some w => rw [l q w e] at n; cases n
theorem le_upd (l : Le Z H) {q : Addr} {u : HO} (n : H q = none) : Le Z (upd Z q u) := fun a o e => by rw [upd_ne (ne_of_none e (zfree l n))]; exact e
theorem Res.tup {ds : List D} {xs : List V} {q : Addr} (l : Le Z H) (n : H q = none) (h : RDs p Z ds xs) : Res p Z H (.fz (.tup ds)) (.ref q) (upd H q (.tup xs)) :=
  ⟨upd Z q (.tup xs), [], fun F g hF => ⟨Tr.newZ _ g n, g.newZ hF n (fun _ e => HO.noConfusion e), RO.fz (by
    unfold RD
    exact ⟨q, xs, rfl, .inl (.inl upd_same), h.le (le_upd l n)⟩), new_same hF n⟩⟩
theorem Res.lst {ds : List D} {xs : List V} {q : Addr} (n : H q = none) (h : RDs p Z ds xs) : Res p Z H (.lst (ds.map .fz)) (.ref q) (upd H q (.lst xs)) :=
  ⟨Z, [q], fun F g hF => ⟨Tr.newO _ n, g.newO hF n, by
    unfold RO
    exact ⟨q, xs, [], rfl, upd_same, ros_map h, rfl⟩, new_same hF n⟩⟩
end

/-! ### two-place operators -/
def opK : Op → Operator
  | .add => .Add | .sub => .Sub | .mul => .Mult | .fdiv => .FloorDiv | .mod => .Mod | .pow => .Pow | .shl => .LShift | .shr => .RShift | .band => .BitAnd | .bor => .BitOr | .bxor => .BitXor
theorem opK_of {o : Operator} {op : Op} (h : trOp o = some op) : opK op = o := by
  cases o <;> simp [trOp] at h <;> subst h <;> rfl
def rBin (p : Pl) (op : Op) : R2 := fun x y H Q => ∃ Z d e o, Le Z H ∧ RD p Z d x ∧ RD p Z e y ∧ binO op d e = some o ∧ ∀ v H', Res p Z H o v H' → Q v H'
theorem rd_int {p : Pl} {Z : Hp} {i : Int} {v : V} (h : RD p Z (.int i) v) : v = .int i := by unfold RD at h; exact h
theorem rd_str {p : Pl} {Z : Hp} {i : Str} {v : V} (h : RD p Z (.str i) v) : v = .str i := by unfold RD at h; exact h
theorem int_rd {p : Pl} {Z : Hp} {i : Int} : RD p Z (.int i) (.int i) := by unfold RD; rfl
theorem str_rd {p : Pl} {Z : Hp} {i : Str} : RD p Z (.str i) (.str i) := by unfold RD; rfl
theorem bl_rd {p : Pl} {Z : Hp} {i : Bool} : RD p Z (.bl i) (.bl i) := by unfold RD; rfl
theorem non_rd {p : Pl} {Z : Hp} : RD p Z .non .non := by unfold RD; rfl
theorem op_powW {X : Cx} : OpR X (binaryOp .Pow) (rI (fun i j => 0 ≤ j ∧ (Builtin.Int.intBits i : Int) * j ≤ 2 ^ 27) fun i j => .int (i ^ j.toNat)) := opI fun _ _ _ _ _ _ _ hc q => pow_int hc.1 hc.2 q
theorem lim_line {n : Nat} (h : n ≤ 1000000) : n ≤ sizeLine := by rw [sizeLine_eq]; omega
theorem rds_flatten {p : Pl} {Z : Hp} {ds : List D} {xs : List V} (h : RDs p Z ds xs) : ∀ k : Nat, RDs p Z (List.replicate k ds).flatten (List.replicate k xs).flatten
  | 0 => by simpa using RDs.nil
  | k + 1 => by
    rw [List.replicate_succ, List.replicate_succ, List.flatten_cons, List.flatten_cons]
    exact h.app (rds_flatten h k)
theorem RDs.nil_iff {p : Pl} {Z : Hp} {ds : List D} {xs : List V} (h : RDs p Z ds xs) : ds = [] ↔ xs = [] := by
  have l := h.len
  constructor
  · intro e
    subst e
    exact List.eq_nil_of_length_eq_zero l.symm
  · intro e
    subst e
    exact List.eq_nil_of_length_eq_zero l
theorem bin_ok {X : Cx} {p : Pl} (hK : X.K = p.K) (op : Op) : OpR X (binaryOp (opK op)) (rBin p op) := by
  intro pins s σ H x y v u Q I rx ry h
  obtain ⟨Z, d, e, o, l, hd, he, ho, q⟩ := h
  have I2 : ∀ {i : Int} {j : Int} {k : Int}, d = .int i → e = .int j → o = .fz (.int k) → x = .int i ∧ y = .int j ∧ Q (.int k) H := fun {i j k} e1 e2 e3 => by
    subst e1 e2 e3
    exact ⟨rd_int hd, rd_int he, q _ _ (Res.same int_rd)⟩
  cases op with
  | add =>
    cases d <;> cases e <;> simp only [binO, reduceCtorEq] at ho
    · rename_i i j
      cases ho
      obtain ⟨h1, h2, h3⟩ := I2 rfl rfl rfl
      exact op_add pins s σ H x y v u Q I rx ry ⟨i, j, h1, h2, h3⟩
    · rename_i a b
      split at ho
      · rename_i hz
        cases ho
        exact op_add_str pins s σ H x y v u Q I rx ry ⟨a, b, rd_str hd, rd_str he, lim_line hz, q _ _ (Res.same str_rd)⟩
      · cases ho
    · rename_i a b
      split at ho
      · rename_i hz
        cases ho
        unfold RD at hd he
        obtain ⟨a1, xs, rfl, t1, r1⟩ := hd
        obtain ⟨a2, ys, rfl, t2, r2⟩ := he
        have hl : xs.length + ys.length ≤ sizeLine := by rw [← r1.len, ← r2.len]; exact lim_line hz
        refine op_catA pins s σ H _ _ v u Q I rx ry ⟨a1, a2, xs, ys, rfl, rfl, by rw [hK]; exact l.sqT t1, by rw [hK]; exact l.sqT t2, hl, fun e => ?_, fun _ e => ?_, fun _ _ q' hq => ?_⟩
        · have e1 := (r1.nil_iff).mpr e
          subst e1
          refine q _ _ (Res.same ?_)
          unfold RD
          exact ⟨a2, ys, rfl, t2, r2⟩
        · have e1 := (r2.nil_iff).mpr e
          subst e1
          refine q _ _ (Res.same ?_)
          rw [List.append_nil]
          unfold RD
          exact ⟨a1, xs, rfl, t1, r1⟩
        · exact q _ _ (Res.tup l hq (r1.app r2))
      · cases ho
    · rename_i a b
      split at ho
      · rename_i hz
        cases ho
        unfold RD at hd he
        obtain ⟨a1, xs, rfl, t1, r1⟩ := hd
        obtain ⟨a2, ys, rfl, t2, r2⟩ := he
        have hl : xs.length + ys.length ≤ sizeLine := by rw [← r1.len, ← r2.len]; exact lim_line hz
        exact op_cat pins s σ H _ _ v u Q I rx ry ⟨a1, a2, xs, ys, rfl, rfl, l _ _ t1, l _ _ t2, hl, fun q' hq => q _ _ (Res.lst hq (r1.app r2))⟩
      · cases ho
  | sub =>
    cases d <;> cases e <;> simp only [binO, reduceCtorEq] at ho
    rename_i i j
    cases ho
    obtain ⟨h1, h2, h3⟩ := I2 rfl rfl rfl
    exact op_sub pins s σ H x y v u Q I rx ry ⟨i, j, h1, h2, h3⟩
  | mul =>
    cases d <;> cases e <;> simp only [binO, reduceCtorEq] at ho
    · rename_i i j
      split at ho
      · rename_i hz
        cases ho
        obtain ⟨h1, h2, h3⟩ := I2 rfl rfl rfl
        exact op_mulW pins s σ H x y v u Q I rx ry ⟨i, j, h1, h2, hz, h3⟩
      · cases ho
    · rename_i a k
      split at ho
      · rename_i hz
        cases ho
        obtain ⟨z1, z2, z3, z4⟩ := hz
        unfold RD at hd
        obtain ⟨a1, xs, rfl, t1, r1⟩ := hd
        have hy := rd_int he
        subst hy
        exact op_repT pins s σ H _ _ v u Q I rx ry ⟨a1, k, xs, rfl, rfl, by rw [hK]; exact l.sqT t1, fun e => z1 (r1.nil_iff.mpr e), z2, z3, by rw [← r1.len]; exact z4, fun q' hq => q _ _ (Res.tup l hq (rds_flatten r1 _))⟩
      · cases ho
    · rename_i a k
      split at ho
      · rename_i hz
        cases ho
        obtain ⟨z1, z2, z3⟩ := hz
        unfold RD at hd
        obtain ⟨a1, xs, rfl, t1, r1⟩ := hd
        have hy := rd_int he
        subst hy
        have hlen : ((xs.length : Nat) : Int) * k ≤ 1000000 := by rw [← r1.len]; exact z3
        have hn : xs.length * k.toNat ≤ 1000000 := by
          have e1 : ((xs.length * k.toNat : Nat) : Int) = (xs.length : Int) * k := by
            rw [Int.natCast_mul, Int.toNat_of_nonneg z1]
          omega
        exact op_rep pins s σ H _ _ v u Q I rx ry ⟨a1, k, xs, rfl, rfl, l _ _ t1, by omega, by omega, lim_line hn, fun q' hq => q _ _ (Res.lst hq (rds_flatten r1 _))⟩
      · cases ho
  | fdiv =>
    cases d <;> cases e <;> simp only [binO, reduceCtorEq] at ho
    rename_i i j
    split at ho
    · rename_i hz
      cases ho
      obtain ⟨h1, h2, h3⟩ := I2 rfl rfl rfl
      exact op_fdivW pins s σ H x y v u Q I rx ry ⟨i, j, h1, h2, hz, h3⟩
    · cases ho
  | mod =>
    cases d <;> cases e <;> simp only [binO, reduceCtorEq] at ho
    rename_i i j
    split at ho
    · rename_i hz
      cases ho
      obtain ⟨h1, h2, h3⟩ := I2 rfl rfl rfl
      exact op_mod pins s σ H x y v u Q I rx ry ⟨i, j, h1, h2, hz, h3⟩
    · cases ho
  | pow =>
    cases d <;> cases e <;> simp only [binO, reduceCtorEq] at ho
    rename_i i j
    split at ho
    · rename_i hz
      cases ho
      obtain ⟨h1, h2, h3⟩ := I2 rfl rfl rfl
      refine op_powW pins s σ H x y v u Q I rx ry ⟨i, j, h1, h2, ⟨hz.1, ?_⟩, h3⟩
      have hb : (Builtin.Int.intBits i : Int) ≤ ((big i + 1 : Nat) : Int) := by
        unfold Builtin.Int.intBits big
        split <;> omega
      have := Int.mul_le_mul_of_nonneg_right hb hz.1
      have hz2 := hz.2
      have e27 : (2 : Int) ^ 27 = 134217728 := by decide
      omega
    · cases ho
  | shl =>
    cases d <;> cases e <;> simp only [binO, reduceCtorEq] at ho
    rename_i i j
    split at ho
    · rename_i hz
      cases ho
      obtain ⟨h1, h2, h3⟩ := I2 rfl rfl rfl
      exact op_shl pins s σ H x y v u Q I rx ry ⟨i, j, h1, h2, ⟨hz.1, hz.2.1, hz.2.2⟩, h3⟩
    · cases ho
  | shr =>
    cases d <;> cases e <;> simp only [binO, reduceCtorEq] at ho
    rename_i i j
    split at ho
    · rename_i hz
      cases ho
      obtain ⟨h1, h2, h3⟩ := I2 rfl rfl rfl
      exact op_shr pins s σ H x y v u Q I rx ry ⟨i, j, h1, h2, hz, h3⟩
    · cases ho
  | band =>
    cases d <;> cases e <;> simp only [binO, reduceCtorEq] at ho
    rename_i i j
    cases ho
    obtain ⟨h1, h2, h3⟩ := I2 rfl rfl rfl
    exact op_and pins s σ H x y v u Q I rx ry ⟨i, j, h1, h2, h3⟩
  | bor =>
    cases d <;> cases e <;> simp only [binO, reduceCtorEq] at ho
    rename_i i j
    cases ho
    obtain ⟨h1, h2, h3⟩ := I2 rfl rfl rfl
    exact op_or pins s σ H x y v u Q I rx ry ⟨i, j, h1, h2, h3⟩
  | bxor =>
    cases d <;> cases e <;> simp only [binO, reduceCtorEq] at ho
    rename_i i j
    cases ho
    obtain ⟨h1, h2, h3⟩ := I2 rfl rfl rfl
    exact op_xor pins s σ H x y v u Q I rx ry ⟨i, j, h1, h2, h3⟩

/-! ### comparisons -/
def cmK : Cm → CmpOp
  | .eq => .Eq | .ne => .NotEq | .lt => .Lt | .le => .LtE | .gt => .Gt | .ge => .GtE | .isk => .Is | .isn => .IsNot | .isin => .In | .nin => .NotIn
theorem cmK_of (o : CmpOp) : cmK (trCm o) = o := by cases o <;> rfl
def rCm (p : Pl) (c : Cm) : R2 := fun x y H Q => ∃ Z d e b, Le Z H ∧ RP p Z H d x ∧ RP p Z H e y ∧ cmpD c d e = some b ∧ Q (.bl b) H
theorem eqD_int {i j : Int} : PyData.eqv (.int i) (.int j) = decide (i = j) := by
  simp only [PyData.eqv]
  rw [Bool.beq_eq_decide_eq]
theorem shaped_int (i : Int) : SeqAt.shaped (.int i) = true := by
  show (PyData.canLay0 (.int i) && decide (PyData.depth (.int i) ≤ 64)) = true
  simp [PyData.canLay0, PyData.depth]
theorem eqD_P {d e : D} {b : Bool} (h : eqD d e = some b) : ∃ q r, d.toP = some q ∧ e.toP = some r ∧ SeqAt.shaped q = true ∧ SeqAt.shaped r = true ∧ PyData.eqv q r = b := by
  unfold eqD at h
  split at h
  · rename_i i j
    cases h
    exact ⟨.int i, .int j, rfl, rfl, shaped_int i, shaped_int j, eqD_int⟩
  · split at h
    · rename_i q r h1 h2
      split at h
      · rename_i hs
        cases h
        exact ⟨q, r, h1, h2, hs.1, hs.2, rfl⟩
      · cases h
    · cases h
theorem lex_eq : ∀ a b : List Int, lexLt a b = HT.lexLt a b
  | [], [] => rfl
  | [], _ :: _ => rfl
  | _ :: _, [] => rfl
  | x :: xs, y :: ys => by
    rw [HT.lexLt_cons, ← lex_eq xs ys]
    rfl
theorem inD_P {d e : D} {b : Bool} (h : inD d e = some b) : ∃ q rs, d.toP = some q ∧ (e.toP = some (.list rs) ∧ SeqAt.shaped (.list rs) = true ∨ e.toP = some (.tuple rs) ∧ SeqAt.shaped (.tuple rs) = true) ∧ SeqAt.shaped q = true ∧ (rs.any fun z => PyData.eqv z q) = b := by
  unfold inD at h
  split at h
  · rename_i q rs h1 h2
    split at h
    · rename_i hs
      cases h
      exact ⟨q, rs, h1, .inl ⟨h2, hs.2⟩, hs.1, rfl⟩
    · cases h
  · rename_i q rs h1 h2
    split at h
    · rename_i hs
      cases h
      exact ⟨q, rs, h1, .inr ⟨h2, hs.2⟩, hs.1, rfl⟩
    · cases h
  · cases h
theorem room_tup {A : Around} {d : PyData} {ds : List PyData} (h : SeqAt.shaped d = true) (hu : A.units + 66 < cLine) : A.units + 1 + min (PyData.depthAll ds) d.depth < cLine := by
  have h1 := SeqAt.depth_of_shaped h
  have h2 : min (PyData.depthAll ds) d.depth ≤ d.depth := Nat.min_le_right _ _
  omega
theorem in_ok {X : Cx} {p : Pl} (hK : X.K = p.K) (hu : X.A.units + 66 < cLine) {pins : List (Addr × Obj)} {s : Shared} {σ : L2.St} {H : Hp} {x y : V} {v u : Value} {Q : VK} {Z : Hp} {d e : D} {b : Bool} (I : Inv X pins σ H s) (rx : RelV x v) (ry : RelV y u) (l : Le Z H)
    (hd : RP p Z H d x) (he : RP p Z H e y) (hb : inD d e = some b) : (Q (.bl b) H → wpAny (model X.prog X.w) X.A (compareOp .In v u) (EP X pins σ Q) X.xe s) ∧ (Q (.bl (!b)) H → wpAny (model X.prog X.w) X.A (compareOp .NotIn v u) (EP X pins σ Q) X.xe s) := by
  obtain ⟨q, rs, h1, h2, h3, h4⟩ := inD_P hb
  obtain ⟨as, r1⟩ := Dp.reads I q x v (by rw [hK]; exact dp_of (hd.up l) h1) rx
  have hc := SeqAt.canLay_of_shaped h3
  have hr := room_tup (A := X.A) (ds := rs) h3 hu
  rcases h2 with ⟨h2, hs⟩ | ⟨h2, hs⟩
  · obtain ⟨bs, r2⟩ := Dp.reads I (.list rs) y u (by rw [hK]; exact dp_of (he.up l) h2) ry
    have hl : PyData.canLayAll0 rs = true := SeqAt.canLay_of_shaped hs
    exact ⟨fun k => SeqAt.in_list_reads r2 r1 hl hc hr ⟨.bl _, H, I, rfl, by rw [h4]; exact k⟩, fun k => SeqAt.notIn_list_reads r2 r1 hl hc hr ⟨.bl _, H, I, rfl, by rw [h4]; exact k⟩⟩
  · obtain ⟨bs, r2⟩ := Dp.reads I (.tuple rs) y u (by rw [hK]; exact dp_of (he.up l) h2) ry
    have hl : PyData.canLayAll0 rs = true := SeqAt.canLay_of_shaped hs
    exact ⟨fun k => SeqAt.in_tuple_reads r2 r1 hl hc hr ⟨.bl _, H, I, rfl, by rw [h4]; exact k⟩, fun k => SeqAt.notIn_tuple_reads r2 r1 hl hc hr ⟨.bl _, H, I, rfl, by rw [h4]; exact k⟩⟩
theorem RP.ne_non {p : Pl} {Z H : Hp} {d : D} {v : V} (h : RP p Z H d v) (l : Le Z H) (n : d ≠ .non) : v ≠ .non := by
  have h := h.up l
  cases d <;> unfold RD at h
  · exact absurd rfl n
  all_goals first
    | (subst h; exact fun z => V.noConfusion z)
    | exact h.elim
    | (obtain ⟨a, e, _⟩ := h; rw [e]; exact fun z => V.noConfusion z)
    | (obtain ⟨a, xs, e, _⟩ := h; rw [e]; exact fun z => V.noConfusion z)
theorem cm_ok {X : Cx} {p : Pl} (hK : X.K = p.K) (hu : X.A.units + 66 < cLine) (c : Cm) : OpR X (compareOp (cmK c)) (rCm p c) := by
  intro pins s σ H x y v u Q I rx ry h
  obtain ⟨Z, d, e, b, l, hd, he, hb, q⟩ := h
  cases c with
  | eq =>
    obtain ⟨q1, q2, h1, h2, h3, h4, h5⟩ := eqD_P (show eqD d e = some b from hb)
    exact op_eqD (by omega) pins s σ H x y v u Q I rx ry ⟨q1, q2, by rw [hK]; exact dp_of (hd.up l) h1, by rw [hK]; exact dp_of (he.up l) h2, h3, h4, by rw [h5]; exact q⟩
  | ne =>
    have hb' : (eqD d e).map (!·) = some b := hb
    simp only [Option.map_eq_some_iff] at hb'
    obtain ⟨b', hb', rfl⟩ := hb'
    obtain ⟨q1, q2, h1, h2, h3, h4, h5⟩ := eqD_P hb'
    exact op_neD (by omega) pins s σ H x y v u Q I rx ry ⟨q1, q2, by rw [hK]; exact dp_of (hd.up l) h1, by rw [hK]; exact dp_of (he.up l) h2, h3, h4, by rw [h5]; exact q⟩
  | lt =>
    have hb' : ltD d e = some b := hb
    cases d <;> cases e <;> simp only [ltD, reduceCtorEq] at hb'
    · rename_i i j
      cases hb'
      exact op_lt pins s σ H x y v u Q I rx ry ⟨i, j, hd.int, he.int, q⟩
    · rename_i a b'
      split at hb'
      · rename_i m n hm hn
        cases hb'
        obtain ⟨a1, xs, rfl, t1, r1⟩ := hd.tup
        obtain ⟨a2, ys, rfl, t2, r2⟩ := he.tup
        have e1 := r1.ints hm
        have e2 := r2.ints hn
        subst e1 e2
        exact op_ltT (by omega) pins s σ H _ _ v u Q I rx ry ⟨a1, a2, m, n, rfl, rfl, by rw [hK]; exact l.sqT t1, by rw [hK]; exact l.sqT t2, by rw [← lex_eq]; exact q⟩
      · cases hb'
  | gt =>
    cases d <;> cases e <;> simp only [cmpD, reduceCtorEq] at hb
    rename_i i j
    cases hb
    exact op_gt pins s σ H x y v u Q I rx ry ⟨i, j, hd.int, he.int, q⟩
  | le =>
    cases d <;> cases e <;> simp only [cmpD, reduceCtorEq] at hb
    rename_i i j
    cases hb
    exact op_le pins s σ H x y v u Q I rx ry ⟨i, j, hd.int, he.int, q⟩
  | ge =>
    cases d <;> cases e <;> simp only [cmpD, reduceCtorEq] at hb
    rename_i i j
    cases hb
    exact op_ge pins s σ H x y v u Q I rx ry ⟨i, j, hd.int, he.int, q⟩
  | isk =>
    by_cases ne : e = .non
    · subst ne
      have hy := he.non
      subst hy
      by_cases nd : d = .non
      · subst nd
        have hx := hd.non
        subst hx
        simp only [cmpD] at hb
        cases hb
        exact op_isN pins s σ H _ _ v u Q I rx ry ⟨rfl, by simpa using q⟩
      · have hx := hd.ne_non l nd
        have hb' : b = false := by
          cases d <;> simp only [cmpD] at hb <;> first | exact absurd rfl nd | exact (Option.some.inj hb).symm
        subst hb'
        exact op_isN pins s σ H _ _ v u Q I rx ry ⟨rfl, by rw [decide_eq_false hx]; exact q⟩
    · cases d <;> cases e <;> simp only [cmpD, reduceCtorEq] at hb <;> first | exact absurd rfl ne | skip
      rename_i i j
      cases hb
      exact op_isBl pins s σ H x y v u Q I rx ry ⟨i, j, hd.bl, he.bl, q⟩
  | isn =>
    by_cases ne : e = .non
    · subst ne
      have hy := he.non
      subst hy
      by_cases nd : d = .non
      · subst nd
        have hx := hd.non
        subst hx
        simp only [cmpD] at hb
        cases hb
        exact op_notN pins s σ H _ _ v u Q I rx ry ⟨rfl, by simpa using q⟩
      · have hx := hd.ne_non l nd
        have hb' : b = true := by
          cases d <;> simp only [cmpD] at hb <;> first | exact absurd rfl nd | exact (Option.some.inj hb).symm
        subst hb'
        exact op_notN pins s σ H _ _ v u Q I rx ry ⟨rfl, by rw [decide_eq_false hx]; exact q⟩
    · cases d <;> cases e <;> simp only [cmpD, reduceCtorEq] at hb <;> first | exact absurd rfl ne | skip
      rename_i i j
      cases hb
      exact op_notBl pins s σ H x y v u Q I rx ry ⟨i, j, hd.bl, he.bl, q⟩
  | isin =>
    have hb' : inD d e = some b := by
      cases e <;> first | exact hb | cases hb
    exact (in_ok hK hu I rx ry l hd he hb').1 q
  | nin =>
    have hb' : (inD d e).map (!·) = some b := by
      cases e <;> first | exact hb | cases hb
    simp only [Option.map_eq_some_iff] at hb'
    obtain ⟨b', hb', rfl⟩ := hb'
    exact (in_ok hK hu I rx ry l hd he hb').2 q
/-! ### truth, kinds -/
theorem tru_of {X : Cx} {p : Pl} (hK : X.K = p.K) {Z H : Hp} (l : Le Z H) {d : D} {v : V} {b : Bool} (h : RD p Z d v) (hb : truthD d = some b) : TruV X.K v H b := by
  cases d <;> simp only [truthD, reduceCtorEq] at hb <;> cases hb <;> unfold RD at h
  · subst h; rfl
  · subst h; rfl
  · subst h; rfl
  · obtain ⟨a, xs, rfl, t, r⟩ := h
    refine .inr (.inl ⟨xs, by rw [hK]; exact l.sqT t, ?_⟩)
    have := r.nil_iff
    cases xs with
    | nil =>
      have e := this.mpr rfl
      subst e
      rfl
    | cons x xs =>
      rename_i ds
      cases ds with
      | nil => exact absurd (this.mp rfl) (by simp)
      | cons _ _ => rfl
  · obtain ⟨a, xs, rfl, t, r⟩ := h
    refine .inl ⟨xs, .inl (.inl (l _ _ t)), ?_⟩
    have := r.nil_iff
    cases xs with
    | nil =>
      have e := this.mpr rfl
      subst e
      rfl
    | cons x xs =>
      rename_i ds
      cases ds with
      | nil => exact absurd (this.mp rfl) (by simp)
      | cons _ _ => rfl
def tyN : Ty → String
  | .int => "int" | .bool => "bool" | .str => "str" | .tuple => "tuple" | .list => "list" | .dict => "dict" | .own _ => ""
def knd : D → String
  | .non => "NoneType" | .bl _ => "bool" | .int _ => "int" | .str _ => "str" | .tup _ => "tuple" | .lst _ => "list" | .dct _ => "dict" | _ => ""
theorem kit_all {K : PySem.W.Frag} : ∀ (d : D) (t : Ty) (b : Bool), (∀ c, t ≠ .own c) → isiD d t = some b → (∀ c l, d ≠ .ins c l) → PySem.W.kitOne K (.type (knd d)) (.type (tyN t)) = some b := by
  intro d t b ht h hi
  refine kit_ty ?_
  cases d <;> cases t <;> simp only [isiD, reduceCtorEq] at h <;> first
    | exact absurd rfl (ht _)
    | exact absurd rfl (hi _ _)
    | (cases h; simp only [knd, tyN]; decide +kernel)
theorem sqT_ty {K : PySem.W.Frag} {H : Hp} {a : Addr} {xs : List V} (h : SqT K H a xs) : TyX K H (.ref a) (.type "tuple") := by
  rcases h with (h | ⟨o, h⟩) | ⟨o, its, n, h1, h2, _⟩
  · exact .base (.tup h)
  · exact .fTuple h
  · exact .kTuple h1 h2
theorem ty_of {p : Pl} {H : Hp} : ∀ {d : D} {v : V}, RD p H d v → (∃ t b, isiD d t = some b) → (∀ c l, d ≠ .ins c l) → TyX p.K H v (.type (knd d))
  | .non, v, h, _, _ => by unfold RD at h; subst h; exact .base .non
  | .bl b, v, h, _, _ => by unfold RD at h; subst h; exact .base (.bl b)
  | .int b, v, h, _, _ => by unfold RD at h; subst h; exact .base (.int b)
  | .str b, v, h, _, _ => by unfold RD at h; subst h; exact .base (.str b)
  | .tup ds, v, h, _, _ => by
    unfold RD at h
    obtain ⟨a, xs, rfl, t, r⟩ := h
    exact sqT_ty t
  | .lst ds, v, h, _, _ => by
    unfold RD at h
    obtain ⟨a, xs, rfl, t, r⟩ := h
    exact .base (.lst t)
  | .dct ds, v, h, _, _ => by
    unfold RD at h
    obtain ⟨a, rfl, _, t | t⟩ := h
    · exact .base (.dK t)
    · exact .base (.dT t)
  | .ins c l, v, h, _, hi => absurd rfl (hi c l)
  | .set _, v, h, e, _ => by obtain ⟨t, b, e⟩ := e; cases t <;> simp [isiD] at e
  | .fn _, v, h, e, _ => by obtain ⟨t, b, e⟩ := e; cases t <;> simp [isiD] at e
  | .lam, v, h, e, _ => by obtain ⟨t, b, e⟩ := e; cases t <;> simp [isiD] at e
  | .scr _, v, h, e, _ => by obtain ⟨t, b, e⟩ := e; cases t <;> simp [isiD] at e
theorem RD.not_ins {p : Pl} {Z : Hp} {d : D} {v : V} (h : RD p Z d v) : ∀ c l, d ≠ .ins c l := fun c l e => by
  subst e
  unfold RD at h
  exact h

/-! ### subscripts -/
theorem ixN_eq (n : Nat) (i : Int) : VI.ixN n i = L2.ixN n i := rfl
def rIdx (p : Pl) : R2 := fun x y H Q => ∃ Z d e r, Le Z H ∧ RP p Z H d x ∧ RD p Z e y ∧ idxD d e = some r ∧ ∀ v, RD p Z r v → Q v H
theorem idx_ok {X : Cx} {p : Pl} (hK : X.K = p.K) : IxR X (rIdx p) := by
  intro value slice pins s σ H x y v u Q I rx ry h hs
  obtain ⟨Z, d, e, r, l, hd, he, hr, q⟩ := h
  cases d <;> cases e <;> simp only [idxD, reduceCtorEq] at hr
  case tup.int ds i =>
    obtain ⟨a, xs, rfl, t, rr⟩ := hd.tup
    have hy := rd_int he
    subst hy
    simp only [Option.bind_eq_some_iff] at hr
    obtain ⟨j, hj, hr⟩ := hr
    obtain ⟨w, hw, rw'⟩ := rr.get hr
    refine ix_tup value slice pins s σ H _ _ v u Q I rx ry ⟨a, xs, i, w, rfl, rfl, by rw [hK]; exact l.sqT t, ?_, q w rw'⟩ hs
    unfold atI
    rw [← ixN_eq, ← rr.len, hj]
    exact hw
  case lst.int ds i =>
    obtain ⟨a, xs, rfl, t, rr⟩ := hd
    have hy := rd_int he
    subst hy
    simp only [Option.bind_eq_some_iff] at hr
    obtain ⟨j, hj, hr⟩ := hr
    obtain ⟨w, hw, rw'⟩ := rr.get hr
    refine ix_list value slice pins s σ H _ _ v u Q I rx ry ⟨a, xs, i, w, rfl, rfl, .inl (.inl t), ?_, q w rw'⟩ hs
    unfold atI
    rw [← ixN_eq, ← rr.len, hj]
    exact hw
  case scr.int ns i =>
    obtain ⟨a, rfl, t⟩ := hd.scr
    have hy := rd_int he
    subst hy
    simp only [Option.bind_eq_some_iff, Option.map_eq_some_iff] at hr
    obtain ⟨j, hj, z, hz, rfl⟩ := hr
    refine ix_list value slice pins s σ H _ _ v u Q I rx ry ⟨a, ns.map V.int, i, .int z, rfl, rfl, by rw [hK]; exact l.sqL t, ?_, q _ int_rd⟩ hs
    unfold atI
    rw [← ixN_eq, List.length_map, hj]
    show (ns.map V.int)[j]? = some (.int z)
    rw [List.getElem?_map, hz]
    rfl
  all_goals
    obtain ⟨a, _, n, _⟩ := hd
    subst n
    simp [dget] at hr
/-! ### slices -/
theorem sIx_eq (n d : Nat) (o : Option Int) : VI.sIx n d o = HT.sIx n d o := by
  cases o with
  | none => rfl
  | some v =>
    have e := HT.clip_eq v n d
    show (if v < 0 then (v + n).toNat else min v.toNat n) = _
    split
    · rename_i h
      rw [if_pos h] at e
      have : ((HT.sIx n d (some v) : Nat) : Int) = max (v + n) 0 := e.symm
      omega
    · rename_i h
      rw [if_neg h] at e
      have : ((HT.sIx n d (some v) : Nat) : Int) = min v n := e.symm
      omega
theorem cut_rds {p : Pl} {Z : Hp} {ds : List D} {xs : List V} (h : RDs p Z ds xs) (lo hi : Option Int) : RDs p Z (cutL ds lo hi) (cutV xs lo hi) := by
  unfold cutL cutV
  rw [sIx_eq, sIx_eq, h.len]
  exact (h.drop _).take _
def rSlc (p : Pl) : V → Option Int → Option Int → Hp → VK → Prop := fun x lo hi H Q => ∃ Z d o, Le Z H ∧ RP p Z H d x ∧ slcO d lo hi = some o ∧ ∀ v H', Res p Z H o v H' → Q v H'
theorem slc_ok {X : Cx} {p : Pl} (hK : X.K = p.K) : SlR X (rSlc p) := by
  intro pins s σ H x v vl vu lo hi sl Q I rx hs pl pu h
  obtain ⟨Z, d, o, l, hd, ho, q⟩ := h
  cases d <;> simp only [slcO, reduceCtorEq] at ho <;> cases ho
  · obtain ⟨a, xs, rfl, t, r⟩ := hd.tup
    refine sl_tupA pins s σ H _ v vl vu lo hi sl Q I rx hs pl pu ⟨a, xs, rfl, by rw [hK]; exact l.sqT t, fun w => ?_, fun _ q' hq => q _ _ (Res.tup l hq (cut_rds r lo hi))⟩
    refine q _ _ (Res.same ?_)
    have e : cutV xs lo hi = xs := by
      unfold cutV
      rw [w.1, w.2]
      simp
    have r2 := cut_rds r lo hi
    rw [e] at r2
    unfold RD
    exact ⟨a, xs, rfl, t, r2⟩
  · obtain ⟨a, xs, rfl, t, r⟩ := hd
    exact sl_list pins s σ H _ v vl vu lo hi sl Q I rx hs pl pu ⟨a, xs, rfl, .inl (.inl t), fun q' hq => q _ _ (Res.lst hq (cut_rds r lo hi))⟩
end VI
end

section
set_option Elab.async false
set_option linter.all false
set_option maxRecDepth 10000
/-! VI5: calls of built-in names by values. -/
namespace VI
open PySem PySem.Spec PyProof.Rows L2

inductive RPs (p : Pl) (Z H : Hp) : List D → List V → Prop where
  | nil : RPs p Z H [] []
  | cons {d : D} {v : V} {ds : List D} {vs : List V} : RP p Z H d v → RPs p Z H ds vs → RPs p Z H (d :: ds) (v :: vs)
theorem RDs.rps {p : Pl} {Z H : Hp} (l : Le Z H) : ∀ {ds : List D} {vs : List V}, RDs p Z ds vs → RPs p Z H ds vs
  | [], _, h => by unfold RDs at h; subst h; exact .nil
  | d :: ds, _, h => by
    unfold RDs at h
    obtain ⟨v, r, rfl, q, t⟩ := h
    exact .cons (q.rp l) (RDs.rps l t)
/-- the callee -/
def biV : Bi → Value
  | .len => .builtin "len" | .int => .type "int" | .abs => .builtin "abs" | .max2 => .builtin "max" | .min2 => .builtin "min" | .max1 => .builtin "max" | .min1 => .builtin "min"
  | .sum => .builtin "sum" | .all => .builtin "all" | .any => .builtin "any" | .tuple => .type "tuple" | .list => .type "list" | .sorted => .builtin "sorted" | .set => .type "set" | .repr => .builtin "repr"
  | .str => .type "str" | .bool => .type "bool" | .dict => .type "dict" | .sortset => .builtin "sorted" | .lenset => .builtin "len"
def rBi (p : Pl) (b : Bi) : List V → Hp → VK → Prop := fun vs H Q => ∃ Z ds o, Le Z H ∧ RPs p Z H ds vs ∧ biO b ds = some o ∧ ∀ v H', Res p Z H o v H' → Q v H'

theorem insI_perm (x : Int) : ∀ l : List Int, (insI x l).Perm (x :: l)
  | [] => List.Perm.refl _
  | y :: l => by
    unfold insI
    split
    · exact List.Perm.refl _
    · exact ((insI_perm x l).cons y).trans (List.Perm.swap x y l)
theorem sortI_perm : ∀ l : List Int, (sortI l).Perm l
  | [] => List.Perm.refl _
  | x :: l => (insI_perm x _).trans ((sortI_perm l).cons x)
theorem insI_le (x : Int) : ∀ l : List Int, l.Pairwise (· ≤ ·) → (insI x l).Pairwise (· ≤ ·)
  | [], _ => by simp [insI]
  | y :: l, h => by
    unfold insI
    obtain ⟨h1, h2⟩ := List.pairwise_cons.mp h
    split
    · rename_i hx
      exact List.pairwise_cons.mpr ⟨fun z hz => by
        rcases List.mem_cons.mp hz with rfl | hz
        · exact hx
        · exact Int.le_trans hx (h1 z hz), h⟩
    · rename_i hx
      refine List.pairwise_cons.mpr ⟨fun z hz => ?_, insI_le x l h2⟩
      rcases List.mem_cons.mp ((insI_perm x l).mem_iff.mp hz) with rfl | hz
      · omega
      · exact h1 z hz
theorem sortI_le : ∀ l : List Int, (sortI l).Pairwise (· ≤ ·)
  | [] => List.Pairwise.nil
  | x :: l => insI_le x _ (sortI_le l)
theorem sorted_one : ∀ {a b : List Int}, a.Perm b → a.Pairwise (· ≤ ·) → b.Pairwise (· ≤ ·) → a = b
  | [], b, h, _, _ => h.nil_eq
  | x :: a, [], h, _, _ => by simpa using h.length_eq
  | x :: a, y :: b, h, ha, hb => by
    obtain ⟨a1, a2⟩ := List.pairwise_cons.mp ha
    obtain ⟨b1, b2⟩ := List.pairwise_cons.mp hb
    have e : x = y := by
      have h1 : x ∈ y :: b := h.mem_iff.mp List.mem_cons_self
      have h2 : y ∈ x :: a := h.mem_iff.mpr List.mem_cons_self
      have k1 : y ≤ x := by
        rcases List.mem_cons.mp h1 with q | q
        · omega
        · exact b1 x q
      have k2 : x ≤ y := by
        rcases List.mem_cons.mp h2 with q | q
        · omega
        · exact a1 y q
      omega
    subst e
    rw [sorted_one (List.perm_cons x |>.mp h) a2 b2]
theorem foldl_max_ge : ∀ (l : List Int) (x : Int), x ≤ l.foldl max x ∧ (∀ y ∈ l, y ≤ l.foldl max x) ∧ (l.foldl max x = x ∨ l.foldl max x ∈ l)
  | [], x => ⟨Int.le_refl x, (fun y h => nomatch h), Or.inl rfl⟩
  | y :: l, x => by
    obtain ⟨h1, h2, h3⟩ := foldl_max_ge l (max x y)
    refine ⟨by simp only [List.foldl_cons]; omega, fun z hz => ?_, ?_⟩
    · simp only [List.foldl_cons]
      rcases List.mem_cons.mp hz with rfl | hz
      · omega
      · exact h2 z hz
    · simp only [List.foldl_cons]
      rcases h3 with h3 | h3
      · rw [h3]
        by_cases c : x ≤ y
        · right; rw [show max x y = y by omega]; exact List.mem_cons_self
        · left; omega
      · right; exact List.mem_cons_of_mem _ h3
theorem foldl_min_le : ∀ (l : List Int) (x : Int), l.foldl min x ≤ x ∧ (∀ y ∈ l, l.foldl min x ≤ y) ∧ (l.foldl min x = x ∨ l.foldl min x ∈ l)
  | [], x => ⟨Int.le_refl x, (fun y h => nomatch h), Or.inl rfl⟩
  | y :: l, x => by
    obtain ⟨h1, h2, h3⟩ := foldl_min_le l (min x y)
    refine ⟨by simp only [List.foldl_cons]; omega, fun z hz => ?_, ?_⟩
    · simp only [List.foldl_cons]
      rcases List.mem_cons.mp hz with rfl | hz
      · omega
      · exact h2 z hz
    · simp only [List.foldl_cons]
      rcases h3 with h3 | h3
      · rw [h3]
        by_cases c : y ≤ x
        · right; rw [show min x y = y by omega]; exact List.mem_cons_self
        · left; omega
      · right; exact List.mem_cons_of_mem _ h3
theorem RDs.bools {p : Pl} {Z : Hp} : ∀ {ds : List D} {xs : List V} {bs : List Bool}, RDs p Z ds xs → boolsOf ds = some bs → xs = bs.map V.bl
  | [], _, bs, h, e => by
    unfold RDs at h
    subst h
    simp [boolsOf] at e
    subst e
    rfl
  | d :: ds, _, bs, h, e => by
    unfold RDs at h
    obtain ⟨v, r, rfl, q, u⟩ := h
    cases d <;> simp only [boolsOf, reduceCtorEq] at e
    rename_i b
    simp only [Option.map_eq_some_iff] at e
    obtain ⟨m, hm, rfl⟩ := e
    have q' : v = .bl b := by unfold RD at q; exact q
    rw [u.bools hm, q']
    rfl
theorem rds_intfz (ns : List Int) : (ns.map fun i => O.fz (.int i)) = (ns.map D.int).map O.fz := by rw [List.map_map]; rfl
mutual
theorem noDictP : ∀ {d : D} {q : PyData}, d.toP = some q → q.hasDict = false
  | .non, q, e => by simp only [D.toP, Option.some.injEq] at e; subst e; rfl
  | .bl _, q, e => by simp only [D.toP, Option.some.injEq] at e; subst e; rfl
  | .int _, q, e => by simp only [D.toP, Option.some.injEq] at e; subst e; rfl
  | .str _, q, e => by simp only [D.toP, Option.some.injEq] at e; subst e; rfl
  | .tup ds, q, e => by
    simp only [D.toP, Option.map_eq_some_iff] at e
    obtain ⟨qs, hq, rfl⟩ := e
    simp only [PyData.hasDict]
    exact noDictPs hq
  | .lst ds, q, e => by
    simp only [D.toP, Option.map_eq_some_iff] at e
    obtain ⟨qs, hq, rfl⟩ := e
    simp only [PyData.hasDict]
    exact noDictPs hq
  | .dct _, _, e => by simp [D.toP] at e
  | .set _, _, e => by simp [D.toP] at e
  | .ins _ _, _, e => by simp [D.toP] at e
  | .fn _, _, e => by simp [D.toP] at e
  | .lam, _, e => by simp [D.toP] at e
  | .scr _, _, e => by simp [D.toP] at e
theorem noDictPs : ∀ {ds : List D} {qs : List PyData}, D.toPs ds = some qs → PyData.hasDictAll qs = false
  | [], qs, e => by simp only [D.toPs, Option.some.injEq] at e; subst e; rfl
  | d :: ds, qs, e => by
    unfold D.toPs at e
    split at e
    · rename_i q hq
      split at e
      · rename_i ps hp
        cases e
        simp only [PyData.hasDictAll, noDictP hq, noDictPs hp, Bool.or_false]
      · cases e
    · cases e
end
/-- repr, where no repr runs -/
theorem repr_ok {X : Cx} {p : Pl} (hK : X.K = p.K) (hu : X.A.units + 66 < cLine) (hg : X.A.guards = some []) :
    CallR X (.builtin "repr") (fun vs H Q => ∃ Z d w q, vs = [w] ∧ Le Z H ∧ RP p Z H d w ∧ d.toP = some q ∧ PyData.showable q = true ∧ q.shown.length ≤ 100000 ∧ q.depth ≤ 30 ∧ Q (.str q.shown) H) := by
  intro pins s σ H vs us Q I r h
  obtain ⟨Z, d, w, q, rfl, l, hd, hq, hs, hz, hdp, k⟩ := h
  obtain ⟨u, rfl, ru⟩ := vals1 r
  obtain ⟨as, r1⟩ := Dp.reads I q w u (by rw [hK]; exact dp_of (hd.up l) hq) ru
  have hz' : q.shown.length ≤ sizeLine := by rw [sizeLine_eq]; omega
  have fin : ∀ {t : Tok} {h' : Heap} {tk : Nat}, (∀ b o, s.heap.get? b = some o → h'.get? b = some o) → EP X pins σ Q (.str q.shown t) { s with heap := h', toks := tk } := fun {t h' tk} hk => ⟨.str q.shown, H, I.kept hk, ⟨_, rfl⟩, k⟩
  have nd := PyData.noDict_hsm (as := as) (noDictP hq)
  cases d with
  | non =>
    have e := hd.non
    subst e
    cases ru
    simp only [D.toP, Option.some.injEq] at hq
    subst hq
    simp only [PyData.shown] at fin
    exact PySem.P.repr_of_none (fin fun _ _ z => z)
  | bl b =>
    have e := hd.bl
    subst e
    cases ru
    simp only [D.toP, Option.some.injEq] at hq
    subst hq
    simp only [PyData.shown] at fin
    exact PySem.P.repr_of_bool (fin fun _ _ z => z)
  | int i =>
    have e := hd.int
    subst e
    obtain ⟨t, rfl⟩ := ru
    simp only [D.toP, Option.some.injEq] at hq
    subst hq
    simp only [PyData.shown] at fin
    exact PySem.P.repr_of_int (by simpa [PyData.showable] using hs) (fin fun _ _ z => z)
  | str x =>
    have e := hd.str
    subst e
    obtain ⟨t, rfl⟩ := ru
    simp only [D.toP, Option.some.injEq] at hq
    subst hq
    simp only [PyData.shown] at fin hz'
    exact PySem.P.repr_of_str (fin fun _ _ z => z) hz'
  | tup ds =>
    obtain ⟨a, xs, rfl, _⟩ := hd.tup
    cases ru
    exact repr_of_reads' r1 hs nd hg (by omega) (fun _ _ z => z) (fun h' u tk hk => fin hk) hz'
  | lst ds =>
    obtain ⟨a, xs, rfl, _⟩ := hd
    cases ru
    exact repr_of_reads' r1 hs nd hg (by omega) (fun _ _ z => z) (fun h' u tk hk => fin hk) hz'
  | _ => simp [D.toP] at hq
/-- set(t), t a tuple of ints -/
theorem set_ok {X : Cx} {p : Pl} (hK : X.K = p.K) (hc : X.calm = true) : CallR X (.type "set") (fun vs H Q => ∃ (Z : Hp) (ns : List Int) (w : V), vs = [w] ∧ Le Z H ∧ RP p Z H (.tup (ns.map D.int)) w ∧ ns.length < 64 ∧
    ∀ q c, H q = none → c < 64 → Q (.ref q) (upd H q (SetO X.w q (fun j => decide (j ∈ ns)) c))) := by
  intro pins s σ H vs us Q I r h
  obtain ⟨Z, ns, w, rfl, l, hd, hz, k⟩ := h
  obtain ⟨a, xs, rfl, t, rr⟩ := hd.tup
  have e : xs = ns.map V.int := rr.ints (by
    clear hd rr k hz
    induction ns with
    | nil => rfl
    | cons n ns ih => simp [intsOf, ih])
  subst e
  rw [Vals.ref1 r]
  obtain ⟨its, rv, ht, hl⟩ := I.tuple (by rw [hK]; exact l.sqT t)
  have hit := rv.ints
  refine call_set_tupI ns (I.ok.hd hc) (by
    obtain ⟨o, ho, hcl, n, hdt⟩ := ht
    exact ⟨o, ho, hcl, n, hdt⟩) (by simpa using hit) (by unfold scanBound; omega) fun h' tk c R hcn hk => ?_
  have J : Inv X pins σ (upd H s.heap.objs.size (SetO X.w s.heap.objs.size (fun j => decide (j ∈ ns)) c)) { s with heap := h', toks := tk } := I.laid hk (Nat.le_refl _) (setO_new R)
  exact ⟨.ref s.heap.objs.size, _, J, rfl, k _ _ (I.hok.fresh (Nat.le_refl _)) (by omega)⟩
theorem eq_sorted {ns ns' : List Int} (h : ns'.Perm ns) (s : ns'.Pairwise (· ≤ ·)) : ns' = sortI ns := sorted_one (h.trans (sortI_perm ns).symm) s (sortI_le ns)
theorem bi1_ok {X : Cx} {p : Pl} (hK : X.K = p.K) (hc : X.calm = true) (b : Bi) (hb : b ≠ .repr) (hb2 : b ≠ .sortset) :
    CallR X (biV b) (fun vs H Q => ∃ Z d w o, vs = [w] ∧ Le Z H ∧ RP p Z H d w ∧ bi1 b d = some o ∧ ∀ v H', Res p Z H o v H' → Q v H') := by
  intro pins s σ H vs us Q I r h
  obtain ⟨Z, d, w, o, rfl, l, hd, ho, q⟩ := h
  cases b with
  | len =>
    simp only [bi1, Option.map_eq_some_iff] at ho
    obtain ⟨n, hn, rfl⟩ := ho
    have fin : ∀ k : Int, k = n → Q (.int k) H := fun k e => by
      subst e
      exact q _ _ (Res.same int_rd)
    cases d <;> simp only [len1, reduceCtorEq, Option.some.injEq] at hn
    · obtain ⟨a, xs, rfl, t, rr⟩ := hd.tup
      exact call_len_seq pins s σ H _ us Q I r ⟨a, xs, rfl, .inr (by rw [hK]; exact l.sqT t), fin _ (by rw [← rr.len]; exact hn)⟩
    · obtain ⟨a, xs, rfl, t, rr⟩ := hd
      exact call_len_seq pins s σ H _ us Q I r ⟨a, xs, rfl, .inl (.inl (.inl t)), fin _ (by rw [← rr.len]; exact hn)⟩
    · obtain ⟨a, rfl, t⟩ := hd.scr
      exact call_len_seq pins s σ H _ us Q I r ⟨a, _, rfl, .inl (by rw [hK]; exact l.sqL t), fin _ (by rw [List.length_map]; exact hn)⟩
  | int =>
    cases d <;> simp only [bi1, reduceCtorEq, Option.some.injEq] at ho <;> subst ho
    · have e := hd.bl
      subst e
      exact call_int1 pins s σ H _ us Q I r (.inr ⟨_, rfl, q _ _ (Res.same int_rd)⟩)
    · have e := hd.int
      subst e
      exact call_int1 pins s σ H _ us Q I r (.inl ⟨_, rfl, q _ _ (Res.same int_rd)⟩)
  | abs =>
    cases d <;> simp only [bi1, reduceCtorEq, Option.some.injEq] at ho
    subst ho
    have e := hd.int
    subst e
    exact call_abs pins s σ H _ us Q I r ⟨_, rfl, q _ _ (Res.same int_rd)⟩
  | max1 =>
    cases d <;> simp only [bi1, reduceCtorEq] at ho
    split at ho
    · rename_i x t he
      cases ho
      obtain ⟨a, xs, rfl, t', rr⟩ := hd
      have e := rr.ints he
      subst e
      refine cr_max hc pins s σ H _ us Q I r ⟨a, _, rfl, .inl (.inl t'), by simp, fun m hm hx => ?_⟩
      obtain ⟨h1, h2, h3⟩ := foldl_max_ge t x
      have e : m = t.foldl max x := by
        have k1 : t.foldl max x ≤ m := by
          rcases h3 with h3 | h3
          · rw [h3]; exact hx x List.mem_cons_self
          · exact hx _ (List.mem_cons_of_mem _ h3)
        have k2 : m ≤ t.foldl max x := by
          rcases List.mem_cons.mp hm with rfl | hm
          · exact h1
          · exact h2 m hm
        omega
      rw [e]
      exact q _ _ (Res.same int_rd)
    · cases ho
  | min1 =>
    cases d <;> simp only [bi1, reduceCtorEq] at ho
    split at ho
    · rename_i x t he
      cases ho
      obtain ⟨a, xs, rfl, t', rr⟩ := hd
      have e := rr.ints he
      subst e
      refine cr_min hc pins s σ H _ us Q I r ⟨a, _, rfl, .inl (.inl t'), by simp, fun m hm hx => ?_⟩
      obtain ⟨h1, h2, h3⟩ := foldl_min_le t x
      have e : m = t.foldl min x := by
        have k1 : m ≤ t.foldl min x := by
          rcases h3 with h3 | h3
          · rw [h3]; exact hx x List.mem_cons_self
          · exact hx _ (List.mem_cons_of_mem _ h3)
        have k2 : t.foldl min x ≤ m := by
          rcases List.mem_cons.mp hm with rfl | hm
          · exact h1
          · exact h2 m hm
        omega
      rw [e]
      exact q _ _ (Res.same int_rd)
    · cases ho
  | sum =>
    cases d <;> simp only [bi1, reduceCtorEq, Option.map_eq_some_iff] at ho
    obtain ⟨ns, he, rfl⟩ := ho
    obtain ⟨a, xs, rfl, t', rr⟩ := hd
    have e := rr.ints he
    subst e
    exact cr_sum hc pins s σ H _ us Q I r ⟨a, ns, rfl, .inl (.inl t'), q _ _ (Res.same int_rd)⟩
  | all =>
    cases d <;> simp only [bi1, reduceCtorEq, Option.map_eq_some_iff] at ho
    obtain ⟨ns, he, rfl⟩ := ho
    obtain ⟨a, xs, rfl, t', rr⟩ := hd
    have e := rr.bools he
    subst e
    exact cr_all hc pins s σ H _ us Q I r ⟨a, ns, rfl, .inl (.inl t'), q _ _ (Res.same bl_rd)⟩
  | any =>
    cases d <;> simp only [bi1, reduceCtorEq, Option.map_eq_some_iff] at ho
    obtain ⟨ns, he, rfl⟩ := ho
    obtain ⟨a, xs, rfl, t', rr⟩ := hd
    have e := rr.bools he
    subst e
    exact cr_any hc pins s σ H _ us Q I r ⟨a, ns, rfl, .inl (.inl t'), q _ _ (Res.same bl_rd)⟩
  | tuple =>
    cases d <;> simp only [bi1, reduceCtorEq, Option.some.injEq] at ho <;> subst ho
    · obtain ⟨a, xs, rfl, t, rr⟩ := hd.tup
      refine call_tuple_of pins s σ H _ us Q I r ⟨a, xs, rfl, .inr ⟨by rw [hK]; exact l.sqT t, q _ _ (Res.same ?_)⟩⟩
      unfold RD
      exact ⟨a, xs, rfl, t, rr⟩
    · obtain ⟨a, xs, rfl, t, rr⟩ := hd
      exact call_tuple_of pins s σ H _ us Q I r ⟨a, xs, rfl, .inl ⟨.inl (.inl t), fun q' hq => q _ _ (Res.tup l hq rr)⟩⟩
  | list =>
    cases d <;> simp only [bi1, reduceCtorEq, Option.some.injEq] at ho <;> subst ho
    · obtain ⟨a, xs, rfl, t, rr⟩ := hd.tup
      exact call_list_of pins s σ H _ us Q I r ⟨a, xs, rfl, .inr (by rw [hK]; exact l.sqT t), fun q' hq => q _ _ (Res.lst hq rr)⟩
    · obtain ⟨a, xs, rfl, t, rr⟩ := hd
      exact call_list_of pins s σ H _ us Q I r ⟨a, xs, rfl, .inl (.inl (.inl t)), fun q' hq => q _ _ (Res.lst hq rr)⟩
  | sorted =>
    cases d <;> simp only [bi1, reduceCtorEq, Option.map_eq_some_iff] at ho
    obtain ⟨ns, he, rfl⟩ := ho
    obtain ⟨a, xs, rfl, t', rr⟩ := hd
    have e := rr.ints he
    subst e
    refine cr_sortedI pins s σ H _ us Q I r ⟨a, ns, rfl, .inl (.inl t'), fun ns' q' h1 h2 hq => ?_⟩
    rw [eq_sorted h1 h2]
    rw [rds_intfz] at q
    exact q _ _ (Res.lst hq (rd_ints _))
  | repr => exact absurd rfl hb
  | sortset => exact absurd rfl hb2
  | _ => simp [bi1] at ho
theorem bi2_ok {X : Cx} {p : Pl} (hc : X.calm = true) (b : Bi) :
    CallR X (biV b) (fun vs H Q => ∃ Z d e w z o, vs = [w, z] ∧ Le Z H ∧ RD p Z d w ∧ RD p Z e z ∧ bi2 b d e = some o ∧ ∀ v H', Res p Z H o v H' → Q v H') := by
  intro pins s σ H vs us Q I r h
  obtain ⟨Z, d, e, w, z, o, rfl, l, hd, he, ho, q⟩ := h
  cases b <;> simp only [bi2, reduceCtorEq] at ho
  · cases d <;> cases e <;> simp only [reduceCtorEq, Option.some.injEq] at ho
    subst ho
    have e1 := rd_int hd
    have e2 := rd_int he
    subst e1 e2
    exact call_max2 hc pins s σ H _ us Q I r ⟨_, _, rfl, q _ _ (Res.same int_rd)⟩
  · cases d <;> cases e <;> simp only [reduceCtorEq, Option.some.injEq] at ho
    subst ho
    have e1 := rd_int hd
    have e2 := rd_int he
    subst e1 e2
    exact call_min2 hc pins s σ H _ us Q I r ⟨_, _, rfl, q _ _ (Res.same int_rd)⟩
/-- isinstance(x, T) of a built-in T -/
theorem isi_ok {X : Cx} {p : Pl} (hK : X.K = p.K) (t : Ty) (ht : ∀ c, t ≠ .own c) :
    CallR X (.builtin "isinstance") (fun vs H Q => ∃ Z d w b, vs = [w, .ty (tyN t)] ∧ Le Z H ∧ RP p Z H d w ∧ isiD d t = some b ∧ Q (.bl b) H) := by
  intro pins s σ H vs us Q I r h
  obtain ⟨Z, d, w, b, rfl, l, hd, hb, q⟩ := h
  have hd' := hd.up l
  refine call_isi pins s σ H _ us Q I r ⟨w, .ty (tyN t), .type (knd d), .type (tyN t), b, rfl, .ty _, ?_, kit_all d t b ht hb hd'.not_ins, q⟩
  rw [hK]
  exact ty_of hd' ⟨t, b, hb⟩ hd'.not_ins
end VI
end

section
set_option Elab.async false
set_option linter.all false
set_option maxRecDepth 10000
/-! VI6: readings by the evaluator; expressions. -/
namespace VI
open PySem PySem.Spec PyProof.Rows L2

def ExcR (p : Pl) (Z : Hp) (c : Nat) (d : D) (cls : Value) (dd : Option Addr) : Prop := cls = .ref (p.exc c) ∧ match p.fld c with
  | none => d = .non
  | some f => ∃ q v, dd = some q ∧ Z q = some (.xd [(f, v)]) ∧ RD p Z d v
def ExOk (p : Pl) (W : WX) (σ : L2.St) (Z H : Hp) (F : List Addr) (c : Nat) (d : D) (ρ : VI.St) : Prop :=
  ∀ cls dd H' Z' Fs, Tr Z H F Z' H' (List.flatten Fs) → Good p Z' H' (List.flatten Fs) → SL p Z' H' ρ σ Fs → ExcR p Z' c d cls dd → W cls dd σ H'
/-- what is wanted behind an evaluation that gives what may be owned -/
def CoO (p : Pl) (W : WX) (σ : L2.St) (Z H : Hp) (F : List Addr) (r : R O) (Q : VK) : Prop := match r with
  | .ok o ρ => ∀ v H' Z' Fs G, Tr Z H F Z' H' (G ++ List.flatten Fs) → Good p Z' H' (G ++ List.flatten Fs) → SL p Z' H' ρ σ Fs → RO p Z' H' o v G → Q v H'
  | .ex c d ρ => ExOk p W σ Z H F c d ρ
  | .bad _ => False
/-- .. a value, by a relation -/
def CoV {α β : Type} (p : Pl) (W : WX) (σ : L2.St) (Rel : Hp → Hp → α → β → Prop) (Z H : Hp) (F : List Addr) (r : R α) (Q : β → Hp → Prop) : Prop := match r with
  | .ok a ρ => ∀ b H' Z' Fs, Tr Z H F Z' H' (List.flatten Fs) → Good p Z' H' (List.flatten Fs) → SL p Z' H' ρ σ Fs → Rel Z' H' a b → Q b H'
  | .ex c d ρ => ExOk p W σ Z H F c d ρ
  | .bad _ => False
def tO (p : Pl) (W : WX) (r : VI.St → R O) : TE := fun σ H Q => ∃ Z ρ Fs, Good p Z H (List.flatten Fs) ∧ SL p Z H ρ σ Fs ∧ CoO p W σ Z H (List.flatten Fs) (r ρ) Q
def tV {α β : Type} (p : Pl) (W : WX) (Rel : Hp → Hp → α → β → Prop) (r : VI.St → R α) : L2.St → Hp → (β → Hp → Prop) → Prop := fun σ H Q => ∃ Z ρ Fs, Good p Z H (List.flatten Fs) ∧ SL p Z H ρ σ Fs ∧ CoV p W σ Rel Z H (List.flatten Fs) (r ρ) Q
def relD (p : Pl) : Hp → Hp → D → V → Prop := fun Z _ d v => RD p Z d v
def relP (p : Pl) : Hp → Hp → D → V → Prop := fun Z H d v => RP p Z H d v
def relB : Hp → Hp → Bool → Bool → Prop := fun _ _ a b => a = b
def relDs (p : Pl) : Hp → Hp → List D → List V → Prop := fun Z _ ds vs => RDs p Z ds vs
def relI : Hp → Hp → Option Int → Option Int → Prop := fun _ _ a b => a = b
section
variable {p : Pl} {W : WX} {σ : L2.St} {Z H Z1 H1 : Hp} {F F1 : List Addr}
theorem ExOk.tr {c : Nat} {d : D} {ρ : VI.St} (t : Tr Z H F Z1 H1 F1) (h : ExOk p W σ Z H F c d ρ) : ExOk p W σ Z1 H1 F1 c d ρ :=
  fun cls dd H' Z' Fs a b s e => h cls dd H' Z' Fs (t.trans a) b s e
theorem CoO.tr {r : R O} {Q : VK} (t : Tr Z H F Z1 H1 F1) (h : CoO p W σ Z H F r Q) : CoO p W σ Z1 H1 F1 r Q := by
  cases r with
  | ok o ρ => exact fun v H' Z' Fs G a b s e => h v H' Z' Fs G (t.trans a) b s e
  | ex c d ρ => exact ExOk.tr t h
  | bad n => exact h
theorem CoV.tr {α β : Type} {Rel : Hp → Hp → α → β → Prop} {r : R α} {Q : β → Hp → Prop} (t : Tr Z H F Z1 H1 F1) (h : CoV p W σ Rel Z H F r Q) : CoV p W σ Rel Z1 H1 F1 r Q := by
  cases r with
  | ok o ρ => exact fun v H' Z' Fs a b s e => h v H' Z' Fs (t.trans a) b s e
  | ex c d ρ => exact ExOk.tr t h
  | bad n => exact h
theorem CoV.bindO {α β : Type} {Rel : Hp → Hp → α → β → Prop} {r : R α} {f : α → VI.St → R O} {Q : VK} {Q1 : β → Hp → Prop} (h : CoO p W σ Z H F (r.bind f) Q)
    (k : ∀ a ρ b H1 Z1 Fs, Tr Z H F Z1 H1 (List.flatten Fs) → Good p Z1 H1 (List.flatten Fs) → SL p Z1 H1 ρ σ Fs → Rel Z1 H1 a b → CoO p W σ Z1 H1 (List.flatten Fs) (f a ρ) Q → Q1 b H1) : CoV p W σ Rel Z H F r Q1 := by
  cases r with
  | ok a ρ => exact fun b H1 Z1 Fs t g s e => k a ρ b H1 Z1 Fs t g s e (CoO.tr t h)
  | ex c d ρ => exact h
  | bad n => exact h
theorem CoV.bindV {α β γ δ : Type} {Rel : Hp → Hp → α → β → Prop} {Rel2 : Hp → Hp → γ → δ → Prop} {r : R α} {f : α → VI.St → R γ} {Q : δ → Hp → Prop} {Q1 : β → Hp → Prop} (h : CoV p W σ Rel2 Z H F (r.bind f) Q)
    (k : ∀ a ρ b H1 Z1 Fs, Tr Z H F Z1 H1 (List.flatten Fs) → Good p Z1 H1 (List.flatten Fs) → SL p Z1 H1 ρ σ Fs → Rel Z1 H1 a b → CoV p W σ Rel2 Z1 H1 (List.flatten Fs) (f a ρ) Q → Q1 b H1) : CoV p W σ Rel Z H F r Q1 := by
  cases r with
  | ok a ρ => exact fun b H1 Z1 Fs t g s e => k a ρ b H1 Z1 Fs t g s e (CoV.tr t h)
  | ex c d ρ => exact h
  | bad n => exact h
/-- the value that is owned is frozen -/
theorem CoO.bindV {γ δ : Type} {Rel2 : Hp → Hp → γ → δ → Prop} {r : R O} {f : O → VI.St → R γ} {Q : δ → Hp → Prop} {Q1 : VK} (h : CoV p W σ Rel2 Z H F (r.bind f) Q)
    (k : ∀ o ρ b H1 Z1 Fs, Tr Z H F Z1 H1 (List.flatten Fs) → Good p Z1 H1 (List.flatten Fs) → SL p Z1 H1 ρ σ Fs → RD p Z1 o.toD b → CoV p W σ Rel2 Z1 H1 (List.flatten Fs) (f o ρ) Q → Q1 b H1) : CoO p W σ Z H F r Q1 := by
  cases r with
  | ok a ρ =>
    intro v H1 Z1 Fs G t g s e
    have hO := e.there
    have nd := List.nodup_append.mp g.nd
    have dj : ∀ a ∈ List.flatten Fs, a ∉ G := fun a ha hg => nd.2.2 a hg a ha rfl
    have t2 : Tr Z1 H1 (G ++ List.flatten Fs) (frz Z1 H1 G) H1 (List.flatten Fs) := Tr.fr g (fun a ha => List.mem_append_left _ ha) _ fun a ha => List.mem_append_right _ ha
    have g2 : Good p (frz Z1 H1 G) H1 (List.flatten Fs) := g.fr hO (fun a ha => List.mem_append_right _ ha) nd.2.1 dj (fun a ha => List.mem_append_left _ ha)
    exact k a ρ v H1 _ Fs (t.trans t2) g2 (s.le t2.zle fun _ _ => rfl) (e.frz t2.zle fun a ha => frz_in ha) (CoV.tr (t.trans t2) h)
  | ex c d ρ => exact h
  | bad n => exact h
theorem CoO.bindO {r : R O} {f : O → VI.St → R O} {Q Q1 : VK} (h : CoO p W σ Z H F (r.bind f) Q)
    (k : ∀ o ρ b H1 Z1 Fs, Tr Z H F Z1 H1 (List.flatten Fs) → Good p Z1 H1 (List.flatten Fs) → SL p Z1 H1 ρ σ Fs → RD p Z1 o.toD b → CoO p W σ Z1 H1 (List.flatten Fs) (f o ρ) Q → Q1 b H1) : CoO p W σ Z H F r Q1 := by
  cases r with
  | ok a ρ =>
    intro v H1 Z1 Fs G t g s e
    have hO := e.there
    have nd := List.nodup_append.mp g.nd
    have dj : ∀ a ∈ List.flatten Fs, a ∉ G := fun a ha hg => nd.2.2 a hg a ha rfl
    have t2 : Tr Z1 H1 (G ++ List.flatten Fs) (frz Z1 H1 G) H1 (List.flatten Fs) := Tr.fr g (fun a ha => List.mem_append_left _ ha) _ fun a ha => List.mem_append_right _ ha
    have g2 : Good p (frz Z1 H1 G) H1 (List.flatten Fs) := g.fr hO (fun a ha => List.mem_append_right _ ha) nd.2.1 dj (fun a ha => List.mem_append_left _ ha)
    exact k a ρ v H1 _ Fs (t.trans t2) g2 (s.le t2.zle fun _ _ => rfl) (e.frz t2.zle fun a ha => frz_in ha) (CoO.tr (t.trans t2) h)
  | ex c d ρ => exact h
  | bad n => exact h
theorem SL.ther {ρ : VI.St} {Fs : List (List Addr)} (s : SL p Z H ρ σ Fs) : ∀ a ∈ List.flatten Fs, ∃ w, H a = some w := fun a ha => let ⟨w, h, _⟩ := s.there a ha; ⟨w, h⟩
/-- a result comes -/
theorem CoO.res {o : O} {ρ : VI.St} {Fs : List (List Addr)} {Q : VK} {v : V} {H' : Hp} (h : CoO p W σ Z H (List.flatten Fs) (.ok o ρ) Q) (g : Good p Z H (List.flatten Fs)) (s : SL p Z H ρ σ Fs) (r : Res p Z H o v H') : Q v H' := by
  obtain ⟨Z', G, k⟩ := r
  obtain ⟨k1, k2, k3, k4⟩ := k _ g s.ther
  exact h v H' Z' Fs G k1 k2 (s.le k1.zle k4) k3
theorem CoO.val {d : D} {ρ : VI.St} {Fs : List (List Addr)} {Q : VK} {v : V} (h : CoO p W σ Z H (List.flatten Fs) (.ok (.fz d) ρ) Q) (g : Good p Z H (List.flatten Fs)) (s : SL p Z H ρ σ Fs) (r : RD p Z d v) : Q v H :=
  h.res g s (Res.same r)
theorem CoV.val {α β : Type} {Rel : Hp → Hp → α → β → Prop} {a : α} {b : β} {ρ : VI.St} {Fs : List (List Addr)} {Q : β → Hp → Prop} (h : CoV p W σ Rel Z H (List.flatten Fs) (.ok a ρ) Q) (g : Good p Z H (List.flatten Fs)) (s : SL p Z H ρ σ Fs) (r : Rel Z H a b) : Q b H :=
  h b H Z Fs Tr.id g s r
end
theorem PE.weak {X : Cx} {e : Expr} {t t' : TE} (h : PE X e t) (k : ∀ σ H Q, t' σ H Q → t σ H Q) : PE X e t' := ⟨fun pins s σ H Q I q => h.run pins s σ H Q I (k σ H Q q)⟩
theorem PT.weak {X : Cx} {e : Expr} {t t' : TT} (h : PT X e t) (k : ∀ σ H Q, t' σ H Q → t σ H Q) : PT X e t' := ⟨fun pins s σ H Q I q => h.run pins s σ H Q I (k σ H Q q)⟩
theorem PW.weak {X : Cx} {e : Expr} {t t' : TT} (h : PW X e t) (k : ∀ σ H Q, t' σ H Q → t σ H Q) : PW X e t' := ⟨fun wh pins s σ H Q I q => h.run wh pins s σ H Q I (k σ H Q q)⟩
theorem PA.weak {X : Cx} {e : List Expr} {t t' : TA} (h : PA X e t) (k : ∀ σ H Q, t' σ H Q → t σ H Q) : PA X e t' := ⟨fun pos pins s σ H Q I q => h.run pos pins s σ H Q I (k σ H Q q)⟩
theorem PS.weak {X : Cx} {e : Stmt} {t t' : TS} (h : PS X e t) (k : ∀ D σ H, t' D σ H → t D σ H) : PS X e t' := ⟨fun pins s σ H D I q => h.run pins s σ H D I (k D σ H q)⟩

/-! ### the frozen value, the value that is read at once -/
section
variable {X : Cx} {p : Pl} {W : WX} {C : Cfg} {e : Expr} {E : VI.E}
/-- from the value: the frozen one -/
theorem pe_D {n : Nat} (h : PE X e (tO p W (evE C n E))) : PE X e (tV p W (relD p) (evD C (n + 1) E)) := by
  refine PE.weak h fun σ H Q q => ?_
  obtain ⟨Z, ρ, Fs, g, s, q⟩ := q
  refine ⟨Z, ρ, Fs, g, s, ?_⟩
  have q' : CoV p W σ (relD p) Z H (List.flatten Fs) ((evE C n E ρ).bind fun o s => .ok o.toD s) Q := q
  exact CoO.bindV q' fun o ρ1 b H1 Z1 Fs1 t g1 s1 r k => k.val g1 s1 r
theorem pe_D0 : PE X e (tV p W (relD p) (evD C 0 E)) := ⟨fun pins s σ H Q I q => by
  obtain ⟨Z, ρ, Fs, g, s, q⟩ := q
  exact (show False from q).elim⟩
theorem pe_D' (h : ∀ n, PE X e (tO p W (evE C n E))) : ∀ n, PE X e (tV p W (relD p) (evD C n E))
  | 0 => pe_D0
  | n + 1 => pe_D (h n)
theorem parts_ro {p : Pl} {Z H : Hp} {o : O} {v : V} {F : List Addr} (h : RO p Z H o v F) (n : ∀ d, o ≠ .fz d) (g : ∀ a ∈ F, Z a = none) (nd : F.Nodup) :
    ∃ B G, F = B ++ G ∧ RP p (frz Z H G) H o.toD v ∧ RO p (frz Z H G) H o.parts v B := by
  cases o with
  | fz d => exact absurd rfl (n d)
  | ins c l => unfold RO at h; exact h.elim
  | dct kvs =>
    unfold RO at h
    obtain ⟨a, rfl, rfl, q, rfl⟩ := h
    refine ⟨[a], [], rfl, ⟨a, rfl, rfl, .inl q⟩, ?_⟩
    simp only [O.parts, O.toDk, List.map_nil]
    unfold RO
    exact ⟨a, rfl, rfl, q, rfl⟩
  | lst os =>
    unfold RO at h
    obtain ⟨a, xs, G, rfl, q, r, rfl⟩ := h
    have l : Le Z (frz Z H G) := le_frz fun b hb => g b (List.mem_cons_of_mem _ hb)
    have rr := r.frz l fun b hb => frz_in hb
    refine ⟨[a], G, rfl, ?_, ?_⟩
    · simp only [O.toD]
      exact ⟨a, xs, rfl, q, rr⟩
    · simp only [O.parts]
      unfold RO
      exact ⟨a, xs, [], rfl, q, ros_map rr, rfl⟩
theorem split3 {A B C : List Addr} (n : (A ++ (B ++ C)).Nodup) : (A ++ C).Nodup ∧ (∀ a ∈ A ++ C, a ∉ B) ∧ B.Nodup := by
  have n1 := List.nodup_append.mp n
  have n2 := List.nodup_append.mp n1.2.1
  refine ⟨List.nodup_append.mpr ⟨n1.1, n2.2.1, fun a ha b hb => n1.2.2 a ha b (List.mem_append_right _ hb)⟩, fun a ha hb => ?_, n2.1⟩
  rcases List.mem_append.mp ha with ha | ha
  · exact n1.2.2 a ha a (List.mem_append_left _ hb) rfl
  · exact n2.2.2 a hb a ha rfl
theorem join3 {A B C : List Addr} (n : (A ++ C).Nodup) (m : B.Nodup) (d : ∀ a ∈ A ++ C, a ∉ B) : (A ++ (B ++ C)).Nodup := by
  have n1 := List.nodup_append.mp n
  refine List.nodup_append.mpr ⟨n1.1, List.nodup_append.mpr ⟨m, n1.2.1, fun a ha b hb e => d b (List.mem_append_right _ hb) (e ▸ ha)⟩, fun a ha b hb e => ?_⟩
  rcases List.mem_append.mp hb with hb | hb
  · exact d a (List.mem_append_left _ ha) (e ▸ hb)
  · exact n1.2.2 a ha b hb e
theorem set_same {α : Type} : ∀ {l : List α} {i : Nat} {x : α}, l[i]? = some x → l.set i x = l
  | [], i, x, h => by simp at h
  | y :: l, 0, x, h => by simp at h; subst h; rfl
  | y :: l, i + 1, x, h => by
    simp only [List.set_cons_succ]
    rw [set_same (by simpa using h)]
theorem mem3 {A B C : List Addr} {a : Addr} : a ∈ A ++ (B ++ C) ↔ a ∈ A ++ C ∨ a ∈ B := by
  simp only [List.mem_append]
  constructor
  · rintro (h | h | h)
    · exact .inl (.inl h)
    · exact .inr h
    · exact .inl (.inr h)
  · rintro ((h | h) | h)
    · exact .inl h
    · exact .inr (.inr h)
    · exact .inr (.inl h)
/-- a slot's value is frozen -/
theorem rd_loc {p : Pl} {Z H : Hp} {ρ : VI.St} {σ : L2.St} {Fs : List (List Addr)} {i : Nat} {d : D} {ρ' : VI.St} (g : Good p Z H (List.flatten Fs)) (s : SL p Z H ρ σ Fs) (h : rdLoc i ρ = .ok d ρ') :
    ∃ v Z' Gs, σ[i]? = some (some v) ∧ Tr Z H (List.flatten Fs) Z' H (List.flatten Gs) ∧ Good p Z' H (List.flatten Gs) ∧ SL p Z' H ρ' σ Gs ∧ RD p Z' d v := by
  unfold rdLoc at h
  split at h
  · rename_i d' e
    cases h
    obtain ⟨v, A, B, C, h1, h2, h3, h4⟩ := s.at e
    exact ⟨v, Z, Fs, h1, Tr.id, g, s, h3.of_fz.1⟩
  · rename_i o hno e
    cases h
    obtain ⟨v, A, B, C, h1, h2, h3, h4⟩ := s.at e
    have nd := g.nd
    rw [h2] at nd
    obtain ⟨n1, n2, n3⟩ := split3 nd
    have hB : ∀ a ∈ B, a ∈ List.flatten Fs := fun a ha => by rw [h2]; exact mem3.mpr (.inr ha)
    have hF : ∀ a ∈ A ++ C, a ∈ List.flatten Fs := fun a ha => by rw [h2]; exact mem3.mpr (.inl ha)
    have t := Tr.fr g hB (A ++ C) hF
    have r : RD p (frz Z H B) o.toD v := h3.frz t.zle fun a ha => frz_in ha
    obtain ⟨Gs, e1, e2⟩ := h4.put (frz Z H B) H t.zle (fun _ _ => rfl) _ _ _ (RO.fz r)
    have e1' : List.flatten Gs = A ++ C := by rw [e1]; rfl
    rw [set_same h1] at e2
    refine ⟨v, frz Z H B, Gs, h1, by rw [e1']; exact t, ?_, e2, r⟩
    rw [e1']
    exact g.fr h3.there hF n1 n2 hB
  · cases h
/-- a slot's value is looked at -/
theorem pk_loc {p : Pl} {Z H : Hp} {ρ : VI.St} {σ : L2.St} {Fs : List (List Addr)} {i : Nat} {d : D} {ρ' : VI.St} (g : Good p Z H (List.flatten Fs)) (s : SL p Z H ρ σ Fs) (h : pkLoc i ρ = .ok d ρ') :
    ∃ v Z' Gs, σ[i]? = some (some v) ∧ Tr Z H (List.flatten Fs) Z' H (List.flatten Gs) ∧ Good p Z' H (List.flatten Gs) ∧ SL p Z' H ρ' σ Gs ∧ RP p Z' H d v := by
  unfold pkLoc at h
  split at h
  · rename_i d' e
    cases h
    obtain ⟨v, A, B, C, h1, h2, h3, h4⟩ := s.at e
    exact ⟨v, Z, Fs, h1, Tr.id, g, s, h3.of_fz.1.rp g.zh⟩
  · rename_i o hno e
    cases h
    obtain ⟨v, A, B, C, h1, h2, h3, h4⟩ := s.at e
    have nd := g.nd
    rw [h2] at nd
    obtain ⟨n1, n2, n3⟩ := split3 nd
    obtain ⟨B1, B2, rfl, r1, r2⟩ := parts_ro h3 hno (fun a ha => g.fz a (by rw [h2]; exact mem3.mpr (.inr ha))) n3
    have m := List.nodup_append.mp n3
    have hB : ∀ a ∈ B2, a ∈ List.flatten Fs := fun a ha => by rw [h2]; exact mem3.mpr (.inr (List.mem_append_right _ ha))
    have hF : ∀ a ∈ A ++ (B1 ++ C), a ∈ List.flatten Fs := fun a ha => by
      rw [h2]
      rcases mem3.mp ha with ha | ha
      · exact mem3.mpr (.inl ha)
      · exact mem3.mpr (.inr (List.mem_append_left _ ha))
    have t := Tr.fr g hB (A ++ (B1 ++ C)) hF
    obtain ⟨Gs, e1, e2⟩ := h4.put (frz Z H B2) H t.zle (fun _ _ => rfl) _ v _ r2
    rw [set_same h1] at e2
    refine ⟨v, frz Z H B2, Gs, h1, by rw [e1]; exact t, ?_, e2, r1⟩
    rw [e1]
    refine g.fr (fun a ha => h3.there a (List.mem_append_right _ ha)) hF (join3 n1 m.1 fun a ha hb => n2 a ha (List.mem_append_left _ hb)) (fun a ha hb => ?_) hB
    rcases mem3.mp ha with ha | ha
    · exact n2 a ha (List.mem_append_right _ hb)
    · exact m.2.2 a ha a hb rfl
  · cases h
end
end VI
end

section
set_option Elab.async false
set_option linter.all false
set_option maxRecDepth 10000
/-! VI7: what a def promises, where a body stands, calls. -/
namespace VI
open PySem PySem.Spec PyProof.Rows L2

/-- a def's promise by the evaluator -/
def spFn (p : Pl) (call : List O → VI.CR) : Sp := fun vs H Q E => ∃ Z os Fs, Good p Z H (List.flatten Fs) ∧ SL p Z H (os.map some) (vs.map some) Fs ∧ match call os with
  | .ok o ps => ∀ v H' Z' Gs G, Tr Z H (List.flatten Fs) Z' H' (G ++ List.flatten Gs) → Good p Z' H' (G ++ List.flatten Gs) → SL p Z' H' ps (vs.map some) Gs → RO p Z' H' o v G → Q v H'
  | .ex c d ps => ∀ cls dd H' Z' Gs, Tr Z H (List.flatten Fs) Z' H' (List.flatten Gs) → Good p Z' H' (List.flatten Gs) → SL p Z' H' ps (vs.map some) Gs → ExcR p Z' c d cls dd → E cls dd H'
  | .bad _ => False
/-- a def keeps its promise where no repr runs -/
structure FnG (P : Program) (w : World) (K : PySem.W.Frag) (mg : Str → Option Value) (base : Heap) (k : Nat) (f : Addr) (ps : List Str) (sp : Sp) : Prop where
  at_ : ∃ fd : FuncData, (∀ (s : Shared) (us : List Value), us.length = ps.length → BindsTo s fd ⟨us, []⟩ (ps.zip us)) ∧
    ∀ (A : Around) (outer : List Env) (s : Shared) (H : Hp) (args : Args) (us : List Value) (vs : List V) (Q : VK) (E : XK), Room k A → A.guards = some [] → Env0 P w K mg base A outer s H → BindsTo s fd args (ps.zip us) →
      Vals vs us → vs.length = ps.length → sp vs H Q E → codeAny (model P w) A (.call (.ref f) args) (L2.CR (L2.CX P w) outer P w H s Q E) s
  kp : PySem.W.keepIn K (.ref f) = true
theorem FnG.mono {P : Program} {w : World} {K : PySem.W.Frag} {mg : Str → Option Value} {base : Heap} {j k : Nat} {f : Addr} {ps : List Str} {sp : Sp} (F : FnG P w K mg base j f ps sp) (h : j ≤ k) : FnG P w K mg base k f ps sp := by
  obtain ⟨⟨fd, b, r⟩, kp⟩ := F
  exact ⟨⟨fd, b, fun A outer s H args us vs Q E hr => r A outer s H args us vs Q E (hr.mono h)⟩, kp⟩
/-- the callee runs -/
theorem run_fnG {X : Cx} {W : WX} {k : Nat} {f : Addr} {ps : List Str} {sp : Sp} {pins : List (Addr × Obj)} {σ : L2.St} {H : Hp} {s : Shared} {Q : VK} {us : List Value} {vs : List V} (F : FnG X.prog X.w X.K X.mg X.base k f ps sp) (hr : Room k X.A) (hg : X.A.guards = some []) (tk : Takes X W)
    (I : Inv X pins σ H s) (r : Vals vs us) (hl : vs.length = ps.length) (h : sp vs H Q (fun cls d H' => W cls d σ H')) : wpAny (model X.prog X.w) X.A (call (.ref f) us) (EP X pins σ Q) X.xe s := by
  obtain ⟨fd, hb, hrun⟩ := F.at_
  have hl2 : us.length = ps.length := r.length.symm.trans hl
  refine wpAny_call (codeAny_mono (hrun X.A X.stack s H ⟨us, []⟩ us vs Q _ hr hg I.env0 (hb s us hl2) r hl h) fun fl s' hq => ?_)
  match fl, hq with
  | .error e, hq => exact L2.passAt tk σ pins H s e s' I hq
  | .ok (.ret u), hq => exact I.after hq

/-! ### arguments -/
inductive ArgR (p : Pl) (σ : L2.St) (Z : Hp) : List (Option Nat × D) → List V → Prop where
  | nil : ArgR p σ Z [] []
  | val {d : D} {v : V} {as : List (Option Nat × D)} {vs : List V} : RD p Z d v → ArgR p σ Z as vs → ArgR p σ Z ((none, d) :: as) (v :: vs)
  | io {i : Nat} {d : D} {v : V} {as : List (Option Nat × D)} {vs : List V} : σ[i]? = some (some v) → ArgR p σ Z as vs → ArgR p σ Z ((some i, d) :: as) (v :: vs)
theorem ArgR.le {p : Pl} {σ : L2.St} {Z Z' : Hp} (l : Le Z Z') : ∀ {as : List (Option Nat × D)} {vs : List V}, ArgR p σ Z as vs → ArgR p σ Z' as vs
  | _, _, .nil => .nil
  | _, _, .val h t => .val (h.le l) (ArgR.le l t)
  | _, _, .io h t => .io h (ArgR.le l t)
def relA (p : Pl) (σ : L2.St) : Hp → Hp → List (Option Nat × D) → List V → Prop := fun Z _ as vs => ArgR p σ Z as vs
theorem set_none {σ : L2.St} {i : Nat} {v : V} (h : σ[i]? = some (some v)) : σ.set i (some v) = σ := set_same h
/-- the slots that are handed over are taken out -/
theorem args_out {p : Pl} {H : Hp} {σ : L2.St} {Z : Hp} : ∀ {as : List (Option Nat × D)} {vs : List V} {ρ : VI.St} {Fs : List (List Addr)} {os : List O} {ρ1 : VI.St}, ArgR p σ Z as vs → SL p Z H ρ σ Fs → (List.flatten Fs).Nodup → argOs as ρ = some (os, ρ1) →
    ∃ As Gs, SL p Z H (os.map some) (vs.map some) As ∧ SL p Z H ρ1 σ Gs ∧ (List.flatten As ++ List.flatten Gs).Nodup ∧ ∀ a, a ∈ List.flatten As ∨ a ∈ List.flatten Gs → a ∈ List.flatten Fs
  | _, _, ρ, Fs, os, ρ1, .nil, s, nd, e => by
    simp only [argOs, Option.some.injEq, Prod.mk.injEq] at e
    obtain ⟨rfl, rfl⟩ := e
    exact ⟨[], Fs, .nil, s, by simpa using nd, fun a h => by simpa using h⟩
  | _, _, ρ, Fs, os, ρ1, .val (d := d) (v := v) h t, s, nd, e => by
    unfold argOs at e
    split at e
    · rename_i os' s1 e1
      cases e
      obtain ⟨As, Gs, h1, h2, h3, h4⟩ := args_out t s nd e1
      exact ⟨[] :: As, Gs, .cons (RO.fz h) h1, h2, by simpa using h3, fun a ha => h4 a (by simpa using ha)⟩
    · cases e
  | _, _, ρ, Fs, os, ρ1, .io (i := i) (v := v) h t, s, nd, e => by
    unfold argOs at e
    split at e
    · rename_i o eo
      split at e
      · rename_i os' s1 e1
        cases e
        obtain ⟨v', A, B, C, k1, k2, k3, k4⟩ := s.at eo
        rw [h] at k1
        cases k1
        obtain ⟨Fs1, f1, f2⟩ := k4.out Z H Le.rfl' (fun _ _ => rfl) (some v)
        rw [set_none h] at f2
        rw [k2] at nd
        obtain ⟨n1, n2, n3⟩ := split3 nd
        obtain ⟨As, Gs, h1, h2, h3, h4⟩ := args_out t f2 (by rw [f1]; exact n1) e1
        refine ⟨B :: As, Gs, .cons k3 h1, h2, ?_, fun a ha => ?_⟩
        · rw [List.flatten_cons, List.append_assoc]
          refine List.nodup_append.mpr ⟨n3, h3, fun a ha b hb e => ?_⟩
          subst e
          have := h4 a (List.mem_append.mp hb)
          rw [f1] at this
          exact n2 a this ha
        · rw [k2]
          rw [List.flatten_cons, List.mem_append] at ha
          rcases ha with (ha | ha) | ha
          · exact mem3.mpr (.inr ha)
          · exact mem3.mpr (.inl (by rw [← f1]; exact h4 a (.inl ha)))
          · exact mem3.mpr (.inl (by rw [← f1]; exact h4 a (.inr ha)))
      · cases e
    · cases e
/-- .. and put back -/
theorem args_back {p : Pl} {H : Hp} {σ : L2.St} {Z0 Z : Hp} : ∀ {as : List (Option Nat × D)} {vs : List V} {ps : List (Option O)} {ρ1 ρ2 : VI.St} {As Gs : List (List Addr)}, ArgR p σ Z0 as vs → SL p Z H ps (vs.map some) As → SL p Z H ρ1 σ Gs →
    (List.flatten As ++ List.flatten Gs).Nodup → argBack as ps ρ1 = some ρ2 → ∃ Fs, SL p Z H ρ2 σ Fs ∧ (List.flatten Fs).Nodup ∧ ∀ a ∈ List.flatten Fs, a ∈ List.flatten As ∨ a ∈ List.flatten Gs
  | _, _, ps, ρ1, ρ2, As, Gs, .nil, s, s2, nd, e => by
    cases ps with
    | cons _ _ => cases s
    | nil =>
      simp only [argBack, Option.some.injEq] at e
      subst e
      cases s
      exact ⟨Gs, s2, by simpa using nd, fun a ha => .inr ha⟩
  | _, _, ps, ρ1, ρ2, As, Gs, .val h t, s, s2, nd, e => by
    cases s with
    | skip s =>
      simp only [argBack] at e
      obtain ⟨Fs, k1, k2, k3⟩ := args_back t s s2 (by simpa using nd) e
      exact ⟨Fs, k1, k2, fun a ha => by simpa using k3 a ha⟩
    | cons q s =>
      rename_i F Fs'
      simp only [argBack] at e
      rw [List.flatten_cons, List.append_assoc] at nd
      obtain ⟨Fs, k1, k2, k3⟩ := args_back t s s2 (List.nodup_append.mp nd).2.1 e
      exact ⟨Fs, k1, k2, fun a ha => (k3 a ha).imp (fun z => by rw [List.flatten_cons]; exact List.mem_append_right _ z) _root_.id⟩
  | _, _, ps, ρ1, ρ2, As, Gs, .io (i := i) (v := v) h t, s, s2, nd, e => by
    cases s with
    | skip s =>
      simp only [argBack] at e
      cases e
    | cons q s =>
      rename_i o ρ F Fs'
      simp only [argBack] at e
      split at e
      · rename_i hi
        obtain ⟨A, B, C, c1, c2⟩ := s2.hole hi
        obtain ⟨Gs', g1, g2⟩ := c2.put Z H Le.rfl' (fun _ _ => rfl) o v F q
        rw [set_none h] at g2
        rw [List.flatten_cons, List.append_assoc, c1] at nd
        have m1 := List.nodup_append.mp nd
        have m2 := List.nodup_append.mp m1.2.1
        obtain ⟨n1, n2, n3⟩ := split3 m2.2.1
        have ndG : (A ++ (F ++ C)).Nodup := join3 n1 m1.1 fun a ha hF => m1.2.2 a hF a (List.mem_append_right _ (mem3.mpr (.inl ha))) rfl
        have nd' : (List.flatten Fs' ++ List.flatten Gs').Nodup := by
          rw [g1]
          refine List.nodup_append.mpr ⟨m2.1, ndG, fun a ha b hb e => ?_⟩
          subst e
          rcases mem3.mp hb with hb | hb
          · exact m2.2.2 a ha a (mem3.mpr (.inl hb)) rfl
          · exact m1.2.2 a hb a (List.mem_append_left _ ha) rfl
        obtain ⟨Fs, k1, k2, k3⟩ := args_back t s g2 nd' e
        refine ⟨Fs, k1, k2, fun a ha => ?_⟩
        rcases k3 a ha with z | z
        · exact .inl (by rw [List.flatten_cons]; exact List.mem_append_right _ z)
        · rw [g1] at z
          rcases mem3.mp z with z | z
          · exact .inr (by rw [c1]; exact mem3.mpr (.inl z))
          · exact .inl (by rw [List.flatten_cons]; exact List.mem_append_left _ z)
      · cases e
/-- a call, from the evaluator's side to the def's promise -/
theorem call_sp {p : Pl} {W : WX} {C : Cfg} {f : Nat} {σ : L2.St} {Z H : Hp} {Fs : List (List Addr)} {ρ : VI.St} {as : List (Option Nat × D)} {vs : List V} {Q : VK} (g : Good p Z H (List.flatten Fs)) (s : SL p Z H ρ σ Fs) (ar : ArgR p σ Z as vs)
    (h : CoO p W σ Z H (List.flatten Fs) (doCall C f as ρ) Q) : spFn p (C.call f) vs H Q fun cls d H' => W cls d σ H' := by
  unfold doCall at h
  split at h
  · rename_i os ρ1 e1
    obtain ⟨As, Gs, h1, h2, h3, h4⟩ := args_out ar s g.nd e1
    have m := List.nodup_append.mp h3
    have gA : Good p Z H (List.flatten As) := g.sub (fun a ha => h4 a (.inl ha)) m.1
    -- what the caller keeps aside
    have kept : ∀ {Z' H' : Hp} {F' : List Addr}, Tr Z H (List.flatten As) Z' H' F' → SL p Z' H' ρ1 σ Gs ∧ (∀ a ∈ List.flatten Gs, a ∉ F') ∧ ∀ a ∈ List.flatten Gs, Z' a = none := fun {Z' H' F'} t => by
      have nA : ∀ a ∈ List.flatten Gs, a ∉ List.flatten As := fun a ha hb => m.2.2 a hb a ha rfl
      refine ⟨h2.le t.zle fun a ha => ?_, fun a ha hb => ?_, fun a ha => ?_⟩
      · obtain ⟨u, hu, ow⟩ := h2.there a ha
        rw [hu]
        exact t.keep a u hu ow.nt (nA a ha)
      · obtain ⟨u, hu, ow⟩ := h2.there a ha
        rcases t.new a hb with z | z
        · exact nA a ha z
        · exact z.no hu ow.nt
      · obtain ⟨u, hu, ow⟩ := h2.there a ha
        cases e : Z' a with
        | none => rfl
        | some o =>
          rcases t.zn a o e with z | z | z
          · rw [g.fz a (h4 a (.inr ha))] at z
            cases z
          · exact (nA a ha z).elim
          · exact (z.no hu ow.nt).elim
    have tot : ∀ {Z' H' : Hp} {F' L : List Addr}, Tr Z H (List.flatten As) Z' H' F' → (∀ a ∈ L, a ∈ F' ∨ a ∈ List.flatten Gs) → Tr Z H (List.flatten Fs) Z' H' L := fun {Z' H' F' L} t k =>
      ⟨t.zle, fun a o e => (t.zn a o e).imp _root_.id fun q => q.imp (fun z => h4 a (.inl z)) _root_.id, fun a o e n nf => t.keep a o e n fun z => nf (h4 a (.inl z)), fun a ha => by
        rcases k a ha with z | z
        · exact (t.new a z).imp (fun y => h4 a (.inl y)) _root_.id
        · exact .inl (h4 a (.inr z))⟩
    refine ⟨Z, os, As, gA, h1, ?_⟩
    split at h
    · rename_i o ps ec
      (try rw [ec])
      split at h
      · rename_i ρ2 e2
        intro v H' Z' Gs' G t g' s' r'
        obtain ⟨k1, k2, k3⟩ := kept t
        have nd := List.nodup_append.mp g'.nd
        have ndB : (List.flatten Gs' ++ List.flatten Gs).Nodup := List.nodup_append.mpr ⟨nd.2.1, m.2.1, fun a ha b hb e => k2 b hb (by rw [← e]; exact List.mem_append_right _ ha)⟩
        obtain ⟨Fs2, f1, f2, f3⟩ := args_back ar s' k1 ndB e2
        have ndF : (G ++ List.flatten Fs2).Nodup := List.nodup_append.mpr ⟨nd.1, f2, fun a ha b hb e => by
          subst e
          rcases f3 a hb with z | z
          · exact nd.2.2 a ha a z rfl
          · exact k2 a z (List.mem_append_left _ ha)⟩
        have TT : Tr Z H (List.flatten Fs) Z' H' (G ++ List.flatten Fs2) := tot t fun a ha => by
          rcases List.mem_append.mp ha with z | z
          · exact .inl (List.mem_append_left _ z)
          · exact (f3 a z).imp (fun y => List.mem_append_right _ y) _root_.id
        refine h v H' Z' Fs2 G TT ⟨g'.zh, g'.zt, fun a ha => ?_, ndF, g'.tb, g.ba.tr TT⟩ f1 r'
        rcases List.mem_append.mp ha with z | z
        · exact g'.fz a (List.mem_append_left _ z)
        · rcases f3 a z with y | y
          · exact g'.fz a (List.mem_append_right _ y)
          · exact k3 a y
      · exact (show False from h).elim
    · rename_i c d ps ec
      (try rw [ec])
      split at h
      · rename_i ρ2 e2
        intro cls dd H' Z' Gs' t g' s' r'
        obtain ⟨k1, k2, k3⟩ := kept t
        have ndB : (List.flatten Gs' ++ List.flatten Gs).Nodup := List.nodup_append.mpr ⟨g'.nd, m.2.1, fun a ha b hb e => k2 b hb (by rw [← e]; exact ha)⟩
        obtain ⟨Fs2, f1, f2, f3⟩ := args_back ar s' k1 ndB e2
        have TT : Tr Z H (List.flatten Fs) Z' H' (List.flatten Fs2) := tot t fun a ha => f3 a ha
        refine h cls dd H' Z' Fs2 TT ⟨g'.zh, g'.zt, fun a ha => ?_, f2, g'.tb, g.ba.tr TT⟩ f1 r'
        rcases f3 a ha with y | y
        · exact g'.fz a y
        · exact k3 a y
      · exact (show False from h).elim
    · exact (show False from h).elim
  · exact (show False from h).elim

/-! ### where a body stands -/
/-- what a def that takes a lambda makes of it: r what the lambda gives, out what the def gives -/
def TTr (p : Pl) (r out : VI.CR) : (XK → Hp → VK → Prop) → Hp → VK → Prop := fun tl H Q => ∃ Z, Good p Z H [] ∧
  (∀ (E : XK) (H1 : Hp) (Q1 : VK) (Z1 : Hp), Tr Z H [] Z1 H1 [] → Good p Z1 H1 [] → (match r with
    | .ok o _ => ∀ v H' Z' G, Tr Z1 H1 [] Z' H' G → Good p Z' H' G → RO p Z' H' o v G → Q1 v H'
    | .ex c d _ => ∀ cls dd H' Z', Tr Z1 H1 [] Z' H' [] → Good p Z' H' [] → ExcR p Z' c d cls dd → E cls dd H'
    | .bad _ => False) → tl E H1 Q1) ∧ match out with
  | .ok (.fz d) _ => d.flat = true ∧ ∀ v H' Z', Tr Z H [] Z' H' [] → Good p Z' H' [] → RD p Z' d v → Q v H'
  | _ => False
/-- a def that calls what it got (the kit's GivesTo, the lambda's wish told by the caller's slots) -/
def GivesX (X : Cx) (Ng : List Str) (x : Str) (sg : Scope) (g : Addr) (cdg : Value) (bg : List Stmt) (a : Str) (q : Str) (TT : (XK → Hp → VK → Prop) → Hp → VK → Prop) : Prop :=
  ∀ (f c' : Addr) (s : Shared) (H : Hp) (Q : VK) (tl : XK → Hp → VK → Prop),
    (∀ (Wb : WX) (pl : List (Addr × Obj)) (xf : Value → Shared → Prop) (Es : L2.St → XK) (p1 p2 : Pos), Takes ((cxOf C8.CX0 X.prog X.w X.K X.mg X.base Ng x sg g cdg X.A X.stack s H C8.E0).tr pl xf) Wb → (∀ cls d σ' H', Es σ' cls d H' → Wb cls d σ' H') →
      PE ((cxOf C8.CX0 X.prog X.w X.K X.mg X.base Ng x sg g cdg X.A X.stack s H C8.E0).tr pl xf) (.Call (.Name a p1) [] [] p2) (fun σ9 H9 Q9 => σ9[0]? = some (some (.ref f)) ∧ H9 c' = some (LamX.CodeO c' q) ∧ tl (Es σ9) H9 Q9)) →
    H c' = some (LamX.CodeO c' q) → TT tl H Q →
    ∃ t, PSs (cxOf C8.CX0 X.prog X.w X.K X.mg X.base Ng x sg g cdg X.A X.stack s H C8.E0).nox bg t ∧ t { nx := fun _ H' => Q .non H', rt := Q } (L2.start Ng [.ref f]) H
/-- a def that takes a lambda, seen from X -/
def LamG (p : Pl) (C : Cfg) (k : Nat) (X : Cx) (x : Str) : Prop :=
  (∀ a, ¬ p.lam a) ∧ ∃ (g co P : Addr) (pg : Arguments) (bg : List Stmt) (sg : Scope) (dV kV doc pm cdv ct oc : Value) (an od : Option Addr) (osl : Array (Option Value)) (Ng : List Str) (a : Str),
    X.mg x = some (.ref g) ∧ PySem.W.keepIn X.K (.ref g) = true ∧ X.K.lookup g = some ⟨oc, od, .func (PySem.W.fnOf x x pg bg sg dV kV doc pm an cdv ct), osl⟩ ∧ PySem.W.codeIn X.K cdv x = true ∧ L2.Binds X.K (PySem.W.fnOf x x pg bg sg dV kV doc pm an cdv ct) [a] [] ∧
    FnScope Ng [a] sg ∧ Ng[0]? = some a ∧ Vis sg a ∧ (a == ("__debug__" : Str)) = false ∧ (a == ("__classdict__" : Str)) = false ∧ LamX.TabB X.base X.mg co P ∧ X.env.code = .ref co ∧ (P, X.env.qual ++ "<lambda>") ∈ p.T ∧ (∀ q ∈ p.T, q.1 = P → q.2 = X.env.qual ++ "<lambda>") ∧ Room (k + 2) X.A ∧
    ∀ r, GivesX X Ng x sg g cdv bg a (X.env.qual ++ "<lambda>") (TTr p r (C.lamc r (enc x)))
structure Ev (p : Pl) (C : Cfg) (c : Sc) (W : WX) (k : Nat) (X : Cx) : Prop where
  K : X.K = p.K
  N : X.N = c.N
  sc : ∀ x k, c.sc.names.lookup x = some k → X.env.scope.names.lookup x = some k ∨ (k = .free ∧ X.env.scope.names.lookup x = some .cell)
  nd : c.N.Nodup
  calm : X.calm = true
  tk : Takes X W
  room : Room k X.A
  gd : X.A.guards = some []
  fnc : ∀ x, c.sc.names.lookup x = some .cell → X.fn x = true
  gfn : ∀ x, c.tx.gs.lookup x = some .fn → X.mg x = some (.ref (p.fn (enc x))) ∧ ∀ d, C.glob (enc x) ≠ some (.val d)
  gval : ∀ x, c.tx.gs.lookup x = some .val → ∃ d v u, C.glob (enc x) = some (.val d) ∧ X.mg x = some u ∧ RelV v u ∧ ∀ Z, RD p Z d v
  gblt : ∀ x ∈ c.tx.bs, c.tx.gs.lookup x = none → X.mg x = none
  fok : ∀ n fd, C.glob n = some (.fn fd) → ∃ ps : List Str, ps.length = fd.np ∧ FnG X.prog X.w X.K X.mg X.base k (p.fn n) ps (spFn p (C.call n))
  lamr : ∀ (i : Nat) (x : Str) (p1 p2 : Pos) (pn : List (Addr × Obj)) (xe : Value → Shared → Prop) (W' : WX), i = 0 → X.N[i]? = some x → Vis X.env.scope x → (x == ("__debug__" : Str)) = false → (x == ("__classdict__" : Str)) = false → Takes (X.tr pn xe) W' →
    PE (X.tr pn xe) (.Call (.Name x p1) [] [] p2) (fun σ H Q => (∃ a, σ[i]? = some (some (.ref a)) ∧ p.lam a) ∧ tO p W' (fun ρ => match C.lamr with
      | some (.ok o _) => .ok o ρ
      | some (.ex c d _) => .ex c d ρ
      | _ => .bad 32) σ H Q)
  lamg : c.lm = true → ∀ x ∈ c.tx.ls, LamG p C k X x
theorem Ev.tr {p : Pl} {C : Cfg} {c : Sc} {W W' : WX} {k : Nat} {X : Cx} (v : Ev p C c W k X) (pn : List (Addr × Obj)) (xe : Value → Shared → Prop) (tk : Takes (X.tr pn xe) W') : Ev p C c W' k (X.tr pn xe) where
  K := v.K
  N := v.N
  sc := v.sc
  nd := v.nd
  calm := v.calm
  tk := tk
  room := v.room
  gd := v.gd
  fnc := v.fnc
  gfn := v.gfn
  gval := v.gval
  gblt := v.gblt
  fok := v.fok
  lamr := fun i x p1 p2 pn' xe' W2 h0 h1 h2 h3 h4 h5 => v.lamr i x p1 p2 pn' xe' W2 h0 h1 h2 h3 h4 h5
  lamg := v.lamg
end VI
end

section
set_option Elab.async false
set_option linter.all false
set_option maxRecDepth 10000
/-! VI8: expressions. -/
namespace VI
open PySem PySem.Spec PyProof.Rows L2

theorem tO_bad {p : Pl} {W : WX} {X : Cx} {e : Expr} {r : VI.St → R O} (h : ∀ ρ, ∃ n, r ρ = .bad n) : PE X e (tO p W r) := ⟨fun pins s σ H Q I q => by
  obtain ⟨Z, ρ, Fs, g, sl, q⟩ := q
  obtain ⟨n, hn⟩ := h ρ
  rw [hn] at q
  exact (show False from q).elim⟩
theorem tV_bad {α β : Type} {p : Pl} {W : WX} {σ : L2.St} {H : Hp} {Rel : Hp → Hp → α → β → Prop} {Q : β → Hp → Prop} {r : VI.St → R α} (h : ∀ ρ, ∃ n, r ρ = .bad n) : ¬ tV p W Rel r σ H Q := fun q => by
  obtain ⟨Z, ρ, Fs, g, sl, q⟩ := q
  obtain ⟨n, hn⟩ := h ρ
  rw [hn] at q
  exact q
theorem ixOf_get {x : Str} : ∀ {N : List Str} {i : Nat}, ixOf x N = some i → N[i]? = some x
  | [], _, h => by simp [ixOf] at h
  | y :: l, i, h => by
    unfold ixOf at h
    split at h
    · rename_i e
      cases h
      rw [e]
      rfl
    · simp only [Option.map_eq_some_iff] at h
      obtain ⟨j, hj, rfl⟩ := h
      simpa using ixOf_get hj
section
variable {p : Pl} {C : Cfg} {c : Sc} {W : WX} {k : Nat} {X : Cx}
theorem Ev.slot (v : Ev p C c W k X) {x : Str} {i : Nat} (h : c.slot x = some i) : X.N[i]? = some x ∧ Vis X.env.scope x := by
  unfold Sc.slot at h
  split at h
  · rename_i hv
    refine ⟨by rw [v.N]; exact ixOf_get h, ?_⟩
    unfold Sc.vis at hv
    unfold Vis
    split at hv
    · rename_i e
      rcases v.sc _ _ e with q | ⟨q, _⟩
      · exact .inl q
      · cases q
    · rename_i e
      rcases v.sc _ _ e with q | ⟨q, _⟩
      · exact .inr (.inl q)
      · cases q
    · rename_i e
      rcases v.sc _ _ e with q | ⟨_, q⟩
      · exact .inr (.inr q)
      · exact .inr (.inl q)
    · cases hv
  · cases h
theorem Ev.gl (v : Ev p C c W k X) {x : Str} (h : c.glo x = true) : Gl X x := by
  unfold Sc.glo at h
  split at h
  · rename_i e
    rcases v.sc _ _ e with q | ⟨q, _⟩
    · exact q
    · cases q
  · cases h
theorem Ev.glob (v : Ev p C c W k X) {x : Str} {n : Nat} {g : GK} (h : c.glob x = some (n, g)) : Gl X x ∧ c.tx.gs.lookup x = some g ∧ n = enc x := by
  unfold Sc.glob at h
  split at h
  · rename_i hg
    simp only [Option.map_eq_some_iff, Prod.mk.injEq] at h
    obtain ⟨g', h1, rfl, rfl⟩ := h
    exact ⟨v.gl hg, h1, rfl⟩
  · cases h
theorem Ev.blt (v : Ev p C c W k X) {x : Str} (h : c.blt x = true) : Gl X x ∧ X.mg x = none := by
  unfold Sc.blt at h
  simp only [Bool.and_eq_true, Option.isNone_iff_eq_none, List.contains_iff_mem] at h
  exact ⟨v.gl h.1.1, v.gblt x h.1.2 h.2⟩
theorem Ev.hu (v : Ev p C c W k X) : X.A.units + 66 < cLine := by have := v.room.un; omega

/-! constants, names -/
theorem snd_k {d : D} {e : Expr} {pos : Pos} {kc : Const} {j : Nat} (he : e = .Constant kc j pos) (h : trConst kc = some d) (n : Nat) : PE X e (tO p W (evE C n (.k d))) := by
  subst he
  cases n with
  | zero => exact tO_bad fun _ => ⟨0, rfl⟩
  | succ n =>
    cases kc <;> simp only [trConst, reduceCtorEq, Option.some.injEq] at h <;> subst h
    · refine PE.weak pe_non fun σ H Q q => ?_
      obtain ⟨Z, ρ, Fs, g, s, q⟩ := q
      exact CoO.val (d := .non) q g s non_rd
    · refine PE.weak pe_bl fun σ H Q q => ?_
      obtain ⟨Z, ρ, Fs, g, s, q⟩ := q
      exact CoO.val (d := .bl _) q g s bl_rd
    · refine PE.weak pe_int fun σ H Q q => ?_
      obtain ⟨Z, ρ, Fs, g, s, q⟩ := q
      exact CoO.val (d := .int _) q g s int_rd
    · refine PE.weak pe_str fun σ H Q q => ?_
      obtain ⟨Z, ρ, Fs, g, s, q⟩ := q
      exact CoO.val (d := .str _) q g s str_rd
theorem snd_loc {i : Nat} {x : Str} {pos : Pos} (hN : X.N[i]? = some x) (hv : Vis X.env.scope x) (hd : (x == ("__debug__" : Str)) = false) (hcd : (x == ("__classdict__" : Str)) = false) (n : Nat) : PE X (.Name x pos) (tO p W (evE C n (.loc i))) := by
  cases n with
  | zero => exact tO_bad fun _ => ⟨0, rfl⟩
  | succ n =>
    refine PE.weak (pe_var hN hv hd hcd) fun σ H Q q => ?_
    obtain ⟨Z, ρ, Fs, g, s, q⟩ := q
    have q' : CoO p W σ Z H (List.flatten Fs) ((rdLoc i ρ).bind fun d s => .ok (.fz d) s) Q := q
    cases hr : rdLoc i ρ with
    | ok d ρ' =>
      rw [hr] at q'
      obtain ⟨v, Z', Gs, h1, h2, h3, h4, h5⟩ := rd_loc g s hr
      exact ⟨v, h1, (CoO.tr h2 q').val h3 h4 h5⟩
    | ex c d ρ' =>
      exfalso
      unfold rdLoc at hr
      split at hr <;> cases hr
    | bad n =>
      rw [hr] at q'
      exact (show False from q').elim
theorem snd_pk {i : Nat} {x : Str} {pos : Pos} (hN : X.N[i]? = some x) (hv : Vis X.env.scope x) (hd : (x == ("__debug__" : Str)) = false) (hcd : (x == ("__classdict__" : Str)) = false) : PE X (.Name x pos) (tV p W (relP p) (pkLoc i)) := by
  refine PE.weak (pe_var hN hv hd hcd) fun σ H Q q => ?_
  obtain ⟨Z, ρ, Fs, g, s, q⟩ := q
  cases hr : pkLoc i ρ with
  | ok d ρ' =>
    rw [hr] at q
    obtain ⟨v, Z', Gs, h1, h2, h3, h4, h5⟩ := pk_loc g s hr
    exact ⟨v, h1, (CoV.tr h2 q).val h3 h4 h5⟩
  | ex c d ρ' =>
    exfalso
    unfold pkLoc at hr
    split at hr <;> cases hr
  | bad n =>
    rw [hr] at q
    exact (show False from q).elim
theorem snd_glob (v : Ev p C c W k X) {x : Str} {pos : Pos} {m : Nat} {g : GK} (h : c.glob x = some (m, g)) (hg : g = .fn ∨ g = .val) (hd : (x == ("__debug__" : Str)) = false) (n : Nat) : PE X (.Name x pos) (tO p W (evE C n (.glob m))) := by
  obtain ⟨h1, h2, rfl⟩ := v.glob h
  cases n with
  | zero => exact tO_bad fun _ => ⟨0, rfl⟩
  | succ n =>
    rcases hg with rfl | rfl
    · obtain ⟨k1, k2⟩ := v.gfn x h2
      refine PE.weak (pe_glob (v := .ref (p.fn (enc x))) h1 k1 rfl hd) fun σ H Q q => ?_
      obtain ⟨Z, ρ, Fs, g, s, q⟩ := q
      have q' : CoO p W σ Z H (List.flatten Fs) (match C.glob (enc x) with
        | some (.fn _) => .ok (.fz (.fn (enc x))) ρ
        | some (.val d) => .ok (.fz d) ρ
        | _ => .bad 20) Q := q
      split at q'
      · exact q'.val g s (by unfold RD; rfl)
      · rename_i d e
        exact absurd e (k2 d)
      · exact (show False from q').elim
    · obtain ⟨d, vv, u, k1, k2, k3, k4⟩ := v.gval x h2
      refine PE.weak (pe_glob (v := vv) h1 k2 k3 hd) fun σ H Q q => ?_
      obtain ⟨Z, ρ, Fs, g, s, q⟩ := q
      have q' : CoO p W σ Z H (List.flatten Fs) (match C.glob (enc x) with
        | some (.fn _) => .ok (.fz (.fn (enc x))) ρ
        | some (.val d) => .ok (.fz d) ρ
        | _ => .bad 20) Q := q
      rw [k1] at q'
      exact CoO.val (d := d) q' g s (k4 Z)

/-! the value read at once -/
/-- e as it is read at once, given e's value -/
theorem snd_P {e : Expr} {E : VI.E} (h : ∀ n, PE X e (tO p W (evE C n E))) (hl : ∀ i, E = .loc i → PE X e (tV p W (relP p) (pkLoc i))) : ∀ n, PE X e (tV p W (relP p) (evP C n E))
  | 0 => ⟨fun pins s σ H Q I q => (tV_bad (fun _ => ⟨0, rfl⟩) q).elim⟩
  | n + 1 => by
    by_cases hi : ∃ i, E = .loc i
    · obtain ⟨i, rfl⟩ := hi
      exact hl i rfl
    · have e1 : evP C (n + 1) E = evD C n E := by
        funext ρ
        cases E <;> first | rfl | exact absurd ⟨_, rfl⟩ hi
      rw [e1]
      refine PE.weak (pe_D' h n) fun σ H Q q => ?_
      obtain ⟨Z, ρ, Fs, g, s, q⟩ := q
      refine ⟨Z, ρ, Fs, g, s, ?_⟩
      cases hr : evD C n E ρ with
      | ok d ρ' =>
        rw [hr] at q
        exact fun b H' Z' Gs t g' s' r => q b H' Z' Gs t g' s' (RD.rp g'.zh r)
      | ex c d ρ' =>
        rw [hr] at q
        exact q
      | bad n =>
        rw [hr] at q
        exact q
/-- what stands for a name that is not looked at yet -/
def relQ (p : Pl) (σ : L2.St) : Hp → Hp → Sum Nat D → V → Prop := fun Z _ q v => match q with
  | .inl i => σ[i]? = some (some v)
  | .inr d => RD p Z d v
/-- later: it is looked at -/
theorem evQ_later {p : Pl} {σ : L2.St} {Z H : Hp} {Fs : List (List Addr)} {ρ : VI.St} {q : Sum Nat D} {v : V} {α : Type} {f : D → VI.St → R α} (g : Good p Z H (List.flatten Fs)) (s : SL p Z H ρ σ Fs) (r : relQ p σ Z H q v) :
    (∃ d ρ' Z' Gs, Tr Z H (List.flatten Fs) Z' H (List.flatten Gs) ∧ Good p Z' H (List.flatten Gs) ∧ SL p Z' H ρ' σ Gs ∧ RP p Z' H d v ∧ (evQd q ρ).bind f = f d ρ') ∨ ∃ n, (evQd q ρ).bind f = .bad n := by
  cases q with
  | inr d => exact .inl ⟨d, ρ, Z, Fs, Tr.id, g, s, RD.rp g.zh r, rfl⟩
  | inl i =>
    cases hr : pkLoc i ρ with
    | ok d ρ' =>
      obtain ⟨v', Z', Gs, h1, h2, h3, h4, h5⟩ := pk_loc g s hr
      have r' : σ[i]? = some (some v) := r
      rw [r'] at h1
      cases h1
      exact .inl ⟨d, ρ', Z', Gs, h2, h3, h4, h5, by show (pkLoc i ρ).bind f = _; rw [hr]; rfl⟩
    | ex c d ρ' =>
      exfalso
      unfold pkLoc at hr
      split at hr <;> cases hr
    | bad n => exact .inr ⟨n, by show (pkLoc i ρ).bind f = _; rw [hr]; rfl⟩
theorem relQ.le {p : Pl} {σ : L2.St} {Z Z' H H' : Hp} {q : Sum Nat D} {v : V} (h : relQ p σ Z H q v) (l : Le Z Z') : relQ p σ Z' H' q v := by
  cases q with
  | inl i => exact h
  | inr d => exact RD.le l (show RD p Z d v from h)
theorem RP.le {p : Pl} {Z Z' H : Hp} {d : D} {v : V} (h : RP p Z H d v) (l : Le Z Z') : RP p Z' H d v := by
  cases d <;> first
    | exact RD.le l (show RD p Z _ v from h)
    | (obtain ⟨a, xs, e, q, r⟩ := h; exact ⟨a, xs, e, q, r.le l⟩)
    | exact h
def tQ (p : Pl) (W : WX) (r : VI.St → R (Sum Nat D)) : TE := fun σ H Q => tV p W (relQ p σ) r σ H Q
/-- e, to be looked at later -/
theorem snd_Q {e : Expr} {E : VI.E} (h : ∀ n, PE X e (tO p W (evE C n E))) (hl : ∀ i, E = .loc i → ∃ x pos, e = .Name x pos ∧ X.N[i]? = some x ∧ Vis X.env.scope x ∧ (x == ("__debug__" : Str)) = false ∧ (x == ("__classdict__" : Str)) = false) (n : Nat) :
    PE X e (tQ p W (evQ C n E)) := by
  cases n with
  | zero => exact ⟨fun pins s σ H Q I q => (tV_bad (fun _ => ⟨0, rfl⟩) q).elim⟩
  | succ n =>
    by_cases hi : ∃ i, E = .loc i
    · obtain ⟨i, rfl⟩ := hi
      obtain ⟨x, pos, rfl, h1, h2, h3, h4⟩ := hl i rfl
      refine PE.weak (pe_var h1 h2 h3 h4) fun σ H Q q => ?_
      obtain ⟨Z, ρ, Fs, g, s, q⟩ := q
      have q' : CoV p W σ (relQ p σ) Z H (List.flatten Fs) (match ρ[i]? with
        | some (some _) => .ok (.inl i) ρ
        | _ => .bad 1) Q := q
      split at q'
      · rename_i o eo
        obtain ⟨v, A, B, D, k1, k2, k3, k4⟩ := s.at eo
        exact ⟨v, k1, CoV.val (a := (.inl i : Sum Nat VI.D)) q' g s k1⟩
      · exact (show False from q').elim
    · have e1 : evQ C (n + 1) E = fun s => (evD C n E s).bind fun d s => .ok (.inr d) s := by
        funext ρ
        cases E <;> first | rfl | exact absurd ⟨_, rfl⟩ hi
      rw [e1]
      refine PE.weak (pe_D' h n) fun σ H Q q => ?_
      obtain ⟨Z, ρ, Fs, g, s, q⟩ := q
      refine ⟨Z, ρ, Fs, g, s, ?_⟩
      exact CoV.bindV q fun d ρ1 b H1 Z1 Gs t g1 s1 r q1 => CoV.val (a := (.inr d : Sum Nat D)) q1 g1 s1 r

/-! ### results that may be missing -/
theorem CoO.ofO {α : Type} {p : Pl} {W : WX} {σ : L2.St} {Z H : Hp} {F : List Addr} {o : Option α} {k : Nat} {ρ : VI.St} {f : α → VI.St → R O} {Q : VK} (h : CoO p W σ Z H F ((ofO o k ρ).bind f) Q) : ∃ a, o = some a ∧ CoO p W σ Z H F (f a ρ) Q := by
  cases o with
  | some a => exact ⟨a, rfl, h⟩
  | none => exact (show False from h).elim
theorem CoO.ofO' {p : Pl} {W : WX} {σ : L2.St} {Z H : Hp} {F : List Addr} {o : Option O} {k : Nat} {ρ : VI.St} {Q : VK} (h : CoO p W σ Z H F (VI.ofO o k ρ) Q) : ∃ a, o = some a ∧ CoO p W σ Z H F (.ok a ρ) Q := by
  cases o with
  | some a => exact ⟨a, rfl, h⟩
  | none => exact (show False from h).elim
theorem CoV.ofO {α β γ : Type} {p : Pl} {W : WX} {σ : L2.St} {Z H : Hp} {F : List Addr} {Rel : Hp → Hp → β → γ → Prop} {o : Option α} {k : Nat} {ρ : VI.St} {f : α → VI.St → R β} {Q : γ → Hp → Prop} (h : CoV p W σ Rel Z H F ((VI.ofO o k ρ).bind f) Q) : ∃ a, o = some a ∧ CoV p W σ Rel Z H F (f a ρ) Q := by
  cases o with
  | some a => exact ⟨a, rfl, h⟩
  | none => exact (show False from h).elim

/-! ### operators -/
abbrev VD (X : Cx) (p : Pl) (W : WX) (C : Cfg) (e : Expr) (E : VI.E) : Prop := ∀ n, PE X e (tV p W (relD p) (evD C n E))
abbrev VP (X : Cx) (p : Pl) (W : WX) (C : Cfg) (e : Expr) (E : VI.E) : Prop := ∀ n, PE X e (tV p W (relP p) (evP C n E))
abbrev VQ (X : Cx) (p : Pl) (W : WX) (C : Cfg) (e : Expr) (E : VI.E) : Prop := ∀ n, PE X e (tQ p W (evQ C n E))
abbrev VO (X : Cx) (p : Pl) (W : WX) (C : Cfg) (e : Expr) (E : VI.E) : Prop := ∀ n, PE X e (tO p W (evE C n E))
abbrev VC (X : Cx) (p : Pl) (W : WX) (C : Cfg) (e : Expr) (E : VI.E) : Prop := ∀ n, PT X e (tV p W relB (evC C n E))
theorem trOp_opK {o : Operator} {o' : Op} (h : trOp o = some o') : opK o' = o := by
  cases o <;> simp only [trOp, reduceCtorEq, Option.some.injEq] at h <;> subst h <;> rfl
theorem snd_bin (v : Ev p C c W k X) {a b : Expr} {A B : VI.E} {op : Operator} {o : Op} {pos : Pos} (ho : trOp op = some o) (ha : VD X p W C a A) (hb : VD X p W C b B) : VO X p W C (.BinOp a op b pos) (.bin o A B)
  | 0 => tO_bad fun _ => ⟨0, rfl⟩
  | n + 1 => by
    rw [← trOp_opK ho]
    refine PE.weak (pe_op (bin_ok v.K o) (ha n) (hb n)) fun σ H Q q => ?_
    obtain ⟨Z, ρ, Fs, g, s, q⟩ := q
    have q : CoO p W σ Z H (List.flatten Fs) ((evD C n A ρ).bind fun x s => (evD C n B s).bind fun y s => ofO (binO o x y) 21 s) Q := q
    refine ⟨Z, ρ, Fs, g, s, CoV.bindO q fun x ρ1 vx H1 Z1 F1 t1 g1 s1 r1 q1 => ⟨Z1, ρ1, F1, g1, s1, CoV.bindO q1 fun y ρ2 vy H2 Z2 F2 t2 g2 s2 r2 q2 => ?_⟩⟩
    obtain ⟨o', e, q3⟩ := q2.ofO'
    exact ⟨Z2, x, y, o', g2.zh, RD.le t2.zle r1, r2, e, fun v H' r => q3.res g2 s2 r⟩
theorem snd_neg (v : Ev p C c W k X) {a : Expr} {A : VI.E} {pos : Pos} (ha : VD X p W C a A) : VO X p W C (.UnaryOp .USub a pos) (.neg A)
  | 0 => tO_bad fun _ => ⟨0, rfl⟩
  | n + 1 => by
    refine PE.weak (pe_un un_neg (ha n)) fun σ H Q q => ?_
    obtain ⟨Z, ρ, Fs, g, s, q⟩ := q
    have q : CoO p W σ Z H (List.flatten Fs) ((evD C n A ρ).bind fun x s => (match x with
      | .int i => .ok (.fz (.int (-i))) s
      | _ => .bad 22)) Q := q
    refine ⟨Z, ρ, Fs, g, s, CoV.bindO q fun x ρ1 vx H1 Z1 F1 t1 g1 s1 r1 q1 => ?_⟩
    cases x <;> try exact (show False from q1).elim
    exact ⟨_, rd_int r1, q1.val g1 s1 int_rd⟩
theorem snd_inv (v : Ev p C c W k X) {a : Expr} {A : VI.E} {pos : Pos} (ha : VD X p W C a A) : VO X p W C (.UnaryOp .Invert a pos) (.inv A)
  | 0 => tO_bad fun _ => ⟨0, rfl⟩
  | n + 1 => by
    refine PE.weak (pe_un un_inv (ha n)) fun σ H Q q => ?_
    obtain ⟨Z, ρ, Fs, g, s, q⟩ := q
    have q : CoO p W σ Z H (List.flatten Fs) ((evD C n A ρ).bind fun x s => (match x with
      | .int i => .ok (.fz (.int (Builtin.bitNot i))) s
      | _ => .bad 22)) Q := q
    refine ⟨Z, ρ, Fs, g, s, CoV.bindO q fun x ρ1 vx H1 Z1 F1 t1 g1 s1 r1 q1 => ?_⟩
    cases x <;> try exact (show False from q1).elim
    exact ⟨_, rd_int r1, q1.val g1 s1 int_rd⟩
theorem RP.tru {p : Pl} {Z H : Hp} {X : Cx} (hK : X.K = p.K) (l : Le Z H) {d : D} {v : V} {b : Bool} (h : RP p Z H d v) (hb : truthD d = some b) : TruV X.K v H b := tru_of hK Le.rfl' (h.up l) hb
theorem snd_not (v : Ev p C c W k X) {a : Expr} {A : VI.E} {pos : Pos} (ha : VP X p W C a A) : VO X p W C (.UnaryOp .Not a pos) (.not A)
  | 0 => tO_bad fun _ => ⟨0, rfl⟩
  | n + 1 => by
    refine PE.weak (pe_notT (ha n)) fun σ H Q q => ?_
    obtain ⟨Z, ρ, Fs, g, s, q⟩ := q
    have q : CoO p W σ Z H (List.flatten Fs) ((evP C n A ρ).bind fun d s => (ofO (truthD d) 44 s).bind fun b s => .ok (.fz (.bl (!b))) s) Q := q
    refine ⟨Z, ρ, Fs, g, s, CoV.bindO q fun x ρ1 vx H1 Z1 F1 t1 g1 s1 r1 q1 => ?_⟩
    obtain ⟨b, e, q2⟩ := q1.ofO
    exact ⟨b, RP.tru v.K g1.zh r1 e, CoO.val (d := .bl _) q2 g1 s1 bl_rd⟩
theorem snd_ite (v : Ev p C c W k X) {t a b : Expr} {T A B : VI.E} {pos : Pos} (ht : VC X p W C t T) (ha : VD X p W C a A) (hb : VD X p W C b B) : VO X p W C (.IfExp t a b pos) (.ite T A B)
  | 0 => tO_bad fun _ => ⟨0, rfl⟩
  | n + 1 => by
    refine PE.weak (pe_ifExp (ht n) (ha n) (hb n)) fun σ H Q q => ?_
    obtain ⟨Z, ρ, Fs, g, s, q⟩ := q
    have q : CoO p W σ Z H (List.flatten Fs) ((evC C n T ρ).bind fun t s => if t then (evD C n A s).bind fun d s => .ok (.fz d) s else (evD C n B s).bind fun d s => .ok (.fz d) s) Q := q
    refine ⟨Z, ρ, Fs, g, s, CoV.bindO q fun x ρ1 vx H1 Z1 F1 t1 g1 s1 r1 q1 => ?_⟩
    cases (show x = vx from r1)
    cases x with
    | true => exact ⟨Z1, ρ1, F1, g1, s1, CoV.bindO (show CoO p W σ Z1 H1 (List.flatten F1) ((evD C n A ρ1).bind fun d s => .ok (.fz d) s) Q from q1) fun d ρ2 b H2 Z2 F2 t2 g2 s2 r2 q2 => q2.val g2 s2 r2⟩
    | false => exact ⟨Z1, ρ1, F1, g1, s1, CoV.bindO (show CoO p W σ Z1 H1 (List.flatten F1) ((evD C n B ρ1).bind fun d s => .ok (.fz d) s) Q from q1) fun d ρ2 b H2 Z2 F2 t2 g2 s2 r2 q2 => q2.val g2 s2 r2⟩
end
end VI
end

section
set_option Elab.async false
set_option linter.all false
set_option maxRecDepth 10000
/-! VI9: comparisons, tests, displays, subscripts. -/
namespace VI
open PySem PySem.Spec PyProof.Rows L2

inductive A2 {α β : Type} (Rel : α → β → Prop) : List α → List β → Prop where
  | nil : A2 Rel [] []
  | cons {a : α} {b : β} {l : List α} {m : List β} : Rel a b → A2 Rel l m → A2 Rel (a :: l) (b :: m)
theorem A2.imp {α β : Type} {Rel Rel2 : α → β → Prop} (h : ∀ a b, Rel a b → Rel2 a b) : ∀ {l : List α} {m : List β}, A2 Rel l m → A2 Rel2 l m
  | _, _, .nil => .nil
  | _, _, .cons r t => .cons (h _ _ r) (A2.imp h t)
theorem A2.length {α β : Type} {Rel : α → β → Prop} : ∀ {l : List α} {m : List β}, A2 Rel l m → l.length = m.length
  | _, _, .nil => rfl
  | _, _, .cons _ t => by simp [A2.length t]
theorem trAll_A2 {f : Expr → Option E} : ∀ {es : List Expr} {l : List E}, trAll f es = some l → A2 (fun e E => f e = some E) es l
  | [], l, h => by
    simp only [trAll, Option.some.injEq] at h
    subst h
    exact .nil
  | e :: es, l, h => by
    unfold trAll at h
    split at h
    · rename_i a r h1 h2
      cases h
      exact .cons h1 (trAll_A2 h2)
    · cases h
theorem bind_ok {α β : Type} {r : R α} {f : α → VI.St → R β} {b : β} {s : VI.St} (h : r.bind f = .ok b s) : ∃ a s1, r = .ok a s1 ∧ f a s1 = .ok b s := by
  cases r with
  | ok a s1 => exact ⟨a, s1, rfl, h⟩
  | ex c p s1 => cases h
  | bad n => cases h
theorem ofO_ok {α : Type} {o : Option α} {k : Nat} {s s' : VI.St} {a : α} (h : ofO o k s = .ok a s') : o = some a ∧ s' = s := by
  cases o with
  | some a' => cases h; exact ⟨rfl, rfl⟩
  | none => cases h
section
variable {p : Pl} {C : Cfg} {c : Sc} {W : WX} {k : Nat} {X : Cx}
/-! ### comparisons -/
theorem cmp_read1 {c' : Cm} {A B : VI.E} {n : Nat} {σ : L2.St} {H : Hp} {Q : VK} (q : tO p W (evE C (n + 1) (.cmp A [(c', B)])) σ H Q) : tOp (rCm p c') (tQ p W (evQ C n A)) (tV p W (relP p) (evP C n B)) σ H Q := by
  obtain ⟨Z, ρ, Fs, g, s, q⟩ := q
  have q : CoO p W σ Z H (List.flatten Fs) ((evQ C n A ρ).bind fun q s => (evP C n B s).bind fun y s => (evQd q s).bind fun x s => (ofO (cmpD c' x y) 12 s).bind fun t s => .ok (.fz (.bl t)) s) Q := q
  refine ⟨Z, ρ, Fs, g, s, CoV.bindO q fun x ρ1 vx H1 Z1 F1 t1 g1 s1 r1 q1 => ⟨Z1, ρ1, F1, g1, s1, CoV.bindO q1 fun y ρ2 vy H2 Z2 F2 t2 g2 s2 r2 q2 => ?_⟩⟩
  rcases evQ_later (f := fun x s => (ofO (cmpD c' x y) 12 s).bind fun t s => R.ok (O.fz (.bl t)) s) g2 s2 (relQ.le (H' := H2) r1 t2.zle) with ⟨d, ρ', Z', Gs, t, g', s', rp, e⟩ | ⟨m, e⟩
  · rw [e] at q2
    obtain ⟨b, eb, q3⟩ := (CoO.tr t q2).ofO
    exact ⟨Z', d, y, b, g'.zh, rp, RP.le r2 t.zle, eb, CoO.val (d := .bl _) q3 g' s' bl_rd⟩
  · rw [e] at q2
    exact (show False from q2).elim
theorem cmp_read2 {c1 c2 : Cm} {A B B2 : VI.E} {n : Nat} {σ : L2.St} {H : Hp} {Q : VK} (q : tO p W (evE C (n + 1) (.cmp A [(c1, B), (c2, B2)])) σ H Q) :
    tChain (rCm p c1) (rCm p c2) (tV p W (relD p) (evD C n A)) (tV p W (relD p) (evD C n B)) (tV p W (relD p) (evD C n B2)) σ H Q := by
  obtain ⟨Z, ρ, Fs, g, s, q⟩ := q
  have q : CoO p W σ Z H (List.flatten Fs) ((evD C n A ρ).bind fun x s => (evD C n B s).bind fun y s => (ofO (cmpD c1 x y) 12 s).bind fun t s =>
          if t then (evD C n B2 s).bind fun z s => (ofO (cmpD c2 y z) 12 s).bind fun t s => .ok (.fz (.bl t)) s else .ok (.fz (.bl false)) s) Q := q
  refine ⟨Z, ρ, Fs, g, s, CoV.bindO q fun x ρ1 vx H1 Z1 F1 t1 g1 s1 r1 q1 => ⟨Z1, ρ1, F1, g1, s1, CoV.bindO q1 fun y ρ2 vy H2 Z2 F2 t2 g2 s2 r2 q2 => ?_⟩⟩
  obtain ⟨b, eb, q3⟩ := q2.ofO
  refine ⟨Z2, x, y, b, g2.zh, RD.rp g2.zh (RD.le t2.zle r1), RD.rp g2.zh r2, eb, b, rfl, ?_⟩
  cases b with
  | true =>
    have q3 : CoO p W σ Z2 H2 (List.flatten F2) ((evD C n B2 ρ2).bind fun z s => (ofO (cmpD c2 y z) 12 s).bind fun t s => .ok (.fz (.bl t)) s) Q := q3
    refine ⟨Z2, ρ2, F2, g2, s2, CoV.bindO q3 fun z ρ3 vz H3 Z3 F3 t3 g3 s3 r3 q4 => ?_⟩
    obtain ⟨b, eb, q5⟩ := q4.ofO
    exact ⟨Z3, y, z, b, g3.zh, RD.rp g3.zh (RD.le t3.zle r2), RD.rp g3.zh r3, eb, CoO.val (d := .bl _) q5 g3 s3 bl_rd⟩
  | false => exact CoO.val (d := .bl _) (show CoO p W σ Z2 H2 (List.flatten F2) (.ok (.fz (.bl false)) ρ2) Q from q3) g2 s2 bl_rd
theorem evE_cmp {A : VI.E} {l : List (Cm × VI.E)} {n : Nat} {ρ ρ' : VI.St} {o : O} (h : evE C n (.cmp A l) ρ = .ok o ρ') : ∃ t, o = .fz (.bl t) := by
  cases n with
  | zero => cases h
  | succ n =>
    unfold evE at h
    simp only at h
    split at h
    · obtain ⟨_, _, _, h⟩ := bind_ok h
      obtain ⟨_, _, _, h⟩ := bind_ok h
      obtain ⟨_, _, _, h⟩ := bind_ok h
      obtain ⟨t, _, _, h⟩ := bind_ok h
      cases h
      exact ⟨t, rfl⟩
    · obtain ⟨_, _, _, h⟩ := bind_ok h
      obtain ⟨_, _, _, h⟩ := bind_ok h
      obtain ⟨t, _, _, h⟩ := bind_ok h
      split at h
      · obtain ⟨_, _, _, h⟩ := bind_ok h
        obtain ⟨t, _, _, h⟩ := bind_ok h
        cases h
        exact ⟨t, rfl⟩
      · cases h
        exact ⟨_, rfl⟩
    · cases h
/-- a comparison's value as a test -/
theorem cmp_test {A : VI.E} {l : List (Cm × VI.E)} {n : Nat} {σ : L2.St} {H : Hp} {Q : Bool → Hp → Prop} (q : tV p W relB (evC C (n + 3) (.cmp A l)) σ H Q) : tO p W (evE C n (.cmp A l)) σ H fun x H' => ∃ k, x = .bl k ∧ Q k H' := by
  obtain ⟨Z, ρ, Fs, g, s, q⟩ := q
  refine ⟨Z, ρ, Fs, g, s, ?_⟩
  have q : CoV p W σ relB Z H (List.flatten Fs) (((evE C n (.cmp A l) ρ).bind fun o s => .ok o.toD s).bind fun d s => ofO (truthD d) 44 s) Q := q
  cases hr : evE C n (.cmp A l) ρ with
  | ok o ρ' =>
    rw [hr] at q
    obtain ⟨t, rfl⟩ := evE_cmp hr
    intro v H' Z' Fs' G t' g' s' r'
    obtain ⟨r1, rfl⟩ := r'.of_fz
    have e : v = .bl t := by unfold RD at r1; exact r1
    exact ⟨t, e, q t H' Z' Fs' t' g' s' rfl⟩
  | ex c d ρ' => rw [hr] at q; exact q
  | bad m => rw [hr] at q; exact q
theorem cmp_test0 {A : VI.E} {l : List (Cm × VI.E)} {n : Nat} {σ : L2.St} {H : Hp} {Q : Bool → Hp → Prop} (hn : n < 3) (q : tV p W relB (evC C n (.cmp A l)) σ H Q) : False := by
  obtain ⟨Z, ρ, Fs, g, s, q⟩ := q
  match n, hn, q with
  | 0, _, q => exact q
  | 1, _, q => exact q
  | 2, _, q => exact q
/-- no display of marks -/
def noSet : Expr → Bool
  | .Set _ _ _ => false
  | _ => true
theorem noBehind {op : CmpOp} {e : Expr} (h : noSet e = true) : behindInMarks op e = false := by
  cases e <;> first | rfl | cases h
theorem noLast {op op' : CmpOp} {b e : Expr} (h : noSet e = true) : lastMarks [op, op'] [b, e] = false := by
  show behindInMarks op' e = false
  exact noBehind h
theorem snd_cmp1 (v : Ev p C c W k X) {a b : Expr} {op : CmpOp} {A B : VI.E} {pos : Pos} (hb' : noSet b = true) (ha : VQ X p W C a A) (hb : VP X p W C b B) : VO X p W C (.Compare a [op] [b] pos) (.cmp A [(trCm op, B)])
  | 0 => tO_bad fun _ => ⟨0, rfl⟩
  | n + 1 => PE.weak (pe_cmpR (by have := cm_ok v.K v.hu (trCm op); rw [cmK_of] at this; exact this) (ha n) (hb n) (noBehind hb')) fun σ H Q q => cmp_read1 q
theorem snd_cmp2 (v : Ev p C c W k X) {a b b2 : Expr} {op op2 : CmpOp} {A B B2 : VI.E} {pos : Pos} (hb' : noSet b2 = true) (ha : VD X p W C a A) (hb : VD X p W C b B) (hb2 : VD X p W C b2 B2) : VO X p W C (.Compare a [op, op2] [b, b2] pos) (.cmp A [(trCm op, B), (trCm op2, B2)])
  | 0 => tO_bad fun _ => ⟨0, rfl⟩
  | n + 1 => PE.weak (pe_chain (by have := cm_ok v.K v.hu (trCm op); rw [cmK_of] at this; exact this) (by have := cm_ok v.K v.hu (trCm op2); rw [cmK_of] at this; exact this) (ha n) (hb n) (hb2 n) (noLast hb')) fun σ H Q q => cmp_read2 q
theorem tst_cmp1 (v : Ev p C c W k X) {a b : Expr} {op : CmpOp} {A B : VI.E} {pos : Pos} (hb' : noSet b = true) (ha : VQ X p W C a A) (hb : VP X p W C b B) : VC X p W C (.Compare a [op] [b] pos) (.cmp A [(trCm op, B)]) := fun n => by
  by_cases hn : n < 4
  · refine ⟨fun pins s σ H Q I q => ?_⟩
    by_cases h3 : n < 3
    · exact (cmp_test0 h3 q).elim
    · obtain rfl : n = 3 := by omega
      obtain ⟨Z, ρ, Fs, g, sl, q⟩ := cmp_test (n := 0) q
      exact (show False from q).elim
  · obtain ⟨m, rfl⟩ : ∃ m, n = m + 1 + 3 := ⟨n - 4, by omega⟩
    exact PT.weak (pt_cmpR (by have := cm_ok v.K v.hu (trCm op); rw [cmK_of] at this; exact this) (ha m) (hb m) (noBehind hb')) fun σ H Q q => cmp_read1 (cmp_test q)
theorem tst_cmp2 (v : Ev p C c W k X) {a b b2 : Expr} {op op2 : CmpOp} {A B B2 : VI.E} {pos : Pos} (hb' : noSet b2 = true) (ha : VD X p W C a A) (hb : VD X p W C b B) (hb2 : VD X p W C b2 B2) : VC X p W C (.Compare a [op, op2] [b, b2] pos) (.cmp A [(trCm op, B), (trCm op2, B2)]) := fun n => by
  by_cases hn : n < 4
  · refine ⟨fun pins s σ H Q I q => ?_⟩
    by_cases h3 : n < 3
    · exact (cmp_test0 h3 q).elim
    · obtain rfl : n = 3 := by omega
      obtain ⟨Z, ρ, Fs, g, sl, q⟩ := cmp_test (n := 0) q
      exact (show False from q).elim
  · obtain ⟨m, rfl⟩ : ∃ m, n = m + 1 + 3 := ⟨n - 4, by omega⟩
    exact PT.weak (pt_chain (by have := cm_ok v.K v.hu (trCm op); rw [cmK_of] at this; exact this) (by have := cm_ok v.K v.hu (trCm op2); rw [cmK_of] at this; exact this) (ha m) (hb m) (hb2 m) (noLast hb')) fun σ H Q q => cmp_read2 (cmp_test q)

/-! ### tests -/
/-- a value as a test -/
theorem tst_val (v : Ev p C c W k X) {e : Expr} {E : VI.E} (h : VP X p W C e E) (he : ∀ whole, isTrue e X.env whole = (do let v ← whole; standAt e.pos; holding [v] (truthy v)))
    (hE : ∀ n ρ, evC C (n + 1) E ρ = (evP C n E ρ).bind fun d s => ofO (truthD d) 44 s) : VC X p W C e E
  | 0 => ⟨fun pins s σ H Q I q => (tV_bad (fun _ => ⟨0, rfl⟩) q).elim⟩
  | n + 1 => by
    refine PT.weak (pt_truth (h n) he) fun σ H Q q => ?_
    obtain ⟨Z, ρ, Fs, g, s, q⟩ := q
    rw [hE] at q
    refine ⟨Z, ρ, Fs, g, s, CoV.bindV q fun d ρ1 b H1 Z1 F1 t1 g1 s1 r1 q1 => ?_⟩
    cases et : truthD d with
    | some t =>
      rw [et] at q1
      exact ⟨t, RP.tru v.K g1.zh r1 et, CoV.val (a := t) q1 g1 s1 rfl⟩
    | none =>
      rw [et] at q1
      exact (show False from q1).elim
theorem tst_not {a : Expr} {A : VI.E} {pos : Pos} (ha : VC X p W C a A) : VC X p W C (.UnaryOp .Not a pos) (.not A)
  | 0 => ⟨fun pins s σ H Q I q => (tV_bad (fun _ => ⟨0, rfl⟩) q).elim⟩
  | n + 1 => by
    refine PT.weak (pt_not (ha n)) fun σ H Q q => ?_
    obtain ⟨Z, ρ, Fs, g, s, q⟩ := q
    have q : CoV p W σ relB Z H (List.flatten Fs) ((evC C n A ρ).bind fun b s => .ok (!b) s) Q := q
    refine ⟨Z, ρ, Fs, g, s, CoV.bindV q fun d ρ1 b H1 Z1 F1 t1 g1 s1 r1 q1 => ?_⟩
    cases (show d = b from r1)
    exact CoV.val q1 g1 s1 rfl
theorem tst_ite {t a b : Expr} {T A B : VI.E} {pos : Pos} (ht : VC X p W C t T) (ha : VC X p W C a A) (hb : VC X p W C b B) : VC X p W C (.IfExp t a b pos) (.ite T A B)
  | 0 => ⟨fun pins s σ H Q I q => (tV_bad (fun _ => ⟨0, rfl⟩) q).elim⟩
  | n + 1 => by
    refine ⟨fun pins s σ H Q I q => ?_⟩
    have e : isTrue (.IfExp t a b pos) X.env (eval (.IfExp t a b pos) X.env) = (isTrue t X.env (eval t X.env) >>= fun c => if c = true then isTrue a X.env (eval a X.env) else isTrue b X.env (eval b X.env)) := rfl
    rw [e]
    have q1 : tV p W relB (evC C n T) σ H fun c H1 => if c = true then tV p W relB (evC C n A) σ H1 Q else tV p W relB (evC C n B) σ H1 Q := by
      obtain ⟨Z, ρ, Fs, g, s, q⟩ := q
      have q : CoV p W σ relB Z H (List.flatten Fs) ((evC C n T ρ).bind fun t s => if t then evC C n A s else evC C n B s) Q := q
      refine ⟨Z, ρ, Fs, g, s, CoV.bindV q fun d ρ1 b H1 Z1 F1 t1 g1 s1 r1 q1 => ?_⟩
      cases (show d = b from r1)
      cases d with
      | true => exact ⟨Z1, ρ1, F1, g1, s1, q1⟩
      | false => exact ⟨Z1, ρ1, F1, g1, s1, q1⟩
    refine wpAny_bind (thn ((ht n).run pins s σ H _ I q1) fun d s1 ⟨H1, I1, q1⟩ => ?_)
    cases d with
    | true => exact (ha n).run pins s1 σ H1 Q I1 q1
    | false => exact (hb n).run pins s1 σ H1 Q I1 q1
theorem tst_and0 {n : Nat} {pos : Pos} : ∀ {es : List Expr} {l : List VI.E}, A2 (VC X p W C) es l → PW X (.BoolOp .And es pos) (tV p W relB (andC (evC C n) l))
  | _, _, .nil => ⟨fun wh pins s σ H Q I q => (tV_bad (fun _ => ⟨13, rfl⟩) q).elim⟩
  | _, _, .cons h .nil => pw_and1 (h n)
  | _, _, .cons (a := a) (b := A) h (.cons (a := a2) (b := A2') (l := es) (m := l) h2 t) => by
    refine PW.weak (pw_and (h n) (tst_and0 (n := n) (.cons h2 t))) fun σ H Q q => ?_
    obtain ⟨Z, ρ, Fs, g, s, q⟩ := q
    have q : CoV p W σ relB Z H (List.flatten Fs) ((evC C n A ρ).bind fun b s => if b then andC (evC C n) (A2' :: l) s else .ok false s) Q := q
    refine ⟨Z, ρ, Fs, g, s, CoV.bindV q fun d ρ1 b H1 Z1 F1 t1 g1 s1 r1 q1 => ?_⟩
    cases (show d = b from r1)
    cases d with
    | true => exact ⟨Z1, ρ1, F1, g1, s1, q1⟩
    | false => exact CoV.val (a := false) (b := false) (show CoV p W σ relB Z1 H1 (List.flatten F1) (.ok false ρ1) Q from q1) g1 s1 rfl
theorem tst_or0 {n : Nat} {pos : Pos} : ∀ {es : List Expr} {l : List VI.E}, A2 (VC X p W C) es l → PW X (.BoolOp .Or es pos) (tV p W relB (orC (evC C n) l))
  | _, _, .nil => ⟨fun wh pins s σ H Q I q => (tV_bad (fun _ => ⟨13, rfl⟩) q).elim⟩
  | _, _, .cons h .nil => pw_or1 (h n)
  | _, _, .cons (a := a) (b := A) h (.cons (a := a2) (b := A2') (l := es) (m := l) h2 t) => by
    refine PW.weak (pw_or (h n) (tst_or0 (n := n) (.cons h2 t))) fun σ H Q q => ?_
    obtain ⟨Z, ρ, Fs, g, s, q⟩ := q
    have q : CoV p W σ relB Z H (List.flatten Fs) ((evC C n A ρ).bind fun b s => if b then .ok true s else orC (evC C n) (A2' :: l) s) Q := q
    refine ⟨Z, ρ, Fs, g, s, CoV.bindV q fun d ρ1 b H1 Z1 F1 t1 g1 s1 r1 q1 => ?_⟩
    cases (show d = b from r1)
    cases d with
    | true => exact CoV.val (a := true) (b := true) (show CoV p W σ relB Z1 H1 (List.flatten F1) (.ok true ρ1) Q from q1) g1 s1 rfl
    | false => exact ⟨Z1, ρ1, F1, g1, s1, q1⟩
theorem tst_and {pos : Pos} {es : List Expr} {l : List VI.E} (h : A2 (VC X p W C) es l) : VC X p W C (.BoolOp .And es pos) (.and l)
  | 0 => ⟨fun pins s σ H Q I q => (tV_bad (fun _ => ⟨0, rfl⟩) q).elim⟩
  | n + 1 => (tst_and0 (n := n) h).pt
theorem tst_or {pos : Pos} {es : List Expr} {l : List VI.E} (h : A2 (VC X p W C) es l) : VC X p W C (.BoolOp .Or es pos) (.or l)
  | 0 => ⟨fun pins s σ H Q I q => (tV_bad (fun _ => ⟨0, rfl⟩) q).elim⟩
  | n + 1 => (tst_or0 (n := n) h).pt
theorem snd_and0 (v : Ev p C c W k X) {n : Nat} {pos : Pos} : ∀ {es : List Expr} {l : List VI.E}, A2 (VD X p W C) es l → PE X (.BoolOp .And es pos) (tV p W (relD p) (andV (evD C n) l))
  | _, _, .nil => ⟨fun pins s σ H Q I q => (tV_bad (fun _ => ⟨13, rfl⟩) q).elim⟩
  | _, _, .cons h .nil => pe_one (h n)
  | _, _, .cons (a := a) (b := A) h (.cons (a := a2) (b := A2') (l := es) (m := l) h2 t) => by
    refine PE.weak (pe_andT (h n) (snd_and0 v (n := n) (.cons h2 t))) fun σ H Q q => ?_
    obtain ⟨Z, ρ, Fs, g, s, q⟩ := q
    have q : CoV p W σ (relD p) Z H (List.flatten Fs) ((evD C n A ρ).bind fun d s => (ofO (truthD d) 14 s).bind fun b s => if b then andV (evD C n) (A2' :: l) s else .ok d s) Q := q
    refine ⟨Z, ρ, Fs, g, s, CoV.bindV q fun d ρ1 b H1 Z1 F1 t1 g1 s1 r1 q1 => ?_⟩
    obtain ⟨b, e, q2⟩ := q1.ofO
    refine ⟨b, tru_of v.K g1.zh r1 e, ?_⟩
    cases b with
    | true => exact ⟨Z1, ρ1, F1, g1, s1, q2⟩
    | false => exact CoV.val (show CoV p W σ (relD p) Z1 H1 (List.flatten F1) (.ok d ρ1) Q from q2) g1 s1 r1
theorem snd_or0 (v : Ev p C c W k X) {n : Nat} {pos : Pos} : ∀ {es : List Expr} {l : List VI.E}, A2 (VD X p W C) es l → PE X (.BoolOp .Or es pos) (tV p W (relD p) (orV (evD C n) l))
  | _, _, .nil => ⟨fun pins s σ H Q I q => (tV_bad (fun _ => ⟨13, rfl⟩) q).elim⟩
  | _, _, .cons h .nil => pe_one (h n)
  | _, _, .cons (a := a) (b := A) h (.cons (a := a2) (b := A2') (l := es) (m := l) h2 t) => by
    refine PE.weak (pe_orT (h n) (snd_or0 v (n := n) (.cons h2 t))) fun σ H Q q => ?_
    obtain ⟨Z, ρ, Fs, g, s, q⟩ := q
    have q : CoV p W σ (relD p) Z H (List.flatten Fs) ((evD C n A ρ).bind fun d s => (ofO (truthD d) 14 s).bind fun b s => if b then .ok d s else orV (evD C n) (A2' :: l) s) Q := q
    refine ⟨Z, ρ, Fs, g, s, CoV.bindV q fun d ρ1 b H1 Z1 F1 t1 g1 s1 r1 q1 => ?_⟩
    obtain ⟨b, e, q2⟩ := q1.ofO
    refine ⟨b, tru_of v.K g1.zh r1 e, ?_⟩
    cases b with
    | true => exact CoV.val (show CoV p W σ (relD p) Z1 H1 (List.flatten F1) (.ok d ρ1) Q from q2) g1 s1 r1
    | false => exact ⟨Z1, ρ1, F1, g1, s1, q2⟩
/-- a frozen value as it comes -/
theorem tO_of_tV {r : VI.St → R D} {σ : L2.St} {H : Hp} {Q : VK} (q : tO p W (fun ρ => (r ρ).bind fun d s => .ok (.fz d) s) σ H Q) : tV p W (relD p) r σ H Q := by
  obtain ⟨Z, ρ, Fs, g, s, q⟩ := q
  exact ⟨Z, ρ, Fs, g, s, CoV.bindO q fun d ρ1 b H1 Z1 F1 t1 g1 s1 r1 q1 => q1.val g1 s1 r1⟩
theorem snd_and (v : Ev p C c W k X) {pos : Pos} {es : List Expr} {l : List VI.E} (h : A2 (VD X p W C) es l) : VO X p W C (.BoolOp .And es pos) (.and l)
  | 0 => tO_bad fun _ => ⟨0, rfl⟩
  | n + 1 => PE.weak (snd_and0 v (n := n) h) fun σ H Q q => tO_of_tV q
theorem snd_or (v : Ev p C c W k X) {pos : Pos} {es : List Expr} {l : List VI.E} (h : A2 (VD X p W C) es l) : VO X p W C (.BoolOp .Or es pos) (.or l)
  | 0 => tO_bad fun _ => ⟨0, rfl⟩
  | n + 1 => PE.weak (snd_or0 v (n := n) h) fun σ H Q q => tO_of_tV q

/-! ### subscripts -/
def noSlice : Expr → Bool
  | .Slice _ _ _ _ => false
  | _ => true
theorem plainIx {b : Expr} (h : noSlice b = true) : PlainIx b := fun o i => by
  cases b <;> first | rfl | cases h
theorem snd_idx (v : Ev p C c W k X) {a b : Expr} {A B : VI.E} {pos : Pos} (hs : noSlice b = true) (ha : VQ X p W C a A) (hb : VD X p W C b B) : VO X p W C (.Subscript a b pos) (.idx A B)
  | 0 => tO_bad fun _ => ⟨0, rfl⟩
  | n + 1 => by
    refine PE.weak (pe_ix (idx_ok v.K) (ha n) (hb n) (plainIx hs)) fun σ H Q q => ?_
    obtain ⟨Z, ρ, Fs, g, s, q⟩ := q
    have q : CoO p W σ Z H (List.flatten Fs) ((evQ C n A ρ).bind fun q s => (evD C n B s).bind fun y s => (evQd q s).bind fun x s => (ofO (idxD x y) 25 s).bind fun d s => .ok (.fz d) s) Q := q
    refine ⟨Z, ρ, Fs, g, s, CoV.bindO q fun x ρ1 vx H1 Z1 F1 t1 g1 s1 r1 q1 => ⟨Z1, ρ1, F1, g1, s1, CoV.bindO q1 fun y ρ2 vy H2 Z2 F2 t2 g2 s2 r2 q2 => ?_⟩⟩
    rcases evQ_later (f := fun x s => (ofO (idxD x y) 25 s).bind fun d s => R.ok (O.fz d) s) g2 s2 (relQ.le (H' := H2) r1 t2.zle) with ⟨d, ρ', Z', Gs, t, g', s', rp, e⟩ | ⟨m, e⟩
    · rw [e] at q2
      obtain ⟨b, eb, q3⟩ := (CoO.tr t q2).ofO
      exact ⟨Z', d, y, b, g'.zh, rp, RD.le t.zle r2, eb, fun v r => q3.val g' s' r⟩
    · rw [e] at q2
      exact (show False from q2).elim
/-- a slice's part -/
def tOI (p : Pl) (W : WX) (r : VI.St → R (Option Int)) : TO := fun σ H Q => tV p W relI r σ H Q
theorem PO.weak {X : Cx} {e : Option Expr} {t t' : TO} (h : PO X e t) (k : ∀ σ H Q, t' σ H Q → t σ H Q) : PO X e t' := ⟨fun pins s σ H Q I q => h.run pins s σ H Q I (k σ H Q q)⟩
theorem snd_part0 : ∀ n, PO X none (tOI p W (evPart C n none))
  | 0 => ⟨fun pins s σ H Q I q => (tV_bad (fun _ => ⟨0, rfl⟩) q).elim⟩
  | n + 1 => PO.weak po_none fun σ H Q q => by
    obtain ⟨Z, ρ, Fs, g, s, q⟩ := q
    exact CoV.val (a := (none : Option Int)) (b := none) q g s rfl
theorem snd_part1 {e : Expr} {E : VI.E} (h : VD X p W C e E) : ∀ n, PO X (some e) (tOI p W (evPart C n (some E)))
  | 0 => ⟨fun pins s σ H Q I q => (tV_bad (fun _ => ⟨0, rfl⟩) q).elim⟩
  | n + 1 => PO.weak (po_some (h n)) fun σ H Q q => by
    obtain ⟨Z, ρ, Fs, g, s, q⟩ := q
    have q : CoV p W σ relI Z H (List.flatten Fs) ((evD C n E ρ).bind fun d s => (match d with
      | .int i => .ok (some i) s
      | _ => .bad 43)) Q := q
    refine ⟨Z, ρ, Fs, g, s, CoV.bindV q fun d ρ1 b H1 Z1 F1 t1 g1 s1 r1 q1 => ?_⟩
    cases d <;> try exact (show False from q1).elim
    exact ⟨_, rd_int r1, CoV.val q1 g1 s1 rfl⟩
theorem snd_slc (v : Ev p C c W k X) {a : Expr} {lo hi : Option Expr} {A : VI.E} {Lo Hi : Option VI.E} {pos p2 : Pos} (ha : VQ X p W C a A) (hl : ∀ n, PO X lo (tOI p W (evPart C n Lo))) (hh : ∀ n, PO X hi (tOI p W (evPart C n Hi))) :
    VO X p W C (.Subscript a (.Slice lo hi none p2) pos) (.slc A Lo Hi)
  | 0 => tO_bad fun _ => ⟨0, rfl⟩
  | n + 1 => by
    refine PE.weak (pe_slice (slc_ok v.K) (ha n) (hl n) (hh n)) fun σ H Q q => ?_
    obtain ⟨Z, ρ, Fs, g, s, q⟩ := q
    have q : CoO p W σ Z H (List.flatten Fs) ((evQ C n A ρ).bind fun q s => (evPart C n Lo s).bind fun l s => (evPart C n Hi s).bind fun h s => (evQd q s).bind fun x s => ofO (slcO x l h) 26 s) Q := q
    refine ⟨Z, ρ, Fs, g, s, CoV.bindO q fun x ρ1 vx H1 Z1 F1 t1 g1 s1 r1 q1 => ⟨Z1, ρ1, F1, g1, s1, CoV.bindO q1 fun y ρ2 vy H2 Z2 F2 t2 g2 s2 r2 q2 => ⟨Z2, ρ2, F2, g2, s2, CoV.bindO q2 fun z ρ3 vz H3 Z3 F3 t3 g3 s3 r3 q3 => ?_⟩⟩⟩
    cases (show y = vy from r2)
    cases (show z = vz from r3)
    rcases evQ_later (f := fun x s => ofO (slcO x y z) 26 s) g3 s3 (relQ.le (H' := H3) (relQ.le (H' := H3) r1 t2.zle) t3.zle) with ⟨d, ρ', Z', Gs, t, g', s', rp, e⟩ | ⟨m, e⟩
    · rw [e] at q3
      obtain ⟨b, eb, q4⟩ := (CoO.tr t q3).ofO'
      exact ⟨Z', d, b, g'.zh, rp, eb, fun v H' r => q4.res g' s' r⟩
    · rw [e] at q3
      exact (show False from q3).elim
end
end VI
end

section
set_option Elab.async false
set_option linter.all false
set_option maxRecDepth 10000
/-! VI10: displays, arguments, calls, built-in functions, methods that change their receiver. -/
namespace VI
open PySem PySem.Spec PyProof.Rows L2

theorem star_of {e : Expr} {es : List Expr} {env : Env} (h : isStar e = false) : starEach (e :: es) env = (false, eval e env) :: starEach es env := by
  cases e <;> first | rfl | cases h
theorem star_plain {pos : Pos} {env : Env} : ∀ {es : List Expr}, (∀ e ∈ es, isStar e = false) → (backTo pos (starEach es env)).any (·.1) = false
  | [], _ => rfl
  | e :: es, h => by
    rw [star_of (h e List.mem_cons_self)]
    show (false || (backTo pos (starEach es env)).any (·.1)) = false
    rw [star_plain fun e he => h e (List.mem_cons_of_mem _ he)]
    rfl
section
variable {p : Pl} {C : Cfg} {c : Sc} {W : WX} {k : Nat} {X : Cx}
/-- all that is known of a translated expression -/
structure Snd (X : Cx) (p : Pl) (W : WX) (C : Cfg) (e : Expr) (E : VI.E) : Prop where
  star : isStar e = false
  set : noSet e = true
  slice : noSlice e = true
  O : VO X p W C e E
  C : VC X p W C e E
  loc : ∀ i, E = .loc i → ∃ x pos, e = .Name x pos ∧ X.N[i]? = some x ∧ Vis X.env.scope x ∧ (x == ("__debug__" : Str)) = false ∧ (x == ("__classdict__" : Str)) = false
theorem Snd.D {e : Expr} {E : VI.E} (h : Snd X p W C e E) : VD X p W C e E := pe_D' h.O
theorem Snd.P {e : Expr} {E : VI.E} (h : Snd X p W C e E) : VP X p W C e E := snd_P h.O fun i hi => by
  obtain ⟨x, pos, rfl, h1, h2, h3, h4⟩ := h.loc i hi
  exact snd_pk h1 h2 h3 h4
theorem Snd.Q {e : Expr} {E : VI.E} (h : Snd X p W C e E) : VQ X p W C e E := snd_Q h.O h.loc
theorem A2.star {es : List Expr} {l : List VI.E} : A2 (Snd X p W C) es l → ∀ e ∈ es, isStar e = false
  | .nil, e, he => by cases he
  | .cons h t, e, he => by
    rcases List.mem_cons.mp he with rfl | he
    · exact h.star
    · exact A2.star t e he

/-! ### lists of expressions -/
theorem pa_Ds {n : Nat} : ∀ {es : List Expr} {l : List VI.E}, A2 (Snd X p W C) es l → PA X es (tV p W (relDs p) (evDs (evD C n) l))
  | _, _, .nil => PA.weak pa_nil fun σ H Q q => by
    obtain ⟨Z, ρ, Fs, g, s, q⟩ := q
    exact CoV.val (a := ([] : List D)) (b := []) q g s RDs.nil
  | _, _, .cons (a := e) (b := E) (l := es) (m := l) h t => by
    refine PA.weak (pa_cons (h.D n) (pa_Ds (n := n) t) (star_of h.star)) fun σ H Q q => ?_
    obtain ⟨Z, ρ, Fs, g, s, q⟩ := q
    have q : CoV p W σ (relDs p) Z H (List.flatten Fs) ((evD C n E ρ).bind fun d s => (evDs (evD C n) l s).bind fun ds s => .ok (d :: ds) s) Q := q
    exact ⟨Z, ρ, Fs, g, s, CoV.bindV q fun d ρ1 b H1 Z1 F1 t1 g1 s1 r1 q1 => ⟨Z1, ρ1, F1, g1, s1, CoV.bindV q1 fun ds ρ2 bs H2 Z2 F2 t2 g2 s2 r2 q2 =>
      CoV.val (a := d :: ds) (b := b :: bs) q2 g2 s2 (RDs.cons (RD.le t2.zle r1) r2)⟩⟩
/-- an item of a display, with or without a star -/
def SplR (X : Cx) (p : Pl) (W : WX) (C : Cfg) (e : Expr) (E : Bool × VI.E) : Prop := (E.1 = false ∧ Snd X p W C e E.2) ∨ ∃ e' pos, e = .Starred e' pos ∧ E.1 = true ∧ Snd X p W C e' E.2
theorem pa_Spl (hK : X.K = p.K) {n : Nat} : ∀ {es : List Expr} {l : List (Bool × VI.E)}, A2 (SplR X p W C) es l → PA X es (tV p W (relDs p) (evSpl (evD C n) l))
  | _, _, .nil => PA.weak pa_nil fun σ H Q q => by
    obtain ⟨Z, ρ, Fs, g, s, q⟩ := q
    exact CoV.val (a := ([] : List D)) (b := []) q g s RDs.nil
  | _, _, .cons (a := e) (b := (b, E)) (l := es) (m := l) h t => by
    rcases h with ⟨hb, h⟩ | ⟨e', pos, rfl, hb, h⟩
    · cases (show b = false from hb)
      refine PA.weak (pa_cons (h.D n) (pa_Spl hK (n := n) t) (star_of h.star)) fun σ H Q q => ?_
      obtain ⟨Z, ρ, Fs, g, s, q⟩ := q
      have q : CoV p W σ (relDs p) Z H (List.flatten Fs) ((evD C n E ρ).bind fun d s => (evSpl (evD C n) l s).bind fun ds s => .ok (d :: ds) s) Q := q
      exact ⟨Z, ρ, Fs, g, s, CoV.bindV q fun d ρ1 b H1 Z1 F1 t1 g1 s1 r1 q1 => ⟨Z1, ρ1, F1, g1, s1, CoV.bindV q1 fun ds ρ2 bs H2 Z2 F2 t2 g2 s2 r2 q2 =>
        CoV.val (a := d :: ds) (b := b :: bs) q2 g2 s2 (RDs.cons (RD.le t2.zle r1) r2)⟩⟩
    · cases (show b = true from hb)
      refine PA.weak (StX.pa_star (h.D n) (pa_Spl hK (n := n) t) rfl) fun σ H Q q => ?_
      obtain ⟨Z, ρ, Fs, g, s, q⟩ := q
      have q : CoV p W σ (relDs p) Z H (List.flatten Fs) ((evD C n E ρ).bind fun d s => (match seqOf d with
        | some xs => (evSpl (evD C n) l s).bind fun ds s => .ok (xs ++ ds) s
        | none => .bad 4)) Q := q
      refine ⟨Z, ρ, Fs, g, s, CoV.bindV q fun d ρ1 b H1 Z1 F1 t1 g1 s1 r1 q1 => ?_⟩
      have sq : ∃ ds a xs, seqOf d = some ds ∧ b = .ref a ∧ (SqT X.K H1 a xs ∨ SqL X.K H1 a xs) ∧ RDs p Z1 ds xs := by
        have r1 : RD p Z1 d b := r1
        cases d <;> first
          | (exact (show False from q1).elim)
          | skip
        · unfold RD at r1
          obtain ⟨a, xs, rfl, ht, rr⟩ := r1
          exact ⟨_, a, xs, rfl, rfl, .inl (by rw [hK]; exact g1.zh.sqT ht), rr⟩
        · unfold RD at r1
          obtain ⟨a, xs, rfl, ht, rr⟩ := r1
          exact ⟨_, a, xs, rfl, rfl, .inr (.inl (.inl (g1.zh _ _ ht))), rr⟩
      obtain ⟨ds, a, xs, e1, rfl, hq, rr⟩ := sq
      simp only [e1] at q1
      exact ⟨a, xs, rfl, hq, Z1, ρ1, F1, g1, s1, CoV.bindV q1 fun ds2 ρ2 bs H2 Z2 F2 t2 g2 s2 r2 q2 =>
        CoV.val (a := ds ++ ds2) (b := xs ++ bs) q2 g2 s2 (RDs.app (RDs.le t2.zle rr) r2)⟩
theorem lim_ok {n : Nat} (h : n ≤ LIM) : n ≤ sizeLine := by rw [sizeLine_eq]; unfold LIM at h; omega
theorem snd_tup {x1 : Nat} {pos : Pos} (hK : X.K = p.K) {es : List Expr} {l : List (Bool × VI.E)} (h : A2 (SplR X p W C) es l) : VO X p W C (.Tuple es x1 pos) (.tup l)
  | 0 => tO_bad fun _ => ⟨0, rfl⟩
  | n + 1 => by
    refine PE.weak (pe_tup (pa_Spl hK (n := n) h)) fun σ H Q q => ?_
    obtain ⟨Z, ρ, Fs, g, s, q⟩ := q
    have q : CoO p W σ Z H (List.flatten Fs) ((evSpl (evD C n) l ρ).bind fun ds s => if ds.length ≤ LIM then .ok (.fz (.tup ds)) s else .bad 23) Q := q
    refine ⟨Z, ρ, Fs, g, s, CoV.bindO q fun ds ρ1 xs H1 Z1 F1 t1 g1 s1 r1 q1 => ?_⟩
    split at q1
    · rename_i hl
      exact ⟨lim_ok (by rw [← RDs.len r1]; exact hl), fun a ha => q1.res g1 s1 (Res.tup g1.zh ha r1)⟩
    · exact (show False from q1).elim
theorem snd_lst {pos : Pos} (hK : X.K = p.K) {es : List Expr} {l : List (Bool × VI.E)} (h : A2 (SplR X p W C) es l) : VO X p W C (.List es pos) (.lst l)
  | 0 => tO_bad fun _ => ⟨0, rfl⟩
  | n + 1 => by
    refine PE.weak (pe_lst (pa_Spl hK (n := n) h)) fun σ H Q q => ?_
    obtain ⟨Z, ρ, Fs, g, s, q⟩ := q
    have q : CoO p W σ Z H (List.flatten Fs) ((evSpl (evD C n) l ρ).bind fun ds s => if ds.length ≤ LIM then .ok (.lst (ds.map .fz)) s else .bad 23) Q := q
    refine ⟨Z, ρ, Fs, g, s, CoV.bindO q fun ds ρ1 xs H1 Z1 F1 t1 g1 s1 r1 q1 => ?_⟩
    split at q1
    · rename_i hl
      exact ⟨lim_ok (by rw [← RDs.len r1]; exact hl), fun a ha => q1.res g1 s1 (Res.lst ha r1)⟩
    · exact (show False from q1).elim
/-- the list backwards -/
theorem snd_rev (v : Ev p C c W k X) {e : Expr} {E : VI.E} {j : Nat} {p1 p2 p3 pos : Pos} (h : VP X p W C e E) : VO X p W C (.Subscript e (.Slice none none (some (.UnaryOp .USub (.Constant (.int 1) j p1) p2)) p3) pos) (.rev E)
  | 0 => tO_bad fun _ => ⟨0, rfl⟩
  | n + 1 => by
    refine PE.weak (pe_revL (h n)) fun σ H Q q => ?_
    obtain ⟨Z, ρ, Fs, g, s, q⟩ := q
    have q : CoO p W σ Z H (List.flatten Fs) ((evP C n E ρ).bind fun x s => ofO (revO x) 26 s) Q := q
    refine ⟨Z, ρ, Fs, g, s, CoV.bindO q fun d ρ1 xs H1 Z1 F1 t1 g1 s1 r1 q1 => ?_⟩
    obtain ⟨o, e1, q2⟩ := q1.ofO'
    cases d <;> simp only [revO, reduceCtorEq, Option.some.injEq] at e1
    subst e1
    obtain ⟨a, xs, rfl, hl, rr⟩ := r1
    exact ⟨a, xs, rfl, .inl (.inl hl), fun a' ha => q2.res g1 s1 (Res.lst ha rr.reverse)⟩

/-! ### calls -/
def tArg (p : Pl) (W : WX) (r : VI.St → R (List (Option Nat × D))) : TA := fun σ H Q => tV p W (relA p σ) r σ H Q
theorem evArgs_io {f : VI.E → VI.St → R D} {io : List Nat} {j i : Nat} {l : List VI.E} (h : io.contains j = true) (s : VI.St) :
    evArgs f io j (.loc i :: l) s = (match s[i]? with
        | some (some _) => (evArgs f io (j + 1) l s).bind fun r s => .ok ((some i, .non) :: r) s
        | _ => .bad 8) := by
  rw [evArgs, if_pos h] <;> rfl
theorem evArgs_no {f : VI.E → VI.St → R D} {io : List Nat} {j : Nat} {e : VI.E} {l : List VI.E} (h : io.contains j = true) (hn : ∀ i, e ≠ .loc i) (s : VI.St) : evArgs f io j (e :: l) s = .bad 8 := by
  rw [evArgs, if_pos h]
  exact hn
theorem pa_Args {n : Nat} {io : List Nat} : ∀ {es : List Expr} {l : List VI.E} {j : Nat}, A2 (Snd X p W C) es l → PA X es (tArg p W (evArgs (evD C n) io j l))
  | _, _, j, .nil => PA.weak pa_nil fun σ H Q q => by
    obtain ⟨Z, ρ, Fs, g, s, q⟩ := q
    exact CoV.val (a := ([] : List (Option Nat × D))) (b := []) q g s ArgR.nil
  | _, _, j, .cons (a := e) (b := E) (l := es) (m := l) h t => by
    by_cases hj : io.contains j = true
    · by_cases hi : ∃ i, E = .loc i
      · obtain ⟨i, rfl⟩ := hi
        obtain ⟨x, pos, rfl, h1, h2, h3, h4⟩ := h.loc i rfl
        refine PA.weak (pa_cons (pe_var h1 h2 h3 h4) (pa_Args (n := n) (io := io) (j := j + 1) t) (star_of rfl)) fun σ H Q q => ?_
        obtain ⟨Z, ρ, Fs, g, s, q⟩ := q
        rw [evArgs_io hj] at q
        split at q
        · rename_i o eo
          obtain ⟨v, A, B, D, k1, k2, k3, k4⟩ := s.at eo
          refine ⟨v, k1, Z, ρ, Fs, g, s, CoV.bindV q fun r ρ1 bs H1 Z1 F1 t1 g1 s1 r1 q1 => ?_⟩
          exact CoV.val (a := (some i, VI.D.non) :: r) (b := v :: bs) q1 g1 s1 (ArgR.io k1 r1)
        · exact (show False from q).elim
      · refine ⟨fun pos pins s σ H Q I q => ?_⟩
        exact (tV_bad (fun ρ => ⟨8, evArgs_no hj (fun i e => hi ⟨i, e⟩) ρ⟩) q).elim
    · refine PA.weak (pa_cons (h.D n) (pa_Args (n := n) (io := io) (j := j + 1) t) (star_of h.star)) fun σ H Q q => ?_
      obtain ⟨Z, ρ, Fs, g, s, q⟩ := q
      have e1 : evArgs (evD C n) io j (E :: l) ρ = (evD C n E ρ).bind fun d s => (evArgs (evD C n) io (j + 1) l s).bind fun r s => .ok ((none, d) :: r) s := by
        conv => lhs; unfold evArgs
        exact if_neg hj
      rw [e1] at q
      exact ⟨Z, ρ, Fs, g, s, CoV.bindV q fun d ρ1 b H1 Z1 F1 t1 g1 s1 r1 q1 => ⟨Z1, ρ1, F1, g1, s1, CoV.bindV q1 fun ds ρ2 bs H2 Z2 F2 t2 g2 s2 r2 q2 =>
        CoV.val (a := (none, d) :: ds) (b := b :: bs) q2 g2 s2 (ArgR.val (RD.le t2.zle r1) r2)⟩⟩
theorem ArgR.len {p : Pl} {σ : L2.St} {Z : Hp} : ∀ {as : List (Option Nat × D)} {vs : List V}, ArgR p σ Z as vs → vs.length = as.length
  | _, _, .nil => rfl
  | _, _, .val _ t => by simp [ArgR.len t]
  | _, _, .io _ t => by simp [ArgR.len t]
theorem evArgs_len {f : VI.E → VI.St → R D} {io : List Nat} : ∀ {l : List VI.E} {j : Nat} {s s' : VI.St} {as : List (Option Nat × D)}, evArgs f io j l s = .ok as s' → as.length = l.length
  | [], j, s, s', as, h => by
    simp only [evArgs] at h
    cases h
    rfl
  | e :: l, j, s, s', as, h => by
    unfold evArgs at h
    split at h
    · split at h
      · split at h
        · obtain ⟨r, s1, h1, h2⟩ := bind_ok h
          cases h2
          simp [evArgs_len h1]
        · cases h
      · cases h
    · obtain ⟨d, s1, h1, h2⟩ := bind_ok h
      obtain ⟨r, s2, h3, h4⟩ := bind_ok h2
      cases h4
      simp [evArgs_len h3]
/-- the call of a def that a value stands for, from the arguments' reading -/
theorem call_read {n : Nat} {f : Nat} {io : List Nat} {l : List VI.E} {σ : L2.St} {Z H : Hp} {Fs : List (List Addr)} {ρ : VI.St} {Q : VK} (g : Good p Z H (List.flatten Fs)) (s : SL p Z H ρ σ Fs)
    (q : CoO p W σ Z H (List.flatten Fs) ((evArgs (evD C n) io 0 l ρ).bind fun as s => doCall C f as s) Q) :
    tArg p W (evArgs (evD C n) io 0 l) σ H fun vs H1 => vs.length = l.length ∧ spFn p (C.call f) vs H1 Q fun cls d H' => W cls d σ H' := by
  refine ⟨Z, ρ, Fs, g, s, ?_⟩
  cases hr : evArgs (evD C n) io 0 l ρ with
  | ok as ρ1 =>
    rw [hr] at q
    intro vs H1 Z1 F1 t1 g1 s1 r1
    exact ⟨r1.len.trans (evArgs_len hr), call_sp g1 s1 r1 (CoO.tr t1 q)⟩
  | ex c d ρ1 => rw [hr] at q; exact q
  | bad m => rw [hr] at q; exact q
theorem snd_call (v : Ev p C c W k X) {x : Str} {m : Nat} {es : List Expr} {l : List VI.E} {p1 pos : Pos} (hx : c.glob x = some (m, .fn)) (hd : (x == ("__debug__" : Str)) = false) (h : A2 (Snd X p W C) es l) : VO X p W C (.Call (.Name x p1) es [] pos) (.call m l)
  | 0 => tO_bad fun _ => ⟨0, rfl⟩
  | n + 1 => by
    obtain ⟨h1, h2, rfl⟩ := v.glob hx
    obtain ⟨k1, k2⟩ := v.gfn x h2
    refine ⟨fun pins s σ H Q I q => ?_⟩
    obtain ⟨Z, ρ, Fs, g, sl, q⟩ := q
    have q : CoO p W σ Z H (List.flatten Fs) (match C.glob (enc x) with
      | some (.fn fd) => if l.length = fd.np then (evArgs (evD C n) fd.io 0 l ρ).bind fun as s => doCall C (enc x) as s else .bad 31
      | _ => .bad 31) Q := q
    split at q
    · rename_i fd hfd
      split at q
      · rename_i hl
        obtain ⟨ps, hp, F⟩ := v.fok _ _ hfd
        have hA := (pa_Args (n := n) (io := fd.io) (j := 0) h).run pos pins s σ H _ I (call_read g sl q)
        refine wpAny_Call_Name_kw (ld_glob I h1 k1 ?_ hd)
        cases es with
        | nil =>
          refine PySem.W.callWith_K0 I.kIn F.kp ?_
          cases h
          obtain ⟨hl', hs⟩ : ([] : List V).length = 0 ∧ spFn p (C.call (enc x)) [] H Q fun cls d H' => W cls d σ H' := by
            have := call_read g sl q
            obtain ⟨Z', ρ', Fs', g', sl', q'⟩ := this
            have q' := CoV.val (a := ([] : List (Option Nat × VI.D))) (b := ([] : List V)) (Rel := relA p σ) q' g' sl' ArgR.nil
            exact ⟨rfl, q'.2⟩
          exact run_fnG F v.room v.gd v.tk I .nil (by rw [hp, ← hl]; rfl) hs
        | cons e es =>
          have st := h.star
          refine PySem.W.callWith_K (h₀ := X.base) I.ok.mod.kin F.kp (thn hA fun us s1 ⟨vs, H1, I1, r, hq⟩ => ⟨I1.kIn, ?_⟩) (star_of (st e List.mem_cons_self)) (star_plain fun e he => st e (List.mem_cons_of_mem _ he))
          exact run_fnG F v.room v.gd v.tk I1 r (by rw [hq.1, hp]; exact hl) hq.2
      · exact (show False from q).elim
    · exact (show False from q).elim
end
end VI
end

section
set_option Elab.async false
set_option linter.all false
set_option maxRecDepth 10000
/-! VI11: built-in functions, methods that change their receiver, calls of what a name holds. -/
namespace VI
open PySem PySem.Spec PyProof.Rows L2

theorem nodup_repl {X X' Y : List Addr} (h : (X ++ Y).Nodup) (n : X'.Nodup) (s : ∀ a ∈ X', a ∈ X) : (X' ++ Y).Nodup := by
  have m := List.nodup_append.mp h
  exact List.nodup_append.mpr ⟨n, m.2.1, fun a ha b hb => m.2.2 a (s a ha) b hb⟩
theorem perm_slot (G A B C : List Addr) (a : Addr) : (G ++ (A ++ ((a :: B) ++ C))).Perm ((G ++ B) ++ (A ++ (a :: C))) := by
  rw [List.perm_iff_count]
  intro x
  simp only [List.count_append, List.count_cons]
  omega
theorem ROs.era {p : Pl} {Z H : Hp} : ∀ {os : List O} {xs : List V} {F : List Addr} {i : Nat} {o : O}, ROs p Z H os xs F → os[i]? = some o →
    ∃ v A B C, xs[i]? = some v ∧ F = A ++ (B ++ C) ∧ RO p Z H o v B ∧ ROs p Z H (os.eraseIdx i) (xs.eraseIdx i) (A ++ C)
  | [], _, _, _, _, _, e => by simp at e
  | u :: os, _, _, 0, o, h, e => by
    unfold ROs at h
    obtain ⟨v, r, F1, F2, rfl, q, t, rfl⟩ := h
    simp at e
    subst e
    exact ⟨v, [], F1, F2, rfl, rfl, q, t⟩
  | u :: os, _, _, i + 1, o, h, e => by
    unfold ROs at h
    obtain ⟨v, r, F1, F2, rfl, q, t, rfl⟩ := h
    obtain ⟨w, A, B, C, h1, rfl, h3, h4⟩ := ROs.era (i := i) t (by simpa using e)
    refine ⟨w, F1 ++ A, B, C, by simpa using h1, by rw [List.append_assoc], h3, ?_⟩
    rw [List.append_assoc]
    exact ROs.cons q h4
theorem lst_of {p : Pl} {Z H : Hp} {l : List O} {v : V} {B : List Addr} (h : RO p Z H (.lst l) v B) : ∃ a xs B', v = .ref a ∧ H a = some (.lst xs) ∧ ROs p Z H l xs B' ∧ B = a :: B' := by
  unfold RO at h
  exact h
/-- a slot's list is written -/
theorem upd_lst {p : Pl} {Z H : Hp} {G : List Addr} {ρ : VI.St} {σ : L2.St} {Fs : List (List Addr)} {i : Nat} {l : List O} (g : Good p Z H (G ++ List.flatten Fs)) (s : SL p Z H ρ σ Fs) (e : ρ[i]? = some (some (.lst l))) (hO : ∀ a ∈ G, ∃ u, H a = some u ∧ Ow u) :
    ∃ a xs B, σ[i]? = some (some (.ref a)) ∧ H a = some (.lst xs) ∧ ROs p Z H l xs B ∧ (G ++ B).Nodup ∧ (∀ b ∈ B, Z b = none) ∧ (∀ b ∈ B, ∃ u, H b = some u ∧ Ow u) ∧ ∀ os' xs' B' G', ROs p Z H os' xs' B' → (G' ++ B').Nodup → (∀ b ∈ G' ++ B', b ∈ G ++ B) →
      ∃ Fs', Tr Z H (G ++ List.flatten Fs) Z (upd H a (.lst xs')) (G' ++ List.flatten Fs') ∧ Good p Z (upd H a (.lst xs')) (G' ++ List.flatten Fs') ∧ SL p Z (upd H a (.lst xs')) (ρ.set i (some (.lst os'))) σ Fs' ∧ ∀ o v, RO p Z H o v G' → RO p Z (upd H a (.lst xs')) o v G' := by
  obtain ⟨v, A, B0, C, h1, h2, h3, h4⟩ := s.at e
  obtain ⟨a, xs, B, rfl, ha, hr, rfl⟩ := lst_of h3
  have nd := g.nd
  rw [h2] at nd
  have nd2 := (perm_slot G A B C a).nodup_iff.mp nd
  have m := List.nodup_append.mp nd2
  have aN : a ∉ G ++ B := fun hz => m.2.2 a hz a (List.mem_append_right _ List.mem_cons_self) rfl
  have aAC : a ∉ A ++ C := fun hz => by
    have mm := List.nodup_append.mp m.2.1
    rcases List.mem_append.mp hz with hz | hz
    · exact mm.2.2 a hz a List.mem_cons_self rfl
    · exact (List.nodup_cons.mp mm.2.1).1 hz
  have aF : a ∈ G ++ List.flatten Fs := by rw [h2]; simp
  refine ⟨a, xs, B, h1, ha, hr, m.1, fun b hb => g.fz b (by rw [h2]; simp [hb]), fun b hb => h3.there b (List.mem_cons_of_mem _ hb), fun os' xs' B' G' hr' n' sub => ?_⟩
  have keep : ∀ b, b ∈ G ++ B → upd H a (.lst xs') b = H b := fun b hb => upd_ne (fun z => aN (by rw [← z]; exact hb))
  have hr2 : ROs p Z (upd H a (.lst xs')) os' xs' B' := hr'.le Le.rfl' fun b hb => keep b (sub b (List.mem_append_right _ hb))
  obtain ⟨Fs', f1, f2⟩ := h4.put Z (upd H a (.lst xs')) Le.rfl' (fun b hb => upd_ne fun z => aAC (by rw [← z]; exact hb)) (.lst os') (.ref a) (a :: B') (by unfold RO; exact ⟨a, xs', B', rfl, upd_same, hr2, rfl⟩)
  rw [set_same h1] at f2
  have ndF : (G' ++ List.flatten Fs').Nodup := by
    rw [f1]
    exact (perm_slot G' A B' C a).nodup_iff.mpr (nodup_repl nd2 n' sub)
  have subF : ∀ x ∈ G' ++ List.flatten Fs', x ∈ G ++ List.flatten Fs := fun x hx => by
    rw [f1] at hx
    rw [h2]
    have hx := (perm_slot G' A B' C a).mem_iff.mp hx
    refine (perm_slot G A B C a).mem_iff.mpr ?_
    rcases List.mem_append.mp hx with hx | hx
    · exact List.mem_append_left _ (sub x hx)
    · exact List.mem_append_right _ hx
  exact ⟨Fs', (Tr.wr _ aF).sub subF, (g.wr aF ha (by exact True.intro)).sub subF ndF, f2, fun o v r => r.le Le.rfl' fun b hb => keep b (sub b (List.mem_append_left _ hb))⟩

section
variable {p : Pl} {C : Cfg} {c : Sc} {W : WX} {k : Nat} {X : Cx}
/-! ### built-in functions -/
theorem biTab_ok : ∀ t ∈ biTab, bootBuiltins t.1.1 = some (biV t.2) ∧ t.1.1 ≠ "__name__" ∧ (t.1.1 == ("__debug__" : Str)) = false ∧ t.2 ≠ .sortset := by decide +kernel
theorem biOf_facts {x : Str} {n : Nat} {b : Bi} (h : biOf x n = some b) : bootBuiltins x = some (biV b) ∧ x ≠ "__name__" ∧ (x == ("__debug__" : Str)) = false ∧ b ≠ .sortset := by
  unfold biOf at h
  simp only [Option.map_eq_some_iff] at h
  obtain ⟨t, h1, rfl⟩ := h
  have h2 := List.find?_some h1
  have h3 := biTab_ok t (List.mem_of_find?_eq_some h1)
  have h2 : t.1 = (x, n) := by simpa using h2
  rw [h2] at h3
  exact h3
theorem biV_cases (b : Bi) : (∃ id, biV b = .builtin id) ∨ ∃ T, biV b = .type T := by cases b <;> first | exact .inl ⟨_, rfl⟩ | exact .inr ⟨_, rfl⟩
/-- a built-in function or type called -/
theorem pe_blt {f : Value} {x : Str} {e : Expr} {es : List Expr} {t : TA} {r : List V → Hp → VK → Prop} {p1 pos : Pos} (hf : (∃ id, f = .builtin id) ∨ ∃ T, f = .type T) (hc : CallR X f r) (hg : Gl X x) (hm : X.mg x = none) (hv : bootBuiltins x = some f) (ha : PA X (e :: es) t)
    (hn : x ≠ "__name__") (hd : (x == ("__debug__" : Str)) = false) (st : ∀ a ∈ e :: es, isStar a = false) : PE X (.Call (.Name x p1) (e :: es) [] pos) (tCB r t) := by
  rcases hf with ⟨id, rfl⟩ | ⟨T, rfl⟩
  · exact pe_callB hc hg hm hv ha hn hd (star_of (st e List.mem_cons_self)) (star_plain fun a h => st a (List.mem_cons_of_mem _ h))
  · exact pe_callTy hc hg hm hv ha hn hd (star_of (st e List.mem_cons_self)) (star_plain fun a h => st a (List.mem_cons_of_mem _ h))
theorem rps1 {p : Pl} {Z H : Hp} {d : D} {v : V} (h : RP p Z H d v) : True := trivial
/-- one argument -/
theorem snd_bi1 (v : Ev p C c W k X) {x : Str} {a : Expr} {A : VI.E} {b : Bi} {p1 pos : Pos} (hx : c.blt x = true) (hb : biOf x 1 = some b) (h : Snd X p W C a A) : VO X p W C (.Call (.Name x p1) [a] [] pos) (.bi b [A])
  | 0 => tO_bad fun _ => ⟨0, rfl⟩
  | n + 1 => by
    obtain ⟨h1, h2, h3, h4⟩ := biOf_facts hb
    obtain ⟨g1, g2⟩ := v.blt hx
    have st : ∀ e ∈ [a], isStar e = false := fun e he => by
      cases he with
      | head => exact h.star
      | tail _ he => cases he
    have ar : PA X [a] (tCons (tV p W (relP p) (evP C n A)) tNil) := pa_cons (h.P n) pa_nil (star_of h.star)
    by_cases hr : b = .repr
    · subst hr
      refine PE.weak (pe_blt (f := .builtin "repr") (.inl ⟨_, rfl⟩) (repr_ok v.K v.hu v.gd) g1 g2 h1 ar h2 h3 st) fun σ H Q q => ?_
      obtain ⟨Z, ρ, Fs, g, s, q⟩ := q
      have q : CoO p W σ Z H (List.flatten Fs) ((evP C n A ρ).bind fun x s => ofO (biO .repr [x]) 34 s) Q := q
      refine ⟨Z, ρ, Fs, g, s, CoV.bindO q fun d ρ1 w H1 Z1 F1 t1 g1 s1 r1 q1 => ?_⟩
      obtain ⟨o, e1, q2⟩ := q1.ofO'
      simp only [biO, bi1] at e1
      split at e1
      · rename_i pd hpd
        split at e1
        · rename_i hh
          cases e1
          exact ⟨Z1, d, w, pd, rfl, g1.zh, r1, hpd, hh.1, hh.2.1, hh.2.2, CoO.val (d := .str _) q2 g1 s1 str_rd⟩
        · cases e1
      · cases e1
    · refine PE.weak (pe_blt (biV_cases b) (bi1_ok v.K v.calm b hr h4) g1 g2 h1 ar h2 h3 st) fun σ H Q q => ?_
      obtain ⟨Z, ρ, Fs, g, s, q⟩ := q
      have q : CoO p W σ Z H (List.flatten Fs) ((evP C n A ρ).bind fun x s => ofO (biO b [x]) 34 s) Q := q
      refine ⟨Z, ρ, Fs, g, s, CoV.bindO q fun d ρ1 w H1 Z1 F1 t1 g1 s1 r1 q1 => ?_⟩
      obtain ⟨o, e1, q2⟩ := q1.ofO'
      exact ⟨Z1, d, w, o, rfl, g1.zh, r1, e1, fun v H' r => q2.res g1 s1 r⟩
theorem evDs_len {f : VI.E → VI.St → R D} : ∀ {l : List VI.E} {s s' : VI.St} {as : List D}, evDs f l s = .ok as s' → as.length = l.length
  | [], s, s', as, h => by
    simp only [evDs] at h
    cases h
    rfl
  | e :: l, s, s', as, h => by
    unfold evDs at h
    obtain ⟨d, s1, h1, h2⟩ := bind_ok h
    obtain ⟨r, s2, h3, h4⟩ := bind_ok h2
    cases h4
    simp [evDs_len h3]
theorem snd_bi2 (v : Ev p C c W k X) {x : Str} {a a2 : Expr} {A B : VI.E} {b : Bi} {p1 pos : Pos} (hx : c.blt x = true) (hb : biOf x 2 = some b) (h : Snd X p W C a A) (h' : Snd X p W C a2 B) : VO X p W C (.Call (.Name x p1) [a, a2] [] pos) (.bi b [A, B])
  | 0 => tO_bad fun _ => ⟨0, rfl⟩
  | n + 1 => by
    obtain ⟨h1, h2, h3, h4⟩ := biOf_facts hb
    obtain ⟨g1, g2⟩ := v.blt hx
    have ar : A2 (Snd X p W C) [a, a2] [A, B] := .cons h (.cons h' .nil)
    refine PE.weak (pe_blt (biV_cases b) (bi2_ok (p := p) v.calm b) g1 g2 h1 (pa_Ds (n := n) ar) h2 h3 ar.star) fun σ H Q q => ?_
    obtain ⟨Z, ρ, Fs, g, s, q⟩ := q
    have q : CoO p W σ Z H (List.flatten Fs) ((evDs (evD C n) [A, B] ρ).bind fun xs s => ofO (biO b xs) 34 s) Q := q
    refine ⟨Z, ρ, Fs, g, s, ?_⟩
    cases hr : evDs (evD C n) [A, B] ρ with
    | ok ds ρ1 =>
      rw [hr] at q
      have hl := evDs_len hr
      intro ws H1 Z1 F1 t1 g1 s1 r1
      obtain ⟨o, e1, q2⟩ := (CoO.tr t1 (show CoO p W σ Z H (List.flatten Fs) (ofO (biO b ds) 34 ρ1) Q from q)).ofO'
      have r1 : RDs p Z1 ds ws := r1
      match ds, hl, r1, e1 with
      | [d, e], _, r1, e1 =>
        unfold RDs at r1
        obtain ⟨w, r, rfl, q1, r1⟩ := r1
        unfold RDs at r1
        obtain ⟨w2, r, rfl, q2', r1⟩ := r1
        unfold RDs at r1
        subst r1
        exact ⟨Z1, d, e, w, w2, o, rfl, g1.zh, q1, q2', e1, fun v H' r => q2.res g1 s1 r⟩
    | ex c d ρ1 => rw [hr] at q; exact q
    | bad m => rw [hr] at q; exact q
/-- isinstance -/
theorem tyTab_ok : ∀ t ∈ tyTab, bootBuiltins t.1 = some (.type (tyN t.2)) ∧ t.1 ≠ "__name__" ∧ (t.1 == ("__debug__" : Str)) = false ∧ (match t.2 with | .own _ => false | _ => true) = true := by decide +kernel
theorem tyOf_facts {x : Str} {t : Ty} (h : tyOf x = some t) : bootBuiltins x = some (.type (tyN t)) ∧ x ≠ "__name__" ∧ (x == ("__debug__" : Str)) = false ∧ ∀ c, t ≠ .own c := by
  unfold tyOf at h
  simp only [Option.map_eq_some_iff] at h
  obtain ⟨t, h1, rfl⟩ := h
  have h2 := List.find?_some h1
  have h3 := tyTab_ok t (List.mem_of_find?_eq_some h1)
  have h2 : t.1 = x := by simpa using h2
  rw [h2] at h3
  refine ⟨h3.1, h3.2.1, h3.2.2.1, fun c e => ?_⟩
  have h4 := h3.2.2.2
  rw [e] at h4
  cases h4
theorem snd_isi (v : Ev p C c W k X) {a : Expr} {A : VI.E} {x : Str} {t : Ty} {p1 p2 pos : Pos} (hg : c.blt "isinstance" = true) (hx : c.blt x = true) (ht : tyOf x = some t) (h : Snd X p W C a A) : VO X p W C (.Call (.Name "isinstance" p1) [a, .Name x p2] [] pos) (.isi A t)
  | 0 => tO_bad fun _ => ⟨0, rfl⟩
  | n + 1 => by
    obtain ⟨h1, h2, h3, h4⟩ := tyOf_facts ht
    obtain ⟨g1, g2⟩ := v.blt hg
    obtain ⟨g3, g4⟩ := v.blt hx
    have ar : PA X [a, .Name x p2] (tCons (tV p W (relP p) (evP C n A)) (tCons (tC (.ty (tyN t))) tNil)) := pa_cons (h.P n) (pa_cons (pe_bltn (v := .ty (tyN t)) g3 g4 h1 rfl h2 h3) pa_nil (star_of rfl)) (star_of h.star)
    refine PE.weak (pe_blt (.inl ⟨_, rfl⟩) (isi_ok v.K t h4) g1 g2 boot_isinstance ar (by decide) (by decide) fun e he => ?_) fun σ H Q q => ?_
    · cases he with
      | head => exact h.star
      | tail _ he =>
        cases he with
        | head => rfl
        | tail _ he => cases he
    · obtain ⟨Z, ρ, Fs, g, s, q⟩ := q
      have q : CoO p W σ Z H (List.flatten Fs) ((evP C n A ρ).bind fun x s => (ofO (isiD x t) 35 s).bind fun b s => .ok (.fz (.bl b)) s) Q := q
      refine ⟨Z, ρ, Fs, g, s, CoV.bindO q fun d ρ1 w H1 Z1 F1 t1 g1 s1 r1 q1 => ?_⟩
      obtain ⟨b, e1, q2⟩ := q1.ofO
      exact ⟨Z1, d, w, b, rfl, g1.zh, r1, e1, CoO.val (d := .bl b) q2 g1 s1 bl_rd⟩

/-! ### methods that change their receiver -/
theorem sq_list {p : Pl} {Z H : Hp} {l : List O} {v : V} {B : List Addr} (h : RO p Z H (.lst l) v B) {K : PySem.W.Frag} : tyV K "list" v H := by
  obtain ⟨a, xs, B', rfl, ha, _, _⟩ := lst_of h
  exact .inl ⟨rfl, xs, .inl (.inl ha)⟩
theorem few1 {e : Expr} {env : Env} {cpos : Pos} (h : isStar e = false) : ((backTo cpos (starEach [e] env)).all (fun x => !x.1) && (backToKw cpos (keywordEach [] env)).all (fun x => x.1.isSome)
      && decide (([e] : List Expr).length + ([] : List Keyword).length + (if ([] : List Keyword).isEmpty then 0 else 1) < 30)) = true := by
  rw [star_of h]
  rfl
theorem snd_app (v : Ev p C c W k X) {x : Str} {i : Nat} {a : Expr} {A : VI.E} {p1 apos pos : Pos} (hx : X.N[i]? = some x) (hv : Vis X.env.scope x) (hd : (x == ("__debug__" : Str)) = false) (hcd : (x == ("__classdict__" : Str)) = false) (hl : (apos.endLine == pos.line) = true) (h : Snd X p W C a A) :
    VO X p W C (.Call (.Attribute (.Name x p1) "append" apos) [a] [] pos) (.mut .append i [A])
  | 0 => tO_bad fun _ => ⟨0, rfl⟩
  | n + 1 => by
    refine PE.weak (pe_bm PySem.F.plainAttrs_list PySem.F.slot_list_append PySem.F.type_list_append mt_append (pe_var hx hv hd hcd) (pa_cons (h.O n) pa_nil (star_of h.star)) rfl (few1 h.star) hl (star_of h.star) rfl) fun σ H Q q => ?_
    obtain ⟨Z, ρ, Fs, g, s, q⟩ := q
    have q : CoO p W σ Z H (List.flatten Fs) (match ρ[i]? with
      | some (some (.lst _)) => (evE C n A ρ).bind fun o s => (match s[i]? with
        | some (some (.lst l)) => if l.length < LIM then .ok (.fz .non) (s.set i (some (.lst (l ++ [o])))) else .bad 36
        | _ => .bad 37)
      | _ => .bad 37) Q := q
    split at q
    · rename_i l0 e0
      obtain ⟨v0, A0, B0, C0, k1, k2, k3, k4⟩ := s.at e0
      refine ⟨v0, k1, sq_list k3, Z, ρ, Fs, g, s, ?_⟩
      cases hr : evE C n A ρ with
      | ok o ρ1 =>
        rw [hr] at q
        have q : CoO p W σ Z H (List.flatten Fs) (match ρ1[i]? with
          | some (some (.lst l)) => if l.length < LIM then .ok (.fz .non) (ρ1.set i (some (.lst (l ++ [o])))) else .bad 36
          | _ => .bad 37) Q := q
        intro vo H1 Z1 F1 G t1 g1 s1 r1
        split at q
        · rename_i l e1
          split at q
          · rename_i hlen
            obtain ⟨b, xs, B, h1, h2, h3, h4, h4z, h4o, h5⟩ := upd_lst g1 s1 e1 r1.there
            rw [k1] at h1
            cases h1
            have lx : xs.length < sizeLine := by rw [← h3.len, sizeLine_eq]; unfold LIM at hlen; omega
            refine ⟨b, xs, vo, rfl, rfl, h2, lx, ?_⟩
            obtain ⟨Fs', f1, f2, f3, f4⟩ := h5 (l ++ [o]) (xs ++ [vo]) (B ++ (G ++ [])) [] (ROs.app h3 (ROs.cons r1 ROs.nil)) (by
              have : ([] ++ (B ++ (G ++ []))).Perm (G ++ B) := by simpa using List.perm_append_comm
              exact this.nodup_iff.mpr h4) (fun b hb => by simp at hb; simp; exact hb.symm)
            exact q .non (upd H1 b (.lst (xs ++ [vo]))) Z1 Fs' [] (t1.trans f1) f2 f3 (RO.fz non_rd)
          · exact (show False from q).elim
        · exact (show False from q).elim
      | ex c d ρ1 => rw [hr] at q; exact q
      | bad m => rw [hr] at q; exact q
    · exact (show False from q).elim
theorem snd_ext (v : Ev p C c W k X) {x : Str} {i : Nat} {a : Expr} {A : VI.E} {p1 apos pos : Pos} (hx : X.N[i]? = some x) (hv : Vis X.env.scope x) (hd : (x == ("__debug__" : Str)) = false) (hcd : (x == ("__classdict__" : Str)) = false) (hl : (apos.endLine == pos.line) = true) (h : Snd X p W C a A) :
    VO X p W C (.Call (.Attribute (.Name x p1) "extend" apos) [a] [] pos) (.mut .extend i [A])
  | 0 => tO_bad fun _ => ⟨0, rfl⟩
  | n + 1 => by
    refine PE.weak (pe_bm PySem.F.plainAttrs_list PySem.F.slot_list_extend PySem.F.type_list_extend mt_extend (pe_var hx hv hd hcd) (pa_cons (h.D n) pa_nil (star_of h.star)) rfl (few1 h.star) hl (star_of h.star) rfl) fun σ H Q q => ?_
    obtain ⟨Z, ρ, Fs, g, s, q⟩ := q
    have q : CoO p W σ Z H (List.flatten Fs) (match ρ[i]? with
      | some (some (.lst _)) => (evD C n A ρ).bind fun d s => (match d, s[i]? with
        | .lst ds, some (some (.lst l)) => if l.length + ds.length < LIM then .ok (.fz .non) (s.set i (some (.lst (l ++ ds.map .fz)))) else .bad 36
        | _, _ => .bad 37)
      | _ => .bad 37) Q := q
    split at q
    · rename_i l0 e0
      obtain ⟨v0, A0, B0, C0, k1, k2, k3, k4⟩ := s.at e0
      refine ⟨v0, k1, sq_list k3, Z, ρ, Fs, g, s, CoV.bindO q fun d ρ1 vo H1 Z1 F1 t1 g1 s1 r1 q => ?_⟩
      split at q
      · rename_i ds l e1
        split at q
        · rename_i hlen
          obtain ⟨b, xs, B, h1, h2, h3, h4, h4z, h4o, h5⟩ := upd_lst (G := []) g1 s1 e1 (fun a h => by cases h)
          rw [k1] at h1
          cases h1
          obtain ⟨b2, zs, rfl, z1, z2⟩ := (show ∃ a xs, vo = .ref a ∧ Z1 a = some (.lst xs) ∧ RDs p Z1 ds xs by unfold relD RD at r1; exact r1)
          have lx : xs.length + zs.length ≤ sizeLine := by rw [← h3.len, ← z2.len, sizeLine_eq]; unfold LIM at hlen; omega
          refine ⟨b, b2, xs, zs, rfl, rfl, h2, g1.zh _ _ z1, lx, ?_⟩
          obtain ⟨Fs', f1, f2, f3, f4⟩ := h5 (l ++ ds.map .fz) (xs ++ zs) (B ++ []) [] (ROs.app h3 (ros_map z2)) (by simpa using h4) (fun b hb => by simpa using hb)
          exact (CoO.tr (F := List.flatten F1) (F1 := List.flatten Fs') f1 q).val (d := .non) f2 f3 non_rd
        · exact (show False from q).elim
      · exact (show False from q).elim
    · exact (show False from q).elim
end
end VI
end

section
set_option Elab.async false
set_option linter.all false
set_option maxRecDepth 10000
/-! VI12: targets, what is walked, slots forgotten, what is kept aside. -/
namespace VI
open PySem PySem.Spec PyProof.Rows L2

/-! ### slots forgotten -/
theorem wipe_get {σ : L2.St} : ∀ {vs : List Nat} {j : Nat}, (wipe σ vs)[j]? = if j ∈ vs then (if j < σ.length then some none else none) else σ[j]?
  | [], j => by simp [wipe]
  | v :: vs, j => by
    unfold wipe
    by_cases hj : v = j
    · subst hj
      rw [List.getElem?_set, if_pos rfl, wipe_length, if_pos List.mem_cons_self]
    · rw [List.getElem?_set_ne hj, wipe_get]
      by_cases hm : j ∈ vs
      · rw [if_pos hm, if_pos (List.mem_cons_of_mem _ hm)]
      · rw [if_neg hm, if_neg (by simp only [List.mem_cons, not_or]; exact ⟨fun e => hj e.symm, hm⟩)]
theorem wipe_set {σ : L2.St} {i : Nat} {x : Option V} {vs : List Nat} (h : i ∈ vs) : wipe (σ.set i x) vs = wipe σ vs := by
  refine List.ext_getElem? fun j => ?_
  rw [wipe_get, wipe_get, List.length_set]
  by_cases hj : j ∈ vs
  · rw [if_pos hj, if_pos hj]
  · rw [if_neg hj, if_neg hj, List.getElem?_set_ne (fun (e : i = j) => hj (e ▸ h))]
theorem wipe_wipe {σ : L2.St} {vs ws : List Nat} (h : ∀ i ∈ ws, i ∈ vs) : wipe (wipe σ ws) vs = wipe σ vs := by
  refine List.ext_getElem? fun j => ?_
  rw [wipe_get, wipe_get, wipe_length, wipe_get]
  by_cases hj : j ∈ vs
  · rw [if_pos hj, if_pos hj]
  · rw [if_neg hj, if_neg hj, if_neg fun z => hj (h j z)]
theorem SL.wipe {p : Pl} {Z H : Hp} {ρ : VI.St} {σ : L2.St} {Fs : List (List Addr)} (s : SL p Z H ρ σ Fs) (nd : (List.flatten Fs).Nodup) : ∀ l : List Nat, ∃ Gs, SL p Z H (wipeO l ρ) (L2.wipe σ l) Gs ∧ (List.flatten Gs).Nodup ∧ ∀ a ∈ List.flatten Gs, a ∈ List.flatten Fs
  | [] => ⟨Fs, s, nd, fun a h => h⟩
  | i :: l => by
    obtain ⟨Gs, g1, g2, g3⟩ := SL.wipe s nd l
    unfold wipeO L2.wipe
    by_cases hi : i < (wipeO l ρ).length
    · obtain ⟨A, B, C, h1, h2⟩ := g1.hole hi
      obtain ⟨Gs', k1, k2⟩ := h2.out Z H Le.rfl' (fun _ _ => rfl) none
      rw [h1] at g2
      obtain ⟨n1, n2, n3⟩ := split3 g2
      exact ⟨Gs', k2, by rw [k1]; exact n1, fun a ha => g3 a (by rw [h1]; rw [k1] at ha; exact mem3.mpr (.inl ha))⟩
    · refine ⟨Gs, ?_, g2, g3⟩
      have hl := g1.len.1
      rw [List.set_eq_of_length_le (by omega), List.set_eq_of_length_le (by omega)]
      exact g1
/-- the names are there again, what they hold is not looked at -/
theorem SL.rest {p : Pl} {Z H : Hp} {ρ : VI.St} {σ σ' : L2.St} : ∀ {l : List Nat} {Fs : List (List Addr)}, SL p Z H ρ σ' Fs → L2.wipe σ' l = L2.wipe σ l → (List.flatten Fs).Nodup → ∃ Gs, SL p Z H (wipeO l ρ) σ Gs ∧ (List.flatten Gs).Nodup ∧ ∀ a ∈ List.flatten Gs, a ∈ List.flatten Fs
  | l, Fs, s, hw, nd => by
    obtain ⟨Gs, g1, g2, g3⟩ := s.wipe nd l
    rw [hw] at g1
    have back : ∀ (k : List Nat), (∀ i ∈ k, i ∈ l) → ∀ (τ : L2.St) (Fs : List (List Addr)) (ρ1 : VI.St), (∀ i, i ∈ k → ∀ o, ρ1[i]? ≠ some (some o)) → SL p Z H ρ1 (L2.wipe τ k) Fs → SL p Z H ρ1 τ Fs := by
      intro k hk τ
      have gen : ∀ (ρ1 : VI.St) (τ1 τ2 : L2.St) (Fs : List (List Addr)), SL p Z H ρ1 τ1 Fs → τ1.length = τ2.length → (∀ (i : Nat) (o : O), ρ1[i]? = some (some o) → τ1[i]? = τ2[i]?) → SL p Z H ρ1 τ2 Fs := by
        intro ρ1 τ1 τ2 Fs h
        induction h generalizing τ2 with
        | nil =>
          intro hl _
          cases τ2 with
          | nil => exact .nil
          | cons _ _ => cases hl
        | cons q t ih =>
          intro hl he
          cases τ2 with
          | nil => cases hl
          | cons y τ2 =>
            have e0 := he 0 _ rfl
            simp at e0
            subst e0
            exact .cons q (ih _ (by simpa using hl) fun i o e => by simpa using he (i + 1) o (by simpa using e))
        | skip t ih =>
          intro hl he
          cases τ2 with
          | nil => cases hl
          | cons y τ2 => exact .skip (ih _ (by simpa using hl) fun i o e => by simpa using he (i + 1) o (by simpa using e))
      intro Fs ρ1 hn h
      refine gen ρ1 _ τ Fs h (wipe_length _ _) fun i o e => ?_
      rw [wipe_get, if_neg fun hm => hn i hm o e]
    refine ⟨Gs, back l (fun i h => h) σ Gs _ (fun i hi o e => ?_) g1, g2, g3⟩
    have key : ∀ (l : List Nat) (ρ : VI.St), i ∈ l → (wipeO l ρ)[i]? = some (some o) → False := by
      intro l
      induction l with
      | nil => intro ρ h; cases h
      | cons v vs ih =>
        intro ρ h e
        unfold wipeO at e
        by_cases hv : v = i
        · subst hv
          rw [List.getElem?_set, if_pos rfl] at e
          split at e <;> cases e
        · rw [List.getElem?_set_ne hv] at e
          rcases List.mem_cons.mp h with h | h
          · exact hv h.symm
          · exact ih ρ h e
    exact key l ρ hi e

/-! ### what is kept aside -/
theorem Good.aside {p : Pl} {Z H Z' H' : Hp} {G F F' : List Addr} (g : Good p Z H (G ++ F)) (hG : ∀ a ∈ G, ∃ u, H a = some u ∧ Ow u) (t : Tr Z H F Z' H' F') (g' : Good p Z' H' F') : Good p Z' H' (G ++ F') ∧ (∀ a ∈ G, H' a = H a) ∧ Tr Z H (G ++ F) Z' H' (G ++ F') := by
  have m := List.nodup_append.mp g.nd
  have nF : ∀ a ∈ G, a ∉ F := fun a ha hf => m.2.2 a ha a hf rfl
  refine ⟨⟨g'.zh, g'.zt, fun a ha => ?_, List.nodup_append.mpr ⟨m.1, g'.nd, fun a ha b hb e => ?_⟩, g'.tb, g.ba.tr (t.frame G)⟩, fun a ha => ?_, t.frame G⟩
  · rcases List.mem_append.mp ha with ha | ha
    · obtain ⟨u, hu, ow⟩ := hG a ha
      cases e : Z' a with
      | none => rfl
      | some o =>
        rcases t.zn a o e with z | z | z
        · rw [g.fz a (List.mem_append_left _ ha)] at z
          cases z
        · exact (nF a ha z).elim
        · exact (z.no hu ow.nt).elim
    · exact g'.fz a ha
  · subst e
    obtain ⟨u, hu, ow⟩ := hG a ha
    rcases t.new a hb with z | z
    · exact nF a ha z
    · exact z.no hu ow.nt
  · obtain ⟨u, hu, ow⟩ := hG a ha
    rw [hu]
    exact t.keep a u hu ow.nt (nF a ha)

/-! ### what is walked -/
def Walks (p : Pl) (J : L2.It) (ds : List D) (Z : Hp) : Prop := ∀ Z' H, Le Z Z' → Le Z' H → (∀ i d, ds[i]? = some d → J.go i H ∧ ∀ x H', J.yld i H x H' → Res p Z' H (.fz d) x H') ∧ J.stop ds.length H
def relW (p : Pl) : Hp → Hp → List D → L2.It → Prop := fun Z _ ds J => Walks p J ds Z
theorem walk_list {p : Pl} {Z : Hp} {a : Addr} {xs : List V} {ds : List D} (h : Z a = some (.lst xs)) (r : RDs p Z ds xs) : Walks p (Itl p.K a) ds Z := by
  intro Z' H l l'
  have hq : SqL p.K H a xs := .inl (.inl (l' _ _ (l _ _ h)))
  refine ⟨fun i d e => ?_, xs, hq, by rw [r.len]; exact Nat.le_refl _⟩
  obtain ⟨v, hv, rv⟩ := r.get e
  refine ⟨⟨xs, v, hq, hv⟩, fun x H' hy => ?_⟩
  obtain ⟨rfl, hx⟩ := hy
  have hx := hx xs hq
  rw [hv] at hx
  cases hx
  exact Res.same (RD.le l rv)
theorem walk_tup {p : Pl} {Z : Hp} {a : Addr} {xs : List V} {ds : List D} (h : SqT p.K Z a xs) (r : RDs p Z ds xs) : Walks p (Itt p.K a) ds Z := by
  intro Z' H l l'
  have hq : SqT p.K H a xs := l'.sqT (l.sqT h)
  refine ⟨fun i d e => ?_, xs, hq, by rw [r.len]; exact Nat.le_refl _⟩
  obtain ⟨v, hv, rv⟩ := r.get e
  refine ⟨⟨xs, v, hq, hv⟩, fun x H' hy => ?_⟩
  obtain ⟨rfl, hx⟩ := hy
  have hx := hx xs hq
  rw [hv] at hx
  cases hx
  exact Res.same (RD.le l rv)
theorem rangeL_get : ∀ {n : Nat} {lo : Int} {i : Nat} {d : D}, (rangeL lo n)[i]? = some d → i < n ∧ d = .int (lo + i)
  | 0, lo, i, d, h => by simp [rangeL] at h
  | n + 1, lo, 0, d, h => by
    simp [rangeL] at h
    subst h
    exact ⟨by omega, by simp⟩
  | n + 1, lo, i + 1, d, h => by
    have h : (rangeL (lo + 1) n)[i]? = some d := by simpa [rangeL] using h
    obtain ⟨h1, rfl⟩ := rangeL_get h
    exact ⟨by omega, by congr 1; omega⟩
theorem rangeL_len : ∀ (n : Nat) (lo : Int), (rangeL lo n).length = n
  | 0, _ => rfl
  | n + 1, lo => by simp [rangeL, rangeL_len n]
theorem walk_range {p : Pl} {Z : Hp} (lo : Int) (n : Nat) : Walks p (Itr lo n) (rangeL lo n) Z := by
  intro Z' H l l'
  refine ⟨fun i d e => ?_, by rw [rangeL_len]; exact Nat.le_refl _⟩
  obtain ⟨h1, rfl⟩ := rangeL_get e
  refine ⟨h1, fun x H' hy => ?_⟩
  obtain ⟨rfl, rfl⟩ := hy
  exact Res.same int_rd
theorem rangeC_get {c : Int} : ∀ {n : Nat} {lo : Int} {i : Nat} {d : D}, (rangeC lo c n)[i]? = some d → i < n ∧ d = .int (lo + i * c)
  | 0, lo, i, d, h => by simp [rangeC] at h
  | n + 1, lo, 0, d, h => by
    simp [rangeC] at h
    subst h
    exact ⟨by omega, by simp⟩
  | n + 1, lo, i + 1, d, h => by
    have h : (rangeC (lo + c) c n)[i]? = some d := by simpa [rangeC] using h
    obtain ⟨h1, rfl⟩ := rangeC_get h
    refine ⟨by omega, ?_⟩
    congr 1
    have : ((i + 1 : Nat) : Int) * c = (i : Int) * c + c := by
      rw [Int.natCast_add, Int.add_mul]
      simp
    omega
theorem rangeC_len {c : Int} : ∀ (n : Nat) (lo : Int), (rangeC lo c n).length = n
  | 0, _ => rfl
  | n + 1, lo => by simp [rangeC, rangeC_len n]
theorem walk_rangeC {p : Pl} {Z : Hp} (lo c : Int) (n : Nat) : Walks p (Itc lo c n) (rangeC lo c n) Z := by
  intro Z' H l l'
  refine ⟨fun i d e => ?_, by rw [rangeC_len]; exact Nat.le_refl _⟩
  obtain ⟨h1, rfl⟩ := rangeC_get e
  refine ⟨h1, fun x H' hy => ?_⟩
  obtain ⟨rfl, rfl⟩ := hy
  exact Res.same int_rd
theorem enumFrom_get : ∀ {l : List D} {n i : Nat} {d : D}, (enumFrom n l)[i]? = some d → ∃ x, l[i]? = some x ∧ d = .tup [.int (n + i : Nat), x]
  | [], n, i, d, h => by simp [enumFrom] at h
  | y :: l, n, 0, d, h => by
    simp [enumFrom] at h
    subst h
    exact ⟨y, rfl, rfl⟩
  | y :: l, n, i + 1, d, h => by
    have h : (enumFrom (n + 1) l)[i]? = some d := by simpa [enumFrom] using h
    obtain ⟨x, h1, rfl⟩ := enumFrom_get h
    refine ⟨x, by simpa using h1, ?_⟩
    rw [show n + 1 + i = n + (i + 1) by omega]
theorem enumFrom_len : ∀ (l : List D) (n : Nat), (enumFrom n l).length = l.length
  | [], _ => rfl
  | x :: l, n => by simp [enumFrom, enumFrom_len l]
theorem lexZip_get : ∀ {l m : List D} {i : Nat} {d : D}, (lexZip l m)[i]? = some d → ∃ x y, l[i]? = some x ∧ m[i]? = some y ∧ d = .tup [x, y]
  | [], m, i, d, h => by simp [lexZip] at h
  | x :: l, [], i, d, h => by simp [lexZip] at h
  | x :: l, y :: m, 0, d, h => by
    simp [lexZip] at h
    subst h
    exact ⟨x, y, rfl, rfl, rfl⟩
  | x :: l, y :: m, i + 1, d, h => by
    have h : (lexZip l m)[i]? = some d := by simpa [lexZip] using h
    obtain ⟨u, w, h1, h2, rfl⟩ := lexZip_get h
    exact ⟨u, w, by simpa using h1, by simpa using h2, rfl⟩
theorem lexZip_len : ∀ (l m : List D), (lexZip l m).length = min l.length m.length
  | [], m => by simp [lexZip]
  | x :: l, [] => by simp [lexZip]
  | x :: l, y :: m => by simp only [lexZip, List.length_cons, lexZip_len l m]; omega
theorem Le.sqV {K : PySem.W.Frag} {Z Z' : Hp} (l : Le Z Z') {k : Bool} {a : Addr} {xs : List V} (h : Ez.SqV k K Z a xs) : Ez.SqV k K Z' a xs := by
  cases k
  · exact l.sqL h
  · exact l.sqT h
/-- a frozen list or tuple -/
theorem rd_seq {p : Pl} {Z : Hp} {d : D} {l : List D} {v : V} (h : seqOf d = some l) (r : RD p Z d v) : ∃ k a xs, v = .ref a ∧ Ez.SqV k p.K Z a xs ∧ RDs p Z l xs := by
  cases d <;> simp only [seqOf, reduceCtorEq, Option.some.injEq] at h <;> subst h
  · unfold RD at r
    obtain ⟨a, xs, rfl, q, rr⟩ := r
    exact ⟨true, a, xs, rfl, q, rr⟩
  · unfold RD at r
    obtain ⟨a, xs, rfl, q, rr⟩ := r
    exact ⟨false, a, xs, rfl, .inl (.inl q), rr⟩
theorem walk_eK {p : Pl} {Z : Hp} {k : Bool} {a : Addr} {xs : List V} {ds : List D} (h : Ez.SqV k p.K Z a xs) (r : RDs p Z ds xs) : Walks p (Ez.JE p.K k a) (enumFrom 0 ds) Z := by
  intro Z' H l l'
  have hq := l'.sqV (l.sqV h)
  refine ⟨fun i d e => ?_, xs, hq, by rw [enumFrom_len, r.len]; exact Nat.le_refl _⟩
  obtain ⟨x0, e1, rfl⟩ := enumFrom_get e
  obtain ⟨v, hv, rv⟩ := r.get e1
  refine ⟨⟨xs, v, hq, hv⟩, fun x H' hy => ?_⟩
  obtain ⟨T, x1, rfl, hT, rfl, hx⟩ := hy
  have hx := hx xs hq
  rw [hv] at hx
  cases hx
  refine Res.tup l' hT (RDs.cons ?_ (RDs.cons (RD.le l rv) RDs.nil))
  rw [Nat.zero_add]
  exact int_rd
theorem walk_zK {p : Pl} {Z : Hp} {k k' : Bool} {a b : Addr} {xs ys : List V} {ds es : List D} (h : Ez.SqV k p.K Z a xs) (r : RDs p Z ds xs) (h2 : Ez.SqV k' p.K Z b ys) (r2 : RDs p Z es ys) : Walks p (Ez.JZ p.K k k' a b) (lexZip ds es) Z := by
  intro Z' H l l'
  have hq := l'.sqV (l.sqV h)
  have hq2 := l'.sqV (l.sqV h2)
  refine ⟨fun i d e => ?_, xs, ys, hq, hq2, by rw [lexZip_len, r.len, r2.len]; omega⟩
  obtain ⟨x0, y0, e1, e2, rfl⟩ := lexZip_get e
  obtain ⟨v, hv, rv⟩ := r.get e1
  obtain ⟨w, hw, rw'⟩ := r2.get e2
  refine ⟨⟨xs, ys, v, w, hq, hq2, hv, hw⟩, fun x H' hy => ?_⟩
  obtain ⟨T, x1, y1, rfl, hT, rfl, hx, hy⟩ := hy
  have hx := hx xs hq
  have hy := hy ys hq2
  rw [hv] at hx
  rw [hw] at hy
  cases hx
  cases hy
  exact Res.tup l' hT (RDs.cons (RD.le l rv) (RDs.cons (RD.le l rw') RDs.nil))
theorem walk_ezK {p : Pl} {Z : Hp} {k k' : Bool} {a b : Addr} {xs ys : List V} {ds es : List D} (h : Ez.SqV k p.K Z a xs) (r : RDs p Z ds xs) (h2 : Ez.SqV k' p.K Z b ys) (r2 : RDs p Z es ys) : Walks p (Ez.JEZ p.K k k' a b) (enumFrom 0 (lexZip ds es)) Z := by
  intro Z' H l l'
  have hq := l'.sqV (l.sqV h)
  have hq2 := l'.sqV (l.sqV h2)
  refine ⟨fun i d e => ?_, xs, ys, hq, hq2, by rw [enumFrom_len, lexZip_len, r.len, r2.len]; omega⟩
  obtain ⟨z0, e0, rfl⟩ := enumFrom_get e
  obtain ⟨x0, y0, e1, e2, rfl⟩ := lexZip_get e0
  obtain ⟨v, hv, rv⟩ := r.get e1
  obtain ⟨w, hw, rw'⟩ := r2.get e2
  refine ⟨⟨xs, ys, v, w, hq, hq2, hv, hw⟩, fun x H' hy => ?_⟩
  obtain ⟨T, U, x1, y1, rfl, hU, hT, rfl, hx, hy⟩ := hy
  have hx := hx xs hq
  have hy := hy ys hq2
  rw [hv] at hx
  rw [hw] at hy
  cases hx
  cases hy
  have zU := zfree l' hU
  have lz : Le Z' (upd Z' U (.tup [v, w])) := le_upd Le.rfl' zU
  have l2 : Le (upd Z' U (.tup [v, w])) (upd H U (.tup [v, w])) := fun a o e => by
    by_cases ha : a = U
    · subst ha
      rw [upd_same] at e ⊢
      exact e
    · rw [upd_ne ha] at e ⊢
      exact l' a o e
  have zT := zfree l2 hT
  refine ⟨upd (upd Z' U (.tup [v, w])) T (.tup [.int (i : Nat), .ref U]), [], fun F g hF => ?_⟩
  have nt : ∀ vs, NT (HO.tup vs) := fun vs ps z => HO.noConfusion z
  have g1 := g.newZ (u := .tup [v, w]) hF hU (nt _)
  have hF1 : ∀ a ∈ F, ∃ w', upd H U (.tup [v, w]) a = some w' := fun a ha => by
    obtain ⟨w', hw'⟩ := hF a ha
    exact ⟨w', by rw [upd_ne (ne_of_none hw' hU)]; exact hw'⟩
  refine ⟨(Tr.newZ _ g hU).trans (Tr.newZ _ g1 hT), g1.newZ hF1 hT (nt _), RO.fz ?_, fun a ha => ?_⟩
  · unfold RD
    refine ⟨T, _, rfl, .inl (.inl upd_same), RDs.cons ?_ (RDs.cons ?_ RDs.nil)⟩
    · rw [Nat.zero_add]
      exact int_rd
    · unfold RD
      refine ⟨U, [v, w], rfl, .inl (.inl ?_), RDs.cons ?_ (RDs.cons ?_ RDs.nil)⟩
      · rw [upd_ne (fun z => by rw [← z, upd_same] at zT; cases zT)]
        exact upd_same
      · exact RD.le (lz.tr (le_upd Le.rfl' zT)) (RD.le l rv)
      · exact RD.le (lz.tr (le_upd Le.rfl' zT)) (RD.le l rw')
  · obtain ⟨w', hw'⟩ := hF a ha
    obtain ⟨w2, hw2⟩ := hF1 a ha
    rw [upd_ne (ne_of_none hw2 hT), upd_ne (ne_of_none hw' hU)]
end VI
end

section
set_option Elab.async false
set_option linter.all false
set_option maxRecDepth 10000
/-! VI13: what a for walks, targets. -/
namespace VI
open PySem PySem.Spec PyProof.Rows L2

theorem PI.weak {X : Cx} {tg e : Expr} {t t' : TI} (h : PI X tg e t) (k : ∀ σ H Q, t' σ H Q → t σ H Q) : PI X tg e t' := ⟨fun pins s σ H Q I q => h.run pins s σ H Q I (k σ H Q q)⟩
theorem PG.weak {X : Cx} {e : Expr} {t t' : TG} (h : PG X e t) (k : ∀ x σ H Q, t' x σ H Q → t x σ H Q) : PG X e t' := ⟨fun pins s σ H v u Q I r q => h.run pins s σ H v u Q I r (k v σ H Q q)⟩
theorem it_val {d : D} {items : List D} (h : itD .val [d] = some items) : d = .tup items ∨ d = .lst items := by
  cases d <;> simp only [itD, reduceCtorEq, Option.some.injEq] at h <;> subst h
  · exact .inl rfl
  · exact .inr rfl
theorem it_r1 {d : D} {items : List D} (h : itD .range1 [d] = some items) : ∃ j, d = .int j ∧ -1000000 < j ∧ j < 1000000 ∧ items = rangeL 0 j.toNat := by
  cases d <;> simp only [itD, reduceCtorEq] at h
  split at h
  · rename_i hj
    cases h
    exact ⟨_, rfl, hj.1, hj.2, rfl⟩
  · cases h
theorem it_r2 {d e : D} {items : List D} (h : itD .range2 [d, e] = some items) : ∃ i j, d = .int i ∧ e = .int j ∧ (-1000000 < i ∧ i < 1000000 ∧ -1000000 < j ∧ j < 1000000) ∧ items = rangeL i (j - i).toNat := by
  cases d <;> cases e <;> simp only [itD, reduceCtorEq] at h
  split at h
  · rename_i hj
    cases h
    exact ⟨_, _, rfl, rfl, hj, rfl⟩
  · cases h
theorem it_r3 {d e f : D} {items : List D} (h : itD .range3 [d, e, f] = some items) : ∃ i j, d = .int i ∧ e = .int j ∧ f = .int (-1) ∧ (-1000000 < i ∧ i < 1000000 ∧ -1000000 < j ∧ j < 1000000) ∧ items = rangeC i (-1) (i - j).toNat := by
  cases d <;> cases e <;> cases f <;> simp only [itD, reduceCtorEq] at h
  split at h
  · rename_i hj
    cases h
    obtain ⟨h1, h2, h3, h4, rfl⟩ := hj
    exact ⟨_, _, rfl, rfl, rfl, ⟨h1, h2, h3, h4⟩, rfl⟩
  · cases h
theorem it_en {d : D} {items : List D} (h : itD .enum [d] = some items) : ∃ l, seqOf d = some l ∧ items = enumFrom 0 l := by
  simp only [itD, Option.map_eq_some_iff] at h
  obtain ⟨l, h1, rfl⟩ := h
  exact ⟨l, h1, rfl⟩
theorem it_zp {d e : D} {items : List D} (h : itD .zip [d, e] = some items) : ∃ l m, seqOf d = some l ∧ seqOf e = some m ∧ items = lexZip l m := by
  simp only [itD] at h
  split at h
  · rename_i l m h1 h2
    cases h
    exact ⟨l, m, h1, h2, rfl⟩
  · cases h
theorem it_ez {d e : D} {items : List D} (h : itD .enumzip [d, e] = some items) : ∃ l m, seqOf d = some l ∧ seqOf e = some m ∧ items = enumFrom 0 (lexZip l m) := by
  simp only [itD] at h
  split at h
  · rename_i l m h1 h2
    cases h
    exact ⟨l, m, h1, h2, rfl⟩
  · cases h
theorem rds1 {p : Pl} {Z : Hp} {d : D} {vs : List V} (r : RDs p Z [d] vs) : ∃ w, vs = [w] ∧ RD p Z d w := by
  unfold RDs at r
  obtain ⟨w, r', rfl, r1, r2⟩ := r
  unfold RDs at r2
  subst r2
  exact ⟨w, rfl, r1⟩
theorem rds2 {p : Pl} {Z : Hp} {d e : D} {vs : List V} (r : RDs p Z [d, e] vs) : ∃ w z, vs = [w, z] ∧ RD p Z d w ∧ RD p Z e z := by
  unfold RDs at r
  obtain ⟨w, r', rfl, r1, r2⟩ := r
  obtain ⟨z, rfl, r3⟩ := rds1 r2
  exact ⟨w, z, rfl, r1, r3⟩
theorem rds3 {p : Pl} {Z : Hp} {d e f : D} {vs : List V} (r : RDs p Z [d, e, f] vs) : ∃ w z y, vs = [w, z, y] ∧ RD p Z d w ∧ RD p Z e z ∧ RD p Z f y := by
  unfold RDs at r
  obtain ⟨w, r', rfl, r1, r2⟩ := r
  obtain ⟨z, y, rfl, r3, r4⟩ := rds2 r2
  exact ⟨w, z, y, rfl, r1, r3, r4⟩
theorem rd_tup {p : Pl} {Z : Hp} {l : List D} {w : V} (r : RD p Z (.tup l) w) : ∃ a xs, w = .ref a ∧ SqT p.K Z a xs ∧ RDs p Z l xs := by
  unfold RD at r
  exact r
theorem rd_lst {p : Pl} {Z : Hp} {l : List D} {w : V} (r : RD p Z (.lst l) w) : ∃ a xs, w = .ref a ∧ Z a = some (.lst xs) ∧ RDs p Z l xs := by
  unfold RD at r
  exact r
theorem asgTs_len {C : Cfg} : ∀ {ts : List T} {ds : List D} {ρ ρ' : VI.St} {u : Unit}, asgTs C ts ds ρ = .ok u ρ' → ds.length = ts.length
  | [], [], _, _, _, _ => rfl
  | [], _ :: _, _, _, _, h => by simp [asgTs] at h
  | _ :: _, [], _, _, _, h => by simp [asgTs] at h
  | t :: ts, d :: ds, ρ, ρ', u, h => by
    unfold asgTs at h
    split at h
    · simp [asgTs_len h]
    · cases h
    · cases h
section
variable {p : Pl} {C : Cfg} {c : Sc} {W : WX} {k : Nat} {X : Cx} {tg : Expr}
/-- the items that are walked -/
def itRd (C : Cfg) (n : Nat) (it : VI.It) (as : List VI.E) : VI.St → R (List D) := fun ρ => (evDs (evD C n) as ρ).bind fun xs s => ofO (itD it xs) 27 s
theorem pi_val (v : Ev p C c W k X) {e : Expr} {E : VI.E} (h : Snd X p W C e E) (n : Nat) : PI X tg e (tV p W (relW p) (itRd C n .val [E])) := by
  refine ⟨fun pins s σ H R I q => ?_⟩
  obtain ⟨Z, ρ, Fs, g, sl, q⟩ := q
  have q : CoV p W σ (relW p) Z H (List.flatten Fs) (((evD C n E ρ).bind fun d s => .ok [d] s).bind fun xs s => ofO (itD .val xs) 27 s) R := q
  cases hr : evD C n E ρ with
  | bad m => rw [hr] at q; exact (show False from q).elim
  | ex c d ρ1 =>
    rw [hr] at q
    refine (pi_list (h.D n)).run pins s σ H R I ⟨Z, ρ, Fs, g, sl, ?_⟩
    rw [hr]
    exact q
  | ok d ρ1 =>
    rw [hr] at q
    have q : CoV p W σ (relW p) Z H (List.flatten Fs) (ofO (itD .val [d]) 27 ρ1) R := q
    cases hi : itD .val [d] with
    | none => rw [hi] at q; exact (show False from q).elim
    | some ds =>
      rw [hi] at q
      rcases it_val hi with rfl | rfl
      · refine (pi_tup (h.D n)).run pins s σ H R I ⟨Z, ρ, Fs, g, sl, ?_⟩
        rw [hr]
        intro b H1 Z1 F1 t1 g1 s1 r1
        obtain ⟨a, xs, rfl, ht, rr⟩ := rd_tup r1
        refine ⟨a, rfl, ⟨xs, by rw [v.K]; exact g1.zh.sqT ht⟩, ?_⟩
        rw [v.K]
        exact CoV.val (a := ds) (CoV.tr t1 q) g1 s1 (walk_tup ht rr)
      · refine (pi_list (h.D n)).run pins s σ H R I ⟨Z, ρ, Fs, g, sl, ?_⟩
        rw [hr]
        intro b H1 Z1 F1 t1 g1 s1 r1
        obtain ⟨a, xs, rfl, ht, rr⟩ := rd_lst r1
        refine ⟨a, rfl, ⟨xs, .inl (.inl (g1.zh _ _ ht))⟩, ?_⟩
        rw [v.K]
        exact CoV.val (a := ds) (CoV.tr t1 q) g1 s1 (walk_list ht rr)
/-- the items come from the arguments' values -/
theorem it_args {it : VI.It} {n : Nat} {es : List Expr} {l : List VI.E} {σ : L2.St} {H : Hp} {R : L2.It → Hp → Prop} {Q : List V → Hp → Prop} (q : tV p W (relW p) (itRd C n it l) σ H R)
    (k : ∀ ds vs items ρ Z1 H1 F1, ds.length = l.length → Good p Z1 H1 (List.flatten F1) → SL p Z1 H1 ρ σ F1 → RDs p Z1 ds vs → itD it ds = some items → CoV p W σ (relW p) Z1 H1 (List.flatten F1) (.ok items ρ) R → Q vs H1) : tV p W (relDs p) (evDs (evD C n) l) σ H Q := by
  obtain ⟨Z, ρ, Fs, g, sl, q⟩ := q
  have q : CoV p W σ (relW p) Z H (List.flatten Fs) ((evDs (evD C n) l ρ).bind fun xs s => ofO (itD it xs) 27 s) R := q
  refine ⟨Z, ρ, Fs, g, sl, ?_⟩
  cases hr : evDs (evD C n) l ρ with
  | bad m => rw [hr] at q; exact (show False from q).elim
  | ex c d ρ1 => rw [hr] at q; exact q
  | ok ds ρ1 =>
    rw [hr] at q
    intro vs H1 Z1 F1 t1 g1 s1 r1
    have q : CoV p W σ (relW p) Z H (List.flatten Fs) (ofO (itD it ds) 27 ρ1) R := q
    cases hi : itD it ds with
    | none => rw [hi] at q; exact (show False from q).elim
    | some items =>
      rw [hi] at q
      exact k ds vs items ρ1 Z1 H1 F1 (evDs_len hr) g1 s1 r1 hi (CoV.tr t1 q)
theorem two62 : (1000000 : Int) < 2 ^ 62 := by decide
theorem pi_r1 (v : Ev p C c W k X) {a : Expr} {A : VI.E} {p1 pos : Pos} (hg : c.blt "range" = true) (h : Snd X p W C a A) (n : Nat) : PI X tg (.Call (.Name "range" p1) [a] [] pos) (tV p W (relW p) (itRd C n .range1 [A])) := by
  obtain ⟨g1, g2⟩ := v.blt hg
  have ar : A2 (Snd X p W C) [a] [A] := .cons h .nil
  refine PI.weak (pi_range1 g1 g2 (pa_Ds (n := n) ar) (star_of h.star)) fun σ H R q => it_args (es := [a]) q fun ds vs items ρ Z1 H1 F1 hl g s r hi q => ?_
  match ds, hl, r, hi with
  | [d], _, r, hi =>
    obtain ⟨j, rfl, h1, h2, rfl⟩ := it_r1 hi
    obtain ⟨w, rfl, r1⟩ := rds1 r
    have := two62
    exact ⟨j, by rw [rd_int r1], by omega, by omega, CoV.val q g s (walk_range 0 j.toNat)⟩
theorem pi_r2 (v : Ev p C c W k X) {a b : Expr} {A B : VI.E} {p1 pos : Pos} (hg : c.blt "range" = true) (h : Snd X p W C a A) (h' : Snd X p W C b B) (n : Nat) : PI X tg (.Call (.Name "range" p1) [a, b] [] pos) (tV p W (relW p) (itRd C n .range2 [A, B])) := by
  obtain ⟨g1, g2⟩ := v.blt hg
  have ar : A2 (Snd X p W C) [a, b] [A, B] := .cons h (.cons h' .nil)
  refine PI.weak (pi_range2 g1 g2 (pa_Ds (n := n) ar) (by rw [star_of h.star, star_of h'.star]; rfl) (star_of h'.star)) fun σ H R q => it_args (es := [a, b]) q fun ds vs items ρ Z1 H1 F1 hl g s r hi q => ?_
  match ds, hl, r, hi with
  | [d, e], _, r, hi =>
    obtain ⟨i, j, rfl, rfl, h1, rfl⟩ := it_r2 hi
    obtain ⟨w, w2, rfl, r1, r2⟩ := rds2 r
    have := two62
    exact ⟨i, j, by rw [rd_int r1, rd_int r2], ⟨by omega, by omega, by omega, by omega⟩, CoV.val q g s (walk_range i (j - i).toNat)⟩
theorem pi_r3 (v : Ev p C c W k X) {a b d : Expr} {A B D' : VI.E} {p1 pos : Pos} (hg : c.blt "range" = true) (h : Snd X p W C a A) (h' : Snd X p W C b B) (h3 : Snd X p W C d D') (n : Nat) : PI X tg (.Call (.Name "range" p1) [a, b, d] [] pos) (tV p W (relW p) (itRd C n .range3 [A, B, D'])) := by
  obtain ⟨g1, g2⟩ := v.blt hg
  have ar : A2 (Snd X p W C) [a, b, d] [A, B, D'] := .cons h (.cons h' (.cons h3 .nil))
  refine PI.weak (pi_range3 g1 g2 (pa_Ds (n := n) ar) (star_of h.star) (star_plain fun e he => ar.star e (List.mem_cons_of_mem _ he))) fun σ H R q => it_args (es := [a, b, d]) q fun ds vs items ρ Z1 H1 F1 hl g s r hi q => ?_
  match ds, hl, r, hi with
  | [d, e, f], _, r, hi =>
    obtain ⟨i, j, rfl, rfl, rfl, h1, rfl⟩ := it_r3 hi
    obtain ⟨w, w2, w3, rfl, r1, r2, r3⟩ := rds3 r
    have := two62
    exact ⟨i, j, -1, (i - j).toNat, by rw [rd_int r1, rd_int r2, rd_int r3], RgC.neg (by omega) (by omega) (by omega) (by omega), CoV.val q g s (walk_rangeC i (-1) (i - j).toNat)⟩
theorem pi_en (v : Ev p C c W k X) {a : Expr} {A : VI.E} {p1 pos tpos : Pos} {elts : List Expr} {kk : Nat} (hg : c.blt "enumerate" = true) (h : Snd X p W C a A) (n : Nat) : PI X (.Tuple elts kk tpos) (.Call (.Name "enumerate" p1) [a] [] pos) (tV p W (relW p) (itRd C n .enum [A])) := by
  obtain ⟨g1, g2⟩ := v.blt hg
  have ar : A2 (Snd X p W C) [a] [A] := .cons h .nil
  refine PI.weak (Ez.pi_eK g1 g2 (pa_Ds (n := n) ar) (star_of h.star)) fun σ H R q => it_args (es := [a]) q fun ds vs items ρ Z1 H1 F1 hl g s r hi q => ?_
  match ds, hl, r, hi with
  | [d], _, r, hi =>
    obtain ⟨l, hd, rfl⟩ := it_en hi
    obtain ⟨w, rfl, r1⟩ := rds1 r
    obtain ⟨kd, a', xs, rfl, ht, rr⟩ := rd_seq hd r1
    refine ⟨kd, a', xs, rfl, by rw [v.K]; exact g.zh.sqV ht, ?_⟩
    rw [v.K]
    exact CoV.val q g s (walk_eK ht rr)
theorem pi_zp (v : Ev p C c W k X) {a b : Expr} {A B : VI.E} {p1 pos tpos : Pos} {elts : List Expr} {kk : Nat} (hg : c.blt "zip" = true) (h : Snd X p W C a A) (h' : Snd X p W C b B) (n : Nat) : PI X (.Tuple elts kk tpos) (.Call (.Name "zip" p1) [a, b] [] pos) (tV p W (relW p) (itRd C n .zip [A, B])) := by
  obtain ⟨g1, g2⟩ := v.blt hg
  have ar : A2 (Snd X p W C) [a, b] [A, B] := .cons h (.cons h' .nil)
  refine PI.weak (Ez.pi_zK g1 g2 (pa_Ds (n := n) ar) (star_of h.star) (star_plain fun e he => ar.star e (List.mem_cons_of_mem _ he))) fun σ H R q => it_args (es := [a, b]) q fun ds vs items ρ Z1 H1 F1 hl g s r hi q => ?_
  match ds, hl, r, hi with
  | [d, e], _, r, hi =>
    obtain ⟨l, m, hd, he, rfl⟩ := it_zp hi
    obtain ⟨w, w2, rfl, r1, r2⟩ := rds2 r
    obtain ⟨k1, a', xs, rfl, ht, rr⟩ := rd_seq hd r1
    obtain ⟨k2, b', ys, rfl, ht2, rr2⟩ := rd_seq he r2
    refine ⟨k1, k2, a', b', xs, ys, rfl, by rw [v.K]; exact g.zh.sqV ht, by rw [v.K]; exact g.zh.sqV ht2, ?_⟩
    rw [v.K]
    exact CoV.val q g s (walk_zK ht rr ht2 rr2)
theorem pi_ez (v : Ev p C c W k X) {a b : Expr} {A B : VI.E} {p1 p2 pos pos2 tpos : Pos} {elts : List Expr} {kk : Nat} (hg : c.blt "enumerate" = true) (hg' : c.blt "zip" = true) (h : Snd X p W C a A) (h' : Snd X p W C b B) (n : Nat) :
    PI X (.Tuple elts kk tpos) (.Call (.Name "enumerate" p1) [.Call (.Name "zip" p2) [a, b] [] pos2] [] pos) (tV p W (relW p) (itRd C n .enumzip [A, B])) := by
  obtain ⟨g1, g2⟩ := v.blt hg
  obtain ⟨g3, g4⟩ := v.blt hg'
  have ar : A2 (Snd X p W C) [a, b] [A, B] := .cons h (.cons h' .nil)
  refine PI.weak (Ez.pi_ezK g1 g2 g3 g4 (pa_Ds (n := n) ar) (star_of h.star) (star_plain fun e he => ar.star e (List.mem_cons_of_mem _ he))) fun σ H R q => it_args (es := [a, b]) q fun ds vs items ρ Z1 H1 F1 hl g s r hi q => ?_
  match ds, hl, r, hi with
  | [d, e], _, r, hi =>
    obtain ⟨l, m, hd, he, rfl⟩ := it_ez hi
    obtain ⟨w, w2, rfl, r1, r2⟩ := rds2 r
    obtain ⟨k1, a', xs, rfl, ht, rr⟩ := rd_seq hd r1
    obtain ⟨k2, b', ys, rfl, ht2, rr2⟩ := rd_seq he r2
    refine ⟨k1, k2, a', b', xs, ys, rfl, by rw [v.K]; exact g.zh.sqV ht, by rw [v.K]; exact g.zh.sqV ht2, ?_⟩
    rw [v.K]
    exact CoV.val q g s (walk_ezK ht rr ht2 rr2)

/-! ### targets -/
/-- the reading of a store -/
def tG (p : Pl) (r : D → VI.St → R Unit) (vars : List Nat) : TG := fun x σ H Q => ∃ Z ρ Fs d, Good p Z H (List.flatten Fs) ∧ SL p Z H ρ σ Fs ∧ RD p Z d x ∧ match r d ρ with
  | .ok _ ρ' => ∀ σ' Fs', (∀ a ∈ List.flatten Fs', a ∈ List.flatten Fs) → (List.flatten Fs').Nodup → SL p Z H ρ' σ' Fs' → (∀ vs : List Nat, (∀ i ∈ vars, i ∈ vs) → wipe σ' vs = wipe σ vs) → Q σ' H
  | _ => False
def tGs (p : Pl) (r : List D → VI.St → R Unit) (vars : List Nat) : TGs := fun xs σ H Q => ∃ Z ρ Fs ds, Good p Z H (List.flatten Fs) ∧ SL p Z H ρ σ Fs ∧ RDs p Z ds xs ∧ match r ds ρ with
  | .ok _ ρ' => ∀ σ' Fs', (∀ a ∈ List.flatten Fs', a ∈ List.flatten Fs) → (List.flatten Fs').Nodup → SL p Z H ρ' σ' Fs' → (∀ vs : List Nat, (∀ i ∈ vars, i ∈ vs) → wipe σ' vs = wipe σ vs) → Q σ' H
  | _ => False
/-- a slot stored -/
theorem st_loc {C : Cfg} {Z H : Hp} {ρ ρ' : VI.St} {σ : L2.St} {Fs : List (List Addr)} {G : List Addr} {i : Nat} {o : O} {v : V} {u : Unit} (g : Good p Z H (G ++ List.flatten Fs)) (s : SL p Z H ρ σ Fs) (r : RO p Z H o v G) (h : stLoc C i o ρ = .ok u ρ') :
    ∃ Fs', (∀ a ∈ List.flatten Fs', a ∈ G ++ List.flatten Fs) ∧ (List.flatten Fs').Nodup ∧ SL p Z H ρ' (σ.set i (some v)) Fs' := by
  unfold stLoc at h
  split at h
  · cases h
  · split at h
    · rename_i hi
      cases h
      obtain ⟨A, B, C, h1, h2⟩ := s.hole hi
      obtain ⟨Gs, k1, k2⟩ := h2.put Z H Le.rfl' (fun _ _ => rfl) o v G r
      have nd := g.nd
      rw [h1] at nd
      have m := List.nodup_append.mp nd
      obtain ⟨n1, n2, n3⟩ := split3 m.2.1
      refine ⟨Gs, fun a ha => ?_, ?_, k2⟩
      · rw [k1] at ha
        rw [h1]
        rcases mem3.mp ha with ha | ha
        · exact List.mem_append_right _ (mem3.mpr (.inl ha))
        · exact List.mem_append_left _ ha
      · rw [k1]
        exact join3 n1 m.1 fun a ha hb => m.2.2 a hb a (mem3.mpr (.inl ha)) rfl
    · cases h
mutual
theorem pg_T (v : Ev p C c W k X) : ∀ (e : Expr) {t : T}, trT c e = some t → PG X e (tG p (asgT C t) t.vars)
  | .Name x pos, t, h => by
    unfold trT at h
    have hs : Loc X.env.scope x ∧ (X.fn x = true ∨ X.env.scope.names.lookup x = some .local) ∧ ∃ i, ixOf x c.N = some i ∧ t = .name i := by
      split at h
      · rename_i e
        simp only [Option.map_eq_some_iff] at h
        obtain ⟨i, h1, rfl⟩ := h
        rcases v.sc _ _ e with q | ⟨q, _⟩
        · exact ⟨.inl q, .inr q, i, h1, rfl⟩
        · cases q
      · rename_i e
        simp only [Option.map_eq_some_iff] at h
        obtain ⟨i, h1, rfl⟩ := h
        rcases v.sc _ _ e with q | ⟨q, _⟩
        · exact ⟨.inr q, .inl (v.fnc x e), i, h1, rfl⟩
        · cases q
      · cases h
    obtain ⟨h1, h2, i, h3, rfl⟩ := hs
    refine PG.weak (pg_name (by rw [v.N]; exact v.nd) (by rw [v.N]; exact ixOf_get h3) h1 h2) fun x σ H Q q => ?_
    obtain ⟨Z, ρ, Fs, d, g, s, r, q⟩ := q
    have q : match stLoc C i (.fz d) ρ with
      | .ok _ ρ' => ∀ σ' Fs', (∀ a ∈ List.flatten Fs', a ∈ List.flatten Fs) → (List.flatten Fs').Nodup → SL p Z H ρ' σ' Fs' → (∀ vs : List Nat, (∀ j ∈ [i], j ∈ vs) → wipe σ' vs = wipe σ vs) → Q σ' H
      | _ => False := q
    split at q
    · rename_i u ρ' e
      obtain ⟨Fs', k1, k2, k3⟩ := st_loc (G := []) g s (RO.fz r) e
      exact q _ Fs' k1 k2 k3 fun vs hv => wipe_set (hv i List.mem_cons_self)
    · exact q.elim
  | .Tuple es kk pos, t, h => by
    unfold trT at h
    simp only [Option.map_eq_some_iff] at h
    obtain ⟨ts, h1, rfl⟩ := h
    obtain ⟨k1, k2, k3⟩ := pg_Ts v es h1
    refine PG.weak (pg_tup v.calm k1 k2 k3) fun x σ H Q q => ?_
    obtain ⟨Z, ρ, Fs, d, g, s, r, q⟩ := q
    cases d <;> try exact q.elim
    rename_i ds
    obtain ⟨a, xs, rfl, ht, rr⟩ := (show ∃ a xs, x = .ref a ∧ SqT p.K Z a xs ∧ RDs p Z ds xs by unfold RD at r; exact r)
    have q : match asgTs C ts ds ρ with
      | .ok _ ρ' => ∀ σ' Fs', (∀ a ∈ List.flatten Fs', a ∈ List.flatten Fs) → (List.flatten Fs').Nodup → SL p Z H ρ' σ' Fs' → (∀ vs : List Nat, (∀ i ∈ T.varsL ts, i ∈ vs) → wipe σ' vs = wipe σ vs) → Q σ' H
      | _ => False := q
    refine ⟨a, xs, rfl, by rw [v.K]; exact g.zh.sqT ht, ?_, Z, ρ, Fs, ds, g, s, rr, q⟩
    rw [← rr.len]
    cases e : asgTs C ts ds ρ with
    | ok u ρ' => exact asgTs_len e
    | ex c d ρ' => rw [e] at q; exact q.elim
    | bad m => rw [e] at q; exact q.elim
  | .List _ _, t, h => by cases h
  | .Starred _ _, t, h => by cases h
  | .Subscript _ _ _, t, h => by cases h
  | .Attribute _ _ _, t, h => by cases h
  | .Constant _ _ _, t, h => by cases h
theorem pg_Ts (v : Ev p C c W k X) : ∀ (es : List Expr) {ts : List T}, trTs c es = some ts → PGs X es (tGs p (asgTs C ts) (T.varsL ts)) ∧ (assignEach es X.env).length = ts.length ∧ (assignEach es X.env).findIdx? (·.1) = none
  | [], ts, h => by
    simp only [trTs, Option.some.injEq] at h
    subst h
    refine ⟨⟨fun pins s σ H vs us Q I r q => (pgs_nil (X := X)).run pins s σ H vs us Q I r ?_⟩, rfl, rfl⟩
    obtain ⟨Z, ρ, Fs, ds, g, sl, rr, q⟩ := q
    cases ds with
    | cons d ds => exact q.elim
    | nil =>
      unfold RDs at rr
      exact ⟨rr, q σ Fs (fun a h => h) g.nd sl fun vs _ => rfl⟩
  | e :: es, ts, h => by
    unfold trTs at h
    split at h
    · rename_i t ts' h1 h2
      cases h
      have ns : assignEach (e :: es) X.env = (false, assign e X.env) :: assignEach es X.env := by
        cases e <;> first | rfl | cases h1
      obtain ⟨k1, k2, k3⟩ := pg_Ts v es h2
      refine ⟨⟨fun pins s σ H vs us Q I r q => (pgs_cons (pg_T v e h1) k1 (by rw [ns]; rfl)).run pins s σ H vs us Q I r ?_⟩, by rw [ns, List.length_cons, List.length_cons, k2], by rw [ns, List.findIdx?_cons]; simp [k3]⟩
      obtain ⟨Z, ρ, Fs, ds, g, sl, rr, q⟩ := q
      cases ds with
      | nil => exact q.elim
      | cons d ds =>
        unfold RDs at rr
        obtain ⟨w, r', rfl, r1, r2⟩ := rr
        refine ⟨w, r', rfl, Z, ρ, Fs, d, g, sl, r1, ?_⟩
        have e1 : asgTs C (t :: ts') (d :: ds) ρ = (match asgT C t d ρ with
          | .ok _ s => asgTs C ts' ds s
          | .ex c p s => .ex c p s
          | .bad n => .bad n) := rfl
        rw [e1] at q
        cases e2 : asgT C t d ρ with
        | ex c d ρ' => rw [e2] at q; exact q
        | bad m => rw [e2] at q; exact q
        | ok u ρ' =>
          rw [e2] at q
          intro σ' Fs' f1 f2 f3 f4
          refine ⟨Z, ρ', Fs', ds, g.sub f1 f2, f3, r2, ?_⟩
          cases e3 : asgTs C ts' ds ρ' with
          | ex c d ρ' => simp only [e3] at q
          | bad m => simp only [e3] at q
          | ok u2 ρ2 =>
            simp only [e3] at q
            intro σ2 Fs2 a1 a2 a3 a4
            refine q σ2 Fs2 (fun a ha => f1 a (a1 a ha)) a2 a3 fun vs hv => ?_
            rw [a4 vs fun i hi => hv i (List.mem_append_right _ hi), f4 vs fun i hi => hv i (List.mem_append_left _ hi)]
    · cases h
end
end
end VI
end

section
set_option Elab.async false
set_option linter.all false
set_option maxRecDepth 10000
/-! VI14: list comprehensions. -/
namespace VI
open PySem PySem.Spec PyProof.Rows L2

/-- no exception -/
def WF : WX := fun _ _ _ _ => False
theorem bind_bind {α β γ : Type} (r : R α) (f : α → VI.St → R β) (g : β → VI.St → R γ) : (r.bind f).bind g = r.bind fun a s => (f a s).bind g := by cases r <;> rfl
theorem Good.right {p : Pl} {Z H : Hp} {G F F' : List Addr} (g : Good p Z H (G ++ F)) (s : ∀ a ∈ F', a ∈ F) (n : F'.Nodup) : Good p Z H (G ++ F') := by
  have m := List.nodup_append.mp g.nd
  refine g.sub (fun x hx => ?_) (List.nodup_append.mpr ⟨m.1, n, fun a ha b hb => m.2.2 a ha b (s b hb)⟩)
  rcases List.mem_append.mp hx with hx | hx
  · exact List.mem_append_left _ hx
  · exact List.mem_append_right _ (s x hx)
theorem Tr.right {Z H Z' H' : Hp} {F0 G F F' : List Addr} (t : Tr Z H F0 Z' H' (G ++ F)) (s : ∀ a ∈ F', a ∈ F) : Tr Z H F0 Z' H' (G ++ F') := t.sub fun x hx => by
  rcases List.mem_append.mp hx with hx | hx
  · exact List.mem_append_left _ hx
  · exact List.mem_append_right _ (s x hx)
theorem Good.onlyR {p : Pl} {Z H : Hp} {G F : List Addr} (g : Good p Z H (G ++ F)) : Good p Z H F := g.sub (fun x hx => List.mem_append_right _ hx) (List.nodup_append.mp g.nd).2.1
/-- a list grows at D while slots stand -/
structure Acc (p : Pl) (Z H : Hp) (D : Addr) (os : List O) (ρ : VI.St) (σ : L2.St) (Fs : List (List Addr)) (acc : List V) (Fa : List Addr) : Prop where
  good : Good p Z H ((D :: Fa) ++ List.flatten Fs)
  sl : SL p Z H ρ σ Fs
  hD : H D = some (.lst acc)
  ros : ROs p Z H os acc Fa
theorem Acc.own {p : Pl} {Z H : Hp} {D : Addr} {os : List O} {ρ : VI.St} {σ : L2.St} {Fs : List (List Addr)} {acc : List V} {Fa : List Addr} (a : Acc p Z H D os ρ σ Fs acc Fa) : ∀ b ∈ D :: Fa, ∃ u, H b = some u ∧ Ow u := fun b hb => by
  rcases List.mem_cons.mp hb with rfl | hb
  · exact ⟨_, a.hD, True.intro⟩
  · exact a.ros.there b hb
/-- the slots' side goes on -/
theorem Acc.go {p : Pl} {Z H Z' H' : Hp} {D : Addr} {os : List O} {ρ ρ' : VI.St} {σ σ' : L2.St} {Fs Fs' : List (List Addr)} {acc : List V} {Fa : List Addr} (a : Acc p Z H D os ρ σ Fs acc Fa) (t : Tr Z H (List.flatten Fs) Z' H' (List.flatten Fs')) (g : Good p Z' H' (List.flatten Fs')) (s : SL p Z' H' ρ' σ' Fs') :
    Acc p Z' H' D os ρ' σ' Fs' acc Fa ∧ Tr Z H ((D :: Fa) ++ List.flatten Fs) Z' H' ((D :: Fa) ++ List.flatten Fs') := by
  obtain ⟨k1, k2, k3⟩ := a.good.aside a.own t g
  exact ⟨⟨k1, s, by rw [k2 D List.mem_cons_self]; exact a.hD, a.ros.le t.zle fun b hb => k2 b (List.mem_cons_of_mem _ hb)⟩, k3⟩
/-- an item comes to it -/
theorem Acc.add {p : Pl} {Z H Z' H' : Hp} {D : Addr} {os : List O} {ρ ρ' : VI.St} {σ σ' : L2.St} {Fs Fs' : List (List Addr)} {acc : List V} {Fa G : List Addr} {o : O} {y : V} (a : Acc p Z H D os ρ σ Fs acc Fa) (t : Tr Z H (List.flatten Fs) Z' H' (G ++ List.flatten Fs')) (g : Good p Z' H' (G ++ List.flatten Fs')) (s : SL p Z' H' ρ' σ' Fs') (r : RO p Z' H' o y G) :
    H' D = some (.lst acc) ∧ Acc p Z' (upd H' D (.lst (acc ++ [y]))) D (os ++ [o]) ρ' σ' Fs' (acc ++ [y]) (Fa ++ (G ++ [])) ∧ Tr Z H ((D :: Fa) ++ List.flatten Fs) Z' (upd H' D (.lst (acc ++ [y]))) ((D :: (Fa ++ (G ++ []))) ++ List.flatten Fs') := by
  obtain ⟨k1, k2, k3⟩ := a.good.aside a.own t g
  have hD : H' D = some (.lst acc) := by rw [k2 D List.mem_cons_self]; exact a.hD
  have e : (D :: (Fa ++ (G ++ []))) ++ List.flatten Fs' = (D :: Fa) ++ (G ++ List.flatten Fs') := by simp
  have nd : (D :: (Fa ++ (G ++ List.flatten Fs'))).Nodup := k1.nd
  have nD := (List.nodup_cons.mp nd).1
  have ne : ∀ b, b ∈ Fa ++ (G ++ List.flatten Fs') → upd H' D (.lst (acc ++ [y])) b = H' b := fun b hb => upd_ne fun z => nD (by rw [← z]; exact hb)
  have r1 : ROs p Z' H' os acc Fa := a.ros.le t.zle fun b hb => k2 b (List.mem_cons_of_mem _ hb)
  have r2 : ROs p Z' (upd H' D (.lst (acc ++ [y]))) os acc Fa := r1.le Le.rfl' fun b hb => ne b (List.mem_append_left _ hb)
  have r3 : RO p Z' (upd H' D (.lst (acc ++ [y]))) o y G := r.le Le.rfl' fun b hb => ne b (List.mem_append_right _ (List.mem_append_left _ hb))
  have mD : D ∈ (D :: Fa) ++ (G ++ List.flatten Fs') := by simp
  refine ⟨hD, ⟨?_, s.le Le.rfl' fun b hb => ne b (List.mem_append_right _ (List.mem_append_right _ hb)), upd_same, ROs.app r2 (ROs.cons r3 ROs.nil)⟩, ?_⟩
  · rw [e]
    exact k1.wr mD hD (by exact True.intro)
  · rw [e]
    exact k3.trans (Tr.wr _ mD)
theorem Acc.sub {p : Pl} {Z H : Hp} {D : Addr} {os : List O} {ρ ρ' : VI.St} {σ σ' : L2.St} {Fs Fs' : List (List Addr)} {acc : List V} {Fa : List Addr} (a : Acc p Z H D os ρ σ Fs acc Fa) (f : ∀ b ∈ List.flatten Fs', b ∈ List.flatten Fs) (n : (List.flatten Fs').Nodup) (s : SL p Z H ρ' σ' Fs') : Acc p Z H D os ρ' σ' Fs' acc Fa :=
  ⟨a.good.right f n, s, a.hD, a.ros⟩
section
variable {p : Pl} {C : Cfg} {c : Sc} {W : WX} {k : Nat} {X : Cx} {tg : Expr}
/-- the store and the tests of a clause -/
def stTs (C : Cfg) (n : Nat) (t : T) (cs : List VI.E) (d : D) (s : VI.St) : R Bool := (asgT C t d s).bind fun _ s => evTests (evC C n) cs s
theorem phase1 {n : Nat} {t : T} {cs : List VI.E} {Z H : Hp} {D : Addr} {os : List O} {ρ : VI.St} {σ : L2.St} {Fs : List (List Addr)} {acc : List V} {Fa : List Addr} {vs : List Nat} {d : VI.D} {x : V} {Q : L2.St → Bool → Hp → Prop} {b : Bool} {ρ1 : VI.St}
    (a : Acc p Z H D os ρ (wipe σ vs) Fs acc Fa) (hv : ∀ i ∈ t.vars, i ∈ vs) (r : RD p Z d x) (h : stTs C n t cs d ρ = .ok b ρ1)
    (q : ∀ σ2 Z2 H2 Fs2, wipe σ2 vs = wipe σ vs → Tr Z H ((D :: Fa) ++ List.flatten Fs) Z2 H2 ((D :: Fa) ++ List.flatten Fs2) → Acc p Z2 H2 D os ρ1 σ2 Fs2 acc Fa → Q σ2 b H2) :
    tG p (asgT C t) t.vars x (wipe σ vs) H fun σ2 H2 => wipe σ2 vs = wipe σ vs ∧ tV p WF relB (evTests (evC C n) cs) σ2 H2 fun b H3 => Q σ2 b H3 := by
  obtain ⟨u, ρ0, e1, e2⟩ := bind_ok h
  refine ⟨Z, ρ, Fs, d, a.good.onlyR, a.sl, r, ?_⟩
  rw [e1]
  intro σ' Fs' f1 f2 f3 f4
  have w1 : wipe σ' vs = wipe σ vs := by rw [f4 vs hv, wipe_wipe fun i h => h]
  have a1 := a.sub f1 f2 f3
  refine ⟨w1, Z, ρ0, Fs', a1.good.onlyR, f3, ?_⟩
  rw [e2]
  intro b' H2 Z2 Fs2 t2 g2 s2 hb
  cases (show b = b' from hb)
  obtain ⟨a2, tr⟩ := a1.go t2 g2 s2
  exact q σ' Z2 H2 Fs2 w1 ((Tr.id.right (F := List.flatten Fs) f1).trans tr) a2
/-- .. then the item -/
theorem phase2 {n : Nat} {e : VI.E} {Z H : Hp} {D : Addr} {os : List O} {ρ : VI.St} {σ : L2.St} {Fs : List (List Addr)} {acc : List V} {Fa : List Addr} {Nx : Hp → Prop} {o : O} {ρ1 : VI.St}
    (a : Acc p Z H D os ρ σ Fs acc Fa) (h : evE C n e ρ = .ok o ρ1) (hl : (os ++ [o]).length ≤ LIM)
    (q : ∀ Z2 H2 Fs2 acc2 Fa2, Tr Z H ((D :: Fa) ++ List.flatten Fs) Z2 H2 ((D :: Fa2) ++ List.flatten Fs2) → Acc p Z2 H2 D (os ++ [o]) ρ1 σ Fs2 acc2 Fa2 → Nx H2) :
    tO p WF (evE C n e) σ H fun y H4 => ∃ acc, H4 D = some (.lst acc) ∧ acc.length < sizeLine ∧ Nx (upd H4 D (.lst (acc ++ [y]))) := by
  refine ⟨Z, ρ, Fs, a.good.onlyR, a.sl, ?_⟩
  rw [h]
  intro y H2 Z2 Fs2 G t2 g2 s2 r2
  obtain ⟨k1, k2, k3⟩ := a.add t2 g2 s2 r2
  refine ⟨acc, k1, ?_, q _ _ _ _ _ k3 k2⟩
  rw [← a.ros.len, sizeLine_eq]
  simp at hl
  unfold LIM at hl
  omega
/-- the tests of a clause -/
theorem pts_of {n : Nat} {ifs : List Expr} {cs : List VI.E} (h : A2 (VC X p W C) ifs cs) (hl : cs.length ≤ 1) : PTs X ifs (tV p W relB (evTests (evC C n) cs)) := by
  cases h with
  | nil =>
    refine ⟨fun pins s σ H Q I q => pts_nil.run pins s σ H Q I ?_⟩
    obtain ⟨Z, ρ, Fs, g, sl, q⟩ := q
    exact CoV.val (a := true) (b := true) q g sl rfl
  | cons h t =>
    cases t with
    | cons _ _ => simp at hl
    | nil =>
      rename_i e E
      refine ⟨fun pins s σ H Q I q => (pts_one (h n)).run pins s σ H Q I ?_⟩
      obtain ⟨Z, ρ, Fs, g, sl, q⟩ := q
      have q : CoV p W σ relB Z H (List.flatten Fs) ((evC C n E ρ).bind fun b s => if b then .ok true s else .ok false s) Q := q
      refine ⟨Z, ρ, Fs, g, sl, CoV.bindV q fun d ρ1 b H1 Z1 F1 t1 g1 s1 r1 q1 => ?_⟩
      cases (show d = b from r1)
      cases d with
      | true => exact CoV.val (a := true) (b := true) q1 g1 s1 rfl
      | false => exact CoV.val (a := false) (b := false) q1 g1 s1 rfl
/-- one clause -/
def lcB (C : Cfg) (n : Nat) (t : T) (vs : List Nat) (cs : List VI.E) (e : VI.E) (d : D) (s : VI.St) : R (List O) :=
  (stTs C n t cs d (wipeO vs s)).bind fun b s => if b then (evE C n e s).bind fun o s => .ok [o] s else .ok [] s
theorem lcB_eq {n : Nat} {t : T} {vs : List Nat} {cs : List VI.E} {e : VI.E} : (fun d s => (asgT C t d (wipeO vs s)).bind fun _ s => (evTests (evC C n) cs s).bind fun b s => if b then (evE C n e s).bind fun o s => R.ok [o] s else .ok [] s) = lcB C n t vs cs e := by
  funext d s
  unfold lcB stTs
  rw [bind_bind]
/-- the loop of a clause's items, from D's list with os to that with os ++ osR -/
theorem loop1 {n : Nat} {t : T} {vs : List Nat} {cs : List VI.E} {e : VI.E} {J : L2.It} {items : List D} {Z H : Hp} {D : Addr} {os osR : List O} {ρ ρT : VI.St} {σ : L2.St} {Fs : List (List Addr)} {acc : List V} {Fa : List Addr} {Nx : Hp → Prop}
    (hv : ∀ i ∈ t.vars, i ∈ vs) (wk : Walks p J items Z) (a : Acc p Z H D os ρ σ Fs acc Fa) (h : lcLoop (lcB C n t vs cs e) items ρ = .ok osR ρT) (hl : (os ++ osR).length ≤ LIM)
    (q : ∀ σ2 Z2 H2 Fs2 acc2 Fa2, wipe σ2 vs = wipe σ vs → Tr Z H ((D :: Fa) ++ List.flatten Fs) Z2 H2 ((D :: Fa2) ++ List.flatten Fs2) → Acc p Z2 H2 D (os ++ osR) ρT σ2 Fs2 acc2 Fa2 → Nx H2) :
    ∃ W1 : Nat → Nat → Hp → Prop, (∃ m, W1 0 m H) ∧ ∀ j k H, W1 j k H →
      (J.stop j H ∧ Nx H) ∨ (J.go j H ∧ ∃ Nx1 : Hp → Prop, (∀ H', Nx1 H' → ∃ k', k' < k ∧ W1 (j + 1) k' H') ∧ ∀ x H', J.yld j H x H' → tG p (asgT C t) t.vars x (wipe σ vs) H' fun σ3 H5 => wipe σ3 vs = wipe σ vs ∧ tV p WF relB (evTests (evC C n) cs) σ3 H5 fun b H6 =>
        if b = true then tO p WF (evE C n e) σ3 H6 fun y H7 => ∃ acc, H7 D = some (.lst acc) ∧ acc.length < sizeLine ∧ Nx1 (upd H7 D (.lst (acc ++ [y]))) else Nx1 H6) := by
  let W1 : Nat → Nat → Hp → Prop := fun j m H1 => m = items.length - j ∧ j ≤ items.length ∧ ∃ Z1 os1 osR1 ρ1 Fs1 acc1 Fa1 σ1, lcLoop (lcB C n t vs cs e) (items.drop j) ρ1 = .ok osR1 ρT ∧ os1 ++ osR1 = os ++ osR ∧ Acc p Z1 H1 D os1 ρ1 σ1 Fs1 acc1 Fa1 ∧ wipe σ1 vs = wipe σ vs ∧ Tr Z H ((D :: Fa) ++ List.flatten Fs) Z1 H1 ((D :: Fa1) ++ List.flatten Fs1)
  refine ⟨W1, ⟨items.length, rfl, Nat.zero_le _, Z, os, osR, ρ, Fs, acc, Fa, σ, h, rfl, a, rfl, Tr.id⟩, ?_⟩
  rintro j m H1 ⟨rfl, hj, Z1, os1, osR1, ρ1, Fs1, acc1, Fa1, σ1, h1, h2, a1, w1, t1⟩
  have wk1 := wk Z1 H1 t1.zle a1.good.zh
  rcases Nat.lt_or_ge j items.length with hlt | hge
  · right
    obtain ⟨d, hd⟩ : ∃ d, items[j]? = some d := ⟨items[j], by rw [List.getElem?_eq_getElem hlt]⟩
    have hdrop : items.drop j = d :: items.drop (j + 1) := by
      rw [List.drop_eq_getElem_cons hlt]
      rw [List.getElem?_eq_getElem hlt] at hd
      cases hd
      rfl
    rw [hdrop] at h1
    have h1 : ((lcB C n t vs cs e d ρ1).bind fun os s => (lcLoop (lcB C n t vs cs e) (items.drop (j + 1)) s).bind fun r s => .ok (os ++ r) s) = .ok osR1 ρT := h1
    obtain ⟨osA, ρA, e1, h1⟩ := bind_ok h1
    obtain ⟨osB, ρB, e2, h1⟩ := bind_ok h1
    cases h1
    have hlA : (os1 ++ osA).length ≤ LIM := by
      have : (os1 ++ (osA ++ osB)).length ≤ LIM := by rw [h2]; exact hl
      simp only [List.length_append] at this ⊢
      omega
    obtain ⟨go, yl⟩ := wk1.1 j d hd
    refine ⟨go, fun H' => ∃ k', k' < items.length - j ∧ W1 (j + 1) k' H', fun H' h => h, fun x H' hy => ?_⟩
    obtain ⟨Z', G, kk⟩ := yl x H' hy
    obtain ⟨r1, r2, r3, r4⟩ := kk _ a1.good fun b hb => by
      rcases List.mem_append.mp hb with hb | hb
      · obtain ⟨u, hu, _⟩ := a1.own b hb
        exact ⟨u, hu⟩
      · obtain ⟨u, hu, _⟩ := a1.sl.there b hb
        exact ⟨u, hu⟩
    obtain ⟨rd, rfl⟩ := r3.of_fz
    have a2 : Acc p Z' H' D os1 ρ1 σ1 Fs1 acc1 Fa1 := ⟨r2, a1.sl.le r1.zle fun b hb => r4 b (List.mem_append_right _ hb), by rw [r4 D (by simp)]; exact a1.hD, a1.ros.le r1.zle fun b hb => r4 b (by simp [hb])⟩
    obtain ⟨Gs, s1, s2, s3⟩ := a2.sl.wipe (List.nodup_append.mp a2.good.nd).2.1 vs
    rw [w1] at s1
    have a3 := a2.sub s3 s2 s1
    have t3 : Tr Z H ((D :: Fa) ++ List.flatten Fs) Z' H' ((D :: Fa1) ++ List.flatten Gs) := (Tr.right (G := D :: Fa1) (F := List.flatten Fs1) (t1.trans r1) s3)
    obtain ⟨b, ρb, e3, e4⟩ := bind_ok e1
    refine phase1 a3 hv rd e3 fun σ2 Z2 H2 Fs2 w2 t4 a4 => ?_
    cases b with
    | true =>
      obtain ⟨o, ρo, e5, e6⟩ := bind_ok e4
      cases e6
      show tO p WF (evE C n e) σ2 H2 fun y H7 => ∃ acc, H7 D = some (.lst acc) ∧ acc.length < sizeLine ∧ (∃ k', k' < items.length - j ∧ W1 (j + 1) k' (upd H7 D (.lst (acc ++ [y]))))
      refine phase2 (Nx := fun H' => ∃ k', k' < items.length - j ∧ W1 (j + 1) k' H') a4 e5 hlA fun Z3 H3 Fs3 acc3 Fa3 t5 a5 => ?_
      exact ⟨items.length - (j + 1), by omega, rfl, hlt, Z3, _, osB, ρA, Fs3, acc3, Fa3, σ2, e2, by rw [List.append_assoc]; exact h2, a5, w2, (t3.trans t4).trans t5⟩
    | false =>
      cases e4
      exact ⟨items.length - (j + 1), by omega, rfl, hlt, Z2, os1, osB, ρA, Fs2, acc1, Fa1, σ2, e2, h2, a4, w2, t3.trans t4⟩
  · left
    obtain rfl : j = items.length := by omega
    rw [List.drop_eq_nil_of_le (Nat.le_refl _)] at h1
    cases h1
    rw [List.append_nil] at h2
    subst h2
    exact ⟨wk1.2, q σ1 Z1 H1 Fs1 acc1 Fa1 w1 t1 a1⟩
/-- a comprehension of one clause -/
theorem lc1_read {n : Nat} {t : T} {it : VI.It} {as cs : List VI.E} {e : VI.E} {own : List Nat} {σ : L2.St} {H : Hp} {Q : VK} (hv : ∀ i ∈ t.vars, i ∈ own) (q : tO p W (evE C (n + 1) (.lc e own [(t, it, as, cs)])) σ H Q) :
    C.lamr.isSome = false ∧ tLc (tV p W (relW p) (itRd C n it as)) (tG p (asgT C t) t.vars) (tV p WF relB (evTests (evC C n) cs)) (tO p WF (evE C n e)) own σ H Q := by
  obtain ⟨Z, ρ, Fs, g, s, q⟩ := q
  have q : CoO p W σ Z H (List.flatten Fs) (if C.lamr.isSome then .bad 29 else (evDs (evD C n) as ρ).bind fun xs s => (ofO (itD it xs) 27 s).bind fun items s =>
        (lcLoop (fun d s => (asgT C t d (wipeO own s)).bind fun _ s => (evTests (evC C n) cs s).bind fun b s => if b then (evE C n e s).bind fun o s => .ok [o] s else .ok [] s) items s).noex.bind fun os s =>
          if os.length ≤ LIM then .ok (.lst os) (wipeO own s) else .bad 28) Q := q
  cases hlam : C.lamr.isSome with
  | true => rw [hlam] at q; exact (show False from q).elim
  | false =>
    refine ⟨rfl, ?_⟩
    rw [hlam, if_neg (by decide), lcB_eq] at q
    have q : CoO p W σ Z H (List.flatten Fs) ((itRd C n it as ρ).bind fun items s => (lcLoop (lcB C n t own cs e) items s).noex.bind fun os s => if os.length ≤ LIM then .ok (.lst os) (wipeO own s) else .bad 28) Q := by
      unfold itRd
      rw [bind_bind]
      exact q
    refine ⟨Z, ρ, Fs, g, s, CoV.bindO q fun items ρ1 J H1 Z1 F1 t1 g1 s1 wk q1 => ?_⟩
    intro D hD
    cases hL : lcLoop (lcB C n t own cs e) items ρ1 with
    | ex c d s => rw [hL] at q1; exact (show False from q1).elim
    | bad m => rw [hL] at q1; exact (show False from q1).elim
    | ok osR ρT =>
      rw [hL] at q1
      have q1 : CoO p W σ Z1 H1 (List.flatten F1) (if osR.length ≤ LIM then .ok (.lst osR) (wipeO own ρT) else .bad 28) Q := q1
      split at q1
      · rename_i hlen
        have a0 : Acc p Z1 (upd H1 D (.lst [])) D [] ρ1 σ F1 [] [] := by
          have th : ∀ b ∈ List.flatten F1, ∃ w, H1 b = some w := s1.ther
          exact ⟨g1.newO th hD, s1.le Le.rfl' fun b hb => by obtain ⟨w, hw⟩ := th b hb; exact upd_ne (ne_of_none hw hD), upd_same, ROs.nil⟩
        exact loop1 (os := []) hv wk a0 hL (by simpa using hlen) fun σ2 Z2 H2 Fs2 acc2 Fa2 w2 t2 a2 => by
          obtain ⟨Gs, k1, k2, k3⟩ := a2.sl.rest w2 (List.nodup_append.mp a2.good.nd).2.1
          refine q1 (.ref D) H2 Z2 Gs (D :: Fa2) (((Tr.newO _ hD).trans t2).right k3) (a2.good.right k3 k2) k1 ?_
          unfold RO
          exact ⟨D, acc2, Fa2, rfl, a2.hD, a2.ros, rfl⟩
      · exact (show False from q1).elim
/-- two clauses -/
def lcB2 (C : Cfg) (n : Nat) (t : T) (vs : List Nat) (cs : List VI.E) (it2 : VI.It) (as2 : List VI.E) (t2 : T) (cs2 : List VI.E) (e : VI.E) (d : D) (s : VI.St) : R (List O) :=
  (stTs C n t cs d (wipeO vs s)).bind fun b s => if b then (itRd C n it2 as2 s).bind fun items2 s => lcLoop (lcB C n t2 t2.vars cs2 e) items2 s else .ok [] s
theorem lcB2_eq {n : Nat} {t : T} {vs : List Nat} {cs : List VI.E} {it2 : VI.It} {as2 : List VI.E} {t2 : T} {cs2 : List VI.E} {e : VI.E} : (fun d s => (asgT C t d (wipeO vs s)).bind fun _ s => (evTests (evC C n) cs s).bind fun b s => if b then
          (evDs (evD C n) as2 s).bind fun xs2 s => (ofO (itD it2 xs2) 27 s).bind fun items2 s =>
            lcLoop (fun d s => (asgT C t2 d (wipeO t2.vars s)).bind fun _ s => (evTests (evC C n) cs2 s).bind fun b s => if b then (evE C n e s).bind fun o s => R.ok [o] s else R.ok [] s) items2 s
          else R.ok [] s) = lcB2 C n t vs cs it2 as2 t2 cs2 e := by
  funext d s
  unfold lcB2 stTs itRd
  rw [bind_bind, lcB_eq]
  simp only [bind_bind]
theorem loop2 {n : Nat} {t : T} {vs : List Nat} {cs : List VI.E} {it2 : VI.It} {as2 : List VI.E} {t2 : T} {cs2 : List VI.E} {e : VI.E} {J : L2.It} {items : List D} {Z H : Hp} {D : Addr} {os osR : List O} {ρ ρT : VI.St} {σ : L2.St} {Fs : List (List Addr)} {acc : List V} {Fa : List Addr} {Nx : Hp → Prop}
    (hv : ∀ i ∈ t.vars, i ∈ vs) (hv2 : ∀ i ∈ t2.vars, i ∈ vs) (wk : Walks p J items Z) (a : Acc p Z H D os ρ σ Fs acc Fa) (h : lcLoop (lcB2 C n t vs cs it2 as2 t2 cs2 e) items ρ = .ok osR ρT) (hl : (os ++ osR).length ≤ LIM)
    (q : ∀ σ2 Z2 H2 Fs2 acc2 Fa2, wipe σ2 vs = wipe σ vs → Tr Z H ((D :: Fa) ++ List.flatten Fs) Z2 H2 ((D :: Fa2) ++ List.flatten Fs2) → Acc p Z2 H2 D (os ++ osR) ρT σ2 Fs2 acc2 Fa2 → Nx H2) :
    ∃ W1 : Nat → Nat → Hp → Prop, (∃ m, W1 0 m H) ∧ ∀ j k H, W1 j k H →
      (J.stop j H ∧ Nx H) ∨ (J.go j H ∧ ∃ Nx1 : Hp → Prop, (∀ H', Nx1 H' → ∃ k', k' < k ∧ W1 (j + 1) k' H') ∧ ∀ x H', J.yld j H x H' → tG p (asgT C t) t.vars x (wipe σ vs) H' fun σ2 H5 => wipe σ2 vs = wipe σ vs ∧ tV p WF relB (evTests (evC C n) cs) σ2 H5 fun b H6 =>
        if b = true then tV p WF (relW p) (itRd C n it2 as2) σ2 H6 fun J1 H4 => ∃ W1 : Nat → Nat → Hp → Prop, (∃ m, W1 0 m H4) ∧ ∀ j k H, W1 j k H →
          (J1.stop j H ∧ Nx1 H) ∨ (J1.go j H ∧ ∃ Nx2 : Hp → Prop, (∀ H', Nx2 H' → ∃ k', k' < k ∧ W1 (j + 1) k' H') ∧ ∀ x H', J1.yld j H x H' → tG p (asgT C t2) t2.vars x (wipe σ2 t2.vars) H' fun σ3 H5 => wipe σ3 t2.vars = wipe σ2 t2.vars ∧ tV p WF relB (evTests (evC C n) cs2) σ3 H5 fun b H6 =>
            if b = true then tO p WF (evE C n e) σ3 H6 fun y H7 => ∃ acc, H7 D = some (.lst acc) ∧ acc.length < sizeLine ∧ Nx2 (upd H7 D (.lst (acc ++ [y]))) else Nx2 H6)
        else Nx1 H6) := by
  let W1 : Nat → Nat → Hp → Prop := fun j m H1 => m = items.length - j ∧ j ≤ items.length ∧ ∃ Z1 os1 osR1 ρ1 Fs1 acc1 Fa1 σ1, lcLoop (lcB2 C n t vs cs it2 as2 t2 cs2 e) (items.drop j) ρ1 = .ok osR1 ρT ∧ os1 ++ osR1 = os ++ osR ∧ Acc p Z1 H1 D os1 ρ1 σ1 Fs1 acc1 Fa1 ∧ wipe σ1 vs = wipe σ vs ∧ Tr Z H ((D :: Fa) ++ List.flatten Fs) Z1 H1 ((D :: Fa1) ++ List.flatten Fs1)
  refine ⟨W1, ⟨items.length, rfl, Nat.zero_le _, Z, os, osR, ρ, Fs, acc, Fa, σ, h, rfl, a, rfl, Tr.id⟩, ?_⟩
  rintro j m H1 ⟨rfl, hj, Z1, os1, osR1, ρ1, Fs1, acc1, Fa1, σ1, h1, h2, a1, w1, t1⟩
  have wk1 := wk Z1 H1 t1.zle a1.good.zh
  rcases Nat.lt_or_ge j items.length with hlt | hge
  · right
    obtain ⟨d, hd⟩ : ∃ d, items[j]? = some d := ⟨items[j], by rw [List.getElem?_eq_getElem hlt]⟩
    have hdrop : items.drop j = d :: items.drop (j + 1) := by
      rw [List.drop_eq_getElem_cons hlt]
      rw [List.getElem?_eq_getElem hlt] at hd
      cases hd
      rfl
    rw [hdrop] at h1
    have h1 : ((lcB2 C n t vs cs it2 as2 t2 cs2 e d ρ1).bind fun os s => (lcLoop (lcB2 C n t vs cs it2 as2 t2 cs2 e) (items.drop (j + 1)) s).bind fun r s => .ok (os ++ r) s) = .ok osR1 ρT := h1
    obtain ⟨osA, ρA, e1, h1⟩ := bind_ok h1
    obtain ⟨osB, ρB, e2, h1⟩ := bind_ok h1
    cases h1
    have hlA : (os1 ++ osA).length ≤ LIM := by
      have : (os1 ++ (osA ++ osB)).length ≤ LIM := by rw [h2]; exact hl
      simp only [List.length_append] at this ⊢
      omega
    obtain ⟨go, yl⟩ := wk1.1 j d hd
    refine ⟨go, fun H' => ∃ k', k' < items.length - j ∧ W1 (j + 1) k' H', fun H' h => h, fun x H' hy => ?_⟩
    obtain ⟨Z', G, kk⟩ := yl x H' hy
    obtain ⟨r1, r2, r3, r4⟩ := kk _ a1.good fun b hb => by
      rcases List.mem_append.mp hb with hb | hb
      · obtain ⟨u, hu, _⟩ := a1.own b hb
        exact ⟨u, hu⟩
      · obtain ⟨u, hu, _⟩ := a1.sl.there b hb
        exact ⟨u, hu⟩
    obtain ⟨rd, rfl⟩ := r3.of_fz
    have a2 : Acc p Z' H' D os1 ρ1 σ1 Fs1 acc1 Fa1 := ⟨r2, a1.sl.le r1.zle fun b hb => r4 b (List.mem_append_right _ hb), by rw [r4 D (by simp)]; exact a1.hD, a1.ros.le r1.zle fun b hb => r4 b (by simp [hb])⟩
    obtain ⟨Gs, s1, s2, s3⟩ := a2.sl.wipe (List.nodup_append.mp a2.good.nd).2.1 vs
    rw [w1] at s1
    have a3 := a2.sub s3 s2 s1
    have t3 : Tr Z H ((D :: Fa) ++ List.flatten Fs) Z' H' ((D :: Fa1) ++ List.flatten Gs) := (Tr.right (G := D :: Fa1) (F := List.flatten Fs1) (t1.trans r1) s3)
    obtain ⟨b, ρb, e3, e4⟩ := bind_ok e1
    refine phase1 a3 hv rd e3 fun σ2 Z2 H2 Fs2 w2 t4 a4 => ?_
    cases b with
    | true =>
      obtain ⟨items2, ρi, e5, e6⟩ := bind_ok (show ((itRd C n it2 as2 ρb).bind fun items2 s => lcLoop (lcB C n t2 t2.vars cs2 e) items2 s) = .ok osA ρA from e4)
      refine if_pos rfl ▸ ⟨Z2, ρb, Fs2, a4.good.onlyR, a4.sl, ?_⟩
      rw [e5]
      intro J1 H3 Z3 Fs3 t5 g5 s5 wk2
      obtain ⟨a5, t6⟩ := a4.go t5 g5 s5
      refine loop1 (fun i h => h) wk2 a5 e6 hlA fun σ3 Z4 H4 Fs4 acc4 Fa4 w3 t7 a6 => ?_
      refine ⟨items.length - (j + 1), by omega, rfl, hlt, Z4, _, osB, ρA, Fs4, acc4, Fa4, σ3, e2, by rw [List.append_assoc]; exact h2, a6, ?_, ((t3.trans t4).trans t6).trans t7⟩
      rw [← wipe_wipe (σ := σ3) hv2, w3, wipe_wipe hv2, w2]
    | false =>
      cases e4
      exact ⟨items.length - (j + 1), by omega, rfl, hlt, Z2, os1, osB, ρA, Fs2, acc1, Fa1, σ2, e2, h2, a4, w2, t3.trans t4⟩
  · left
    obtain rfl : j = items.length := by omega
    rw [List.drop_eq_nil_of_le (Nat.le_refl _)] at h1
    cases h1
    rw [List.append_nil] at h2
    subst h2
    exact ⟨wk1.2, q σ1 Z1 H1 Fs1 acc1 Fa1 w1 t1 a1⟩
/-- .. of two -/
theorem lc2_read {n : Nat} {it2 : VI.It} {as2 cs2 : List VI.E} {t2 : T} {t : T} {it : VI.It} {as cs : List VI.E} {e : VI.E} {own : List Nat} {σ : L2.St} {H : Hp} {Q : VK} (hv : ∀ i ∈ t.vars, i ∈ own) (hv2 : ∀ i ∈ t2.vars, i ∈ own) (q : tO p W (evE C (n + 1) (.lc e own [(t, it, as, cs), (t2, it2, as2, cs2)])) σ H Q) :
    C.lamr.isSome = false ∧ tLc2 (tV p W (relW p) (itRd C n it as)) (tG p (asgT C t) t.vars) (tV p WF relB (evTests (evC C n) cs)) (tV p WF (relW p) (itRd C n it2 as2)) (tG p (asgT C t2) t2.vars) (tV p WF relB (evTests (evC C n) cs2)) (tO p WF (evE C n e)) own t2.vars σ H Q := by
  obtain ⟨Z, ρ, Fs, g, s, q⟩ := q
  have q : CoO p W σ Z H (List.flatten Fs) (if C.lamr.isSome then .bad 29 else (evDs (evD C n) as ρ).bind fun xs s => (ofO (itD it xs) 27 s).bind fun items s =>
        (lcLoop (fun d s => (asgT C t d (wipeO own s)).bind fun _ s => (evTests (evC C n) cs s).bind fun b s => if b then
          (evDs (evD C n) as2 s).bind fun xs2 s => (ofO (itD it2 xs2) 27 s).bind fun items2 s =>
            lcLoop (fun d s => (asgT C t2 d (wipeO t2.vars s)).bind fun _ s => (evTests (evC C n) cs2 s).bind fun b s => if b then (evE C n e s).bind fun o s => .ok [o] s else .ok [] s) items2 s
          else .ok [] s) items s).noex.bind fun os s =>
          if os.length ≤ LIM then .ok (.lst os) (wipeO own s) else .bad 28) Q := q
  cases hlam : C.lamr.isSome with
  | true => rw [hlam] at q; exact (show False from q).elim
  | false =>
    refine ⟨rfl, ?_⟩
    rw [hlam, if_neg (by decide), lcB2_eq] at q
    have q : CoO p W σ Z H (List.flatten Fs) ((itRd C n it as ρ).bind fun items s => (lcLoop (lcB2 C n t own cs it2 as2 t2 cs2 e) items s).noex.bind fun os s => if os.length ≤ LIM then .ok (.lst os) (wipeO own s) else .bad 28) Q := by
      unfold itRd
      rw [bind_bind]
      exact q
    refine ⟨Z, ρ, Fs, g, s, CoV.bindO q fun items ρ1 J H1 Z1 F1 t1 g1 s1 wk q1 => ?_⟩
    intro D hD
    cases hL : lcLoop (lcB2 C n t own cs it2 as2 t2 cs2 e) items ρ1 with
    | ex c d s => rw [hL] at q1; exact (show False from q1).elim
    | bad m => rw [hL] at q1; exact (show False from q1).elim
    | ok osR ρT =>
      rw [hL] at q1
      have q1 : CoO p W σ Z1 H1 (List.flatten F1) (if osR.length ≤ LIM then .ok (.lst osR) (wipeO own ρT) else .bad 28) Q := q1
      split at q1
      · rename_i hlen
        have a0 : Acc p Z1 (upd H1 D (.lst [])) D [] ρ1 σ F1 [] [] := by
          have th : ∀ b ∈ List.flatten F1, ∃ w, H1 b = some w := s1.ther
          exact ⟨g1.newO th hD, s1.le Le.rfl' fun b hb => by obtain ⟨w, hw⟩ := th b hb; exact upd_ne (ne_of_none hw hD), upd_same, ROs.nil⟩
        exact loop2 (os := []) hv hv2 wk a0 hL (by simpa using hlen) fun σ2 Z2 H2 Fs2 acc2 Fa2 w2 t2 a2 => by
          obtain ⟨Gs, k1, k2, k3⟩ := a2.sl.rest w2 (List.nodup_append.mp a2.good.nd).2.1
          refine q1 (.ref D) H2 Z2 Gs (D :: Fa2) (((Tr.newO _ hD).trans t2).right k3) (a2.good.right k3 k2) k1 ?_
          unfold RO
          exact ⟨D, acc2, Fa2, rfl, a2.hD, a2.ros, rfl⟩
      · exact (show False from q1).elim

/-! ### the block -/
theorem relabel_look {env : Env} {scope : Scope} {x : Str} {kd : NameKind} (h : scope.names.lookup x = some kd) : (relabel scope env).names.lookup x = some kd ∨ (kd = .free ∧ (relabel scope env).names.lookup x = some .cell) := by
  have go : ∀ {names : List (Str × NameKind)}, names.lookup x = some kd → (names.map fun (n, k) => if (k == NameKind.free && env.scope.kind == .function && env.kindOf n == some .cell) then (n, NameKind.cell) else (n, k)).lookup x = some kd ∨
      (kd = .free ∧ (names.map fun (n, k) => if (k == NameKind.free && env.scope.kind == .function && env.kindOf n == some .cell) then (n, NameKind.cell) else (n, k)).lookup x = some .cell) := by
    intro names
    induction names with
    | nil => intro h; simp at h
    | cons y r ih =>
      obtain ⟨n, k⟩ := y
      intro h
      rw [List.lookup_cons] at h
      rw [List.map_cons]
      by_cases hc : (k == NameKind.free && env.scope.kind == .function && env.kindOf n == some .cell) = true
      · simp only [hc, if_true]
        rw [List.lookup_cons]
        cases hx : x == n with
        | true =>
          rw [hx] at h
          simp only [Option.some.injEq] at h
          subst h
          simp only [Bool.and_eq_true, beq_iff_eq] at hc
          exact .inr ⟨hc.1.1, rfl⟩
        | false =>
          rw [hx] at h
          exact ih h
      · simp only [hc]
        rw [show (if false = true then (n, NameKind.cell) else (n, k)) = (n, k) from rfl, List.lookup_cons]
        cases hx : x == n with
        | true =>
          rw [hx] at h
          exact .inl h
        | false =>
          rw [hx] at h
          exact ih h
  exact go h
theorem Ev.blkOk (v : Ev p C c W k X) {scope : Scope} {own : List (Str × Nat)} (h : L2.blkC c.N c.sc scope own = true) : BlkOk X.N X.env.scope scope own := by
  have b := blkOk_by h
  rw [← v.N] at b
  refine ⟨b.kind, b.uniq, b.ix, fun y hy e => ?_, b.own⟩
  rcases b.free y hy e with q | q
  · rcases v.sc _ _ q with z | ⟨z, _⟩
    · exact .inl z
    · cases z
  · rcases v.sc _ _ q with z | ⟨_, z⟩
    · exact .inr z
    · exact .inl z
theorem Ev.blk (v : Ev p C c W k X) (hl : C.lamr.isSome = false) {scope : Scope} (s : Shared) (H : Hp) (D : Addr) (cl : List (Str × Addr)) (fp : List Addr) : Ev p C { c with sc := scope, lm := false } WF k (X.blk s H scope (compEnvC scope cl D X.env) fp) where
  K := v.K
  N := v.N
  sc := fun x kd hx => relabel_look hx
  nd := v.nd
  calm := v.calm
  tk := fun u s' ⟨a, B, sI, pins, σ, H, cls, d, e, I, nb, up, sky, na, os, ag, w⟩ => w.elim
  room := v.room
  gd := v.gd
  fnc := fun x hx => by
    show (scope.names.lookup x == some NameKind.cell) = true
    rw [show scope.names.lookup x = some NameKind.cell from hx]
    rfl
  gfn := v.gfn
  gval := v.gval
  gblt := v.gblt
  fok := v.fok
  lamr := fun i x p1 p2 pn xe W' _ _ _ _ _ _ => ⟨fun pins s σ H Q I q => by
    obtain ⟨_, Z, ρ, Fs, g, sl, q⟩ := q
    cases hc : C.lamr with
    | some r => rw [hc] at hl; cases hl
    | none => rw [hc] at q; exact (show False from q).elim⟩
  lamg := fun h => by cases h
end
end VI
end

section
set_option Elab.async false
set_option linter.all false
set_option maxRecDepth 100000
set_option maxHeartbeats 2000000
/-! VI15: lambdas, what a name holds called, sorted(set(..)). -/
namespace VI.Lm
open PySem PySem.Spec PyProof.Rows L2 LamX
section
variable {X : Cx} {pins : List (Addr × Obj)} {σ : L2.St} {H : Hp} {s : Shared}
/-- the lambda called, where no repr runs -/
theorem act_lam {CXg : CXT} {Eg : XK} {Ng : List Str} {qg9 : Str} {sg : Scope} {g9 f9 c' : Addr} {cg9 pm9 ctv9 : Value} {prm : Arguments} {bdy : Expr} {sc9 : Scope} {k i : Nat} {a : Str} {pn : List (Addr × Obj)} {xe : Value → Shared → Prop} {W : WX} {E : L2.St → XK} {tb9 : L2.St → TE} {p1 p2 : Pos}
    (hgd : X.A.guards = some []) (J0 : Inv X pins σ H s) (lm : LamS X.env.scope sc9) (hff : s.heap.get? f9 = some (PySem.W.kla_obj "<lambda>" (X.env.qual ++ "<lambda>") prm bdy sc9 (cloFrom X.env.cells sc9.names []) pm9 c' ctv9)) (hfn9 : H f9 = none) (hfo : f9 ∉ frs X.stack)
    (hbd : bindArgs (PySem.W.kla_fn "<lambda>" (X.env.qual ++ "<lambda>") prm bdy sc9 (cloFrom X.env.cells sc9.names []) pm9 (.ref c') ctv9) ⟨[], []⟩ = pure [])
    (tk9 : Takes ((cxOf CXg X.prog X.w X.K X.mg X.base Ng qg9 sg g9 cg9 X.A X.stack s H Eg).tr pn xe) W) (hWW : ∀ cls d σ' H', E σ' cls d H' → W cls d σ' H') (hrm : Room (k + 1) (X.A.deeper (envOfC qg9 sg s.heap.objs.size g9 cg9)))
    (hB : ∀ (A : Around) (outer : List Env) (s : Shared) (H : Hp), A.guards = some [] → Room k (A.deeper (lamEnv X sc9 s.heap.objs.size f9 c')) → ∀ σ9 : L2.St, PE (lamCx X A outer s H (E σ9) sc9 f9 c') bdy (tb9 σ9))
    (hN : Ng[i]? = some a) (hv : Vis sg a) (hd : (a == ("__debug__" : Str)) = false := by decide) (hcd : (a == ("__classdict__" : Str)) = false := by decide) :
    PE ((cxOf CXg X.prog X.w X.K X.mg X.base Ng qg9 sg g9 cg9 X.A X.stack s H Eg).tr pn xe) (.Call (.Name a p1) [] [] p2)
      (fun σ9 H9 Q => σ9[i]? = some (some (.ref f9)) ∧ H9 c' = some (CodeO c' (X.env.qual ++ "<lambda>")) ∧ tb9 σ9 σ H9 Q) := by
  refine ⟨fun pn9 s9 σ9 H9 Q J9 h9 => ?_⟩
  obtain ⟨hs9, hc9, ht9⟩ := h9
  refine wpAny_Call_Name_kw (thn ((pe_var (pos := p1) (i := i) hN hv hd hcd).run pn9 s9 σ9 H9 (fun v9 H8 => v9 = .ref f9 ∧ H8 = H9) J9 ⟨.ref f9, hs9, rfl, rfl⟩) fun u9 s8 ⟨v9, H8, J1, r8, q8⟩ => ?_)
  obtain ⟨ev9, eH9⟩ := q8
  subst ev9
  rw [eH9] at J1
  obtain rfl : u9 = Value.ref f9 := r8
  have of9 : s8.heap.get? f9 = some (PySem.W.kla_obj "<lambda>" (X.env.qual ++ "<lambda>") prm bdy sc9 (cloFrom X.env.cells sc9.names []) pm9 c' ctv9) := J1.base.keep f9 _ hff hfn9 hfo (fun z => nomatch (show f9 ∈ ([] : List Addr) from z))
  refine PySem.W.callWith_F0 ⟨_, _, _, _, of9⟩ ?_
  have un9 : Un (frs X.stack) [] H H9 s.heap s8.heap := J1.base
  obtain ⟨⟨oc, vs, t9, hoc, hdc, hvc⟩, _, _⟩ := J1.hok c' _ hc9
  have rc9 : codeAny (model X.prog X.w) (X.A.deeper (envOfC qg9 sg s.heap.objs.size g9 cg9)) (.call (.ref f9) ⟨[], []⟩) (L2.CR (L2.CX X.prog X.w) (envOfC qg9 sg s.heap.objs.size g9 cg9 :: X.stack) X.prog X.w H9 s8 Q (E σ9)) s8 := by
    refine PySem.W.kla_callFunE hrm.depth of9 rfl lm.co lm.gen rfl ⟨c', oc, vs, t9, rfl, hoc, hdc, hvc⟩ ?_
    rw [hbd]
    refine wpAny_pure (wpAny_newFunctionEnv (fun y hy => (lm.own y hy).2) (fun y hy => absurd hy (by simp)) (fun h₁ hns9 hsb9 => ⟨J1.nolimit.fresh _ hsb9, ?_⟩) lm.kind)
    show codeAny _ _ (.expr bdy (lamEnv X sc9 s8.heap.objs.size f9 c')) _ _
    have kp9 : ∀ b o, s8.heap.get? b = some o → h₁.get? b = some o := fun b o e => hsb9.extBut b o (Nat.ne_of_lt (Heap.lt_size e)) (Heap.get?_push_of_some _ e)
    have J8 : Inv (lamCx X (X.A.deeper (envOfC qg9 sg s.heap.objs.size g9 cg9)) (envOfC qg9 sg s.heap.objs.size g9 cg9 :: X.stack) s8 H9 (E σ9) sc9 f9 c') [] σ H9 { s8 with heap := h₁, toks := s8.toks + ([] : List (Str × Value)).length } :=
      lam_start2 J0 lm J1.env0 hrm.hd un9 hns9 kp9
    refine PySem.W.kla_codeExpr (wpAny_mono ((hB (X.A.deeper (envOfC qg9 sg s.heap.objs.size g9 cg9)) _ s8 H9 hgd (hrm.deeper _) σ9).run [] _ _ H9 Q J8 ht9) (fun v9 s' hq9 => ?_) fun e s' hq9 => hq9)
    obtain ⟨w', H', J', rv, q⟩ := hq9
    exact ⟨w', H', J'.os, J'.bare, J'.base, J'.hok, rv, q⟩
  refine wpAny_call (codeAny_mono rc9 fun r s' hq9 => ?_)
  cases r with
  | error e => exact tk9 e s' (XE.of_call J1 (fun cls d H' h => hWW cls d σ9 H' h) hq9)
  | ok fl =>
    cases fl with
    | ret u9 => exact J1.after hq9
    | next => exact False.elim hq9
    | brk => exact False.elim hq9
    | cont => exact False.elim hq9

theorem call_lam {T : List (Addr × Str)} {TT : (XK → Hp → VK → Prop) → Hp → VK → Prop} {x a : Str} {g9 c P : Addr} {k : Nat} {pg : Arguments} {bg : List Stmt} {sg : Scope} {dV kV doc pm9 cdv ct oc : Value} {an od : Option Addr} {osl : Array (Option Value)} {Ng : List Str}
    {prm : Arguments} {bdy : Expr} {sc9 : Scope} {t9 : XK → TE} {p lpos pos : Pos} (hg9 : Gl X x) (hm9 : X.mg x = some (.ref g9)) (hk9 : PySem.W.keepIn X.K (.ref g9) = true)
    (lk9 : X.K.lookup g9 = some ⟨oc, od, .func (PySem.W.fnOf x x pg bg sg dV kV doc pm9 an cdv ct), osl⟩) (hcg9 : PySem.W.codeIn X.K cdv x = true) (hb9 : L2.Binds X.K (PySem.W.fnOf x x pg bg sg dV kV doc pm9 an cdv ct) [a] []) (Sg9 : FnScope Ng [a] sg) (hNg9 : Ng[0]? = some a) (hva9 : Vis sg a)
    (hG9 : GivesX X Ng x sg g9 cdv bg a (X.env.qual ++ "<lambda>") TT)
    (TB9 : TabB X.base X.mg c P) (hcd9 : X.env.code = .ref c) (hmT9 : (P, X.env.qual ++ "<lambda>") ∈ T) (hu9 : ∀ p ∈ T, p.1 = P → p.2 = X.env.qual ++ "<lambda>") (hrm : Room (k + 2) X.A) (lm : LamS X.env.scope sc9) (hdf9 : defaultsOf prm X.env = ([], []))
    (hbd : ∀ (q : Str) (cl : List (Str × Addr)) (pm9 cv9 ctv9 : Value), bindArgs (PySem.W.kla_fn "<lambda>" q prm bdy sc9 cl pm9 cv9 ctv9) ⟨[], []⟩ = pure [])
    (hgd : X.A.guards = some []) (hB : ∀ (A : Around) (outer : List Env) (s : Shared) (H : Hp) (E : XK) (f9 c' : Addr), A.guards = some [] → Room k (A.deeper (lamEnv X sc9 s.heap.objs.size f9 c')) → PE (lamCx X A outer s H E sc9 f9 c') bdy (t9 E))
    (hdb : (x == ("__debug__" : Str)) = false := by decide) (hd : (a == ("__debug__" : Str)) = false := by decide) (hcd : (a == ("__classdict__" : Str)) = false := by decide) :
    PE X (.Call (.Name x p) [.Lambda prm bdy sc9 lpos] [] pos) (tLam T TT t9) := by
  refine ⟨fun pins s σ H Q J0 h9 => ?_⟩
  obtain ⟨hT9, h9⟩ := h9
  refine wpAny_Call_Name_kw (ld_glob J0 hg9 hm9 ?_ hdb)
  refine PySem.W.callWith_K (h₀ := X.base) J0.ok.mod.kin hk9 ?_ (by rfl) (by rfl)
  show wpAny _ _ (spliced ((false, eval (.Lambda prm bdy sc9 lpos) X.env) :: backTo pos (starEach [] X.env))) _ _ s
  refine Calls.spliced_cons (lam_make2 J0 TB9 hcd9 hmT9 hu9 hT9 hdf9 (lm.has J0.ok) fun f9 c' pm' ctv9 H8 s' J1 eN9 T9 hff hfn9 hfo hco9 => ?_)
  refine Calls.spliced_nil ⟨J1.kIn, ?_⟩
  have rc9 : codeAny (model X.prog X.w) X.A (.call (.ref g9) ⟨[.ref f9], []⟩) (L2.CR C8.CX0 X.stack X.prog X.w H8 s' Q C8.E0) s' := by
    refine run_ofS (N := Ng) (ps := [a]) (us := [.ref f9]) (vs := [.ref f9]) lk9 hcg9 Sg9 hrm J1.env0 (hb9 s' [.ref f9] J1.kIn rfl) (.cons rfl .nil) rfl fun hr' => ?_
    obtain ⟨t', ht', hq'⟩ := hG9 f9 c' s' H8 Q (fun E H' Q' => t9 E σ H' Q') (fun W pn xe E p1 p2 tk9 hWW => act_lam (tb9 := fun σ9 => t9 (E σ9)) hgd (i := 0) J1 lm hff hfn9 hfo (hbd _ _ _ _ _) tk9 hWW hr' (fun A outer s H hg hr2 σ9 => hB A outer s H (E σ9) f9 c' hg hr2) hNg9 hva9 hd hcd) hco9 (h9 H8 eN9 T9)
    exact ⟨t', ht'.nox, hq'⟩
  refine wpAny_call (codeAny_mono rc9 fun r s2 hq9 => ?_)
  cases r with
  | error e => exact (show False from hq9).elim
  | ok fl =>
    cases fl with
    | ret u9 => exact J1.after hq9
    | next => exact False.elim hq9
    | brk => exact False.elim hq9
    | cont => exact False.elim hq9
end
end VI.Lm
namespace VI
open PySem PySem.Spec PyProof.Rows L2
theorem intsOf_map : ∀ {l : List D} {ns : List Int}, intsOf l = some ns → l = ns.map D.int
  | [], ns, h => by
    simp only [intsOf, Option.some.injEq] at h
    subst h
    rfl
  | d :: l, ns, h => by
    cases d <;> simp only [intsOf, reduceCtorEq] at h
    simp only [Option.map_eq_some_iff] at h
    obtain ⟨m, h1, rfl⟩ := h
    rw [intsOf_map h1]
    rfl
theorem mem_ddI : ∀ {l : List Int} {x : Int}, x ∈ ddI l ↔ x ∈ l
  | [], x => by simp [ddI]
  | y :: l, x => by
    unfold ddI
    split
    · rename_i h
      rw [mem_ddI, List.mem_cons]
      constructor
      · exact .inr
      · rintro (rfl | h2)
        · exact mem_ddI.mp h
        · exact h2
    · rw [List.mem_cons, List.mem_cons, mem_ddI]
theorem nodup_ddI : ∀ l : List Int, (ddI l).Nodup
  | [] => by simp [ddI]
  | y :: l => by
    unfold ddI
    split
    · exact nodup_ddI l
    · rename_i h
      exact List.nodup_cons.mpr ⟨h, nodup_ddI l⟩
theorem sort_dd {ns ns' : List Int} (s : ns'.Pairwise (· < ·)) (m : ∀ k : Int, k ∈ ns' ↔ k ∈ ns) : ns' = sortI (ddI ns) := by
  refine eq_sorted ((List.perm_ext_iff_of_nodup (s.imp fun h => Int.ne_of_lt h) (nodup_ddI ns)).mpr fun a => by rw [m, mem_ddI]) (s.imp fun h => Int.le_of_lt h)
section
variable {p : Pl} {C : Cfg} {c : Sc} {W : WX} {k : Nat} {X : Cx}
theorem sst_inv {d : D} {o : O} (h : bi1 .sortset d = some o) : ∃ ns : List Int, d = .tup (ns.map D.int) ∧ ns.length < 64 ∧ o = .lst (((sortI (ddI ns)).map D.int).map .fz) := by
  cases d <;> simp only [bi1, reduceCtorEq] at h
  split at h
  · rename_i l ns hi
    split at h
    · rename_i hl
      cases h
      exact ⟨ns, by rw [intsOf_map hi], hl, by rw [rds_intfz]⟩
    · cases h
  · cases h
theorem snd_sst (v : Ev p C c W k X) {a : Expr} {A : VI.E} {p1 p2 pos pos2 : Pos} (hx : c.blt "sorted" = true) (hy : c.blt "set" = true) (h : Snd X p W C a A) : VO X p W C (.Call (.Name "sorted" p1) [.Call (.Name "set" p2) [a] [] pos2] [] pos) (.bi .sortset [A])
  | 0 => tO_bad fun _ => ⟨0, rfl⟩
  | n + 1 => by
    obtain ⟨g1, g2⟩ := v.blt hx
    obtain ⟨g3, g4⟩ := v.blt hy
    have inner := pe_blt (p1 := p2) (pos := pos2) (.inr ⟨_, rfl⟩) (set_ok v.K v.calm) g3 g4 PyProof.Rows.boot_set (pa_cons (h.P n) pa_nil (star_of h.star)) (by decide) (by decide) (fun e he => by
      cases he with
      | head => exact h.star
      | tail _ he => cases he)
    refine PE.weak (pe_blt (.inl ⟨_, rfl⟩) (cr_sortedSet v.calm) g1 g2 PyProof.Rows.boot_sorted (pa_cons inner pa_nil (star_of rfl)) (by decide) (by decide) (fun e he => by
      cases he with
      | head => rfl
      | tail _ he => cases he)) fun σ H Q q => ?_
    obtain ⟨Z, ρ, Fs, g, s, q⟩ := q
    have q : CoO p W σ Z H (List.flatten Fs) ((evP C n A ρ).bind fun x s => ofO (biO .sortset [x]) 34 s) Q := q
    refine ⟨Z, ρ, Fs, g, s, CoV.bindO q fun d ρ1 w H1 Z1 F1 t1 g1 s1 r1 q1 => ?_⟩
    obtain ⟨o, e1, q2⟩ := q1.ofO'
    obtain ⟨ns, rfl, hl, rfl⟩ := sst_inv e1
    refine ⟨Z1, ns, w, rfl, g1.zh, r1, hl, fun q c hq hc => ?_⟩
    refine ⟨q, _, c, rfl, upd_same, hc, fun ns' p' hs hm hlen hp => ?_⟩
    have th : ∀ b ∈ List.flatten F1, ∃ w, H1 b = some w := s1.ther
    have t2 : Tr Z1 H1 (List.flatten F1) Z1 (upd H1 q (SetO X.w q (fun j => decide (j ∈ ns)) c)) (List.flatten F1) := (Tr.newO _ hq).sub fun x hx => List.mem_cons_of_mem _ hx
    have g2 : Good p Z1 (upd H1 q (SetO X.w q (fun j => decide (j ∈ ns)) c)) (List.flatten F1) := (g1.newO th hq).sub (fun x hx => List.mem_cons_of_mem _ hx) g1.nd
    have e : ns' = sortI (ddI ns) := sort_dd hs fun k => by rw [hm]; simp
    subst e
    exact (CoO.tr t2 q2).res g2 (s1.le Le.rfl' fun b hb => by obtain ⟨w, hw⟩ := th b hb; exact upd_ne (ne_of_none hw hq)) (Res.lst hp (rd_ints _))

/-! ### what a name holds, called -/
theorem snd_lcall (v : Ev p C c W k X) {x : Str} {i : Nat} {es : List Expr} {l : List VI.E} {p1 pos : Pos} (hN : X.N[i]? = some x) (hv : Vis X.env.scope x) (hd : (x == ("__debug__" : Str)) = false) (hcd : (x == ("__classdict__" : Str)) = false) (h : A2 (Snd X p W C) es l) : VO X p W C (.Call (.Name x p1) es [] pos) (.lcall i l)
  | 0 => tO_bad fun _ => ⟨0, rfl⟩
  | n + 1 => by
    refine ⟨fun pins s σ H Q I q => ?_⟩
    obtain ⟨Z, ρ, Fs, g, sl, q⟩ := q
    have q : CoO p W σ Z H (List.flatten Fs) (match (generalizing := false) ρ[i]? with
      | some (some (.fz (.fn f))) => (match (generalizing := false) C.glob f with
        | some (.fn fd) => if l.length = fd.np then (evArgs (evD C n) fd.io 0 l ρ).bind fun as s => doCall C f as s else .bad 31
        | _ => .bad 31)
      | some (some (.fz .lam)) => if i = 0 then (match (generalizing := false) l, C.lamr with
        | [], some (.ok o _) => .ok o ρ
        | [], some (.ex c p _) => .ex c p ρ
        | _, _ => .bad 32) else .bad 32
      | _ => .bad 33) Q := q
    split at q
    · rename_i f ef
      obtain ⟨v0, A, B, D, k1, k2, k3, k4⟩ := sl.at ef
      obtain ⟨r0, rfl⟩ := k3.of_fz
      have r0 : v0 = .ref (p.fn f) := by unfold RD at r0; exact r0
      subst r0
      split at q
      · rename_i fd hfd
        split at q
        · rename_i hl
          obtain ⟨ps, hp, F⟩ := v.fok _ _ hfd
          refine wpAny_Call_Name_kw (thn ((pe_var (pos := p1) hN hv hd hcd).run pins s σ H (fun w H1 => w = .ref (p.fn f) ∧ H1 = H) I ⟨_, k1, rfl, rfl⟩) fun u s0 ⟨w, H0, I0, r1, q1⟩ => ?_)
          obtain ⟨rfl, rfl⟩ := q1
          cases r1
          cases es with
          | nil =>
            refine PySem.W.callWith_K0 I0.kIn F.kp ?_
            cases h
            obtain ⟨hl', hs⟩ : ([] : List V).length = 0 ∧ spFn p (C.call f) [] H0 Q fun cls d H' => W cls d σ H' := by
              have := call_read g sl q
              obtain ⟨Z', ρ', Fs', g', sl', q'⟩ := this
              have q' := CoV.val (a := ([] : List (Option Nat × VI.D))) (b := ([] : List V)) (Rel := relA p σ) q' g' sl' ArgR.nil
              exact ⟨rfl, q'.2⟩
            exact run_fnG F v.room v.gd v.tk I0 .nil (by rw [hp, ← hl]; rfl) hs
          | cons e es =>
            have st := h.star
            have hA := (pa_Args (n := n) (io := fd.io) (j := 0) h).run pos pins s0 σ H0 _ I0 (call_read g sl q)
            refine PySem.W.callWith_K (h₀ := X.base) I0.ok.mod.kin F.kp (thn hA fun us s1 ⟨vs, H1, I1, r, hq⟩ => ⟨I1.kIn, ?_⟩) (star_of (st e List.mem_cons_self)) (star_plain fun e he => st e (List.mem_cons_of_mem _ he))
            exact run_fnG F v.room v.gd v.tk I1 r (by rw [hq.1, hp]; exact hl) hq.2
        · exact (show False from q).elim
      · exact (show False from q).elim
    · rename_i ef
      obtain ⟨v0, A, B, D, k1, k2, k3, k4⟩ := sl.at ef
      obtain ⟨r0, rfl⟩ := k3.of_fz
      obtain ⟨a, rfl, ha⟩ := (show ∃ a, v0 = .ref a ∧ p.lam a by unfold RD at r0; exact r0)
      split at q
      · rename_i hi0
        cases h with
        | cons _ _ => exact (show False from q).elim
        | nil =>
          refine (v.lamr i x p1 pos X.pn X.xe W hi0 hN hv hd hcd v.tk).run pins s σ H Q I ⟨⟨a, k1, ha⟩, Z, ρ, Fs, g, sl, ?_⟩
          show CoO p W σ Z H (List.flatten Fs) (match C.lamr with
            | some (.ok o _) => .ok o ρ
            | some (.ex c d _) => .ex c d ρ
            | _ => .bad 32) Q
          split at q
          · rename_i e
            rw [e]
            exact q
          · rename_i e
            rw [e]
            exact q
          · exact (show False from q).elim
      · exact (show False from q).elim
    · exact (show False from q).elim
end
end VI
end

section
set_option Elab.async false
set_option linter.all false
set_option maxRecDepth 10000
/-! VI16: a lambda handed to a def. -/
namespace VI
open PySem PySem.Spec PyProof.Rows L2

/-- only frozen slots are left -/
def keepFz (ρ : VI.St) : VI.St := ρ.map fun o => match o with
  | some (.fz d) => some (.fz d)
  | _ => none
theorem SL.keepFz {p : Pl} {Z H : Hp} {ρ : VI.St} {σ : L2.St} {Fs : List (List Addr)} (s : SL p Z H ρ σ Fs) : ∃ Gs, SL p Z H (keepFz ρ) σ Gs ∧ List.flatten Gs = [] := by
  induction s with
  | nil => exact ⟨[], .nil, rfl⟩
  | skip t ih =>
    obtain ⟨Gs, h1, h2⟩ := ih
    exact ⟨[] :: Gs, .skip h1, by simpa using h2⟩
  | @cons o v F ρ σ Fs q t ih =>
    obtain ⟨Gs, h1, h2⟩ := ih
    cases o with
    | fz d => exact ⟨[] :: Gs, .cons (RO.fz q.of_fz.1) h1, by simpa using h2⟩
    | _ => exact ⟨[] :: Gs, .skip h1, by simpa using h2⟩
theorem keepFz_get {ρ : VI.St} {i : Nat} {d : D} (h : ρ[i]? = some (some (.fz d))) : (keepFz ρ)[i]? = some (some (.fz d)) := by
  unfold keepFz
  rw [List.getElem?_map, h]
  rfl
/-- what a name or a constant gives where the slots are frozen -/
def FVal (ρ : VI.St) : VI.E → D → Prop
  | .k d, x => x = d
  | .loc i, x => ρ[i]? = some (some (.fz x))
  | _, _ => False
def StayFz (ρ ρ' : VI.St) : Prop := ∀ (i : Nat) (d : D), ρ[i]? = some (some (.fz d)) → ρ'[i]? = some (some (.fz d))
theorem FVal.stay {ρ ρ' : VI.St} (h : StayFz ρ ρ') {e : VI.E} {x : D} (f : FVal ρ e x) : FVal ρ' e x := by
  cases e <;> first | exact f | exact h _ _ f
theorem rd_stay {ρ ρ' : VI.St} {i : Nat} {d : D} (h : rdLoc i ρ = .ok d ρ') : StayFz ρ ρ' ∧ ρ'[i]? = some (some (.fz d)) := by
  unfold rdLoc at h
  split at h
  · rename_i d' e
    cases h
    exact ⟨fun j d h => h, e⟩
  · rename_i o hno e
    cases h
    refine ⟨fun j d h => ?_, ?_⟩
    · by_cases hj : i = j
      · subst hj
        rw [e] at h
        cases h
        exact absurd rfl (hno _)
      · rw [List.getElem?_set_ne hj]
        exact h
    · have hi : i < ρ.length := by
        rw [List.getElem?_eq_some_iff] at e
        exact e.1
      rw [List.getElem?_set_self hi]
  · cases h
section
variable {p : Pl} {C : Cfg} {c : Sc} {W : WX} {k : Nat} {X : Cx}
theorem flat_one {n : Nat} {e : VI.E} {ρ ρ' : VI.St} {d : D} (hf : e.flat = true) (h : evD C n e ρ = .ok d ρ') : StayFz ρ ρ' ∧ FVal ρ' e d ∧ (ρ' = ρ ∨ ∃ i, rdLoc i ρ = .ok d ρ') := by
  match n with
  | 0 => cases h
  | 1 => cases h
  | n + 2 =>
    cases e <;> simp only [E.flat, reduceCtorEq] at hf
    · rename_i d'
      have h : (R.ok d' ρ : R D) = .ok d ρ' := h
      cases h
      exact ⟨fun _ _ h => h, rfl, .inl rfl⟩
    · rename_i i
      have h : ((rdLoc i ρ).bind fun d s => R.ok (O.fz d) s).bind (fun o s => .ok o.toD s) = .ok d ρ' := h
      cases hr : rdLoc i ρ with
      | ex c d ρ' => rw [hr] at h; cases h
      | bad m => rw [hr] at h; cases h
      | ok d1 ρ1 =>
        rw [hr] at h
        have h : (R.ok d1 ρ1 : R D) = .ok d ρ' := h
        cases h
        obtain ⟨s1, s2⟩ := rd_stay hr
        exact ⟨s1, s2, .inr ⟨i, hr⟩⟩
theorem flat_all {n : Nat} : ∀ {l : List VI.E} {ρ ρ' : VI.St} {xs : List D}, l.all E.flat = true → evDs (evD C n) l ρ = .ok xs ρ' → StayFz ρ ρ' ∧ A2 (FVal ρ') l xs
  | [], ρ, ρ', xs, hf, h => by
    simp only [evDs] at h
    cases h
    exact ⟨fun _ _ h => h, .nil⟩
  | e :: l, ρ, ρ', xs, hf, h => by
    simp only [List.all_cons, Bool.and_eq_true] at hf
    unfold evDs at h
    obtain ⟨d, ρ1, h1, h2⟩ := bind_ok h
    obtain ⟨ds, ρ2, h3, h4⟩ := bind_ok h2
    cases h4
    obtain ⟨a1, a2, _⟩ := flat_one hf.1 h1
    obtain ⟨b1, b2⟩ := flat_all hf.2 h3
    exact ⟨fun i d h => b1 i d (a1 i d h), .cons (a2.stay b1) b2⟩
/-- the freezing is not seen in the heap -/
theorem flat_gh {n : Nat} : ∀ {l : List VI.E} {ρ ρ' : VI.St} {xs : List D} {Z H : Hp} {Fs : List (List Addr)} {σ : L2.St}, l.all E.flat = true → evDs (evD C n) l ρ = .ok xs ρ' → Good p Z H (List.flatten Fs) → SL p Z H ρ σ Fs →
    ∃ Z' Gs, Tr Z H (List.flatten Fs) Z' H (List.flatten Gs) ∧ Good p Z' H (List.flatten Gs) ∧ SL p Z' H ρ' σ Gs
  | [], ρ, ρ', xs, Z, H, Fs, σ, hf, h, g, s => by
    simp only [evDs] at h
    cases h
    exact ⟨Z, Fs, Tr.id, g, s⟩
  | e :: l, ρ, ρ', xs, Z, H, Fs, σ, hf, h, g, s => by
    simp only [List.all_cons, Bool.and_eq_true] at hf
    unfold evDs at h
    obtain ⟨d, ρ1, h1, h2⟩ := bind_ok h
    obtain ⟨ds, ρ2, h3, h4⟩ := bind_ok h2
    cases h4
    obtain ⟨_, _, a3⟩ := flat_one hf.1 h1
    rcases a3 with rfl | ⟨i, hi⟩
    · exact flat_gh hf.2 h3 g s
    · obtain ⟨v, Z1, G1, k1, k2, k3, k4, k5⟩ := rd_loc g s hi
      obtain ⟨Z2, G2, m1, m2, m3⟩ := flat_gh hf.2 h3 k3 k4
      exact ⟨Z2, G2, k2.trans m1, m2, m3⟩
theorem evD_flat {n : Nat} {e : VI.E} {ρ : VI.St} {x : D} (h : FVal ρ e x) : evD C (n + 2) e ρ = .ok x ρ := by
  cases e <;> first
    | exact h.elim
    | skip
  · cases (show x = _ from h)
    rfl
  · rename_i i
    have h : ρ[i]? = some (some (.fz x)) := h
    show ((rdLoc i ρ).bind fun d s => R.ok (O.fz d) s).bind (fun o s => .ok o.toD s) = .ok x ρ
    unfold rdLoc
    rw [h]
    rfl
theorem evArgs_flat {n : Nat} {ρ : VI.St} : ∀ {l : List VI.E} {xs : List D} {j : Nat}, A2 (FVal ρ) l xs → evArgs (evD C (n + 2)) [] j l ρ = .ok (xs.map fun d => (none, d)) ρ
  | _, _, j, .nil => rfl
  | _, _, j, .cons (a := e) (b := x) (l := l) (m := xs) h t => by
    have e1 : evArgs (evD C (n + 2)) [] j (e :: l) ρ = (evD C (n + 2) e ρ).bind fun d s => (evArgs (evD C (n + 2)) [] (j + 1) l s).bind fun r s => .ok ((none, d) :: r) s := by
      conv => lhs; unfold evArgs
      rfl
    rw [e1, evD_flat h]
    show (evArgs (evD C (n + 2)) [] (j + 1) l ρ).bind _ = _
    rw [evArgs_flat t]
    rfl
theorem argOs_flat {ρ : VI.St} : ∀ xs : List D, argOs (xs.map fun d => (none, d)) ρ = some (xs.map .fz, ρ)
  | [] => rfl
  | x :: xs => by
    simp only [List.map_cons, argOs, argOs_flat xs]
theorem argBack_flat {ρ : VI.St} : ∀ (xs : List D) (ps : List (Option O)), ps.length = xs.length → argBack (xs.map fun d => (none, d)) ps ρ = some ρ
  | [], _, _ => rfl
  | x :: xs, [], h => by cases h
  | x :: xs, q :: ps, h => by
    simp only [List.map_cons, argBack]
    exact argBack_flat xs ps (by simpa using h)
end
end VI
end

section
set_option Elab.async false
set_option linter.all false
set_option maxRecDepth 10000
/-! VI17: x(lambda: f(..)). -/
namespace VI
open PySem PySem.Spec PyProof.Rows L2

def mkCall (F : VI.E) (as : List VI.E) : VI.E := match F with
  | .glob f => .call f as
  | .loc i => .lcall i as
  | _ => .k .non
section
variable {p : Pl} {C : Cfg} {c : Sc} {W : WX} {k : Nat} {X : Cx}
theorem Ev.lamS (v : Ev p C c W k X) {scope : Scope} (h : LamX.lamSB c.sc scope = true) : LamX.LamS X.env.scope scope := by
  have b := LamX.lamS_by h
  refine ⟨b.kind, b.co, b.gen, b.own, fun y hy e => ?_⟩
  rcases b.free y hy e with q | q
  · rcases v.sc _ _ q with z | ⟨z, _⟩
    · exact .inl z
    · cases z
  · rcases v.sc _ _ q with z | ⟨_, z⟩
    · exact .inr z
    · exact .inl z
/-- where the lambda's body stands -/
theorem Ev.lamEv (v : Ev p C c W k X) {scope : Scope} (L : LamX.LamS X.env.scope scope) (hlam : ∀ a, ¬ p.lam a) {A : Around} {outer : List Env} {s : Shared} {H : Hp} {E : XK} {f9 c' : Addr} (hg : A.guards = some []) (hr : Room k (A.deeper (LamX.lamEnv X scope s.heap.objs.size f9 c'))) :
    Ev p C { c with sc := scope, lm := false } (fun cls d _ H' => E cls d H') k (LamX.lamCx X A outer s H E scope f9 c') where
  K := v.K
  N := v.N
  sc := fun x kd hx => .inl hx
  nd := v.nd
  calm := rfl
  tk := takes_of rfl rfl rfl rfl
  room := hr
  gd := hg
  fnc := fun x hx => absurd rfl (L.own _ (PySem.mem_of_lookup hx)).2
  gfn := v.gfn
  gval := v.gval
  gblt := v.gblt
  fok := v.fok
  lamr := fun i x p1 p2 pn xe W' _ _ _ _ _ _ => ⟨fun pins s σ H Q I q => by
    obtain ⟨⟨a, _, ha⟩, _⟩ := q
    exact (hlam a ha).elim⟩
  lamg := fun h => by cases h
/-- the heap grows ahead of the def's body -/
theorem ext_good {Z H H1 : Hp} {F : List Addr} (g : Good p Z H F) (hO : ∀ a ∈ F, ∃ u, H a = some u ∧ Ow u) (e : LamX.ExtN H H1) (t : LamX.Tabs p.T H1) : Good p Z H1 F ∧ Tr Z H F Z H1 F ∧ ∀ a ∈ F, H1 a = H a := by
  have tr : Tr Z H F Z H1 F := ⟨Le.rfl', fun a o h => .inl h, fun a o h n _ => e a o h fun ps z => n ps z, fun a h => .inl h⟩
  refine ⟨⟨fun a o h => e a o (g.zh a o h) fun ps z => g.zt a o h ps z, g.zt, g.fz, g.nd, t, g.ba.tr tr⟩, tr, fun a ha => ?_⟩
  obtain ⟨u, hu, ow⟩ := hO a ha
  rw [hu]
  exact e a u hu fun ps z => ow.nt ps z
theorem fnV_ok {F : VI.E} {ρ ρ1 : VI.St} {f : Nat} (h : fnV F ρ = .ok (.fn f) ρ1) : (F = .glob f ∧ ρ1 = ρ) ∨ ∃ i, F = .loc i ∧ rdLoc i ρ = .ok (.fn f) ρ1 := by
  cases F <;> simp only [fnV, reduceCtorEq] at h
  · exact .inr ⟨_, rfl, h⟩
  · cases h
    exact .inl ⟨rfl, rfl⟩
/-- the lambda's body, where all that it names is frozen -/
theorem ev_body {n : Nat} {F : VI.E} {as : List VI.E} {ρ : VI.St} {f : Nat} {fd : Fn} {xs : List D} (hF : F = .glob f ∨ ∃ i, F = .loc i ∧ ρ[i]? = some (some (.fz (.fn f)))) (hx : A2 (FVal ρ) as xs) (hg : C.glob f = some (.fn fd)) (hl : as.length = fd.np) (hio : fd.io = [])
    (hp : (C.call f (xs.map .fz)).pl = xs.length) : evE C (n + 3) (mkCall F as) ρ = match C.call f (xs.map .fz) with
      | .ok o _ => .ok o ρ
      | .ex c d _ => .ex c d ρ
      | .bad m => .bad m := by
  have main : (if as.length = fd.np then (evArgs (evD C (n + 2)) fd.io 0 as ρ).bind fun as s => doCall C f as s else .bad 31) = (match C.call f (xs.map .fz) with
      | .ok o _ => R.ok o ρ
      | .ex c d _ => .ex c d ρ
      | .bad m => .bad m) := by
    rw [if_pos hl, hio, evArgs_flat hx]
    show doCall C f (xs.map fun d => (none, d)) ρ = _
    unfold doCall
    rw [argOs_flat]
    cases hc : C.call f (xs.map .fz) with
    | ok o ps =>
      rw [hc] at hp
      simp only [hc]
      simp only [argBack_flat xs ps hp]
    | ex c d ps =>
      rw [hc] at hp
      simp only [hc]
      simp only [argBack_flat xs ps hp]
    | bad m => simp only [hc]
  rcases hF with rfl | ⟨i, rfl, hi⟩
  · have e : evE C (n + 3) (mkCall (.glob f) as) ρ = (match (generalizing := false) C.glob f with
      | some (.fn fd) => if as.length = fd.np then (evArgs (evD C (n + 2)) fd.io 0 as ρ).bind fun as s => doCall C f as s else .bad 31
      | _ => .bad 31) := rfl
    rw [e, hg]
    exact main
  · have e : evE C (n + 3) (mkCall (.loc i) as) ρ = (match (generalizing := false) ρ[i]? with
      | some (some (.fz (.fn f))) => (match (generalizing := false) C.glob f with
        | some (.fn fd) => if as.length = fd.np then (evArgs (evD C (n + 2)) fd.io 0 as ρ).bind fun as s => doCall C f as s else .bad 31
        | _ => .bad 31)
      | some (some (.fz .lam)) => if i = 0 then (match (generalizing := false) as, C.lamr with
        | [], some (.ok o _) => .ok o ρ
        | [], some (.ex c p _) => .ex c p ρ
        | _, _ => .bad 32) else .bad 32
      | _ => .bad 33) := rfl
    rw [e, hi]
    simp only [hg]
    exact main
theorem lamEnd_inv {σ : L2.St} {Z H : Hp} {F : List Addr} {g n : Nat} {r : VI.CR} {ρ : VI.St} {Q : VK} (h : CoO p W σ Z H F (lamEnd C g n r ρ) Q) : r.pl = n ∧ (∀ m, r ≠ .bad m) ∧ ∃ d ps, C.lamc r g = .ok (.fz d) ps ∧ d.flat = true ∧ CoO p W σ Z H F (.ok (.fz d) ρ) Q := by
  have main : (∀ m, r ≠ .bad m) → CoO p W σ Z H F (if r.pl = n then (match C.lamc r g with
    | .ok (.fz d) _ => if d.flat then .ok (.fz d) ρ else .bad 41
    | .ok _ _ => .bad 41
    | .ex _ _ _ => .bad 41
    | .bad k => .bad k) else .bad 43) Q → r.pl = n ∧ (∀ m, r ≠ .bad m) ∧ ∃ d ps, C.lamc r g = .ok (.fz d) ps ∧ d.flat = true ∧ CoO p W σ Z H F (.ok (.fz d) ρ) Q := by
    intro hb h
    split at h
    · rename_i hp
      split at h
      · rename_i d ps e
        split at h
        · rename_i hf
          exact ⟨hp, hb, d, ps, e, hf, h⟩
        · exact (show False from h).elim
      all_goals exact (show False from h).elim
    · exact (show False from h).elim
  cases r with
  | bad m => exact (show False from h).elim
  | ok o ps => exact main (fun m z => by cases z) h
  | ex c d ps => exact main (fun m z => by cases z) h
theorem flat_cases {e : VI.E} (h : e.flat = true) : (∃ d, e = .k d) ∨ ∃ i, e = .loc i := by
  cases e <;> simp only [E.flat, reduceCtorEq] at h
  · exact .inl ⟨_, rfl⟩
  · exact .inr ⟨_, rfl⟩
theorem flat_noex {n : Nat} : ∀ {l : List VI.E} {ρ ρ' : VI.St} {c : Nat} {d : D}, l.all E.flat = true → evDs (evD C n) l ρ = .ex c d ρ' → False
  | [], ρ, ρ', c, d, hf, h => by cases h
  | e :: l, ρ, ρ', c, d, hf, h => by
    simp only [List.all_cons, Bool.and_eq_true] at hf
    have h : ((evD C n e ρ).bind fun d s => (evDs (evD C n) l s).bind fun ds s => .ok (d :: ds) s) = .ex c d ρ' := h
    cases h1 : evD C n e ρ with
    | bad m => rw [h1] at h; cases h
    | ex c1 d1 ρ1 =>
      match n with
      | 0 => cases h1
      | 1 => cases h1
      | n + 2 =>
        rcases flat_cases hf.1 with ⟨d0, rfl⟩ | ⟨i, rfl⟩
        · cases h1
        · have h1 : ((rdLoc i ρ).bind fun d s => R.ok (O.fz d) s).bind (fun o s => .ok o.toD s) = .ex c1 d1 ρ1 := h1
          cases hr : rdLoc i ρ with
          | ok d2 ρ2 => rw [hr] at h1; cases h1
          | bad m => rw [hr] at h1; cases h1
          | ex c2 d2 ρ2 =>
            unfold rdLoc at hr
            split at hr <;> cases hr
    | ok d1 ρ1 =>
      rw [h1] at h
      have h : ((evDs (evD C n) l ρ1).bind fun ds s => .ok (d1 :: ds) s) = .ex c d ρ' := h
      cases h2 : evDs (evD C n) l ρ1 with
      | ok xs ρ2 => rw [h2] at h; cases h
      | bad m => rw [h2] at h; cases h
      | ex c2 d2 ρ2 => exact flat_noex hf.2 h2
theorem noArgs_eq {ps : Arguments} (h : noArgs ps = true) : ps = ⟨[], [], none, [], [], none, []⟩ := by
  unfold noArgs at h
  split at h
  · rfl
  · cases h
theorem snd_lam (v : Ev p C c W k X) {x : Str} {m : Nat} {ps : Arguments} {bdy : Expr} {scope : Scope} {F : VI.E} {as : List VI.E} {p1 lpos pos : Pos} (hx : c.glob x = some (m, .fn)) (hd : (x == ("__debug__" : Str)) = false) (hlm : c.lm = true) (hls : c.tx.ls.contains x = true)
    (hL : LamX.lamSB c.sc scope = true) (hna : noArgs ps = true)
    (hB : ∀ {Y : Cx} {W' : WX}, Ev p C { c with sc := scope, lm := false } W' k Y → VO Y p W' C bdy (mkCall F as)) :
    VO X p W C (.Call (.Name x p1) [.Lambda ps bdy scope lpos] [] pos) (.lam m F as)
  | 0 => tO_bad fun _ => ⟨0, rfl⟩
  | n + 1 => by
    obtain ⟨g1, g2, rfl⟩ := v.glob hx
    obtain ⟨hlam, g, co, P, pg, bg, sg, dV, kV, doc, pm, cdv, ct, oc, an, od, osl, Ng, a, l1, l2, l3, l4, l5, l6, l7, l8, l9, l10, l11, l12, l13, l14, l15, l16⟩ := v.lamg hlm x (by simpa using hls)
    have L := v.lamS hL
    refine ⟨fun pins s σ H Q I q => ?_⟩
    obtain ⟨Z, ρ, Fs, gd, sl, q⟩ := q
    replace q : CoO p W σ Z H (List.flatten Fs) (if as.all E.flat then (fnV F ρ).bind fun fv s => (evDs (evD C n) as s).bind fun xs s => (match (generalizing := false) fv with
      | .fn f => (match (generalizing := false) C.glob f with
        | some (.fn fd) => if as.length = fd.np ∧ fd.io = [] then lamEnd C (enc x) xs.length (C.call f (xs.map .fz)) s else .bad 42
        | _ => .bad 42)
      | _ => .bad 42) else .bad 42) Q := q
    split at q
    · rename_i hfl
      cases h1 : fnV F ρ with
      | bad m => rw [h1] at q; exact (show False from q).elim
      | ex c d s =>
        exfalso
        cases F <;> simp only [fnV, reduceCtorEq] at h1
        unfold rdLoc at h1
        split at h1 <;> cases h1
      | ok fv ρ1 =>
        rw [h1] at q
        replace q : CoO p W σ Z H (List.flatten Fs) ((evDs (evD C n) as ρ1).bind fun xs s => (match (generalizing := false) fv with
          | .fn f => (match (generalizing := false) C.glob f with
            | some (.fn fd) => if as.length = fd.np ∧ fd.io = [] then lamEnd C (enc x) xs.length (C.call f (xs.map .fz)) s else .bad 42
            | _ => .bad 42)
          | _ => .bad 42)) Q := q
        cases h2 : evDs (evD C n) as ρ1 with
        | bad m => rw [h2] at q; exact (show False from q).elim
        | ex c d s => exact (flat_noex hfl h2).elim
        | ok xs ρ2 =>
          rw [h2] at q
          replace q : CoO p W σ Z H (List.flatten Fs) (match (generalizing := false) fv with
            | .fn f => (match (generalizing := false) C.glob f with
              | some (.fn fd) => if as.length = fd.np ∧ fd.io = [] then lamEnd C (enc x) xs.length (C.call f (xs.map .fz)) ρ2 else .bad 42
              | _ => .bad 42)
            | _ => .bad 42) Q := q
          split at q
          · rename_i f
            split at q
            · rename_i fd hfd
              split at q
              · rename_i hc
                obtain ⟨hpl, hnb, d, ps', hout, hdf, q⟩ := lamEnd_inv q
                -- the freezing ahead
                have gh1 : ∃ Z1 F1, Tr Z H (List.flatten Fs) Z1 H (List.flatten F1) ∧ Good p Z1 H (List.flatten F1) ∧ SL p Z1 H ρ1 σ F1 := by
                  rcases fnV_ok h1 with ⟨_, rfl⟩ | ⟨i, _, hi⟩
                  · exact ⟨Z, Fs, Tr.id, gd, sl⟩
                  · obtain ⟨v0, Z1, F1, k1, k2, k3, k4, k5⟩ := rd_loc gd sl hi
                    exact ⟨Z1, F1, k2, k3, k4⟩
                obtain ⟨Z1, F1, t1, gd1, sl1⟩ := gh1
                obtain ⟨Z2, F2, t2, gd2, sl2⟩ := flat_gh hfl h2 gd1 sl1
                obtain ⟨st2, fv2⟩ := flat_all hfl h2
                have hF : F = .glob f ∨ ∃ i, F = .loc i ∧ (keepFz ρ2)[i]? = some (some (.fz (.fn f))) := by
                  rcases fnV_ok h1 with ⟨e, _⟩ | ⟨i, e, hi⟩
                  · exact .inl e
                  · exact .inr ⟨i, e, keepFz_get (st2 i _ (rd_stay hi).2)⟩
                have fv3 : A2 (FVal (keepFz ρ2)) as xs := fv2.imp fun e x h => h.stay fun i d h => keepFz_get h
                have hbody := ev_body (n := 0) hF fv3 hfd hc.1 hc.2 hpl
                have ena := noArgs_eq hna
                refine (Lm.call_lam (T := p.T) (TT := TTr p (C.call f (xs.map .fz)) (C.lamc (C.call f (xs.map .fz)) (enc x))) (t9 := fun E => tO p (fun cls d _ H' => E cls d H') (evE C 3 (mkCall F as))) g1 l1 l2 l3 l4 l5 l6 l7 l8 (l16 _) l11 l12 l13 l14 l15 L (by rw [ena]; rfl) (fun q cl pm cv ctv => by rw [ena]; rfl) v.gd
                  (fun A outer s H E f9 c' hg hr => hB (v.lamEv L hlam hg hr) 3) hd l9 l10).run pins s σ H Q I ⟨gd.tb, fun H1 e t => ?_⟩
                obtain ⟨e1, e2, e3⟩ := ext_good gd2 sl2.there e t
                refine ⟨Z2, e1.sub (fun x hx => by cases hx) List.nodup_nil, fun E HZ Q1 Z3 t3 g3 post => ?_, ?_⟩
                · obtain ⟨Gs, k1, k2⟩ := sl2.keepFz
                  refine ⟨Z3, keepFz ρ2, Gs, by rw [k2]; exact g3, k1.le t3.zle (fun a ha => by rw [k2] at ha; cases ha), ?_⟩
                  rw [hbody]
                  cases hr : C.call f (xs.map .fz) with
                  | bad m => exact (hnb m hr).elim
                  | ok o ps =>
                    rw [hr] at post
                    intro v' H' Z' Fs' G t' g' s' r'
                    rw [k2] at t'
                    exact post v' H' Z' G (t'.sub fun x hx => List.mem_append_left _ hx) (g'.sub (fun x hx => List.mem_append_left _ hx) (List.nodup_append.mp g'.nd).1) r'
                  | ex c d ps =>
                    rw [hr] at post
                    intro cls dd H' Z' Fs' t' g' s' r'
                    rw [k2] at t'
                    exact post cls dd H' Z' (t'.sub fun x hx => by cases hx) (g'.sub (fun x hx => by cases hx) List.nodup_nil) r'
                · rw [hout]
                  refine ⟨hdf, fun v' H' Z' t' g' r' => ?_⟩
                  have e1' : Good p Z2 H1 (List.flatten F2 ++ []) := by rw [List.append_nil]; exact e1
                  obtain ⟨a1, a2, a3⟩ := e1'.aside (fun a ha => by
                    obtain ⟨u, hu, ow⟩ := sl2.there a ha
                    exact ⟨u, by rw [e3 a ha]; exact hu, ow⟩) t' g'
                  rw [List.append_nil] at a1 a3
                  exact q v' H' Z' F2 [] (((t1.trans t2).trans e2).trans a3) a1 (sl2.le t'.zle fun a ha => by rw [a2 a ha, e3 a ha]) (RO.fz r')
              · exact (show False from q).elim
            · exact (show False from q).elim
          · exact (show False from q).elim
    · exact (show False from q).elim
end
end VI
end

section
set_option Elab.async false
set_option linter.all false
set_option maxRecDepth 10000
/-! VI18: every translated expression. -/
namespace VI
open PySem PySem.Spec PyProof.Rows L2

section
variable {p : Pl} {C : Cfg} {c : Sc} {W : WX} {k : Nat} {X : Cx}
/-- what a for walks -/
theorem snd_it (v : Ev p C c W k X) {f : Expr → Option VI.E} (hf : ∀ e E, f e = some E → Snd X p W C e E) {tg iter : Expr} {it : VI.It} {as : List VI.E} (h : trIt c f iter = some (it, as)) (hfit : itFit it tg = true) (n : Nat) : PI X tg iter (tV p W (relW p) (itRd C n it as)) := by
  have val : ∀ {e : Expr}, (f e).map (fun a => (VI.It.val, [a])) = some (it, as) → PI X tg e (tV p W (relW p) (itRd C n it as)) := fun {e} h => by
    simp only [Option.map_eq_some_iff, Prod.mk.injEq] at h
    obtain ⟨E, h1, rfl, rfl⟩ := h
    exact pi_val v (hf _ _ h1) n
  unfold trIt at h
  split at h
  · rename_i x p1 a pos
    split at h
    · rename_i hx
      obtain ⟨rfl, hb⟩ := hx
      simp only [Option.map_eq_some_iff, Prod.mk.injEq] at h
      obtain ⟨E, h1, rfl, rfl⟩ := h
      exact pi_r1 v hb (hf _ _ h1) n
    · split at h
      · rename_i hx
        obtain ⟨rfl, hb⟩ := hx
        have enm : ∀ {a : Expr}, (f a).map (fun a => (VI.It.enum, [a])) = some (it, as) → PI X tg (.Call (.Name "enumerate" p1) [a] [] pos) (tV p W (relW p) (itRd C n it as)) := fun {a} h => by
          simp only [Option.map_eq_some_iff, Prod.mk.injEq] at h
          obtain ⟨E, h1, rfl, rfl⟩ := h
          cases tg <;> first | cases hfit | skip
          exact pi_en v hb (hf _ _ h1) n
        split at h
        · rename_i y p2 a1 a2 pos2
          split at h
          · rename_i hy
            obtain ⟨rfl, hb2⟩ := hy
            split at h
            · rename_i b1 b2 h1 h2
              cases h
              cases tg <;> first | cases hfit | skip
              exact pi_ez v hb hb2 (hf _ _ h1) (hf _ _ h2) n
            · cases h
          · exact enm h
        · exact enm h
      · exact val h
  · rename_i x p1 a b pos
    split at h
    · rename_i hx
      obtain ⟨rfl, hb⟩ := hx
      split at h
      · rename_i b1 b2 h1 h2
        cases h
        exact pi_r2 v hb (hf _ _ h1) (hf _ _ h2) n
      · cases h
    · split at h
      · rename_i hx
        obtain ⟨rfl, hb⟩ := hx
        split at h
        · rename_i b1 b2 h1 h2
          cases h
          cases tg <;> first | cases hfit | skip
          exact pi_zp v hb (hf _ _ h1) (hf _ _ h2) n
        · cases h
      · exact val h
  · rename_i x p1 a b d pos
    split at h
    · rename_i hx
      obtain ⟨rfl, hb⟩ := hx
      split at h
      · rename_i b1 b2 b3 h1 h2 h3
        cases h
        exact pi_r3 v hb (hf _ _ h1) (hf _ _ h2) (hf _ _ h3) n
      · cases h
    · exact val h
  · exact val h
theorem noFold {e : Expr} (h : noSet e = true) {env : Env} : ∀ x, foldedSetIterable e env x = pure x := fun x => by
  cases e <;> first | rfl | cases h
theorem it_noSet {f : Expr → Option VI.E} (hf : ∀ e E, f e = some E → noSet e = true) {iter : Expr} {r : VI.It × List VI.E} (h : trIt c f iter = some r) : noSet iter = true := by
  cases iter <;> first
    | rfl
    | (unfold trIt at h
       simp only [Option.map_eq_some_iff] at h
       obtain ⟨E, h1, _⟩ := h
       exact hf _ _ h1)
/-- the parts of a clause -/
structure GenOk (p : Pl) (C : Cfg) (c c2 : Sc) (f f2 : Expr → Option VI.E) (g : Comprehension) (t : T) (it : VI.It) (as cs : List VI.E) : Prop where
  tg : trT c2 g.target = some t
  itr : trIt c f g.iter = some (it, as)
  ifs : trAll f2 g.ifs = some cs
  sync : g.is_async = 0
  few : cs.length ≤ 1
  fit : itFit it g.target = true
theorem gen_ok {c2 : Sc} {f f2 : Expr → Option VI.E} {g : Comprehension} {r : T × VI.It × List VI.E × List VI.E} (h : trGen c c2 f f2 g = some r) : ∃ t it as cs, r = (t, it, as, cs) ∧ GenOk p C c c2 f f2 g t it as cs := by
  unfold trGen at h
  split at h
  · rename_i t it as cs h1 h2 h3
    split at h
    · rename_i hc
      cases h
      exact ⟨t, it, as, cs, rfl, h1, h2, h3, hc.1, hc.2.1, hc.2.2⟩
    · cases h
  · cases h
mutual
theorem vars_own {c2 : Sc} : ∀ {e : Expr} {t : T}, trT c2 e = some t → ∀ i ∈ t.vars, i ∈ (ownOf c2.N c2.sc).map (·.2)
  | .Name x pos, t, h, i, hi => by
    unfold trT at h
    have key : ∀ {kd : NameKind}, c2.sc.names.lookup x = some kd → (kd = .local ∨ kd = .cell) → ∀ j, ixOf x c2.N = some j → j ∈ (ownOf c2.N c2.sc).map (·.2) := fun {kd} e hk j hj => by
      have hm := PySem.mem_of_lookup e
      refine List.mem_map.mpr ⟨(x, j), ?_, rfl⟩
      unfold ownOf
      refine List.mem_filterMap.mpr ⟨(x, kd), hm, ?_⟩
      rcases hk with rfl | rfl <;> (show (ixOf x c2.N).map (fun i => (x, i)) = some (x, j); rw [hj]; rfl)
    split at h
    · rename_i e
      simp only [Option.map_eq_some_iff] at h
      obtain ⟨j, h1, rfl⟩ := h
      simp only [T.vars, List.mem_singleton] at hi
      subst hi
      exact key e (.inl rfl) _ h1
    · rename_i e
      simp only [Option.map_eq_some_iff] at h
      obtain ⟨j, h1, rfl⟩ := h
      simp only [T.vars, List.mem_singleton] at hi
      subst hi
      exact key e (.inr rfl) _ h1
    · cases h
  | .Tuple es kk pos, t, h, i, hi => by
    unfold trT at h
    simp only [Option.map_eq_some_iff] at h
    obtain ⟨ts, h1, rfl⟩ := h
    exact vars_owns h1 i hi
  | .List _ _, t, h, _, _ => by cases h
  | .Starred _ _, t, h, _, _ => by cases h
  | .Subscript _ _ _, t, h, _, _ => by cases h
  | .Attribute _ _ _, t, h, _, _ => by cases h
  | .Constant _ _ _, t, h, _, _ => by cases h
theorem vars_owns {c2 : Sc} : ∀ {es : List Expr} {ts : List T}, trTs c2 es = some ts → ∀ i ∈ T.varsL ts, i ∈ (ownOf c2.N c2.sc).map (·.2)
  | [], ts, h, i, hi => by
    simp only [trTs, Option.some.injEq] at h
    subst h
    cases hi
  | e :: es, ts, h, i, hi => by
    unfold trTs at h
    split at h
    · rename_i t ts' h1 h2
      cases h
      rcases List.mem_append.mp (show i ∈ t.vars ++ T.varsL ts' from hi) with hi | hi
      · exact vars_own h1 i hi
      · exact vars_owns h2 i hi
    · cases h
end
theorem nm_ok {x : Str} (h : nmOk x = true) : (x == ("__debug__" : Str)) = false ∧ (x == ("__classdict__" : Str)) = false := by
  unfold nmOk at h
  simpa using h
/-- what takes no tests of its own -/
theorem mkSnd (v : Ev p C c W k X) {e : Expr} {E : VI.E} (star : isStar e = false) (set : noSet e = true) (slice : noSlice e = true) (O : VO X p W C e E) (he : ∀ whole, isTrue e X.env whole = (do let v ← whole; standAt e.pos; holding [v] (truthy v)))
    (hE : ∀ n ρ, evC C (n + 1) E ρ = (evP C n E ρ).bind fun d s => ofO (truthD d) 44 s) (loc : ∀ i, E = .loc i → ∃ x pos, e = .Name x pos ∧ X.N[i]? = some x ∧ Vis X.env.scope x ∧ (x == ("__debug__" : Str)) = false ∧ (x == ("__classdict__" : Str)) = false) : Snd X p W C e E :=
  ⟨star, set, slice, O, tst_val v (snd_P O fun i hi => by
    obtain ⟨x, pos, rfl, h1, h2, h3, h4⟩ := loc i hi
    exact snd_pk h1 h2 h3 h4) he hE, loc⟩
theorem trSpl_A2 {f : Expr → Option VI.E} (hf : ∀ e E, f e = some E → Snd X p W C e E) : ∀ {es : List Expr} {l : List (Bool × VI.E)}, trSpl f es = some l → A2 (SplR X p W C) es l
  | [], l, h => by
    simp only [trSpl, Option.some.injEq] at h
    subst h
    exact .nil
  | e :: es, l, h => by
    cases hs : isStar e with
    | true =>
      cases e <;> first | cases hs | skip
      rename_i e' pos
      have h : (match f e', trSpl f es with
        | some a, some r => some ((true, a) :: r)
        | _, _ => none) = some l := h
      split at h
      · rename_i a r h1 h2
        cases h
        exact .cons (.inr ⟨_, _, rfl, rfl, hf _ _ h1⟩) (trSpl_A2 hf h2)
      · cases h
    | false =>
      have e1 : trSpl f (e :: es) = (match f e, trSpl f es with
        | some a, some r => some ((false, a) :: r)
        | _, _ => none) := by cases e <;> first | rfl | cases hs
      rw [e1] at h
      split at h
      · rename_i a r h1 h2
        cases h
        exact .cons (.inl ⟨rfl, hf _ _ h1⟩) (trSpl_A2 hf h2)
      · cases h
theorem trAll_snd {f : Expr → Option VI.E} (hf : ∀ e E, f e = some E → Snd X p W C e E) {es : List Expr} {l : List VI.E} (h : trAll f es = some l) : A2 (Snd X p W C) es l := (trAll_A2 h).imp hf

theorem trCmps_A2 {f : Expr → Option VI.E} : ∀ {ops : List CmpOp} {es : List Expr} {l : List (Cm × VI.E)}, trCmps f ops es = some l → ∃ Es, l = (ops.map trCm).zip Es ∧ ops.length = Es.length ∧ A2 (fun e E => f e = some E) es Es
  | [], [], l, h => by
    simp only [trCmps, Option.some.injEq] at h
    subst h
    exact ⟨[], rfl, rfl, .nil⟩
  | o :: os, e :: es, l, h => by
    unfold trCmps at h
    split at h
    · rename_i a r h1 h2
      cases h
      obtain ⟨Es, rfl, h3, h4⟩ := trCmps_A2 h2
      exact ⟨a :: Es, rfl, by simp [h3], .cons h1 h4⟩
    · cases h
  | [], _ :: _, l, h => by simp [trCmps] at h
  | _ :: _, [], l, h => by simp [trCmps] at h
theorem cmp_long {A : VI.E} {l : List (Cm × VI.E)} (h : l.length ≠ 1 ∧ l.length ≠ 2) (n : Nat) (ρ : VI.St) : ∃ m, evE C n (.cmp A l) ρ = .bad m := by
  cases n with
  | zero => exact ⟨0, rfl⟩
  | succ n =>
    match l, h with
    | [], _ => exact ⟨11, rfl⟩
    | [_], h => exact absurd rfl h.1
    | [_, _], h => exact absurd rfl h.2
    | _ :: _ :: _ :: _, _ => exact ⟨11, rfl⟩
theorem snd_cmp (v : Ev p C c W k X) {f : Expr → Option VI.E} (hf : ∀ e E, f e = some E → Snd X p W C e E) {a : Expr} {A : VI.E} {ops : List CmpOp} {es : List Expr} {l : List (Cm × VI.E)} {pos : Pos} (ha : Snd X p W C a A) (h : trCmps f ops es = some l) : Snd X p W C (.Compare a ops es pos) (.cmp A l) := by
  obtain ⟨Es, rfl, hl, h4⟩ := trCmps_A2 h
  have bad : ((ops.map trCm).zip Es).length ≠ 1 ∧ ((ops.map trCm).zip Es).length ≠ 2 → Snd X p W C (.Compare a ops es pos) (.cmp A ((ops.map trCm).zip Es)) := fun hb => by
    refine ⟨rfl, rfl, rfl, fun n => tO_bad fun ρ => cmp_long hb n ρ, fun n => ⟨fun pins s σ H Q I q => ?_⟩, fun i hi => by cases hi⟩
    by_cases h3 : n < 3
    · exact (cmp_test0 h3 q).elim
    · obtain ⟨m, rfl⟩ : ∃ m, n = m + 3 := ⟨n - 3, by omega⟩
      obtain ⟨Z, ρ, Fs, g, sl, q⟩ := cmp_test q
      obtain ⟨j, hj⟩ := cmp_long (C := C) (A := A) hb m ρ
      rw [hj] at q
      exact (show False from q).elim
  match ops, Es, hl, h4, bad with
  | [], [], _, _, bad => exact bad ⟨by simp, by simp⟩
  | [op], [B], _, h4, _ =>
    cases h4 with
    | cons hb t =>
      cases t
      have B' := hf _ _ hb
      exact ⟨rfl, rfl, rfl, snd_cmp1 v B'.set ha.Q B'.P, tst_cmp1 v B'.set ha.Q B'.P, fun i hi => by cases hi⟩
  | [op, op2], [B, B2], _, h4, _ =>
    cases h4 with
    | cons hb t =>
      cases t with
      | cons hb2 t =>
        cases t
        have B' := hf _ _ hb
        have B2' := hf _ _ hb2
        exact ⟨rfl, rfl, rfl, snd_cmp2 v B2'.set ha.D B'.D B2'.D, tst_cmp2 v B2'.set ha.D B'.D B2'.D, fun i hi => by cases hi⟩
  | _ :: _ :: _ :: _, _ :: _ :: _ :: _, _, _, bad => exact bad ⟨by simp, by simp⟩
theorem snd_sub (v : Ev p C c W k X) {f : Expr → Option VI.E} (hf : ∀ e E, f e = some E → Snd X p W C e E) {a b : Expr} {E : VI.E} {pos : Pos} (h : trSub f a b = some E) : Snd X p W C (.Subscript a b pos) E := by
  have part : ∀ {o : Option Expr} {O : Option VI.E}, trPart f o = some O → ∀ n, PO X o (tOI p W (evPart C n O)) := fun {o O} h n => by
    cases o with
    | none =>
      simp only [trPart, Option.some.injEq] at h
      subst h
      exact snd_part0 n
    | some e =>
      simp only [trPart, Option.map_eq_some_iff] at h
      obtain ⟨E, h1, rfl⟩ := h
      exact snd_part1 (hf _ _ h1).D n
  unfold trSub at h
  split at h
  · rename_i lo hi st p2
    split at h
    · split at h
      · rename_i a' lo' hi' h1 h2 h3
        cases h
        exact mkSnd v rfl rfl rfl (snd_slc v (hf _ _ h1).Q (part h2) (part h3)) (fun _ => rfl) (fun _ _ => rfl) fun i hi => by cases hi
      · cases h
    · rename_i e
      split at h
      · rename_i hc
        simp only [Bool.and_eq_true, Option.isNone_iff_eq_none] at hc
        obtain ⟨⟨h1, rfl⟩, rfl⟩ := hc
        simp only [Option.map_eq_some_iff] at h
        obtain ⟨A, h2, rfl⟩ := h
        unfold isOne at h1
        split at h1
        · rename_i i j q1 q2
          have h1 : i = 1 := by simpa using h1
          subst h1
          exact mkSnd v rfl rfl rfl (snd_rev v (hf _ _ h2).P) (fun _ => rfl) (fun _ _ => rfl) fun i hi => by cases hi
        · cases h1
      · cases h
  · split at h
    · rename_i a' b' h1 h2
      cases h
      exact mkSnd v rfl rfl rfl (snd_idx v (hf _ _ h2).slice (hf _ _ h1).Q (hf _ _ h2).D) (fun _ => rfl) (fun _ _ => rfl) fun i hi => by cases hi
    · cases h
theorem snd_blt (v : Ev p C c W k X) {f : Expr → Option VI.E} (hf : ∀ e E, f e = some E → Snd X p W C e E) {x : Str} {as : List Expr} {E : VI.E} {p1 pos : Pos} (hx : c.blt x = true) (h : trBlt c f x as = some E) : Snd X p W C (.Call (.Name x p1) as [] pos) E := by
  have mk : VO X p W C (.Call (.Name x p1) as [] pos) E → (∀ n ρ, evC C (n + 1) E ρ = (evP C n E ρ).bind fun d s => ofO (truthD d) 44 s) → (∀ i, E ≠ .loc i) → Snd X p W C (.Call (.Name x p1) as [] pos) E := fun O hE hl => mkSnd v rfl rfl rfl O (fun _ => rfl) hE fun i hi => absurd hi (hl i)
  unfold trBlt at h
  split at h
  · rename_i e
    subst e
    split at h
    · rename_i a t hi
      simp only [Option.map_eq_some_iff] at h
      obtain ⟨A, h1, rfl⟩ := h
      unfold isiArg at hi
      split at hi
      · rename_i a' y yp
        split at hi
        · rename_i hy
          simp only [Option.map_eq_some_iff, Prod.mk.injEq] at hi
          obtain ⟨t', h2, rfl, rfl⟩ := hi
          exact mk (snd_isi v hx hy h2 (hf _ _ h1)) (fun _ _ => rfl) fun i z => by cases z
        · cases hi
      · cases hi
    · cases h
  · split at h
    · rename_i b hb
      simp only [Option.map_eq_some_iff] at h
      obtain ⟨B, h1, rfl⟩ := h
      split at hb
      · rename_i e
        subst e
        unfold setArg at hb
        split at hb
        · rename_i y yp b' q1
          split at hb
          · rename_i hy
            cases hb
            obtain ⟨rfl, hy⟩ := hy
            exact mk (snd_sst v hx hy (hf _ _ h1)) (fun _ _ => rfl) fun i z => by cases z
          · cases hb
        · cases hb
      · cases hb
    · split at h
      · rename_i b l h1 h2
        cases h
        have ar := trAll_snd hf h2
        refine mk ?_ (fun _ _ => rfl) fun i z => by cases z
        match as, l, ar, h1 with
        | [], _, _, h1 =>
          exfalso
          have : ∀ t ∈ biTab, t.1.2 ≠ 0 := by decide +kernel
          unfold biOf at h1
          simp only [Option.map_eq_some_iff] at h1
          obtain ⟨t, h3, _⟩ := h1
          have h4 := List.find?_some h3
          have h5 : t.1 = (x, 0) := by simpa using h4
          exact this t (List.mem_of_find?_eq_some h3) (by rw [h5])
        | [a], [A], .cons ha .nil, h1 => exact snd_bi1 v hx h1 ha
        | [a, a2], [A, B], .cons ha (.cons hb .nil), h1 => exact snd_bi2 v hx h1 ha hb
        | _ :: _ :: _ :: r, _, _, h1 =>
          exfalso
          have : ∀ t ∈ biTab, t.1.2 < 3 := by decide +kernel
          unfold biOf at h1
          simp only [Option.map_eq_some_iff] at h1
          obtain ⟨t, h3, _⟩ := h1
          have h4 := List.find?_some h3
          have h5 := this t (List.mem_of_find?_eq_some h3)
          have h6 : t.1 = (x, r.length + 1 + 1 + 1) := by simpa using h4
          rw [h6] at h5
          simp at h5
          omega
      · cases h
theorem snd_meth (v : Ev p C c W k X) {f : Expr → Option VI.E} (hf : ∀ e E, f e = some E → Snd X p W C e E) {o : Expr} {mth : Str} {as : List Expr} {E : VI.E} {apos pos : Pos} (hl : (apos.endLine == pos.line) = true) (h : trMeth c f o mth as = some E) : Snd X p W C (.Call (.Attribute o mth apos) as [] pos) E := by
  unfold trMeth at h
  split at h
  · rename_i y yp a
    split at h
    · rename_i hn
      obtain ⟨hn1, hn2⟩ := nm_ok hn
      split at h
      · rename_i i A h1 h2
        obtain ⟨hN, hv⟩ := v.slot h1
        split at h
        · rename_i e
          subst e
          cases h
          exact mkSnd v rfl rfl rfl (snd_app v hN hv hn1 hn2 hl (hf _ _ h2)) (fun _ => rfl) (fun _ _ => rfl) fun i hi => by cases hi
        · split at h
          · rename_i e
            subst e
            cases h
            exact mkSnd v rfl rfl rfl (snd_ext v hN hv hn1 hn2 hl (hf _ _ h2)) (fun _ => rfl) (fun _ _ => rfl) fun i hi => by cases hi
          · cases h
      · cases h
    · cases h
  · cases h
end
theorem trE_noSet : ∀ {m : Nat} {c : Sc} {e : Expr} {E : VI.E}, trE m c e = some E → noSet e = true
  | 0, c, e, E, h => by cases h
  | m + 1, c, e, E, h => by
    cases e <;> first
      | rfl
      | (cases h; done)
/-- every translated expression -/
theorem snd : ∀ (m : Nat) {c : Sc} {e : Expr} {E : VI.E}, trE m c e = some E → ∀ {p : Pl} {C : Cfg} {W : WX} {k : Nat} {X : Cx}, Ev p C c W k X → Snd X p W C e E
  | 0, c, e, E, h, p, C, W, k, X, v => by cases h
  | m + 1, c, e, E, h, p, C, W, k, X, v => by
    have hf : ∀ e E, trE m c e = some E → Snd X p W C e E := fun e E h => snd m h v
    cases e <;> first
      | (cases h; done)
      | skip
    case Constant kc j pos =>
      replace h : (trConst kc).map VI.E.k = some E := h
      simp only [Option.map_eq_some_iff] at h
      obtain ⟨d, h1, rfl⟩ := h
      exact mkSnd v rfl rfl rfl (fun n => snd_k rfl h1 n) (fun _ => rfl) (fun _ _ => rfl) fun i hi => by cases hi
    case Name x pos =>
      replace h : (if nmOk x then (match c.slot x with
        | some i => some (.loc i)
        | none => (match c.glob x with
          | some (n, .fn) => some (.glob n)
          | some (n, .val) => some (.glob n)
          | _ => none)) else none) = some E := h
      split at h
      · rename_i hn
        obtain ⟨hn1, hn2⟩ := nm_ok hn
        split at h
        · rename_i i hi
          cases h
          obtain ⟨k1, k2⟩ := v.slot hi
          exact mkSnd v rfl rfl rfl (fun n => snd_loc k1 k2 hn1 hn2 n) (fun _ => rfl) (fun _ _ => rfl) fun j hj => by
            cases hj
            exact ⟨x, pos, rfl, k1, k2, hn1, hn2⟩
        · split at h
          · rename_i n hg
            cases h
            exact mkSnd v rfl rfl rfl (fun n => snd_glob v hg (.inl rfl) hn1 n) (fun _ => rfl) (fun _ _ => rfl) fun j hj => by cases hj
          · rename_i n hg
            cases h
            exact mkSnd v rfl rfl rfl (fun n => snd_glob v hg (.inr rfl) hn1 n) (fun _ => rfl) (fun _ _ => rfl) fun j hj => by cases hj
          · cases h
      · cases h
    case BinOp a op b pos =>
      replace h : (match (generalizing := false) trOp op, trE m c a, trE m c b with
        | some o, some a, some b => some (VI.E.bin o a b)
        | _, _, _ => none) = some E := h
      split at h
      · rename_i o A B h1 h2 h3
        cases h
        exact mkSnd v rfl rfl rfl (snd_bin v h1 (hf _ _ h2).D (hf _ _ h3).D) (fun _ => rfl) (fun _ _ => rfl) fun i hi => by cases hi
      · cases h
    case UnaryOp op a pos =>
      replace h : (match (generalizing := false) op, trE m c a with
        | .USub, some a => some (VI.E.neg a)
        | .Invert, some a => some (.inv a)
        | .Not, some a => some (.not a)
        | _, _ => none) = some E := h
      split at h
      · rename_i A h1
        cases h
        exact mkSnd v rfl rfl rfl (snd_neg v (hf _ _ h1).D) (fun _ => rfl) (fun _ _ => rfl) fun i hi => by cases hi
      · rename_i A h1
        cases h
        exact mkSnd v rfl rfl rfl (snd_inv v (hf _ _ h1).D) (fun _ => rfl) (fun _ _ => rfl) fun i hi => by cases hi
      · rename_i A h1
        cases h
        exact ⟨rfl, rfl, rfl, snd_not v (hf _ _ h1).P, tst_not (hf _ _ h1).C, fun i hi => by cases hi⟩
      · cases h
    case BoolOp op l pos =>
      replace h : (match (generalizing := false) op, trAll (trE m c) l with
        | .And, some l => some (VI.E.and l)
        | .Or, some l => some (.or l)
        | _, _ => none) = some E := h
      split at h
      · rename_i L h1
        cases h
        have a := trAll_snd hf h1
        exact ⟨rfl, rfl, rfl, snd_and v (a.imp fun _ _ h => h.D), tst_and (a.imp fun _ _ h => h.C), fun i hi => by cases hi⟩
      · rename_i L h1
        cases h
        have a := trAll_snd hf h1
        exact ⟨rfl, rfl, rfl, snd_or v (a.imp fun _ _ h => h.D), tst_or (a.imp fun _ _ h => h.C), fun i hi => by cases hi⟩
      · cases h
    case Compare a ops cs pos =>
      replace h : (match (generalizing := false) trE m c a, trCmps (trE m c) ops cs with
        | some a, some l => some (VI.E.cmp a l)
        | _, _ => none) = some E := h
      split at h
      · rename_i A l h1 h2
        cases h
        exact snd_cmp v hf (hf _ _ h1) h2
      · cases h
    case IfExp t a b pos =>
      replace h : (match (generalizing := false) trE m c t, trE m c a, trE m c b with
        | some t, some a, some b => some (VI.E.ite t a b)
        | _, _, _ => none) = some E := h
      split at h
      · rename_i T A B h1 h2 h3
        cases h
        exact ⟨rfl, rfl, rfl, snd_ite v (hf _ _ h1).C (hf _ _ h2).D (hf _ _ h3).D, tst_ite (hf _ _ h1).C (hf _ _ h2).C (hf _ _ h3).C, fun i hi => by cases hi⟩
      · cases h
    case Tuple es kk pos =>
      replace h : (trSpl (trE m c) es).map VI.E.tup = some E := h
      simp only [Option.map_eq_some_iff] at h
      obtain ⟨l, h1, rfl⟩ := h
      exact mkSnd v rfl rfl rfl (snd_tup v.K (trSpl_A2 hf h1)) (fun _ => rfl) (fun _ _ => rfl) fun i hi => by cases hi
    case List es pos =>
      replace h : (trSpl (trE m c) es).map VI.E.lst = some E := h
      simp only [Option.map_eq_some_iff] at h
      obtain ⟨l, h1, rfl⟩ := h
      exact mkSnd v rfl rfl rfl (snd_lst v.K (trSpl_A2 hf h1)) (fun _ => rfl) (fun _ _ => rfl) fun i hi => by cases hi
    case Subscript a b pos => exact snd_sub v hf (show trSub (trE m c) a b = some E from h)
    case ListComp el gs scope pos =>
      replace h : (if L2.blkC c.N c.sc scope (ownOf c.N scope) then (match (generalizing := false) gs with
        | [g] => (match trE m { c with sc := scope, lm := false } el, trGen c { c with sc := scope, lm := false } (trE m c) (trE m { c with sc := scope, lm := false }) g with
          | some e, some g => some (VI.E.lc e ((ownOf c.N scope).map (·.2)) [g])
          | _, _ => none)
        | [g, g2] => (match trE m { c with sc := scope, lm := false } el, trGen c { c with sc := scope, lm := false } (trE m c) (trE m { c with sc := scope, lm := false }) g, trGen { c with sc := scope, lm := false } { c with sc := scope, lm := false } (trE m { c with sc := scope, lm := false }) (trE m { c with sc := scope, lm := false }) g2 with
          | some e, some g, some g2 => some (.lc e ((ownOf c.N scope).map (·.2)) [g, g2])
          | _, _, _ => none)
        | _ => none) else none) = some E := h
      split at h
      · rename_i hb
        have ok := v.blkOk hb
        have hf2 : ∀ {Y : Cx} {W' : WX}, Ev p C { c with sc := scope, lm := false } W' k Y → ∀ e E, trE m { c with sc := scope, lm := false } e = some E → Snd Y p W' C e E := fun {Y W'} y e E h => snd m h y
        split at h
        · rename_i g
          split at h
          · rename_i e' r h1 h2
            cases h
            obtain ⟨t, it, as, cs, rfl, G⟩ := gen_ok (p := p) (C := C) h2
            have hv : ∀ i ∈ t.vars, i ∈ (ownOf c.N scope).map (·.2) := vars_own G.tg
            obtain ⟨gt, gi, gc, ga⟩ := g
            cases (show ga = 0 from G.sync)
            refine mkSnd v rfl rfl rfl (fun n => ?_) (fun _ => rfl) (fun _ _ => rfl) fun i hi => by cases hi
            cases n with
            | zero => exact tO_bad fun _ => ⟨0, rfl⟩
            | succ n =>
              cases hlam : C.lamr.isSome with
              | true => exact ⟨fun pins s σ H Q I q => by rw [(lc1_read hv q).1] at hlam; cases hlam⟩
              | false =>
                refine PE.weak (pe_lc v.calm (by rw [v.N]; exact v.nd) (snd_it v hf G.itr G.fit n) ok (fun s H D cl fp => pg_T (v.blk hlam s H D cl fp) gt G.tg)
                  (fun s H D cl fp => pts_of ((trAll_A2 G.ifs).imp fun e E h => (hf2 (v.blk hlam s H D cl fp) e E h).C) G.few) (fun s H D cl fp => (hf2 (v.blk hlam s H D cl fp) _ _ h1).O n)
                  (noFold (it_noSet (fun e E h => (hf e E h).set) G.itr))) fun σ H Q q => (lc1_read hv q).2
          · cases h
        · rename_i g g2
          split at h
          · rename_i e' r r2 h1 h2 h3
            cases h
            obtain ⟨t, it, as, cs, rfl, G⟩ := gen_ok (p := p) (C := C) h2
            obtain ⟨t2, it2, as2, cs2, rfl, G2⟩ := gen_ok (p := p) (C := C) h3
            have hv : ∀ i ∈ t.vars, i ∈ (ownOf c.N scope).map (·.2) := vars_own G.tg
            have hv2 : ∀ i ∈ t2.vars, i ∈ (ownOf c.N scope).map (·.2) := vars_own G2.tg
            obtain ⟨gt, gi, gc, ga⟩ := g
            obtain ⟨gt2, gi2, gc2, ga2⟩ := g2
            cases (show ga = 0 from G.sync)
            cases (show ga2 = 0 from G2.sync)
            refine mkSnd v rfl rfl rfl (fun n => ?_) (fun _ => rfl) (fun _ _ => rfl) fun i hi => by cases hi
            cases n with
            | zero => exact tO_bad fun _ => ⟨0, rfl⟩
            | succ n =>
              cases hlam : C.lamr.isSome with
              | true => exact ⟨fun pins s σ H Q I q => by rw [(lc2_read hv hv2 q).1] at hlam; cases hlam⟩
              | false =>
                refine PE.weak (pe_lc2 v.calm (by rw [v.N]; exact v.nd) (snd_it v hf G.itr G.fit n) ok hv2 (fun s H D cl fp => pg_T (v.blk hlam s H D cl fp) gt G.tg)
                  (fun s H D cl fp => pts_of ((trAll_A2 G.ifs).imp fun e E h => (hf2 (v.blk hlam s H D cl fp) e E h).C) G.few)
                  (fun s H D cl fp => snd_it (v.blk hlam s H D cl fp) (hf2 (v.blk hlam s H D cl fp)) G2.itr G2.fit n) (fun s H D cl fp => pg_T (v.blk hlam s H D cl fp) gt2 G2.tg)
                  (fun s H D cl fp => pts_of ((trAll_A2 G2.ifs).imp fun e E h => (hf2 (v.blk hlam s H D cl fp) e E h).C) G2.few) (fun s H D cl fp => (hf2 (v.blk hlam s H D cl fp) _ _ h1).O n)
                  (noFold (it_noSet (fun e E h => (hf e E h).set) G.itr)) (fun env => noFold (it_noSet (fun e E h => trE_noSet h) G2.itr))) fun σ H Q q => (lc2_read hv hv2 q).2
          · cases h
        · cases h
      · cases h
    case Call f as kws cp =>
      replace h : (if kws.isEmpty = false ∨ as.any isStar then none else (match (generalizing := false) f with
        | .Name x _ => if nmOk x then (match c.slot x with
          | some i => (trAll (trE m c) as).map (.lcall i)
          | none => (match c.glob x with
            | some (n, .fn) => (match (generalizing := false) lamArg as with
              | some (ps, body, scope) => if LamX.lamSB c.sc scope = true ∧ noArgs ps = true ∧ c.lm = true ∧ c.tx.ls.contains x = true then
                  trLam (trE m { c with sc := scope, lm := false }) n body else none
              | none => (trAll (trE m c) as).map (.call n))
            | some _ => none
            | none => if c.blt x then trBlt c (trE m c) x as else none)) else none
        | .Attribute o mth ap => if (ap.endLine == cp.line) = true then trMeth c (trE m c) o mth as else none
        | _ => none)) = some E := h
      split at h
      · cases h
      · rename_i hk
        have hkw : kws = [] := by
          cases kws with
          | nil => rfl
          | cons _ _ => exact absurd (.inl rfl) hk
        subst hkw
        split at h
        · rename_i x p1
          split at h
          · rename_i hn
            obtain ⟨hn1, hn2⟩ := nm_ok hn
            split at h
            · rename_i i hi
              simp only [Option.map_eq_some_iff] at h
              obtain ⟨l, h1, rfl⟩ := h
              obtain ⟨k1, k2⟩ := v.slot hi
              exact mkSnd v rfl rfl rfl (snd_lcall v k1 k2 hn1 hn2 (trAll_snd hf h1)) (fun _ => rfl) (fun _ _ => rfl) fun i hi => by cases hi
            · split at h
              · rename_i n hg
                split at h
                · rename_i ps body scope hla
                  split at h
                  · rename_i hc
                    obtain ⟨c1, c2, c3, c4⟩ := hc
                    unfold lamArg at hla
                    split at hla
                    · rename_i ps' body' scope' lpos
                      cases hla
                      unfold trLam at h
                      have hB : ∀ {F : VI.E} {l : List VI.E}, trE m { c with sc := scope, lm := false } body = some (mkCall F l) → ∀ {Y : Cx} {W' : WX}, Ev p C { c with sc := scope, lm := false } W' k Y → VO Y p W' C body (mkCall F l) := fun {F l} h {Y W'} y => (snd m h y).O
                      split at h
                      · rename_i g l h1
                        cases h
                        exact mkSnd v rfl rfl rfl (snd_lam v hg hn1 c3 c4 c1 c2 (hB (F := .glob g) (l := l) h1)) (fun _ => rfl) (fun _ _ => rfl) fun i hi => by cases hi
                      · rename_i i l h1
                        cases h
                        exact mkSnd v rfl rfl rfl (snd_lam v hg hn1 c3 c4 c1 c2 (hB (F := .loc i) (l := l) h1)) (fun _ => rfl) (fun _ _ => rfl) fun i hi => by cases hi
                      · cases h
                    · cases hla
                  · cases h
                · simp only [Option.map_eq_some_iff] at h
                  obtain ⟨l, h1, rfl⟩ := h
                  exact mkSnd v rfl rfl rfl (snd_call v hg hn1 (trAll_snd hf h1)) (fun _ => rfl) (fun _ _ => rfl) fun i hi => by cases hi
              · cases h
              · split at h
                · rename_i hb
                  exact snd_blt v hf hb h
                · cases h
          · cases h
        · rename_i o mth ap
          split at h
          · rename_i hl
            exact snd_meth v hf hl h
          · cases h
        · cases h
end VI
end

section
set_option Elab.async false
set_option linter.all false
set_option maxRecDepth 10000
/-! VI19: statements. -/
namespace VI
open PySem PySem.Spec PyProof.Rows L2

/-- the slots that stay keep their values -/
def IoK (io : List Nat) (σ σ' : L2.St) : Prop := ∀ j ∈ io, σ'[j]? = σ[j]?
theorem IoK.rfl' {io : List Nat} {σ : L2.St} : IoK io σ σ := fun _ _ => rfl
theorem IoK.tr {io : List Nat} {σ σ1 σ2 : L2.St} (a : IoK io σ σ1) (b : IoK io σ1 σ2) : IoK io σ σ2 := fun j h => (b j h).trans (a j h)
/-- what is wanted behind a statement -/
def CoS (p : Pl) (io : List Nat) (W : WX) (D : Ends) (σ : L2.St) (Z H : Hp) (F : List Addr) (r : R Fl) : Prop := match r with
  | .ok f ρ => match f with
    | .next => ∀ σ' H' Z' Fs, IoK io σ σ' → Tr Z H F Z' H' (List.flatten Fs) → Good p Z' H' (List.flatten Fs) → SL p Z' H' ρ σ' Fs → D.nx σ' H'
    | .brk => ∀ σ' H' Z' Fs, IoK io σ σ' → Tr Z H F Z' H' (List.flatten Fs) → Good p Z' H' (List.flatten Fs) → SL p Z' H' ρ σ' Fs → D.bk σ' H'
    | .cont => ∀ σ' H' Z' Fs, IoK io σ σ' → Tr Z H F Z' H' (List.flatten Fs) → Good p Z' H' (List.flatten Fs) → SL p Z' H' ρ σ' Fs → D.ct σ' H'
    | .ret o => ∀ v σ' H' Z' Fs G, IoK io σ σ' → Tr Z H F Z' H' (G ++ List.flatten Fs) → Good p Z' H' (G ++ List.flatten Fs) → SL p Z' H' ρ σ' Fs → RO p Z' H' o v G → D.rt v H'
  | .ex c d ρ => ∀ σ', IoK io σ σ' → ExOk p W σ' Z H F c d ρ
  | .bad _ => False
def tS (p : Pl) (io : List Nat) (W : WX) (r : VI.St → R Fl) : TS := fun D σ H => ∃ Z ρ Fs, Good p Z H (List.flatten Fs) ∧ SL p Z H ρ σ Fs ∧ CoS p io W D σ Z H (List.flatten Fs) (r ρ)
section
variable {p : Pl} {io : List Nat} {W : WX} {D : Ends} {σ σ1 : L2.St} {Z H Z1 H1 : Hp} {F F1 : List Addr}
theorem CoS.tr {r : R Fl} (k : IoK io σ σ1) (t : Tr Z H F Z1 H1 F1) (h : CoS p io W D σ Z H F r) : CoS p io W D σ1 Z1 H1 F1 r := by
  cases r with
  | ok f ρ =>
    cases f with
    | next => exact fun σ' H' Z' Fs a b g s => h σ' H' Z' Fs (k.tr a) (t.trans b) g s
    | brk => exact fun σ' H' Z' Fs a b g s => h σ' H' Z' Fs (k.tr a) (t.trans b) g s
    | cont => exact fun σ' H' Z' Fs a b g s => h σ' H' Z' Fs (k.tr a) (t.trans b) g s
    | ret o => exact fun v σ' H' Z' Fs G a b g s r => h v σ' H' Z' Fs G (k.tr a) (t.trans b) g s r
  | ex c d ρ => exact fun σ' a => ExOk.tr t (h σ' (k.tr a))
  | bad n => exact h
/-- an expression ahead of the statement's rest -/
theorem CoS.bindV {α β : Type} {Rel : Hp → Hp → α → β → Prop} {r : R α} {f : α → VI.St → R Fl} {Q1 : β → Hp → Prop} (h : CoS p io W D σ Z H F (r.bind f))
    (k : ∀ a ρ b H1 Z1 Fs, Tr Z H F Z1 H1 (List.flatten Fs) → Good p Z1 H1 (List.flatten Fs) → SL p Z1 H1 ρ σ Fs → Rel Z1 H1 a b → CoS p io W D σ Z1 H1 (List.flatten Fs) (f a ρ) → Q1 b H1) : CoV p W σ Rel Z H F r Q1 := by
  cases r with
  | ok a ρ => exact fun b H1 Z1 Fs t g s e => k a ρ b H1 Z1 Fs t g s e (CoS.tr IoK.rfl' t h)
  | ex c d ρ => exact h σ IoK.rfl'
  | bad n => exact h
theorem CoS.bindO {r : R O} {f : O → VI.St → R Fl} {Q1 : VK} (h : CoS p io W D σ Z H F (r.bind f))
    (k : ∀ o ρ v H1 Z1 Fs G, Tr Z H F Z1 H1 (G ++ List.flatten Fs) → Good p Z1 H1 (G ++ List.flatten Fs) → SL p Z1 H1 ρ σ Fs → RO p Z1 H1 o v G → CoS p io W D σ Z1 H1 (G ++ List.flatten Fs) (f o ρ) → Q1 v H1) : CoO p W σ Z H F r Q1 := by
  cases r with
  | ok a ρ => exact fun v H1 Z1 Fs G t g s e => k a ρ v H1 Z1 Fs G t g s e (CoS.tr IoK.rfl' t h)
  | ex c d ρ => exact h σ IoK.rfl'
  | bad n => exact h
theorem CoS.ofO {α : Type} {o : Option α} {k : Nat} {ρ : VI.St} {f : α → VI.St → R Fl} (h : CoS p io W D σ Z H F ((VI.ofO o k ρ).bind f)) : ∃ a, o = some a ∧ CoS p io W D σ Z H F (f a ρ) := by
  cases o with
  | some a => exact ⟨a, rfl, h⟩
  | none => exact (show False from h).elim
theorem CoS.next {ρ : VI.St} {Fs : List (List Addr)} (h : CoS p io W D σ Z H (List.flatten Fs) (.ok .next ρ)) (g : Good p Z H (List.flatten Fs)) (s : SL p Z H ρ σ Fs) : D.nx σ H := h σ H Z Fs IoK.rfl' Tr.id g s
end
theorem PSs.weak {X : Cx} {e : List Stmt} {t t' : TS} (h : PSs X e t) (k : ∀ D σ H, t' D σ H → t D σ H) : PSs X e t' := ⟨fun pins s σ H D I q => h.run pins s σ H D I (k D σ H q)⟩
theorem tS_bad {p : Pl} {io : List Nat} {W : WX} {X : Cx} {e : Stmt} {r : VI.St → R Fl} (h : ∀ ρ, ∃ n, r ρ = .bad n) : PS X e (tS p io W r) := ⟨fun pins s σ H D I q => by
  obtain ⟨Z, ρ, Fs, g, sl, q⟩ := q
  obtain ⟨n, hn⟩ := h ρ
  rw [hn] at q
  exact (show False from q).elim⟩
section
variable {p : Pl} {C : Cfg} {c : Sc} {W : WX} {k : Nat} {X : Cx}
abbrev VS (X : Cx) (p : Pl) (W : WX) (C : Cfg) (e : Stmt) (s : S) : Prop := ∀ n, PS X e (tS p C.io W (evS C n s))
abbrev VSs (X : Cx) (p : Pl) (W : WX) (C : Cfg) (e : List Stmt) (s : List S) : Prop := ∀ n, PSs X e (tS p C.io W (evSs C n s))
/-! ### lists of statements -/
theorem pss_all {n : Nat} : ∀ {l : List Stmt} {ss : List S}, A2 (VS X p W C) l ss → PSs X l (tS p C.io W (evSs C n ss)) := by
  induction n with
  | zero => exact fun {l ss} _ => ⟨fun pins s σ H D I q => by
      obtain ⟨Z, ρ, Fs, g, sl, q⟩ := q
      exact (show False from q).elim⟩
  | succ n ih =>
    intro l ss h
    cases h with
    | nil =>
      refine PSs.weak pss_nil fun D σ H q => ?_
      obtain ⟨Z, ρ, Fs, g, s, q⟩ := q
      exact CoS.next q g s
    | cons h t =>
      rename_i e S0 l ss
      refine PSs.weak (pss_cons (h n) (ih t)) fun D σ H q => ?_
      obtain ⟨Z, ρ, Fs, g, s, q⟩ := q
      have q : CoS p C.io W D σ Z H (List.flatten Fs) ((evS C n S0 ρ).bind fun f s => (match f with
        | .next => evSs C n ss s
        | f => .ok f s)) := q
      refine ⟨Z, ρ, Fs, g, s, ?_⟩
      cases hr : evS C n S0 ρ with
      | bad m => rw [hr] at q; exact q
      | ex c d ρ' => rw [hr] at q; exact q
      | ok f ρ' =>
        rw [hr] at q
        cases f with
        | next => exact fun σ' H' Z' Fs' k t g' s' => ⟨Z', ρ', Fs', g', s', CoS.tr k t q⟩
        | brk => exact q
        | cont => exact q
        | ret o => exact q
theorem vss_of {l : List Stmt} {ss : List S} (h : A2 (VS X p W C) l ss) : VSs X p W C l ss := fun n => pss_all h

/-! ### simple statements -/
theorem stm_expr (v : Ev p C c W k X) {e : Expr} {E : VI.E} {pos : Pos} (hs : swapsWith e none pos.line X.env = pure false) (h : Snd X p W C e E) : VS X p W C (.Expr e pos) (.expr E)
  | 0 => tS_bad fun _ => ⟨0, rfl⟩
  | n + 1 => by
    refine PS.weak (ps_expr (h.O n) hs) fun D σ H q => ?_
    obtain ⟨Z, ρ, Fs, g, s, q⟩ := q
    have q : CoS p C.io W D σ Z H (List.flatten Fs) ((evE C n E ρ).bind fun _ s => .ok .next s) := q
    refine ⟨Z, ρ, Fs, g, s, CoS.bindO q fun o ρ1 v H1 Z1 F1 G t g1 s1 r q1 => ?_⟩
    exact q1 σ H1 Z1 F1 IoK.rfl' (Tr.id.sub fun x hx => List.mem_append_right _ hx) g1.onlyR s1
theorem stm_if (v : Ev p C c W k X) {t : Expr} {T : VI.E} {a b : List Stmt} {A B : List S} {pos : Pos} (ht : Snd X p W C t T) (ha : A2 (VS X p W C) a A) (hb : A2 (VS X p W C) b B) : VS X p W C (.If t a b pos) (.ife T A B)
  | 0 => tS_bad fun _ => ⟨0, rfl⟩
  | n + 1 => by
    refine PS.weak (ps_if (ht.C n) (pss_all (n := n) ha) (pss_all (n := n) hb)) fun D σ H q => ?_
    obtain ⟨Z, ρ, Fs, g, s, q⟩ := q
    have q : CoS p C.io W D σ Z H (List.flatten Fs) ((evC C n T ρ).bind fun t s => if t then evSs C n A s else evSs C n B s) := q
    refine ⟨Z, ρ, Fs, g, s, CoS.bindV q fun t ρ1 b H1 Z1 F1 t1 g1 s1 r1 q1 => ?_⟩
    cases (show t = b from r1)
    cases t with
    | true => exact ⟨Z1, ρ1, F1, g1, s1, q1⟩
    | false => exact ⟨Z1, ρ1, F1, g1, s1, q1⟩
theorem stm_ret (v : Ev p C c W k X) {e : Expr} {E : VI.E} {pos : Pos} (h : Snd X p W C e E) : VS X p W C (.Return (some e) pos) (.ret (some E))
  | 0 => tS_bad fun _ => ⟨0, rfl⟩
  | n + 1 => by
    by_cases hi : ∃ i, E = .loc i
    · obtain ⟨i, rfl⟩ := hi
      obtain ⟨x, p1, rfl, h1, h2, h3, h4⟩ := h.loc i rfl
      refine PS.weak (ps_ret (pe_var h1 h2 h3 h4)) fun D σ H q => ?_
      obtain ⟨Z, ρ, Fs, g, s, q⟩ := q
      have q : CoS p C.io W D σ Z H (List.flatten Fs) (if C.io.contains i then (rdLoc i ρ).bind fun d s => .ok (.ret (.fz d)) s else (match ρ[i]? with
        | some (some o) => .ok (.ret o) (ρ.set i none)
        | _ => .bad 57)) := q
      split at q
      · cases hr : rdLoc i ρ with
        | bad m => rw [hr] at q; exact (show False from q).elim
        | ex c d s =>
          exfalso
          unfold rdLoc at hr
          split at hr <;> cases hr
        | ok d ρ1 =>
          rw [hr] at q
          obtain ⟨v0, Z1, G1, k1, k2, k3, k4, k5⟩ := rd_loc g s hr
          exact ⟨v0, k1, q v0 σ H Z1 G1 [] IoK.rfl' k2 k3 k4 (RO.fz k5)⟩
      · split at q
        · rename_i o eo
          obtain ⟨v0, A, B, D', k1, k2, k3, k4⟩ := s.at eo
          refine ⟨v0, k1, ?_⟩
          obtain ⟨Gs, m1, m2⟩ := k4.out Z H Le.rfl' (fun _ _ => rfl) (some v0)
          rw [set_same k1] at m2
          have nd := g.nd
          rw [k2] at nd
          have perm : (A ++ (B ++ D')).Perm (B ++ (A ++ D')) := by
            rw [← List.append_assoc, ← List.append_assoc]
            exact List.Perm.append_right _ List.perm_append_comm
          have sub : ∀ x ∈ B ++ List.flatten Gs, x ∈ List.flatten Fs := fun x hx => by rw [m1] at hx; rw [k2]; exact perm.mem_iff.mpr hx
          have nd2 : (B ++ List.flatten Gs).Nodup := by rw [m1]; exact perm.nodup_iff.mp nd
          exact q v0 σ H Z Gs B IoK.rfl' (Tr.id.sub sub) (g.sub sub nd2) m2 k3
        · exact (show False from q).elim
    · refine PS.weak (ps_ret (h.O n)) fun D σ H q => ?_
      obtain ⟨Z, ρ, Fs, g, s, q⟩ := q
      have e1 : evS C (n + 1) (.ret (some E)) ρ = (evE C n E ρ).bind fun o s => .ok (.ret o) s := by
        cases E <;> first | rfl | exact absurd ⟨_, rfl⟩ hi
      rw [e1] at q
      refine ⟨Z, ρ, Fs, g, s, CoS.bindO q fun o ρ1 v H1 Z1 F1 G t g1 s1 r q1 => ?_⟩
      exact q1 v σ H1 Z1 F1 G IoK.rfl' Tr.id g1 s1 r
theorem stm_retN {pos : Pos} : VS X p W C (.Return none pos) (.ret none)
  | 0 => tS_bad fun _ => ⟨0, rfl⟩
  | n + 1 => by
    refine PS.weak ps_retN fun D σ H q => ?_
    obtain ⟨Z, ρ, Fs, g, s, q⟩ := q
    exact q .non σ H Z Fs [] IoK.rfl' Tr.id g s (RO.fz non_rd)
theorem stm_pass {pos : Pos} : VS X p W C (.Pass pos) .pass
  | 0 => tS_bad fun _ => ⟨0, rfl⟩
  | n + 1 => PS.weak ps_pass fun D σ H q => by
    obtain ⟨Z, ρ, Fs, g, s, q⟩ := q
    exact CoS.next q g s
theorem stm_brk {pos : Pos} : VS X p W C (.Break pos) .brk
  | 0 => tS_bad fun _ => ⟨0, rfl⟩
  | n + 1 => PS.weak ps_break fun D σ H q => by
    obtain ⟨Z, ρ, Fs, g, s, q⟩ := q
    exact q σ H Z Fs IoK.rfl' Tr.id g s
theorem stm_cont {pos : Pos} : VS X p W C (.Continue pos) .cont
  | 0 => tS_bad fun _ => ⟨0, rfl⟩
  | n + 1 => PS.weak ps_continue fun D σ H q => by
    obtain ⟨Z, ρ, Fs, g, s, q⟩ := q
    exact q σ H Z Fs IoK.rfl' Tr.id g s
/-! ### stores -/
/-- an owned value is stored at a name -/
theorem store_own {D : Ends} {i : Nat} {o : O} {ρ : VI.St} {σ : L2.St} {Z H : Hp} {Fs : List (List Addr)} {G : List Addr} {v : V} (g : Good p Z H (G ++ List.flatten Fs)) (s : SL p Z H ρ σ Fs) (r : RO p Z H o v G)
    (q : CoS p C.io W D σ Z H (G ++ List.flatten Fs) ((stLoc C i o ρ).bind fun _ s => .ok .next s)) : D.nx (σ.set i (some v)) H := by
  cases hr : stLoc C i o ρ with
  | bad m => rw [hr] at q; exact (show False from q).elim
  | ex c d s =>
    exfalso
    unfold stLoc at hr
    split at hr
    · cases hr
    · split at hr <;> cases hr
  | ok u ρ1 =>
    rw [hr] at q
    obtain ⟨Fs', f1, f2, f3⟩ := st_loc g s r hr
    have hio : ¬ C.io.contains i = true := fun z => by
      unfold stLoc at hr
      rw [if_pos z] at hr
      cases hr
    refine q _ H Z Fs' (fun j hj => ?_) (Tr.id.sub f1) (g.sub f1 f2) f3
    exact List.getElem?_set_ne fun e => hio (by rw [e]; simpa using hj)
theorem stm_name (v : Ev p C c W k X) {x : Str} {i : Nat} {e : Expr} {E : VI.E} {p1 pos : Pos} (hN : X.N[i]? = some x) (hx : Loc X.env.scope x) (hf : X.fn x = true ∨ X.env.scope.names.lookup x = some .local) (he : VO X p W C e E) (hs : swapsWith e (some (.Name x p1)) pos.line X.env = pure false) : VS X p W C (.Assign [.Name x p1] e pos) (.asg (.name i) E)
  | 0 => tS_bad fun _ => ⟨0, rfl⟩
  | n + 1 => by
    refine PS.weak (ps_set (by rw [v.N]; exact v.nd) hN hx (he n) hs hf) fun D σ H q => ?_
    obtain ⟨Z, ρ, Fs, g, s, q⟩ := q
    have q : CoS p C.io W D σ Z H (List.flatten Fs) ((evE C n E ρ).bind fun o s => (stLoc C i o s).bind fun _ s => .ok .next s) := q
    exact ⟨Z, ρ, Fs, g, s, CoS.bindO q fun o ρ1 v H1 Z1 F1 G t g1 s1 r q1 => store_own g1 s1 r q1⟩
mutual
theorem asg_io {C : Cfg} : ∀ {t : T} {d : D} {ρ ρ' : VI.St} {u : Unit}, asgT C t d ρ = .ok u ρ' → ∀ i ∈ t.vars, C.io.contains i = false
  | .name j, d, ρ, ρ', u, h, i, hi => by
    simp only [T.vars, List.mem_singleton] at hi
    subst hi
    have h : stLoc C i (.fz d) ρ = .ok u ρ' := h
    unfold stLoc at h
    split at h
    · cases h
    · rename_i z
      simpa using z
  | .tup ts, d, ρ, ρ', u, h, i, hi => by
    cases d <;> first
      | (cases h; done)
      | skip
    exact asgs_io (show asgTs C ts _ ρ = .ok u ρ' from h) i hi
  | .sub _, d, ρ, ρ', u, h, i, hi => by cases hi
  | .attr _ _, d, ρ, ρ', u, h, i, hi => by cases hi
theorem asgs_io {C : Cfg} : ∀ {ts : List T} {ds : List D} {ρ ρ' : VI.St} {u : Unit}, asgTs C ts ds ρ = .ok u ρ' → ∀ i ∈ T.varsL ts, C.io.contains i = false
  | [], ds, ρ, ρ', u, h, i, hi => by cases hi
  | t :: ts, ds, ρ, ρ', u, h, i, hi => by
    cases ds with
    | nil => cases h
    | cons d ds =>
      have h : (match asgT C t d ρ with
        | .ok _ s => asgTs C ts ds s
        | .ex c p s => .ex c p s
        | .bad n => .bad n) = R.ok u ρ' := h
      split at h
      · rename_i u1 ρ1 e
        rcases List.mem_append.mp (show i ∈ t.vars ++ T.varsL ts from hi) with hi | hi
        · exact asg_io e i hi
        · exact asgs_io h i hi
      · cases h
      · cases h
end
mutual
theorem asg_noex {C : Cfg} : ∀ {t : T} {d : D} {ρ ρ' : VI.St} {c : Nat} {e : D}, asgT C t d ρ = .ex c e ρ' → False
  | .name j, d, ρ, ρ', c, e, h => by
    have h : stLoc C j (.fz d) ρ = .ex c e ρ' := h
    unfold stLoc at h
    split at h
    · cases h
    · split at h <;> cases h
  | .tup ts, d, ρ, ρ', c, e, h => by
    cases d <;> first
      | (cases h; done)
      | skip
    exact asgs_noex (show asgTs C ts _ ρ = .ex c e ρ' from h)
  | .sub _, d, ρ, ρ', c, e, h => by cases h
  | .attr _ _, d, ρ, ρ', c, e, h => by cases h
theorem asgs_noex {C : Cfg} : ∀ {ts : List T} {ds : List D} {ρ ρ' : VI.St} {c : Nat} {e : D}, asgTs C ts ds ρ = .ex c e ρ' → False
  | [], ds, ρ, ρ', c, e, h => by cases ds <;> cases h
  | t :: ts, [], ρ, ρ', c, e, h => by cases h
  | t :: ts, d :: ds, ρ, ρ', c, e, h => by
    have h : (match asgT C t d ρ with
      | .ok _ s => asgTs C ts ds s
      | .ex c p s => .ex c p s
      | .bad n => .bad n) = R.ex c e ρ' := h
    split at h
    · exact asgs_noex h
    · rename_i e1
      exact asg_noex e1
    · cases h
end
/-- the slots beside the target stay -/
theorem keep_io {io vars : List Nat} {σ σ' : L2.St} (h : ∀ vs : List Nat, (∀ i ∈ vars, i ∈ vs) → wipe σ' vs = wipe σ vs) (n : ∀ i ∈ vars, io.contains i = false) : IoK io σ σ' := fun j hj => by
  have hn : j ∉ vars := fun hm => by
    have := n j hm
    rw [List.contains_iff_mem.mpr hj] at this
    cases this
  have e := congrArg (fun l => l[j]?) (h vars fun i h => h)
  simp only [wipe_get, if_neg hn] at e
  exact e
/-- a target's store ahead of the statement's rest -/
theorem store_T {D : Ends} {t : T} {f : VI.St → R Fl} {d : VI.D} {x : V} {ρ : VI.St} {σ : L2.St} {Z H : Hp} {Fs : List (List Addr)} {Q : L2.St → Hp → Prop} (g : Good p Z H (List.flatten Fs)) (s : SL p Z H ρ σ Fs) (r : RD p Z d x)
    (q : CoS p C.io W D σ Z H (List.flatten Fs) ((asgT C t d ρ).bind fun _ s => f s)) (k : ∀ σ' ρ' Fs', IoK C.io σ σ' → Good p Z H (List.flatten Fs') → SL p Z H ρ' σ' Fs' → CoS p C.io W D σ' Z H (List.flatten Fs') (f ρ') → Q σ' H) : tG p (asgT C t) t.vars x σ H Q := by
  refine ⟨Z, ρ, Fs, d, g, s, r, ?_⟩
  cases hr : asgT C t d ρ with
  | bad m => rw [hr] at q; exact (show False from q).elim
  | ex c d s => exact (asg_noex hr).elim
  | ok u ρ1 =>
    rw [hr] at q
    intro σ' Fs' f1 f2 f3 f4
    have io := keep_io f4 (asg_io hr)
    exact k σ' ρ1 Fs' io (g.sub f1 f2) f3 (CoS.tr io (Tr.id.sub f1) q)
theorem stm_asg (v : Ev p C c W k X) {tg e : Expr} {t : T} {E : VI.E} {pos : Pos} (ht : trT c tg = some t) (hn : ∀ i, t ≠ .name i) (he : Snd X p W C e E) (hs : swapsWithSole [tg] e pos.line X.env = pure false) (hw : swappedStores [tg] e X.env = pure none) (h1 : (assignEach [tg] X.env).map (·.2) = [assign tg X.env]) : VS X p W C (.Assign [tg] e pos) (.asg t E)
  | 0 => tS_bad fun _ => ⟨0, rfl⟩
  | n + 1 => by
    refine PS.weak (ps_asg (he.D n) (pg_T v tg ht) hs hw h1) fun D σ H q => ?_
    obtain ⟨Z, ρ, Fs, g, s, q⟩ := q
    have e1 : evS C (n + 1) (.asg t E) ρ = (evD C n E ρ).bind fun d s => (asgT C t d s).bind fun _ s => .ok .next s := by
      cases t <;> first | rfl | exact absurd rfl (hn _)
    rw [e1] at q
    exact ⟨Z, ρ, Fs, g, s, CoS.bindV q fun d ρ1 x H1 Z1 F1 t1 g1 s1 r1 q1 => store_T (f := fun s => .ok .next s) g1 s1 r1 q1 fun σ' ρ' Fs' io g' s' q' => CoS.next q' g' s'⟩
end
end VI
end

section
set_option Elab.async false
set_option linter.all false
set_option maxRecDepth 10000
/-! VI20: loops, stores in lists, raise. -/
namespace VI
open PySem PySem.Spec PyProof.Rows L2

section
variable {p : Pl} {C : Cfg} {c : Sc} {W : WX} {k : Nat} {X : Cx}
/-! ### for -/
def forB (C : Cfg) (n : Nat) (t : T) (b : List S) (d : D) (s : VI.St) : R Fl := (asgT C t d s).bind fun _ s => evSs C n b s
theorem stm_for (v : Ev p C c W k X) (hp : PassesOwn (model X.prog X.w) X.A X.env X.xe) {tg iter : Expr} {t : T} {it : VI.It} {as : List VI.E} {body : List Stmt} {b : List S} {pos : Pos} (ht : trT c tg = some t) (hi : ∀ n, PI X tg iter (tV p W (relW p) (itRd C n it as))) (hf : noSet iter = true)
    (hb : A2 (VS X p W C) body b) : VS X p W C (.For tg iter body [] pos) (.forr t it as b)
  | 0 => tS_bad fun _ => ⟨0, rfl⟩
  | n + 1 => by
    refine PS.weak (ps_for hp v.calm (hi n) (pg_T v tg ht) (pss_all (n := n) hb) (noFold hf)) fun D σ H q => ?_
    obtain ⟨Z, ρ, Fs, g, s, q⟩ := q
    have q : CoS p C.io W D σ Z H (List.flatten Fs) ((itRd C n it as ρ).bind fun items s => forLoop (forB C n t b) items s) := by
      unfold itRd
      rw [bind_bind]
      exact q
    refine ⟨Z, ρ, Fs, g, s, CoS.bindV q fun items ρ1 J H1 Z1 F1 t1 g1 s1 wk q1 => ?_⟩
    let W1 : Nat → Nat → L2.St → Hp → Prop := fun i m σ H => m = items.length - i ∧ i ≤ items.length ∧ ∃ Z ρ Fs, Good p Z H (List.flatten Fs) ∧ SL p Z H ρ σ Fs ∧ Walks p J items Z ∧ CoS p C.io W D σ Z H (List.flatten Fs) (forLoop (forB C n t b) (items.drop i) ρ)
    refine ⟨W1, ⟨items.length, rfl, Nat.zero_le _, Z1, ρ1, F1, g1, s1, wk, q1⟩, ?_⟩
    rintro i m σ1 H2 ⟨rfl, hi', Z2, ρ2, F2, g2, s2, wk2, q2⟩
    obtain ⟨w1, w2⟩ := wk2 Z2 H2 Le.rfl' g2.zh
    rcases Nat.lt_or_ge i items.length with hlt | hge
    · right
      obtain ⟨d, hd⟩ : ∃ d, items[i]? = some d := ⟨items[i], by rw [List.getElem?_eq_getElem hlt]⟩
      have hdrop : items.drop i = d :: items.drop (i + 1) := by
        rw [List.drop_eq_getElem_cons hlt]
        rw [List.getElem?_eq_getElem hlt] at hd
        cases hd
        rfl
      rw [hdrop] at q2
      obtain ⟨go, yl⟩ := w1 i d hd
      refine ⟨go, fun σ' H' => ∃ m', m' < items.length - i ∧ W1 (i + 1) m' σ' H', fun σ' H' h => h, fun x H' hy => ?_⟩
      obtain ⟨Z', G, kk⟩ := yl x H' hy
      obtain ⟨r1, r2, r3, r4⟩ := kk _ g2 s2.ther
      obtain ⟨rd, rfl⟩ := r3.of_fz
      have s3 : SL p Z' H' ρ2 σ1 F2 := s2.le r1.zle fun b hb => r4 b hb
      have q3 : CoS p C.io W D σ1 Z' H' (List.flatten F2) ((asgT C t d ρ2).bind fun _ s => (evSs C n b s).bind fun r s => match r with
        | .next => forLoop (forB C n t b) (items.drop (i + 1)) s
        | .cont => forLoop (forB C n t b) (items.drop (i + 1)) s
        | .brk => .ok .next s
        | .ret o => .ok (.ret o) s) := by
        have := CoS.tr IoK.rfl' r1 q2
        have e1 : forLoop (forB C n t b) (d :: items.drop (i + 1)) ρ2 = (forB C n t b d ρ2).bind fun r s => match r with
          | .next => forLoop (forB C n t b) (items.drop (i + 1)) s
          | .cont => forLoop (forB C n t b) (items.drop (i + 1)) s
          | .brk => .ok .next s
          | .ret o => .ok (.ret o) s := rfl
        rw [e1] at this
        unfold forB at this
        rw [bind_bind] at this
        exact this
      refine store_T (f := fun s => (evSs C n b s).bind fun r s => match r with
        | .next => forLoop (forB C n t b) (items.drop (i + 1)) s
        | .cont => forLoop (forB C n t b) (items.drop (i + 1)) s
        | .brk => .ok .next s
        | .ret o => .ok (.ret o) s) r2 s3 rd q3 fun σ' ρ' Fs' io g' s' q4 => ?_
      refine ⟨Z', ρ', Fs', g', s', ?_⟩
      cases hr : evSs C n b ρ' with
      | bad m => rw [hr] at q4; exact (show False from q4).elim
      | ex c d s => rw [hr] at q4; exact q4
      | ok f ρ3 =>
        rw [hr] at q4
        have again : CoS p C.io W D σ' Z' H' (List.flatten Fs') (forLoop (forB C n t b) (items.drop (i + 1)) ρ3) → ∀ σ2 H3 Z3 F3, IoK C.io σ' σ2 → Tr Z' H' (List.flatten Fs') Z3 H3 (List.flatten F3) → Good p Z3 H3 (List.flatten F3) → SL p Z3 H3 ρ3 σ2 F3 → ∃ m', m' < items.length - i ∧ W1 (i + 1) m' σ2 H3 :=
          fun q5 σ2 H3 Z3 F3 a1 a2 a3 a4 => ⟨items.length - (i + 1), by omega, rfl, hlt, Z3, ρ3, F3, a3, a4, fun Z4 H4 l1 l2 => wk2 Z4 H4 ((r1.zle.tr a2.zle).tr l1) l2, CoS.tr a1 a2 q5⟩
        cases f with
        | next => exact again q4
        | cont => exact again q4
        | brk => exact q4
        | ret o => exact q4
    · left
      obtain rfl : i = items.length := by omega
      rw [List.drop_eq_nil_of_le (Nat.le_refl _)] at q2
      exact ⟨w2, CoS.next q2 g2 s2⟩
/-! ### while -/
theorem stm_while (v : Ev p C c W k X) (hp : PassesOwn (model X.prog X.w) X.A X.env X.xe) {t : Expr} {T : VI.E} {body : List Stmt} {b : List S} {pos : Pos} (ht : Snd X p W C t T) (hb : A2 (VS X p W C) body b) : VS X p W C (.While t body [] pos) (.whil T b)
  | 0 => tS_bad fun _ => ⟨0, rfl⟩
  | n + 1 => by
    refine PS.weak (ps_while hp (ht.C n) (pss_all (n := n) hb)) fun D σ H q => ?_
    obtain ⟨Z, ρ, Fs, g, s, q⟩ := q
    refine ⟨fun m σ H => ∃ Z ρ Fs, Good p Z H (List.flatten Fs) ∧ SL p Z H ρ σ Fs ∧ CoS p C.io W D σ Z H (List.flatten Fs) (whLoop (evC C n T) (evSs C n b) m ρ), ⟨WFUEL, Z, ρ, Fs, g, s, q⟩, ?_⟩
    rintro m σ1 H1 ⟨Z1, ρ1, F1, g1, s1, q1⟩
    cases m with
    | zero => exact (show False from q1).elim
    | succ m =>
      have q1 : CoS p C.io W D σ1 Z1 H1 (List.flatten F1) ((evC C n T ρ1).bind fun b' s => if b' then (evSs C n b s).bind fun r s => (match r with
        | .next => whLoop (evC C n T) (evSs C n b) m s
        | .cont => whLoop (evC C n T) (evSs C n b) m s
        | .brk => .ok .next s
        | .ret o => .ok (.ret o) s) else .ok .next s) := q1
      refine ⟨Z1, ρ1, F1, g1, s1, CoS.bindV q1 fun t ρ2 b' H2 Z2 F2 t2 g2 s2 r2 q2 => ?_⟩
      cases (show t = b' from r2)
      cases t with
      | false => exact CoS.next q2 g2 s2
      | true =>
        have q2 : CoS p C.io W D σ1 Z2 H2 (List.flatten F2) ((evSs C n b ρ2).bind fun r s => (match r with
          | .next => whLoop (evC C n T) (evSs C n b) m s
          | .cont => whLoop (evC C n T) (evSs C n b) m s
          | .brk => .ok .next s
          | .ret o => .ok (.ret o) s)) := q2
        refine ⟨fun σ' H' => ∃ m', m' < m + 1 ∧ ∃ Z ρ Fs, Good p Z H' (List.flatten Fs) ∧ SL p Z H' ρ σ' Fs ∧ CoS p C.io W D σ' Z H' (List.flatten Fs) (whLoop (evC C n T) (evSs C n b) m' ρ), fun σ' H' h => h, Z2, ρ2, F2, g2, s2, ?_⟩
        cases hr : evSs C n b ρ2 with
        | bad m => rw [hr] at q2; exact (show False from q2).elim
        | ex c d s => rw [hr] at q2; exact q2
        | ok f ρ3 =>
          rw [hr] at q2
          cases f with
          | next => exact fun σ2 H3 Z3 F3 a1 a2 a3 a4 => ⟨m, by omega, Z3, ρ3, F3, a3, a4, CoS.tr a1 a2 q2⟩
          | cont => exact fun σ2 H3 Z3 F3 a1 a2 a3 a4 => ⟨m, by omega, Z3, ρ3, F3, a3, a4, CoS.tr a1 a2 q2⟩
          | brk => exact q2
          | ret o => exact q2
/-! ### name op= e -/
theorem stm_aug (v : Ev p C c W k X) {x : Str} {i : Nat} {e : Expr} {E : VI.E} {p1 pos : Pos} {op : Operator} {o : Op} {f : Int → Int → Int} (hN : X.N[i]? = some x) (hx : Loc X.env.scope x) (hf : X.fn x = true ∨ X.env.scope.names.lookup x = some .local) (he : Snd X p W C e E)
    (ho : PIp X op (ipI f)) (hop : ∀ a b, binO o (.int a) (.int b) = some (.fz (.int (f a b)))) : VS X p W C (.AugAssign (.Name x p1) op e pos) (.aug i o E)
  | 0 => tS_bad fun _ => ⟨0, rfl⟩
  | n + 1 => by
    refine PS.weak (ps_aug (by rw [v.N]; exact v.nd) hN hx (he.D n) ho hf) fun D σ H q => ?_
    obtain ⟨Z, ρ, Fs, g, s, q⟩ := q
    have q : CoS p C.io W D σ Z H (List.flatten Fs) (match ρ[i]? with
      | some (some (.fz (.int x))) => (evD C n E ρ).bind fun y s => (match y with
        | .int y => (ofO (binO o (.int x) (.int y)) 54 s).bind fun o s => (stLoc C i o s).bind fun _ s => .ok .next s
        | _ => .bad 55)
      | _ => .bad 55) := q
    split at q
    · rename_i z e1
      obtain ⟨v0, A, B, D', k1, k2, k3, k4⟩ := s.at e1
      have e2 : v0 = .int z := rd_int k3.of_fz.1
      subst e2
      refine ⟨.int z, k1, Z, ρ, Fs, g, s, CoS.bindV q fun y ρ2 w H1 Z1 F1 t1 g1 s1 r1 q1 => ?_⟩
      cases y <;> try exact (show False from q1).elim
      rename_i z2
      have q1 : CoS p C.io W D σ Z1 H1 (List.flatten F1) ((ofO (binO o (.int z) (.int z2)) 54 ρ2).bind fun o s => (stLoc C i o s).bind fun _ s => .ok .next s) := q1
      rw [hop] at q1
      exact ⟨z, z2, rfl, rd_int r1, store_own (G := []) g1 s1 (RO.fz int_rd) q1⟩
    · exact (show False from q).elim
/-! ### x, y = a, b -/
theorem stm_par (v : Ev p C c W k X) {i j : Nat} {x y : Str} {a b : Expr} {A B : VI.E} {px py pt pt2 pos : Pos} {kt k2 : Nat} (hi : X.N[i]? = some x) (hj : X.N[j]? = some y) (hij : i ≠ j) (hx : X.env.scope.names.lookup x = some .local) (hy : X.env.scope.names.lookup y = some .local)
    (hw : swappedStores [.Tuple [.Name x px, .Name y py] kt pt] (.Tuple [a, b] k2 pt2) X.env = pure (some [x, y])) (ha : Snd X p W C a A) (hb : Snd X p W C b B) : VS X p W C (.Assign [.Tuple [.Name x px, .Name y py] kt pt] (.Tuple [a, b] k2 pt2) pos) (.par (.name i) (.name j) A B)
  | 0 => tS_bad fun _ => ⟨0, rfl⟩
  | n + 1 => by
    have ar : PA X [a, b] (tCons (tV p W (relD p) (evD C n A)) (tCons (tV p W (relD p) (evD C n B)) tNil)) := pa_cons (ha.D n) (pa_cons (hb.D n) pa_nil (star_of hb.star)) (star_of ha.star)
    refine PS.weak (ps_par v.calm (by rw [v.N]; exact v.nd) hi hj hij hx hy ar hw) fun D σ H q => ?_
    obtain ⟨Z, ρ, Fs, g, s, q⟩ := q
    have q : CoS p C.io W D σ Z H (List.flatten Fs) ((evD C n A ρ).bind fun x s => (evD C n B s).bind fun y s => (stLoc C i (.fz x) s).bind fun _ s => (stLoc C j (.fz y) s).bind fun _ s => .ok .next s) := q
    refine ⟨Z, ρ, Fs, g, s, CoS.bindV q fun d ρ1 w H1 Z1 F1 t1 g1 s1 r1 q1 => ⟨Z1, ρ1, F1, g1, s1, CoS.bindV q1 fun e ρ2 w2 H2 Z2 F2 t2 g2 s2 r2 q2 => ⟨w, w2, rfl, ?_⟩⟩⟩
    cases h1 : stLoc C i (.fz d) ρ2 with
    | bad m => rw [h1] at q2; exact (show False from q2).elim
    | ex c d s => exact (asg_noex (t := .name i) h1).elim
    | ok u ρ3 =>
      rw [h1] at q2
      obtain ⟨F3, f1, f2, f3⟩ := st_loc (G := []) g2 s2 (RO.fz (RD.le t2.zle r1)) h1
      have hio : ¬ C.io.contains i = true := fun z => by
        unfold stLoc at h1
        rw [if_pos z] at h1
        cases h1
      have io : IoK C.io σ (σ.set i (some w)) := fun j hj => List.getElem?_set_ne fun e => hio (by rw [e]; simpa using hj)
      have g3 : Good p Z2 H2 (List.flatten F3) := g2.sub f1 f2
      exact store_own (G := []) g3 f3 (RO.fz r2) (CoS.tr io (Tr.id.sub f1) q2)
/-! ### x[i] = e -/
theorem stm_seti (v : Ev p C c W k X) {x : Str} {i : Nat} {a e : Expr} {A E : VI.E} {p1 p2 pos : Pos} (hN : X.N[i]? = some x) (hv : Vis X.env.scope x) (hd : (x == ("__debug__" : Str)) = false) (hcd : (x == ("__classdict__" : Str)) = false) (hs : swapsWithSole [.Subscript (.Name x p1) a p2] e pos.line X.env = pure false)
    (hw : swappedStores [.Subscript (.Name x p1) a p2] e X.env = pure none) (hsl : ∀ u, assign (.Subscript (.Name x p1) a p2) X.env u = (do
      let ov ← holding [u] (eval (.Name x p1) X.env)
      let iv ← holding [u, ov] (eval a X.env)
      standAt p2
      holding [u, ov, iv] (setItem ov iv u)
      release [u, ov, iv] [])) (ha : Snd X p W C a A) (he : Snd X p W C e E) : VS X p W C (.Assign [.Subscript (.Name x p1) a p2] e pos) (.seti i A E)
  | 0 => tS_bad fun _ => ⟨0, rfl⟩
  | n + 1 => by
    refine PS.weak (ps_asg (he.D n) (pg_sub (pe_var hN hv hd hcd) (ha.D n) set_list hsl) hs hw rfl) fun D σ H q => ?_
    obtain ⟨Z, ρ, Fs, g, s, q⟩ := q
    have q : CoS p C.io W D σ Z H (List.flatten Fs) ((evD C n E ρ).bind fun d s => (match s[i]? with
      | some (some _) => (evD C n A s).bind fun q s => (match q, s[i]? with
        | .int z, some (some (.lst l)) => (match VI.ixN l.length z with
          | some j => .ok .next (s.set i (some (.lst (l.set j (.fz d)))))
          | none => .bad 50)
        | _, _ => .bad 53)
      | _ => .bad 53)) := q
    refine ⟨Z, ρ, Fs, g, s, CoS.bindV q fun d ρ1 w H1 Z1 F1 t1 g1 s1 r1 q1 => ?_⟩
    split at q1
    · rename_i o0 e0
      obtain ⟨v0, A0, B0, C0, k1, k2, k3, k4⟩ := s1.at e0
      refine ⟨v0, k1, Z1, ρ1, F1, g1, s1, CoS.bindV q1 fun d2 ρ2 w2 H2 Z2 F2 t2 g2 s2 r2 q2 => ?_⟩
      split at q2
      · rename_i z l e1
        split at q2
        · rename_i j hj
          obtain ⟨b, xs, B, h1, h2, h3, h4, h4z, h4o, h5⟩ := upd_lst (G := []) g2 s2 e1 (fun a h => by cases h)
          rw [k1] at h1
          cases h1
          have hjl : j < l.length := by
            have e2 : L2.ixN l.length z = some j := hj
            exact (ixN_seq e2).2.1
          obtain ⟨o1, ho1⟩ : ∃ o1, l[j]? = some o1 := ⟨l[j], List.getElem?_eq_getElem hjl⟩
          obtain ⟨v1, A1, B1, C1, m1, m2, m3, m4⟩ := h3.at ho1
          subst m2
          refine ⟨b, xs, z, j, rfl, rd_int r2, h2, by rw [← h3.len]; exact hj, ?_⟩
          have nd : (A1 ++ (B1 ++ C1)).Nodup := by simpa using h4
          obtain ⟨n1, n2, n3⟩ := split3 nd
          obtain ⟨Fs', f1, f2, f3, f4⟩ := h5 (l.set j (.fz d)) (xs.set j w) (A1 ++ ([] ++ C1)) [] (m4 (.fz d) w [] (RO.fz (RD.le t2.zle r1))) (by simpa using n1) (fun b hb => by
            simp only [List.nil_append] at hb ⊢
            exact mem3.mpr (.inl hb))
          exact q2 σ _ Z2 Fs' IoK.rfl' f1 f2 f3
        · exact (show False from q2).elim
      · exact (show False from q2).elim
    · exact (show False from q1).elim
/-! ### raise -/
/-- what is known of the text's error classes -/
structure Exs (p : Pl) (C : Cfg) (c : Sc) (X : Cx) : Prop where
  raise0 : ∀ x n, c.glob x = some (n, .exc0) → p.fld n = none ∧ ∀ (m : Str) (j : Nat) (p1 p2 pos : Pos) (pn : List (Addr × Obj)) (xe : Value → Shared → Prop), PMk (X.tr pn xe) (.Call (.Name x p1) [.Constant (.str m) j p2] [] pos) (fun _ H Q => Q (.ref (p.exc n)) none H)
  raise1 : ∀ x n f, c.glob x = some (n, .exc1 f) → p.fld n = some f ∧ ∀ (e : Expr) (te : TE) (p1 pos : Pos) (pn : List (Addr × Obj)) (xe : Value → Shared → Prop), isStar e = false → PE (X.tr pn xe) e te →
    PMk (X.tr pn xe) (.Call (.Name x p1) [e] [] pos) (fun σ H Q => te σ H fun v H1 => ∀ q, H1 q = none → Q (.ref (p.exc n)) (some q) (upd H1 q (.xd [(f, v)])))
theorem stm_raise0 (v : Ev p C c W k X) (x : Exs p C c X) {y : Str} {m : Nat} {msg : Str} {j : Nat} {p1 p2 p3 pos : Pos} (h : c.glob y = some (m, .exc0)) : VS X p W C (.Raise (some (.Call (.Name y p1) [.Constant (.str msg) j p2] [] p3)) none pos) (.raise m none)
  | 0 => tS_bad fun _ => ⟨0, rfl⟩
  | n + 1 => by
    obtain ⟨hf, hm⟩ := x.raise0 y m h
    refine PS.weak (ps_raise v.calm v.tk (hm msg j p1 p2 p3 X.pn X.xe)) fun D σ H q => ?_
    obtain ⟨Z, ρ, Fs, g, s, q⟩ := q
    refine q σ IoK.rfl' (.ref (p.exc m)) none H Z Fs Tr.id g s ⟨rfl, ?_⟩
    rw [hf]
theorem stm_raise1 (v : Ev p C c W k X) (x : Exs p C c X) {y f : Str} {m : Nat} {e : Expr} {E : VI.E} {p1 p3 pos : Pos} (h : c.glob y = some (m, .exc1 f)) (he : Snd X p W C e E) : VS X p W C (.Raise (some (.Call (.Name y p1) [e] [] p3)) none pos) (.raise m (some E))
  | 0 => tS_bad fun _ => ⟨0, rfl⟩
  | n + 1 => by
    obtain ⟨hf, hm⟩ := x.raise1 y m f h
    refine PS.weak (ps_raise v.calm v.tk (hm e _ p1 p3 X.pn X.xe he.star (he.D n))) fun D σ H q => ?_
    obtain ⟨Z, ρ, Fs, g, s, q⟩ := q
    have q : CoS p C.io W D σ Z H (List.flatten Fs) ((evD C n E ρ).bind fun d s => R.ex m d s) := q
    refine ⟨Z, ρ, Fs, g, s, CoS.bindV q fun d ρ1 w H1 Z1 F1 t1 g1 s1 r1 q1 => fun a ha => ?_⟩
    have nt : NT (HO.xd [(f, w)]) := fun ps z => by cases z
    have g2 := g1.newZ (u := .xd [(f, w)]) s1.ther ha nt
    have zf := zfree g1.zh ha
    refine q1 σ IoK.rfl' (.ref (p.exc m)) (some a) _ _ F1 (Tr.newZ _ g1 ha) g2 (s1.le (le_upd Le.rfl' zf) fun b hb => ?_) ⟨rfl, ?_⟩
    · obtain ⟨u, hu⟩ := s1.ther b hb
      exact upd_ne (ne_of_none hu ha)
    · rw [hf]
      exact ⟨a, w, rfl, upd_same, RD.le (le_upd Le.rfl' zf) r1⟩
end
end VI
end

section
set_option Elab.async false
set_option linter.all false
set_option maxRecDepth 10000
/-! VI21: name = [..], every statement but try. -/
namespace VI
open PySem PySem.Spec PyProof.Rows L2

section
variable {p : Pl} {C : Cfg} {c : Sc} {W : WX} {k : Nat} {X : Cx}
/-- from the statement's reading to the expression's -/
theorem name_read {n i : Nat} {E : VI.E} {D : Ends} {σ : L2.St} {H : Hp} (q : tS p C.io W (evS C (n + 1) (.asg (.name i) E)) D σ H) : tO p W (evE C n E) σ H fun x H1 => D.nx (σ.set i (some x)) H1 := by
  obtain ⟨Z, ρ, Fs, g, s, q⟩ := q
  have q : CoS p C.io W D σ Z H (List.flatten Fs) ((evE C n E ρ).bind fun o s => (stLoc C i o s).bind fun _ s => .ok .next s) := q
  exact ⟨Z, ρ, Fs, g, s, CoS.bindO q fun o ρ1 v H1 Z1 F1 G t g1 s1 r q1 => store_own g1 s1 r q1⟩
theorem stm_lc (v : Ev p C c W k X) {m : Nat} {x : Str} {i : Nat} {el : Expr} {gs : List Comprehension} {scope : Scope} {lpos p1 pos : Pos} {E : VI.E} (hN : X.N[i]? = some x) (hl : X.env.scope.names.lookup x = some .local)
    (hs : swapsWith (.ListComp el gs scope lpos) (some (.Name x p1)) pos.line X.env = pure true) (h : trE (m + 1) c (.ListComp el gs scope lpos) = some E) : VS X p W C (.Assign [.Name x p1] (.ListComp el gs scope lpos) pos) (.asg (.name i) E)
  | 0 => tS_bad fun _ => ⟨0, rfl⟩
  | n + 1 => by
    have hf : ∀ e E, trE m c e = some E → Snd X p W C e E := fun e E h => snd m h v
    replace h : (if L2.blkC c.N c.sc scope (ownOf c.N scope) then (match (generalizing := false) gs with
        | [g] => (match trE m { c with sc := scope, lm := false } el, trGen c { c with sc := scope, lm := false } (trE m c) (trE m { c with sc := scope, lm := false }) g with
          | some e, some g => some (VI.E.lc e ((ownOf c.N scope).map (·.2)) [g])
          | _, _ => none)
        | [g, g2] => (match trE m { c with sc := scope, lm := false } el, trGen c { c with sc := scope, lm := false } (trE m c) (trE m { c with sc := scope, lm := false }) g, trGen { c with sc := scope, lm := false } { c with sc := scope, lm := false } (trE m { c with sc := scope, lm := false }) (trE m { c with sc := scope, lm := false }) g2 with
          | some e, some g, some g2 => some (.lc e ((ownOf c.N scope).map (·.2)) [g, g2])
          | _, _, _ => none)
        | _ => none) else none) = some E := h
    split at h
    · rename_i hb
      have ok := v.blkOk hb
      have hf2 : ∀ {Y : Cx} {W' : WX}, Ev p C { c with sc := scope, lm := false } W' k Y → ∀ e E, trE m { c with sc := scope, lm := false } e = some E → Snd Y p W' C e E := fun {Y W'} y e E h => snd m h y
      split at h
      · rename_i g
        split at h
        · rename_i e' r h1 h2
          cases h
          obtain ⟨t, it, as, cs, rfl, G⟩ := gen_ok (p := p) (C := C) h2
          have hv : ∀ i ∈ t.vars, i ∈ (ownOf c.N scope).map (·.2) := vars_own G.tg
          obtain ⟨gt, gi, gc, ga⟩ := g
          cases (show ga = 0 from G.sync)
          cases n with
          | zero => exact ⟨fun pins s σ H D I q => (show False from let ⟨Z, ρ, Fs, g, s, q⟩ := name_read q; q).elim⟩
          | succ n =>
            cases hlam : C.lamr.isSome with
            | true => exact ⟨fun pins s σ H D I q => by rw [(lc1_read hv (name_read q)).1] at hlam; cases hlam⟩
            | false =>
              refine PS.weak (ps_setLc v.calm (by rw [v.N]; exact v.nd) hN hl hs (snd_it v hf G.itr G.fit n) ok (fun s H D cl fp => pg_T (v.blk hlam s H D cl fp) gt G.tg)
                (fun s H D cl fp => pts_of ((trAll_A2 G.ifs).imp fun e E h => (hf2 (v.blk hlam s H D cl fp) e E h).C) G.few) (fun s H D cl fp => (hf2 (v.blk hlam s H D cl fp) _ _ h1).O n)
                (noFold (it_noSet (fun e E h => (hf e E h).set) G.itr))) fun D σ H q => (lc1_read hv (name_read q)).2
        · cases h
      · rename_i g g2
        split at h
        · rename_i e' r r2 h1 h2 h3
          cases h
          obtain ⟨t, it, as, cs, rfl, G⟩ := gen_ok (p := p) (C := C) h2
          obtain ⟨t2, it2, as2, cs2, rfl, G2⟩ := gen_ok (p := p) (C := C) h3
          have hv : ∀ i ∈ t.vars, i ∈ (ownOf c.N scope).map (·.2) := vars_own G.tg
          have hv2 : ∀ i ∈ t2.vars, i ∈ (ownOf c.N scope).map (·.2) := vars_own G2.tg
          obtain ⟨gt, gi, gc, ga⟩ := g
          obtain ⟨gt2, gi2, gc2, ga2⟩ := g2
          cases (show ga = 0 from G.sync)
          cases (show ga2 = 0 from G2.sync)
          cases n with
          | zero => exact ⟨fun pins s σ H D I q => (show False from let ⟨Z, ρ, Fs, g, s, q⟩ := name_read q; q).elim⟩
          | succ n =>
            cases hlam : C.lamr.isSome with
            | true => exact ⟨fun pins s σ H D I q => by rw [(lc2_read hv hv2 (name_read q)).1] at hlam; cases hlam⟩
            | false =>
              refine PS.weak (ps_setLc2 v.calm (by rw [v.N]; exact v.nd) hN hl hs (snd_it v hf G.itr G.fit n) ok hv2 (fun s H D cl fp => pg_T (v.blk hlam s H D cl fp) gt G.tg)
                (fun s H D cl fp => pts_of ((trAll_A2 G.ifs).imp fun e E h => (hf2 (v.blk hlam s H D cl fp) e E h).C) G.few)
                (fun s H D cl fp => snd_it (v.blk hlam s H D cl fp) (hf2 (v.blk hlam s H D cl fp)) G2.itr G2.fit n) (fun s H D cl fp => pg_T (v.blk hlam s H D cl fp) gt2 G2.tg)
                (fun s H D cl fp => pts_of ((trAll_A2 G2.ifs).imp fun e E h => (hf2 (v.blk hlam s H D cl fp) e E h).C) G2.few) (fun s H D cl fp => (hf2 (v.blk hlam s H D cl fp) _ _ h1).O n)
                (noFold (it_noSet (fun e E h => (hf e E h).set) G.itr)) (fun env => noFold (it_noSet (fun e E h => trE_noSet h) G2.itr))) fun D σ H q => (lc2_read hv hv2 (name_read q)).2
        · cases h
      · cases h
    · cases h
end
end VI
end

section
set_option Elab.async false
set_option linter.all false
set_option maxRecDepth 100000
set_option maxHeartbeats 2000000
/-! VI22: try with several clauses, some of which bind the error. -/
namespace VI.Tr9
open PySem PySem.Spec PyProof.Rows L2

/-- what the clauses wish of an error, one after the other; with a slot: the clause binds it -/
def wMix (Kf : PySem.W.Frag) (Wo : WX) (Dn : Ends) : List (Value × Option Nat × (Addr → Value → Option Addr → TS)) → WX
  | [] => Wo
  | (cv, none, ts) :: rest => fun cl dd σq Hq => ∃ yes, PySem.W.exmOne Kf cl cv = some yes ∧ (yes = true → ∀ ad, Hq ad = none → ts ad cl dd Dn σq Hq) ∧ (yes = false → wMix Kf Wo Dn rest cl dd σq Hq)
  | (cv, some sl, ts) :: rest => fun cl dd σq Hq => ∃ yes, PySem.W.exmOne Kf cl cv = some yes ∧ (yes = true → ∀ ad, Hq ad = none → ts ad cl dd { nx := fun σ' H' => Dn.nx (σ'.set sl none) H', rt := Dn.rt, bk := fun σ' H' => Dn.bk (σ'.set sl none) H', ct := fun σ' H' => Dn.ct (σ'.set sl none) H' } (σq.set sl (some (.ref ad))) Hq) ∧
      (yes = false → wMix Kf Wo Dn rest cl dd σq Hq)
inductive HdsM (Y : Cx) : List ExceptHandler → List (Value × Option Nat × (Addr → Value → Option Addr → TS)) → Prop
  | nil : HdsM Y [] []
  | plain {nm : Str} {cv : Value} {ts : Addr → Value → Option Addr → TS} {st0 : Stmt} {sts : List Stmt} {pA pB : Pos} {hr : List ExceptHandler} {lr : List (Value × Option Nat × (Addr → Value → Option Addr → TS))} (hn : Names Y nm cv)
      (hsu : ∀ (ad : Addr) (ob : Obj) (cl : Value) (dd : Option Addr) (pl : List (Addr × Obj)), Zc cl dd ob → (∃ vs, ob.data = .fields vs) → PSs (Y.suite ad ((ad, ob) :: pl)) (st0 :: sts) (ts ad cl dd)) (r : HdsM Y hr lr) :
      HdsM Y (.ExceptHandler (some (.Name nm pA)) none (st0 :: sts) pB :: hr) ((cv, none, ts) :: lr)
  | as {nm nb : Str} {sl : Nat} {cv : Value} {ts : Addr → Value → Option Addr → TS} {st0 : Stmt} {sts : List Stmt} {pA pB : Pos} {hr : List ExceptHandler} {lr : List (Value × Option Nat × (Addr → Value → Option Addr → TS))} (hn : Names Y nm cv)
      (hi : Y.N[sl]? = some nb) (hl : Y.env.kindOf nb = some .local)
      (hsu : ∀ (ad : Addr) (ob : Obj) (cl : Value) (dd : Option Addr) (pl : List (Addr × Obj)), Zc cl dd ob → (∃ vs, ob.data = .fields vs) → PSs (Y.suite ad ((ad, ob) :: pl)) (st0 :: sts) (ts ad cl dd)) (r : HdsM Y hr lr) :
      HdsM Y (.ExceptHandler (some (.Name nm pA)) (some nb) (st0 :: sts) pB :: hr) ((cv, some sl, ts) :: lr)
section
variable {Y : Cx} {bd : List Stmt} {hd0 : ExceptHandler} {hds : List ExceptHandler} {ll : List (Value × Option Nat × (Addr → Value → Option Addr → TS))} {pT : Pos} {tbd : WX → TS} {Wo : WX}
theorem ps_try_mix (hst : Y.stack = Y.env :: Y.outer) (hfl : Y.env.frame = some Y.env.locals) (hNd : Y.N.Nodup) (tkk : Takes Y Wo)
    (hbd : ∀ (Wb : WX) (pl : List (Addr × Obj)) (xf : Value → Shared → Prop), Takes (Y.tr pl xf) Wb → PassesOwn (model Y.prog Y.w) Y.A Y.env xf → PSs (Y.tr pl xf) bd (tbd Wb))
    (hhd : HdsM Y (hd0 :: hds) ll) : PS Y (.Try bd (hd0 :: hds) [] [] pT) (fun Dn σq Hq => tbd (wMix Y.K Wo Dn ll) Dn σq Hq) := by
  refine ⟨fun pq sq σq Hq Dn Iq hq => ?_⟩
  have okY := Iq.ok
  have hfrY : Y.A.frames = some (Y.env :: Y.outer) := by rw [okY.frames, hst]
  refine wpAny_Try_except ?_
  refine wpAny_mono ((hbd (wMix Y.K Wo Dn ll) (Y.pn ++ pq) (fun er sr => wpAny (model Y.prog Y.w) Y.A (noteFrame er Y.env) (fun _ sr2 => wpAny (model Y.prog Y.w) Y.A (setFlight er none) (fun _ sr3 =>
    wpAny (model Y.prog Y.w) Y.A (handleBy er Y.env (hd0 :: hds)) (SP Y pq Dn) Y.xe sr3) Y.xe sr2) Y.xe sr) (fun ur sr' xr => ?_) PassesOwn.looking).run [] sq σq Hq Dn (Iq.toTry _) hq) (fun fl sr1 hsp => ?_) (fun er sr1 her => her)
  · obtain ⟨ad, Bq, sJ, pq', σr, Hr, cl, dd, rfl, Jr', nbr, upr, skyr, nar, osr, agr, wr⟩ := xr
    have Jr : Inv Y pq σr Hr sJ := Jr'.ofTry okY
    have skyY : Sky Bq (Y.env :: Y.outer) ad (Zc cl dd) Y.env.locals sr'.heap := by rw [← hst]; exact skyr
    show wpAny (model Y.prog Y.w) Y.A (noteFrame (.ref ad) Y.env) _ _ _
    refine Sky.land Zc.steady hfrY hfl skyY fun ha fla upa => ?_
    have Ja : Inv Y pq σr Hr { sr' with heap := ha } := Jr.landed nbr fla.1 (upr.trans upa) osr agr
    obtain ⟨oba, vsa, hea, hza, hda⟩ := fla.there
    have notF : ∀ {hh : Heap} {ob : Obj} {vs : Array Value}, hh.FunFrames Bq (Y.env :: Y.outer) → hh.get? ad = some ob → ob.data = .fields vs → ad ∉ frs (Y.env :: Y.outer) := fun {hh ob vs} ff ee de hm => by
      obtain ⟨_, ob2, e2, hnf⟩ := ff.mem hm
      rw [ee] at e2
      cases e2
      exact hnf _ de
    have nfrY := notF fla.2.2.1 hea hda
    have nLY : ad ≠ Y.env.locals := fun zz => nfrY (List.mem_filterMap.mpr ⟨Y.env, List.mem_cons_self, by rw [hfl, zz]⟩)
    have nFY : ad ∉ Y.fs := fun hm => by
      obtain ⟨ee, hee, qq⟩ := List.mem_filterMap.mp hm
      exact nfrY (List.mem_filterMap.mpr ⟨ee, List.mem_cons_of_mem _ hee, qq⟩)
    have Sa := Ja.suite hea hda nar nLY nFY
    have LTY : PySem.W.Looks (model Y.prog Y.w) ha (typeOf (.ref ad)) cl := fun A Q E s kk qq => wpAny_typeOf_ref (kk _ _ hea) (by rw [hza.1]; exact qq)
    have tst : ∀ {nm : Str} {cv : Value} {pA : Pos} {Q : Value → Shared → Prop} {E : Value → Shared → Prop}, Names Y nm cv → Q cv { sr' with heap := ha } → wpAny (model Y.prog Y.w) (Y.A.mark (some (.ref ad))) (eval (.Name nm pA) Y.env) Q E { sr' with heap := ha } := fun {nm cv pA Q E} hnm qq => by
      obtain ⟨hg, hdbg, hm | ⟨hm, hv, hnn⟩⟩ := hnm
      · exact ld_glob (X := Y.suite ad ((ad, oba) :: (Y.pn ++ pq))) Sa hg hm qq hdbg
      · exact ld_blt (X := Y.suite ad ((ad, oba) :: (Y.pn ++ pq))) Sa hg hm hv qq hnn hdbg
    have go : ∀ {hs2 : List ExceptHandler} {l2 : List (Value × Option Nat × (Addr → Value → Option Addr → TS))}, HdsM Y hs2 l2 → wMix Y.K Wo Dn l2 cl dd σr Hr →
        wpAny (model Y.prog Y.w) Y.A (handleBy (.ref ad) Y.env hs2) (SP Y pq Dn) Y.xe { sr' with heap := ha } := by
      intro hs2 l2 hk
      induction hk with
      | nil =>
        intro ww
        refine wpAny_handleBy_nil ?_
        obtain ⟨j1, j2, j3, obb, vsb, Tb, oTb, tsb, heb, hzb, hdb, hb1, hrb⟩ := id fla
        unfold PySem.passOn
        refine wpAny_bind (wpAny_field heb hdb hb1 ?_)
        rw [if_neg (show ¬ ((Value.ref Tb == Value.none) = true) from by simp)]
        have fin : wpAny (model Y.prog Y.w) Y.A (setFlight (.ref ad) Y.env.frame) (fun _ s4 => wpAny (model Y.prog Y.w) Y.A (throw (.ref ad) : Sem Flow) (SP Y pq Dn) Y.xe s4) Y.xe { sr' with heap := ha } := by
          rw [hfl]
          refine HandSPX.setFlight_upZ fla fun h4 hh4 up4 => wpAny_throw (tkk _ _ ?_)
          exact ⟨ad, Bq, sJ, pq, σr, Hr, cl, dd, rfl, Jr, nbr, (upr.trans upa).trans up4, .inr (.inr (by rw [hst]; exact hh4)), nar, osr, agr, ww⟩
        first
          | exact wpAny_bind (wpAny_pure (wpAny_bind fin))
          | exact wpAny_bind fin
      | @plain nm cv ts st0 sts pA pB hr lr hnm hsu rr ih =>
        intro ww
        obtain ⟨yes, hy1, hyes, hno⟩ := ww
        refine wpAny_handleBy_cons (codeAny_handlers_test ?_) (by intro qq; cases qq)
        have LMY := PySem.W.exm_one (M := model Y.prog Y.w) (Ja.kIn) LTY hy1
        refine tst hnm (LMY.here ?_)
        cases yes with
        | true =>
          refine codeAny_handlers_suite ?_
          refine HandSPX.lands_againZ fla fun h4 fl4 up4 => ?_
          have J4 : Inv Y pq σr Hr { sr' with heap := h4 } := Jr.landed nbr fl4.1 ((upr.trans upa).trans up4) osr agr
          obtain ⟨ob4, vs4, he4, hz4, hd4⟩ := fl4.there
          have S4 := J4.suite he4 hd4 nar nLY nFY
          refine wpAny_mono ((hsu ad ob4 cl dd (Y.pn ++ pq) hz4 ⟨_, hd4⟩).run [] _ _ Hr _ S4 (hyes rfl ad nar)) (fun f6 s6 hsp => ?_) (fun _ _ zz => False.elim zz)
          cases f6 with
          | next =>
            obtain ⟨σ6, H6, S6, q6⟩ := hsp
            exact ⟨_, _, S6.unsuite okY, q6⟩
          | brk =>
            obtain ⟨σ6, H6, S6, q6⟩ := hsp
            exact ⟨_, _, S6.unsuite okY, q6⟩
          | cont =>
            obtain ⟨σ6, H6, S6, q6⟩ := hsp
            exact ⟨_, _, S6.unsuite okY, q6⟩
          | ret u6 =>
            obtain ⟨v6, σ6, H6, S6, r6, q6⟩ := hsp
            exact ⟨_, _, _, S6.unsuite okY, r6, q6⟩
        | false =>
          show wpAny _ Y.A (handleBy (.ref ad) Y.env hr) _ _ _
          exact ih (hno rfl)
      | @as nm nb sl cv ts st0 sts pA pB hr lr hnm hi hl hsu rr ih =>
        intro ww
        obtain ⟨yes, hy1, hyes, hno⟩ := ww
        refine wpAny_handleBy_cons (codeAny_handlers_test ?_) (by intro qq; cases qq)
        have LMY := PySem.W.exm_one (M := model Y.prog Y.w) (Ja.kIn) LTY hy1
        have hloc : Loc Y.env.scope nb := .inl hl
        refine tst hnm (LMY.here ?_)
        cases yes with
        | true =>
          refine codeAny_handlers_suite_as ?_
          refine HandSPX.lands_againZ fla fun h4 fl4 up4 => ?_
          have J4 : Inv Y pq σr Hr { sr' with heap := h4 } := Jr.landed nbr fl4.1 ((upr.trans upa).trans up4) osr agr
          obtain ⟨ob4, vs4, he4, hz4, hd4⟩ := fl4.there
          have S4 := J4.suite he4 hd4 nar nLY nFY
          refine store_ok (X := Y.suite ad ((ad, ob4) :: (Y.pn ++ pq))) (v := .ref ad) S4 hNd hi hloc rfl (fun s5 S5 => ?_) (.inr hl)
          refine wpAny_mono ((hsu ad ob4 cl dd (Y.pn ++ pq) hz4 ⟨_, hd4⟩).run [] s5 _ Hr _ S5 (hyes rfl ad nar)) (fun f6 s6 hsp => ?_) (fun _ _ zz => False.elim zz)
          have endY : ∀ {σ6 : L2.St} {H6 : Hp} {Q : Shared → Prop}, Inv (Y.suite ad ((ad, ob4) :: (Y.pn ++ pq))) [] σ6 H6 s6 → (∀ s7, Inv Y pq (σ6.set sl none) H6 s7 → Q s7) →
              wpAny (model Y.prog Y.w) Y.A (do bindName Y.env nb .none; unbindBehindTheSuite Y.env nb pB) (fun _ s7 => Q s7) Y.xe s6 := fun {σ6 H6 Q} S6 hq6 => gone_ok (S6.unsuite okY) hNd hi hl hq6
          cases f6 with
          | next =>
            obtain ⟨σ6, H6, S6, q6⟩ := hsp
            exact endY S6 fun s7 J7 => ⟨_, _, J7, q6⟩
          | brk =>
            obtain ⟨σ6, H6, S6, q6⟩ := hsp
            exact endY S6 fun s7 J7 => ⟨_, _, J7, q6⟩
          | cont =>
            obtain ⟨σ6, H6, S6, q6⟩ := hsp
            exact endY S6 fun s7 J7 => ⟨_, _, J7, q6⟩
          | ret u6 =>
            obtain ⟨v6, σ6, H6, S6, r6, q6⟩ := hsp
            exact endY S6 fun s7 J7 => ⟨_, _, _, J7, r6, q6⟩
        | false =>
          show wpAny _ Y.A (handleBy (.ref ad) Y.env hr) _ _ _
          exact ih (hno rfl)
    exact go hhd wr
  · cases fl with
    | next =>
      obtain ⟨σr, Hr, Jr', qr⟩ := hsp
      exact wpAny_execs_nil ⟨σr, Hr, Jr'.ofTry okY, qr⟩
    | brk =>
      obtain ⟨σr, Hr, Jr', qr⟩ := hsp
      exact ⟨σr, Hr, Jr'.ofTry okY, qr⟩
    | cont =>
      obtain ⟨σr, Hr, Jr', qr⟩ := hsp
      exact ⟨σr, Hr, Jr'.ofTry okY, qr⟩
    | ret ur =>
      obtain ⟨vr, σr, Hr, Jr', rr, qr⟩ := hsp
      exact ⟨vr, σr, Hr, Jr'.ofTry okY, rr, qr⟩
end
end VI.Tr9
end

section
set_option Elab.async false
set_option linter.all false
set_option maxRecDepth 10000
/-! VI23: try. -/
namespace VI
open PySem PySem.Spec PyProof.Rows L2

/-- where a body stands, for statements -/
structure EvS (p : Pl) (C : Cfg) (c : Sc) (W : WX) (k : Nat) (X : Cx) : Prop where
  ev : Ev p C c W k X
  own : PassesOwn (model X.prog X.w) X.A X.env X.xe
  stk : X.stack = X.env :: X.outer
  frm : X.env.frame = some X.env.locals
  fun_ : X.env.scope.kind = .function
  exs : Exs p C c X
  exm : ∀ d h x gk, isExc C.glob d = true → c.glob x = some (h, gk) → (gk = .exc0 ∨ ∃ f, gk = .exc1 f) → PySem.W.exmOne X.K (.ref (p.exc d)) (.ref (p.exc h)) = some (sub? C.glob d h)
  nms : ∀ x h gk, c.glob x = some (h, gk) → (gk = .exc0 ∨ ∃ f, gk = .exc1 f) → X.mg x = some (.ref (p.exc h))
  xf : ∀ x h f, c.glob x = some (h, .exc1 f) → XfC X.K (p.exc h) ∧ PySem.W.findIn X.K (.ref (p.exc h)) f = some none
theorem EvS.tr {p : Pl} {C : Cfg} {c : Sc} {W W' : WX} {k : Nat} {X : Cx} (v : EvS p C c W k X) (pn : List (Addr × Obj)) (xe : Value → Shared → Prop) (tk : Takes (X.tr pn xe) W') (own : PassesOwn (model X.prog X.w) X.A X.env xe) : EvS p C c W' k (X.tr pn xe) where
  ev := v.ev.tr pn xe tk
  own := own
  stk := v.stk
  frm := v.frm
  fun_ := v.fun_
  exs := ⟨fun x n h => ⟨(v.exs.raise0 x n h).1, fun m j p1 p2 pos pn' xe' => (v.exs.raise0 x n h).2 m j p1 p2 pos pn' xe'⟩, fun x n f h => ⟨(v.exs.raise1 x n f h).1, fun e te p1 pos pn' xe' => (v.exs.raise1 x n f h).2 e te p1 pos pn' xe'⟩⟩
  exm := v.exm
  nms := v.nms
  xf := v.xf
section
variable {p : Pl} {C : Cfg} {c : Sc} {W : WX} {k : Nat} {X : Cx}
/-- a flat value's V -/
def kV : D → V
  | .bl b => .bl b
  | .int i => .int i
  | .str s => .str s
  | _ => .non
theorem kV_rd {kc : Const} {d : D} (h : trConst kc = some d) {p : Pl} {Z : Hp} : RD p Z d (kV d) := by
  cases kc <;> simp only [trConst, reduceCtorEq, Option.some.injEq] at h <;> subst h <;> unfold RD <;> rfl
theorem pe_kc {Y : Cx} {kc : Const} {d : D} {j : Nat} {pos : Pos} (h : trConst kc = some d) : PE Y (.Constant kc j pos) (tC (kV d)) := by
  cases kc <;> simp only [trConst, reduceCtorEq, Option.some.injEq] at h <;> subst h
  · exact pe_non
  · exact pe_bl
  · exact pe_int
  · exact pe_str
theorem none_eq {α : Type} {o : Option α} (h : o = none) : o = none := h
/-- pre + repr(err.f) in a clause's suite -/
theorem suite_rep (v : EvS p C c W k X) {y f pre : Str} {h sl : Nat} {j : Nat} {p1 p2 p3 p4 p5 p6 p7 : Pos} (hx : XfC X.K (p.exc h)) (hno : PySem.W.findIn X.K (.ref (p.exc h)) f = some none) (hr : c.blt "repr" = true) (hN : X.N[sl]? = some y) (hl : X.env.scope.names.lookup y = some .local) (hd : (y == ("__debug__" : Str)) = false) (hcd : (y == ("__classdict__" : Str)) = false)
    (a : Addr) (ob : Obj) (cls : Value) (dd : Option Addr) (pl : List (Addr × Obj)) (hz : Zc cls dd ob) (hf : ∃ vs, ob.data = .fields vs) :
    PSs (X.suite a ((a, ob) :: pl)) [.Return (some (.BinOp (.Constant (.str pre) j p1) .Add (.Call (.Name "repr" p2) [.Attribute (.Name y p3) f p4] [] p5) p6)) p7] (fun D σ H => σ[sl]? = some (some (.ref a)) ∧ cls = .ref (p.exc h) ∧ ∃ q v Z d dp, dd = some q ∧ H q = some (.xd [(f, v)]) ∧ Le Z H ∧ RD p Z d v ∧ d.toP = some dp ∧ PyData.showable dp = true ∧ dp.shown.length ≤ 100000 ∧ dp.depth ≤ 30 ∧ pre.length ≤ 100000 ∧ D.rt (.str (pre ++ dp.shown)) H) := by
  obtain ⟨g1, g2⟩ := v.ev.blt hr
  have S1 : PE (X.suite a ((a, ob) :: pl)) (.Attribute (.Name y p3) f p4) (tXf a cls dd (p.exc h) f (tVar sl)) := pe_xf hx hno hz hf (pe_var hN (.inl hl) hd hcd)
  have S2 := pe_blt (X := X.suite a ((a, ob) :: pl)) (p1 := p2) (pos := p5) (.inl ⟨_, rfl⟩) (repr_ok (X := X.suite a ((a, ob) :: pl)) v.ev.K v.ev.hu v.ev.gd) g1 g2 PyProof.Rows.boot_repr (pa_cons S1 pa_nil (star_of rfl)) (by decide) (by decide) (fun e he => by
    cases he with
    | head => rfl
    | tail _ he => cases he)
  refine PSs.weak (pss_cons (ps_ret (pe_op op_add_str pe_str S2)) pss_nil) fun D σ H q => ?_
  obtain ⟨h1, h2, q, w, Z, d, dp, h3, h4, h5, h6, h7, h8, h9, h10, h11, h12⟩ := q
  refine ⟨.ref a, h1, rfl, h2, q, _, w, h3, h4, ?_, Z, d, w, dp, rfl, h5, RD.rp h5 h6, h7, h8, h9, h10, pre, dp.shown, rfl, rfl, ?_, h12⟩
  · simp
  · rw [sizeLine_eq]
    omega
theorem suite_ret {Y : Cx} {kc : Const} {d : D} {j : Nat} {p1 p2 : Pos} (h : trConst kc = some d) : PSs Y [.Return (some (.Constant kc j p1)) p2] (fun D _ H => D.rt (kV d) H) := PSs.weak (pss_cons (ps_ret (pe_kc h)) pss_nil) fun D σ H q => q
/-- the clauses, one after the other -/
theorem hds_ok (v : EvS p C c W k X) : ∀ {hds : List ExceptHandler} {hs : List (Nat × Hk)}, trHs c hds = some hs → ∃ ll, Tr9.HdsM X hds ll ∧ ∀ {D : Ends} {c' : Nat} {d : VI.D} {s : VI.St} {σ0 σ' : L2.St} {Z H : Hp} {F : List Addr}, isExc C.glob c' = true → IoK C.io σ0 σ' →
    CoS p C.io W D σ0 Z H F (handle C.glob c' d hs s) → ∀ cls dd H' Z' Fs, Tr Z H F Z' H' (List.flatten Fs) → Good p Z' H' (List.flatten Fs) → SL p Z' H' s σ' Fs → ExcR p Z' c' d cls dd → Tr9.wMix X.K W D ll cls dd σ' H'
  | [], hs, h => by
    simp only [trHs, Option.some.injEq] at h
    subst h
    exact ⟨[], .nil, fun {D c' d s σ0 σ' Z H F} he io q cls dd H' Z' Fs t g sl x => q σ' io cls dd H' Z' Fs t g sl x⟩
  | h0 :: hds, hs, h => by
    unfold trHs at h
    split at h
    · rename_i heq
      cases heq
    · rename_i x np n body pos l heq
      cases heq
      split at h
      · rename_i hn
        obtain ⟨hn1, hn2⟩ := nm_ok hn
        have main : ∀ {hh : Nat} {gk : GK} {fld : Option Str} {r : List (Nat × Hk)}, c.glob x = some (hh, gk) → (gk = .exc0 ∨ ∃ f, gk = .exc1 f) → (∀ f, fld = some f → gk = .exc1 f) → trHs c hds = some r → (trHk c fld n body).map (fun k => (hh, k) :: r) = some hs → ∃ ll, Tr9.HdsM X (.ExceptHandler (some (.Name x np)) n body pos :: hds) ll ∧ ∀ {D : Ends} {c' : Nat} {d : VI.D} {s : VI.St} {σ0 σ' : L2.St} {Z H : Hp} {F : List Addr}, isExc C.glob c' = true → IoK C.io σ0 σ' →
            CoS p C.io W D σ0 Z H F (handle C.glob c' d hs s) → ∀ cls dd H' Z' Fs, Tr Z H F Z' H' (List.flatten Fs) → Good p Z' H' (List.flatten Fs) → SL p Z' H' s σ' Fs → ExcR p Z' c' d cls dd → Tr9.wMix X.K W D ll cls dd σ' H' := by
          intro hh gk fld r hg hgk hfld hr hm
          obtain ⟨ll, k1, k2⟩ := hds_ok v hr
          have nm : Names X x (.ref (p.exc hh)) := ⟨(v.ev.glob hg).1, hn1, .inl (v.nms x hh gk hg hgk)⟩
          simp only [Option.map_eq_some_iff] at hm
          obtain ⟨kk, h1, rfl⟩ := hm
          unfold trHk at h1
          split at h1
          · rename_i kc j p1 p2
            simp only [Option.map_eq_some_iff] at h1
            obtain ⟨dk, h2, rfl⟩ := h1
            refine ⟨(.ref (p.exc hh), none, fun _ _ _ D _ H => D.rt (kV dk) H) :: ll, .plain nm (fun a ob cl dd pl _ _ => suite_ret h2) k1, fun {D c' d s σ0 σ' Z H F} he io q cls dd H' Z' Fs t g sl x' => ?_⟩
            obtain ⟨rfl, x2⟩ := x'
            replace q : CoS p C.io W D σ0 Z H F (if sub? C.glob c' hh then .ok (.ret (.fz dk)) s else handle C.glob c' d r s) := q
            refine ⟨sub? C.glob c' hh, v.exm c' hh x gk he hg hgk, fun hy a ha => ?_, fun hy => ?_⟩
            · rw [hy] at q
              exact q (kV dk) σ' H' Z' Fs [] io t g sl (RO.fz (kV_rd h2))
            · rw [hy] at q
              exact k2 he io q _ dd H' Z' Fs t g sl ⟨rfl, x2⟩
          · rename_i n' pre j p1 rn p2 y p3 at_ p4 p5 p6 p7
            split at h1
            · rename_i hc
              obtain ⟨rfl, hb, rfl, rfl, hy, hl⟩ := hc
              obtain ⟨hy1, hy2⟩ := nm_ok hy
              simp only [Option.map_eq_some_iff] at h1
              obtain ⟨i, h2, rfl⟩ := h1
              have hgk' := hfld at_ rfl
              subst hgk'
              obtain ⟨xf1, xf2⟩ := v.xf x hh at_ hg
              have hfl := (v.exs.raise1 x hh at_ hg).1
              have hN : X.N[i]? = some n' := by rw [v.ev.N]; exact ixOf_get h2
              have hlX : X.env.scope.names.lookup n' = some .local := by
                rcases v.ev.sc _ _ hl with z | ⟨z, _⟩
                · exact z
                · cases z
              refine ⟨(.ref (p.exc hh), some i, _) :: ll, .as nm hN hlX (fun a ob cl dd pl hz hf => suite_rep v xf1 xf2 hb hN hlX hy1 hy2 a ob cl dd pl hz hf) k1, fun {D c' d s σ0 σ' Z H F} he io q cls dd H' Z' Fs t g sl x' => ?_⟩
              obtain ⟨rfl, x2⟩ := x'
              replace q : CoS p C.io W D σ0 Z H F (if sub? C.glob c' hh then (if c' = hh ∧ i < s.length then evRep pre d s else .bad 47) else handle C.glob c' d r s) := q
              refine ⟨sub? C.glob c' hh, v.exm c' hh x _ he hg hgk, fun hy a ha => ?_, fun hy => ?_⟩
              · rw [hy, if_pos rfl] at q
                split at q
                · rename_i hc
                  obtain ⟨rfl, hi⟩ := hc
                  rw [hfl] at x2
                  obtain ⟨qd, w, rfl, z1, z2⟩ := x2
                  unfold evRep at q
                  split at q
                  · rename_i dp hdp
                    split at q
                    · rename_i hh
                      refine ⟨by rw [List.getElem?_set_self (by rw [← sl.len.1]; exact hi)], rfl, qd, w, Z', d, dp, rfl, g.zh _ _ z1, g.zh, z2, hdp, hh.1, hh.2.1, hh.2.2.1, hh.2.2.2, ?_⟩
                      exact q (.str (pre ++ dp.shown)) σ' H' Z' Fs [] io t g sl (RO.fz str_rd)
                    · exact (show False from q).elim
                  · exact (show False from q).elim
                · exact (show False from q).elim
              · rw [hy] at q
                exact k2 he io q _ dd H' Z' Fs t g sl ⟨rfl, x2⟩
            · cases h1
          · cases h1
        split at h
        · rename_i hh r h1 h2
          exact main h1 (.inl rfl) (fun f z => by cases z) h2 h
        · rename_i hh f r h1 h2
          exact main h1 (.inr ⟨f, rfl⟩) (fun f' z => by cases z; rfl) h2 h
        · cases h
      · cases h
    · cases h
theorem stm_try (v : EvS p C c W k X) {body : List Stmt} {b : List S} {h0 : ExceptHandler} {hds : List ExceptHandler} {hs : List (Nat × Hk)} {pos : Pos} (hb : ∀ {W' : WX} {pn : List (Addr × Obj)} {xe : Value → Shared → Prop}, EvS p C c W' k (X.tr pn xe) → A2 (VS (X.tr pn xe) p W' C) body b) (hh : trHs c (h0 :: hds) = some hs) : VS X p W C (.Try body (h0 :: hds) [] [] pos) (.trye b hs)
  | 0 => tS_bad fun _ => ⟨0, rfl⟩
  | n + 1 => by
    obtain ⟨ll, k1, k2⟩ := hds_ok v hh
    refine PS.weak (Tr9.ps_try_mix (tbd := fun W' => tS p C.io W' (evSs C n b)) v.stk v.frm (by rw [v.ev.N]; exact v.ev.nd) v.ev.tk (fun W' pn xe tk own => pss_all (n := n) (hb (v.tr pn xe tk own))) k1) fun D σ H q => ?_
    obtain ⟨Z, ρ, Fs, g, s, q⟩ := q
    replace q : CoS p C.io W D σ Z H (List.flatten Fs) (match evSs C n b ρ with
      | .ok f s => .ok f s
      | .ex c p s => if isExc C.glob c then handle C.glob c p hs s else .bad 48
      | .bad k => .bad k) := q
    refine ⟨Z, ρ, Fs, g, s, ?_⟩
    cases hr : evSs C n b ρ with
    | bad m => rw [hr] at q; exact (show False from q).elim
    | ok f ρ1 =>
      rw [hr] at q
      cases f with
      | next => exact q
      | brk => exact q
      | cont => exact q
      | ret o => exact q
    | ex c' d ρ1 =>
      rw [hr] at q
      replace q : CoS p C.io W D σ Z H (List.flatten Fs) (if isExc C.glob c' then handle C.glob c' d hs ρ1 else .bad 48) := q
      split at q
      · rename_i he
        exact fun σ' io cls dd H' Z' Fs' t g' s' x => k2 he io q cls dd H' Z' Fs' t g' s' x
      · exact (show False from q).elim
end
end VI
end

section
set_option Elab.async false
set_option linter.all false
set_option maxRecDepth 10000
/-! VI24: every translated statement. -/
namespace VI
open PySem PySem.Spec PyProof.Rows L2

theorem trAllS_A2 {f : Stmt → Option S} : ∀ {es : List Stmt} {l : List S}, trAllS f es = some l → A2 (fun e E => f e = some E) es l
  | [], l, h => by
    simp only [trAllS, Option.some.injEq] at h
    subst h
    exact .nil
  | e :: es, l, h => by
    unfold trAllS at h
    split at h
    · rename_i a r h1 h2
      cases h
      exact .cons h1 (trAllS_A2 h2)
    · cases h
section
variable {p : Pl} {C : Cfg} {c : Sc} {W : WX} {k : Nat} {X : Cx}
theorem Ev.locT (v : Ev p C c W k X) {x : Str} {pos : Pos} {t : T} (h : trT c (.Name x pos) = some t) : ∃ i, t = .name i ∧ X.N[i]? = some x ∧ Loc X.env.scope x ∧ (X.fn x = true ∨ X.env.scope.names.lookup x = some .local) ∧ (c.sc.names.lookup x = some .local ∨ c.sc.names.lookup x = some .cell) := by
  unfold trT at h
  split at h
  · rename_i e
    simp only [Option.map_eq_some_iff] at h
    obtain ⟨i, h1, rfl⟩ := h
    rcases v.sc _ _ e with q | ⟨q, _⟩
    · exact ⟨i, rfl, by rw [v.N]; exact ixOf_get h1, .inl q, .inr q, .inl e⟩
    · cases q
  · rename_i e
    simp only [Option.map_eq_some_iff] at h
    obtain ⟨i, h1, rfl⟩ := h
    rcases v.sc _ _ e with q | ⟨q, _⟩
    · exact ⟨i, rfl, by rw [v.N]; exact ixOf_get h1, .inr q, .inl (v.fnc x e), .inr e⟩
    · cases q
  · cases h
theorem EvS.blk (v : EvS p C c W k X) : X.env.blockKind = .function := by
  unfold Env.blockKind
  rw [v.fun_]
  rfl
theorem swaps_not {e : Expr} {t : Option Expr} {l : Nat} {env : Env} (h : isCompr e = false) : swapsWith e t l env = pure false := by
  cases e <;> first | rfl | cases h
theorem swaps_other {e t : Expr} {l : Nat} {env : Env} (h : ∀ x p, t ≠ .Name x p) : swapsWithSole [t] e l env = pure false := by
  cases e <;> first
    | rfl
    | (cases t <;> first | rfl | exact absurd rfl (h _ _))
theorem stored_not {t e : Expr} {env : Env} (h : (isTup t && isTup e) = false) : swappedStores [t] e env = pure none := by
  cases t <;> first
    | rfl
    | (cases e <;> first | rfl | cases h)
theorem par_inv {t e a b : Expr} {i j : Nat} (h : parArg c t e = some (i, j, a, b)) : ∃ x px y py kt pt k2 pt2, t = .Tuple [.Name x px, .Name y py] kt pt ∧ e = .Tuple [a, b] k2 pt2 ∧ c.sc.names.lookup x = some .local ∧ c.sc.names.lookup y = some .local ∧ py.line = px.line ∧ x ≠ y ∧ isStar a = false ∧ isStar b = false ∧ ([a, b].all (foldedForSure 8)) = false ∧ ([a, b].all (constantsAlone 8)) = false ∧ ixOf x c.N = some i ∧ ixOf y c.N = some j := by
  unfold parArg at h
  split at h
  · rename_i x px y py kt pt a' b' k2 pt2
    split at h
    · rename_i hc
      split at h
      · rename_i i' j' h1 h2
        cases h
        exact ⟨x, px, y, py, kt, pt, k2, pt2, rfl, rfl, hc.1, hc.2.1, hc.2.2.1, hc.2.2.2.1, hc.2.2.2.2.1, hc.2.2.2.2.2.1, hc.2.2.2.2.2.2.1, hc.2.2.2.2.2.2.2, h1, h2⟩
      · cases h
    · cases h
  · cases h
theorem stored_par {x y : Str} {px py pt pt2 : Pos} {kt k2 : Nat} {a b : Expr} {env : Env} (hb : env.blockKind = .function) (hx : env.kindOf x = some .local) (hy : env.kindOf y = some .local) (hl : py.line = px.line) (hne : x ≠ y) (sa : isStar a = false) (sb : isStar b = false) (hf : ([a, b].all (foldedForSure 8)) = false) (hk : ([a, b].all (constantsAlone 8)) = false) :
    swappedStores [.Tuple [.Name x px, .Name y py] kt pt] (.Tuple [a, b] k2 pt2) env = pure (some [x, y]) := by
  have sx : ∀ e : Expr, isStar e = false → (match e with | .Starred .. => true | _ => false) = false := fun e h => by
    cases e <;> first | rfl | cases h
  have s1 : ([a, b].any fun | .Starred .. => true | _ => false) = false := by
    simp only [List.any_cons, List.any_nil, sx a sa, sx b sb, Bool.or_false]
  have n1 : ([Expr.Name x px, Expr.Name y py].filterMap fun
    | .Name id pos => if env.kindOf id == some .local && pos.line == px.line then some id else none
    | _ => none) = [x, y] := by
    simp [hx, hy, hl]
  have hne' : (y == x) = false := by simpa using fun e : y = x => hne e.symm
  have e1 : ([x, y].eraseDups).length = 2 := by
    simp [List.eraseDups_cons, hne']
  have e0 : (Option.map (fun x => x.pos.line) [Expr.Name x px, Expr.Name y py].head?).getD 0 = px.line := rfl
  unfold swappedStores
  simp only [hb, e0]
  refine (if_neg (fun h => by simp at h)).trans ((if_neg (fun h => Bool.noConfusion (s1.symm.trans h))).trans ?_)
  generalize hL : List.filterMap _ [Expr.Name x px, Expr.Name y py] = L
  have hL2 : L = [x, y] := hL.symm.trans n1
  subst hL2
  refine (if_neg (by rw [e1]; simp)).trans ((if_neg (by rw [hf]; simp)).trans ?_)
  exact if_neg (by rw [hk]; simp)
theorem stm_assign (v : EvS p C c W k X) {m : Nat} (hf : ∀ e E, trE (m + 1) c e = some E → Snd X p W C e E) {t e : Expr} {s : S} {pos : Pos} (h : trAsg c (trE (m + 1) c) t e = some s) : VS X p W C (.Assign [t] e pos) s := by
  unfold trAsg at h
  split at h
  · rename_i x a hs
    unfold subT at hs
    split at hs
    · rename_i x' p1 k' p2
      split at hs
      · rename_i hc
        cases hs
        simp only [Bool.and_eq_true] at hc
        obtain ⟨hn1, hn2⟩ := nm_ok hc.2
        split at h
        · rename_i i A E h1 h2 h3
          cases h
          obtain ⟨k1, k2⟩ := v.ev.slot h1
          refine stm_seti v.ev k1 k2 hn1 hn2 (swaps_other fun x p z => by cases z) (stored_not rfl) (fun u => ?_) (hf _ _ h2) (hf _ _ h3)
          have hsl := hc.1
          cases a <;> first | rfl | cases hsl
        · cases h
      · cases hs
    · cases hs
  · split at h
    · rename_i i j a b hp
      obtain ⟨x, px, y, py, kt, pt, k2, pt2, rfl, rfl, q1, q2, q3, q4, q5, q6, q7, q8, q9, q10⟩ := par_inv hp
      split at h
      · rename_i A B h1 h2
        cases h
        have lx : X.env.scope.names.lookup x = some .local := by
          rcases v.ev.sc _ _ q1 with z | ⟨z, _⟩
          · exact z
          · cases z
        have ly : X.env.scope.names.lookup y = some .local := by
          rcases v.ev.sc _ _ q2 with z | ⟨z, _⟩
          · exact z
          · cases z
        have gx : X.N[i]? = some x := by rw [v.ev.N]; exact ixOf_get q9
        have gy : X.N[j]? = some y := by rw [v.ev.N]; exact ixOf_get q10
        refine stm_par v.ev gx gy (fun z => ?_) lx ly (stored_par v.blk lx ly q3 q4 q5 q6 q7 q8) (hf _ _ h1) (hf _ _ h2)
        subst z
        rw [gx] at gy
        cases gy
        exact q4 rfl
      · cases h
    · split at h
      · cases h
      · rename_i hnt
        have hnt : (isTup t && isTup e) = false := by simpa using hnt
        split at h
        · rename_i t' E h1 h2
          cases h
          by_cases hname : ∃ x p1, t = .Name x p1
          · obtain ⟨x, p1, rfl⟩ := hname
            obtain ⟨i, rfl, k1, k2, k3, k4⟩ := v.ev.locT h1
            cases hsw : isCompr e with
            | false => exact stm_name v.ev k1 k2 k3 (hf _ _ h2).O (swaps_not hsw)
            | true =>
              cases e <;> first
                | (cases hsw; done)
                | (cases h2; done)
                | skip
              case ListComp el gs scope lpos _ _ =>
                have key : ∀ b : Bool, swapsWith (.ListComp el gs scope lpos) (some (.Name x p1)) pos.line X.env = pure b → (b = true → X.env.scope.names.lookup x = some .local) → VS X p W C (.Assign [.Name x p1] (.ListComp el gs scope lpos) pos) (.asg (.name i) E) := fun b hb hl => by
                  cases b with
                  | false => exact stm_name v.ev k1 k2 k3 (hf _ _ h2).O hb
                  | true => exact stm_lc v.ev k1 (hl rfl) hb h2
                refine key _ rfl fun hb => ?_
                simp only [Bool.and_eq_true, beq_iff_eq] at hb
                exact hb.1.1.2
          · refine stm_asg v.ev h1 (fun i z => ?_) (hf _ _ h2) (swaps_other fun x p z => hname ⟨x, p, z⟩) (stored_not hnt) ?_
            · subst z
              cases t <;> first
                | exact hname ⟨_, _, rfl⟩
                | (cases h1; done)
                | skip
              unfold trT at h1
              simp only [Option.map_eq_some_iff, reduceCtorEq, and_false, exists_false] at h1
            · cases t <;> first | rfl | (cases h1; done)
        · cases h
end
/-- every translated statement -/
theorem stm : ∀ (m : Nat) {c : Sc} {st : Stmt} {s : S}, trS m c st = some s → ∀ {p : Pl} {C : Cfg} {W : WX} {k : Nat} {X : Cx}, EvS p C c W k X → VS X p W C st s
  | 0, c, st, s, h, p, C, W, k, X, v => by cases h
  | m + 1, c, st, s, h, p, C, W, k, X, v => by
    have hf : ∀ e E, trE m c e = some E → Snd X p W C e E := fun e E h => snd m h v.ev
    have hb : ∀ {X : Cx} {W : WX}, EvS p C c W k X → ∀ {l : List Stmt} {ss : List S}, trAllS (trS m c) l = some ss → A2 (VS X p W C) l ss := fun {X W} v {l ss} h => (trAllS_A2 h).imp fun e E h => stm m h v
    unfold trS at h
    split at h
    · rename_i e pos
      split at h
      · cases h
      · rename_i hc
        simp only [Option.map_eq_some_iff] at h
        obtain ⟨E, h1, rfl⟩ := h
        exact stm_expr v.ev (swaps_not (by simpa using hc)) (hf _ _ h1)
    · exact stm_assign v (fun e E h => snd (m + 1) h v.ev) h
    · rename_i t op e pos
      unfold trAug at h
      split at h
      · rename_i i E h1 h2
        cases h
        cases t <;> first
          | (cases h1; done)
          | skip
        · obtain ⟨i', e1, k1, k2, k3, k4⟩ := v.ev.locT h1
          cases e1
          exact stm_aug v.ev k1 k2 k3 (hf _ _ h2) ip_add fun a b => rfl
        · unfold trT at h1
          simp only [Option.map_eq_some_iff, reduceCtorEq, and_false, exists_false] at h1
      · rename_i i E h1 h2
        cases h
        cases t <;> first
          | (cases h1; done)
          | skip
        · obtain ⟨i', e1, k1, k2, k3, k4⟩ := v.ev.locT h1
          cases e1
          exact stm_aug v.ev k1 k2 k3 (hf _ _ h2) ip_sub fun a b => rfl
        · unfold trT at h1
          simp only [Option.map_eq_some_iff, reduceCtorEq, and_false, exists_false] at h1
      · cases h
    · split at h
      · rename_i T A B h1 h2 h3
        cases h
        exact stm_if v.ev (hf _ _ h1) (hb v h2) (hb v h3)
      · cases h
    · split at h
      · rename_i t' it as b h1 h2 h3
        split at h
        · rename_i hfit
          cases h
          exact stm_for v.ev v.own h1 (fun n => snd_it v.ev hf h2 hfit n) (it_noSet (fun e E h => (hf e E h).set) h2) (hb v h3)
        · cases h
      · cases h
    · split at h
      · rename_i T b h1 h2
        cases h
        exact stm_while v.ev v.own (hf _ _ h1) (hb v h2)
      · cases h
    · cases h
      exact stm_retN
    · simp only [Option.map_eq_some_iff] at h
      obtain ⟨E, h1, rfl⟩ := h
      exact stm_ret v.ev (hf _ _ h1)
    · split at h
      · unfold trRaise at h
        split at h
        · rename_i n msg j p1 hg
          cases h
          exact stm_raise0 v.ev v.exs hg
        · rename_i n f e hg
          simp only [Option.map_eq_some_iff] at h
          obtain ⟨E, h1, rfl⟩ := h
          exact stm_raise1 v.ev v.exs hg (hf _ _ h1)
        · cases h
      · cases h
    · split at h
      · rename_i b hs h1 h2
        cases h
        exact stm_try v (fun {W' pn xe} v' => hb v' h1) h2
      · cases h
    · cases h
      exact stm_pass
    · cases h
      exact stm_brk
    · cases h
      exact stm_cont
    · cases h
end VI
end

section
set_option Elab.async false
set_option linter.all false
set_option maxRecDepth 10000
/-! VI25: a def's body keeps the def's promise. -/
namespace VI
open PySem PySem.Spec PyProof.Rows L2

/-- some of the slots, in a list that may end sooner -/
theorem SL.sel {p : Pl} {Z H : Hp} : ∀ {ρ : VI.St} {σ : L2.St} {Fs : List (List Addr)}, SL p Z H ρ σ Fs → ∀ {ρ' : VI.St} {σ' : L2.St}, ρ'.length = σ'.length → (∀ (j : Nat) (o : O), ρ'[j]? = some (some o) → ρ[j]? = some (some o) ∧ ∀ v, σ[j]? = some (some v) → σ'[j]? = some (some v)) → (List.flatten Fs).Nodup →
    ∃ Gs, SL p Z H ρ' σ' Gs ∧ (List.flatten Gs).Nodup ∧ ∀ a ∈ List.flatten Gs, a ∈ List.flatten Fs
  | ρ, σ, Fs, s, [], σ', hl, h, nd => by
    cases σ' with
    | nil => exact ⟨[], .nil, List.nodup_nil, fun a h => by cases h⟩
    | cons _ _ => cases hl
  | ρ, σ, Fs, s, none :: ρ', [], hl, h, nd => by cases hl
  | ρ, σ, Fs, s, some o :: ρ', [], hl, h, nd => by cases hl
  | _, _, _, .nil, x :: ρ', y :: σ', hl, h, nd => by
    cases x with
    | none =>
      obtain ⟨Gs, g1, g2, g3⟩ := SL.sel (p := p) (Z := Z) (H := H) .nil (ρ' := ρ') (σ' := σ') (by simpa using hl) (fun j o e => by
        have := h (j + 1) o (by simpa using e)
        simp at this) nd
      exact ⟨[] :: Gs, .skip g1, by simpa using g2, fun a ha => g3 a (by simpa using ha)⟩
    | some o =>
      have := h 0 o rfl
      simp at this
  | _, _, _, .skip t, x :: ρ', y :: σ', hl, h, nd => by
    obtain ⟨Gs, g1, g2, g3⟩ := SL.sel t (ρ' := ρ') (σ' := σ') (by simpa using hl) (fun j o e => by simpa using h (j + 1) o (by simpa using e)) (by simpa using nd)
    cases x with
    | none => exact ⟨[] :: Gs, .skip g1, by simpa using g2, fun a ha => by simpa using g3 a (by simpa using ha)⟩
    | some o =>
      have := h 0 o rfl
      simp at this
  | _, _, _, .cons (o := o0) (v := v0) (F := F) (Fs := Fs) q t, x :: ρ', y :: σ', hl, h, nd => by
    rw [List.flatten_cons] at nd
    have m := List.nodup_append.mp nd
    obtain ⟨Gs, g1, g2, g3⟩ := SL.sel t (ρ' := ρ') (σ' := σ') (by simpa using hl) (fun j o e => by simpa using h (j + 1) o (by simpa using e)) m.2.1
    cases x with
    | none => exact ⟨[] :: Gs, .skip g1, by simpa using g2, fun a ha => by rw [List.flatten_cons]; exact List.mem_append_right _ (g3 a (by simpa using ha))⟩
    | some o =>
      obtain ⟨h1, h2⟩ := h 0 o rfl
      simp at h1
      subst h1
      have h3 := h2 v0 rfl
      simp at h3
      subst h3
      refine ⟨F :: Gs, .cons q g1, ?_, fun a ha => ?_⟩
      · rw [List.flatten_cons]
        exact List.nodup_append.mpr ⟨m.1, g2, fun a ha b hb => m.2.2 a ha b (g3 b hb)⟩
      · rw [List.flatten_cons] at ha ⊢
        rcases List.mem_append.mp ha with ha | ha
        · exact List.mem_append_left _ ha
        · exact List.mem_append_right _ (g3 a ha)
theorem SL.pad {p : Pl} {Z H : Hp} : ∀ {ρ : VI.St} {σ : L2.St} {Fs : List (List Addr)} (n : Nat), SL p Z H ρ σ Fs → ∃ Gs, SL p Z H (ρ ++ List.replicate n none) (σ ++ List.replicate n none) Gs ∧ List.flatten Gs = List.flatten Fs
  | _, _, _, 0, .nil => ⟨[], .nil, rfl⟩
  | _, _, _, n + 1, .nil => by
    obtain ⟨Gs, h1, h2⟩ := SL.pad (p := p) (Z := Z) (H := H) n .nil
    exact ⟨[] :: Gs, .skip (by simpa using h1), by simpa using h2⟩
  | _, _, _, n, .skip t => by
    obtain ⟨Gs, h1, h2⟩ := t.pad n
    exact ⟨[] :: Gs, .skip h1, by simpa using h2⟩
  | _, _, _, n, .cons q t => by
    obtain ⟨Gs, h1, h2⟩ := t.pad n
    exact ⟨_ :: Gs, .cons q h1, by rw [List.flatten_cons, List.flatten_cons, h2]⟩
theorem end_sl {p : Pl} {Z H : Hp} {ρ : VI.St} {σ : L2.St} {Fs : List (List Addr)} {N : List Str} {vs : List V} {io : List Nat} (s : SL p Z H ρ σ Fs) (k : IoK io (L2.start N vs) σ) (nd : (List.flatten Fs).Nodup) :
    ∃ Gs, SL p Z H (endCR io vs.length ρ) (vs.map some) Gs ∧ (List.flatten Gs).Nodup ∧ ∀ a ∈ List.flatten Gs, a ∈ List.flatten Fs := by
  refine s.sel (by simp [endCR]) (fun j o e => ?_) nd
  unfold endCR at e
  rw [List.getElem?_map] at e
  have hj : j < vs.length := by
    cases h : (List.range vs.length)[j]? with
    | none => rw [h] at e; simp at e
    | some x =>
      rw [List.getElem?_eq_some_iff] at h
      obtain ⟨h1, _⟩ := h
      simpa using h1
  rw [List.getElem?_range hj] at e
  simp only [Option.map_some, Option.some.injEq] at e
  split at e
  · rename_i hc
    have hr : ρ[j]? = some (some o) := by
      cases h : ρ[j]? with
      | none => rw [h] at e; cases e
      | some x =>
        rw [h] at e
        have e : x = some o := e
        rw [e]
    refine ⟨hr, fun v hv => ?_⟩
    have h1 := k j (by simpa using hc)
    rw [h1] at hv
    unfold L2.start at hv
    rw [List.getElem?_append_left (by simpa using hj)] at hv
    exact hv
  · cases e
/-- what stands fixed for a def -/
structure DefOk (p : Pl) (K : PySem.W.Frag) (tx : Tx) (io : List Nat) (n : Nat) (fd : Fn) where
  qual : Str
  params : Arguments
  body : List Stmt
  scope : Scope
  dV : Value
  kV : Value
  doc : Value
  pm : Value
  cdv : Value
  ct : Value
  oc : Value
  an : Option Addr
  od : Option Addr
  osl : Array (Option Value)
  name : Str
  N : List Str
  ps : List Str
  lm : Bool
  lk : K.lookup (p.fn n) = some ⟨oc, od, .func (PySem.W.fnOf name qual params body scope dV kV doc pm an cdv ct), osl⟩
  hcd : PySem.W.codeIn K cdv qual = true
  S : FnScope N ps scope
  kp : PySem.W.keepIn K (.ref (p.fn n)) = true
  bnd : ∀ (s : Shared) (us : List Value), us.length = ps.length → BindsTo s (PySem.W.fnOf name qual params body scope dV kV doc pm an cdv ct) ⟨us, []⟩ (ps.zip us)
  np : fd.np = ps.length
  nl : fd.nl = N.length
  eio : fd.io = io
  trb : trAllS (trS 60 ⟨tx, N, scope, lm⟩) body = some fd.body
theorem body_fn {P : Program} {w : World} {K : PySem.W.Frag} {mg : Str → Option Value} {base : Heap} {k k' : Nat} {p : Pl} {tx : Tx} {n : Nat} {fd : Fn} {C : Cfg} (d : DefOk p K tx C.io n fd)
    (hev : ∀ (A : Around) (outer : List Env) (s : Shared) (H : Hp) (E : XK), Room k (A.deeper (envOfC d.qual d.scope s.heap.objs.size (p.fn n) d.cdv)) → A.guards = some [] → EvS p C ⟨tx, d.N, d.scope, d.lm⟩ (fun cls dd _ H' => E cls dd H') k' (cxOf (L2.CX P w) P w K mg base d.N d.qual d.scope (p.fn n) d.cdv A outer s H E)) :
    FnG P w K mg base (k + 1) (p.fn n) d.ps (spFn p fun os => runFn C fd os) := by
  refine ⟨⟨_, d.bnd, fun A outer s H args us vs Q E hr hg e0 hb r hl hsp => ?_⟩, d.kp⟩
  refine LamX.run_ofS (N := d.N) (ps := d.ps) (us := us) (vs := vs) d.lk d.hcd d.S hr e0 hb r hl fun hr' => ?_
  have v := hev A outer s H E hr' hg
  have bd := (trAllS_A2 d.trb).imp fun e S h => stm 60 h v
  obtain ⟨Z, os, Fs, g, sl, q⟩ := hsp
  refine ⟨_, pss_all (n := DEPTH) bd, Z, os.map some ++ List.replicate (fd.nl - fd.np) none, ?_⟩
  obtain ⟨Gs, g1, g2⟩ := sl.pad (d.N.length - vs.length)
  have hos : os.length = vs.length := by have := sl.len.1; simpa using this
  by_cases hnp : os.length = fd.np
  · have en : fd.nl - fd.np = d.N.length - vs.length := by rw [d.nl, d.np, hl]
    have eC : ({ C with io := fd.io } : Cfg) = C := by
      rw [d.eio]
    have er : runFn C fd os = (match evSs C DEPTH fd.body (os.map some ++ List.replicate (d.N.length - vs.length) none) with
      | .ok (.ret o) s => .ok o (endCR fd.io fd.np s)
      | .ok .next s => .ok (.fz .non) (endCR fd.io fd.np s)
      | .ok _ _ => .bad 60
      | .ex c p s => .ex c p (endCR fd.io fd.np s)
      | .bad n => .bad n) := by
      unfold runFn
      rw [if_pos hnp, eC, en] <;> rfl
    simp only [er] at q
    rw [en]
    refine ⟨Gs, by rw [g2]; exact g, g1, ?_⟩
    rw [g2]
    cases hr2 : evSs C DEPTH fd.body (os.map some ++ List.replicate (d.N.length - vs.length) none) with
    | bad m => rw [hr2] at q; exact (show False from q).elim
    | ok f ρ' =>
      rw [hr2] at q
      have ev : fd.np = vs.length := by rw [d.np, hl]
      cases f with
      | brk => exact (show False from q).elim
      | cont => exact (show False from q).elim
      | next =>
        intro σ' H' Z' Fs' io t g' s'
        obtain ⟨G2, k1, k2, k3⟩ := end_sl s' io g'.nd
        rw [← d.eio, ← ev] at k1
        exact q .non H' Z' G2 [] (t.sub k3) (g'.sub k3 k2) k1 (RO.fz non_rd)
      | ret o =>
        intro v' σ' H' Z' Fs' G io t g' s' r'
        obtain ⟨G2, k1, k2, k3⟩ := end_sl s' io (List.nodup_append.mp g'.nd).2.1
        rw [← d.eio, ← ev] at k1
        exact q v' H' Z' G2 G (t.right k3) (g'.right k3 k2) k1 r'
    | ex c dd ρ' =>
      rw [hr2] at q
      have ev : fd.np = vs.length := by rw [d.np, hl]
      intro σ' io cls d2 H' Z' Fs' t g' s' x
      obtain ⟨G2, k1, k2, k3⟩ := end_sl s' io g'.nd
      rw [← d.eio, ← ev] at k1
      exact q cls d2 H' Z' G2 (t.sub k3) (g'.sub k3 k2) k1 x
  · have er : runFn C fd os = .bad 61 := by
      unfold runFn
      rw [if_neg hnp]
    simp only [er] at q
end VI
end

section
set_option Elab.async false
set_option linter.all false
set_option maxRecDepth 10000
/-! VI26: all defs of a text, by the depth of the calls. -/
namespace VI
open PySem PySem.Spec PyProof.Rows L2

/-- the same places, other lambdas and another entry -/
def Pl.vr (p : Pl) (l : Addr → Prop) (z b : Hp) : Pl := { p with lam := l, Z0 := z, B := b }
/-- what stands fixed for a def whose body has lambdas -/
structure Maker (p : Pl) (K : PySem.W.Frag) (mg : Str → Option Value) (base : Heap) (cdv : Value) (qual : Str) : Prop where
  ex : ∃ co P : Addr, cdv = .ref co ∧ LamX.TabB base mg co P ∧ (P, qual ++ ".<locals>." ++ "<lambda>") ∈ p.T ∧ ∀ q ∈ p.T, q.1 = P → q.2 = qual ++ ".<locals>." ++ "<lambda>"
/-- what stands fixed for a text -/
structure Mf (P : Program) (w : World) (K : PySem.W.Frag) (mg : Str → Option Value) (base : Heap) (p : Pl) (tx : Tx) (glob : Nat → Option G) : Prop where
  hK : K = p.K
  defs : ∀ n fd, glob n = some (.fn fd) → ∃ d : DefOk p K tx fd.io n fd, d.lm = true → Maker p K mg base d.cdv d.qual
  gfn : ∀ x, tx.gs.lookup x = some .fn → mg x = some (.ref (p.fn (enc x))) ∧ ∀ d, glob (enc x) ≠ some (.val d)
  gval : ∀ x, tx.gs.lookup x = some .val → ∃ d v u, glob (enc x) = some (.val d) ∧ mg x = some u ∧ RelV v u ∧ ∀ l z b Z, RD (p.vr l z b) Z d v
  gblt : ∀ x ∈ tx.bs, tx.gs.lookup x = none → mg x = none
  raise0 : ∀ x, tx.gs.lookup x = some .exc0 → p.fld (enc x) = none ∧ ∀ X : Cx, X.prog = P → X.w = w → X.K = K → X.mg = mg → X.base = base → Gl X x → ∀ (m : Str) (j : Nat) (p1 p2 pos : Pos), PMk X (.Call (.Name x p1) [.Constant (.str m) j p2] [] pos) (fun _ H Q => Q (.ref (p.exc (enc x))) none H)
  raise1 : ∀ x f, tx.gs.lookup x = some (.exc1 f) → p.fld (enc x) = some f ∧ ∀ X : Cx, X.prog = P → X.w = w → X.K = K → X.mg = mg → X.base = base → Gl X x → ∀ (k : Nat), Room (k + 3) X.A → ∀ (e : Expr) (te : TE) (p1 pos : Pos), isStar e = false → PE X e te →
    PMk X (.Call (.Name x p1) [e] [] pos) (fun σ H Q => te σ H fun v H1 => ∀ q, H1 q = none → Q (.ref (p.exc (enc x))) (some q) (upd H1 q (.xd [(f, v)])))
  exm : ∀ d x gk, isExc glob d = true → tx.gs.lookup x = some gk → (gk = .exc0 ∨ ∃ f, gk = .exc1 f) → PySem.W.exmOne K (.ref (p.exc d)) (.ref (p.exc (enc x))) = some (sub? glob d (enc x))
  nms : ∀ x gk, tx.gs.lookup x = some gk → (gk = .exc0 ∨ ∃ f, gk = .exc1 f) → mg x = some (.ref (p.exc (enc x)))
  xf : ∀ x f, tx.gs.lookup x = some (.exc1 f) → XfC K (p.exc (enc x)) ∧ PySem.W.findIn K (.ref (p.exc (enc x))) f = some none
theorem glob_inv {c : Sc} {x : Str} {n : Nat} {g : GK} (h : c.glob x = some (n, g)) : c.glo x = true ∧ c.tx.gs.lookup x = some g ∧ n = enc x := by
  unfold Sc.glob at h
  split at h
  · rename_i hg
    simp only [Option.map_eq_some_iff, Prod.mk.injEq] at h
    obtain ⟨g', h1, rfl, rfl⟩ := h
    exact ⟨hg, h1, rfl⟩
  · cases h
theorem glo_inv {c : Sc} {x : Str} (h : c.glo x = true) : c.sc.names.lookup x = some .globalImplicit := by
  unfold Sc.glo at h
  split at h
  · assumption
  · cases h
section
variable {P : Program} {w : World} {K : PySem.W.Frag} {mg : Str → Option Value} {base : Heap} {p : Pl} {tx : Tx} {glob : Nat → Option G}
/-- a context of that text, outside of lambdas' takers -/
theorem Mf.evS (M : Mf P w K mg base p tx glob) {l : Addr → Prop} {z b : Hp} {C : Cfg} {N : List Str} {sc : Scope} {lm : Bool} {W : WX} {k : Nat} {X : Cx} (hC : C.glob = glob) (h1 : X.prog = P) (h2 : X.w = w) (h3 : X.K = K) (h4 : X.mg = mg) (h5 : X.base = base) (hN : X.N = N) (hs : X.env.scope = sc) (nd : N.Nodup)
    (calm : X.calm = true) (tk : Takes X W) (room : Room (k + 3) X.A) (gd : X.A.guards = some []) (fnc : ∀ x, X.fn x = true) (own : PassesOwn (model X.prog X.w) X.A X.env X.xe) (stk : X.stack = X.env :: X.outer) (frm : X.env.frame = some X.env.locals) (knd : sc.kind = .function)
    (fok : ∀ n fd, glob n = some (.fn fd) → ∃ ps : List Str, ps.length = fd.np ∧ FnG P w K mg base k (p.fn n) ps (spFn (p.vr l z b) (C.call n)))
    (lamr : ∀ (i : Nat) (x : Str) (p1 p2 : Pos) (pn : List (Addr × Obj)) (xe : Value → Shared → Prop) (W' : WX), i = 0 → X.N[i]? = some x → Vis X.env.scope x → (x == ("__debug__" : Str)) = false → (x == ("__classdict__" : Str)) = false → Takes (X.tr pn xe) W' →
      PE (X.tr pn xe) (.Call (.Name x p1) [] [] p2) (fun σ H Q => (∃ a, σ[i]? = some (some (.ref a)) ∧ l a) ∧ tO (p.vr l z b) W' (fun ρ => match C.lamr with
        | some (.ok o _) => .ok o ρ
        | some (.ex c d _) => .ex c d ρ
        | _ => .bad 32) σ H Q))
    (lamg : lm = true → ∀ x ∈ tx.ls, LamG (p.vr l z b) C k X x) : EvS (p.vr l z b) C ⟨tx, N, sc, lm⟩ W k X where
  ev := ⟨by rw [h3]; exact M.hK, hN, fun x kd hx => .inl (by rw [hs]; exact hx), nd, calm, tk, room.mono (by omega), gd, fun x _ => fnc x, fun x hx => by rw [hC, h4]; exact M.gfn x hx, fun x hx => by
      obtain ⟨d, v, u, k1, k2, k3, k4⟩ := M.gval x hx
      exact ⟨d, v, u, by rw [hC]; exact k1, by rw [h4]; exact k2, k3, k4 l z b⟩, fun x hx hn => by rw [h4]; exact M.gblt x hx hn, fun n fd h => by
      rw [hC] at h
      obtain ⟨ps, k1, k2⟩ := fok n fd h
      subst h1 h2 h3 h4 h5
      exact ⟨ps, k1, k2⟩, lamr, lamg⟩
  own := own
  stk := stk
  frm := frm
  fun_ := by rw [hs]; exact knd
  exs := ⟨fun x n h => by
      obtain ⟨g1, g2, rfl⟩ := glob_inv h
      obtain ⟨k1, k2⟩ := M.raise0 x g2
      exact ⟨k1, fun m j p1 p2 pos pn xe => k2 (X.tr pn xe) h1 h2 h3 h4 h5 (by show X.env.scope.names.lookup x = _; rw [hs]; exact glo_inv g1) m j p1 p2 pos⟩, fun x n f h => by
      obtain ⟨g1, g2, rfl⟩ := glob_inv h
      obtain ⟨k1, k2⟩ := M.raise1 x f g2
      exact ⟨k1, fun e te p1 pos pn xe st he => k2 (X.tr pn xe) h1 h2 h3 h4 h5 (by show X.env.scope.names.lookup x = _; rw [hs]; exact glo_inv g1) k room e te p1 pos st he⟩⟩
  exm := fun d h x gk he hg hk => by
    obtain ⟨g1, g2, rfl⟩ := glob_inv hg
    rw [hC] at he ⊢
    rw [h3]
    exact M.exm d x gk he g2 hk
  nms := fun x h gk hg hk => by
    obtain ⟨g1, g2, rfl⟩ := glob_inv hg
    rw [h4]
    exact M.nms x gk g2 hk
  xf := fun x h f hg => by
    obtain ⟨g1, g2, rfl⟩ := glob_inv hg
    rw [h3]
    exact M.xf x f g2
/-- a promise that asks for nothing -/
theorem fn_bad {k : Nat} {n : Nat} {fd : Fn} {io : List Nat} (d : DefOk p K tx io n fd) {sp : Sp} (h : ∀ vs H Q E, ¬ sp vs H Q E) : FnG P w K mg base k (p.fn n) d.ps sp :=
  ⟨⟨_, d.bnd, fun A outer s H args us vs Q E _ _ _ _ _ _ hsp => (h vs H Q E hsp).elim⟩, d.kp⟩
/-- what the bodies with a lambda ask -/
def LamH (P : Program) (w : World) (K : PySem.W.Frag) (mg : Str → Option Value) (base : Heap) (p : Pl) (tx : Tx) (glob : Nat → Option G) : Prop :=
  ∀ kk n fd (d : DefOk p K tx fd.io n fd), d.lm = true → Maker p K mg base d.cdv d.qual → glob n = some (.fn fd) → ∀ (A : Around) (outer : List Env) (s : Shared) (H : Hp) (E : XK), Room (4 * kk + 3) (A.deeper (envOfC d.qual d.scope s.heap.objs.size (p.fn n) d.cdv)) → A.guards = some [] →
    ∀ x ∈ tx.ls, LamG (p.vr (fun _ => False) p.Z0 p.B) ⟨glob, callK glob kk none, fun r g => callK glob kk (some r) g [.fz .lam], none, fd.io⟩ (4 * kk) (cxOf (L2.CX P w) P w K mg base d.N d.qual d.scope (p.fn n) d.cdv A outer s H E) x
theorem Mf.all (M : Mf P w K mg base p tx glob) (L : LamH P w K mg base p tx glob) (hl : p.lam = fun _ => False) : ∀ (kk : Nat) (n : Nat) (fd : Fn), glob n = some (.fn fd) → ∃ ps : List Str, ps.length = fd.np ∧ FnG P w K mg base (4 * kk) (p.fn n) ps (spFn p (callK glob kk none n))
  | 0, n, fd, h => by
    obtain ⟨d, _⟩ := M.defs n fd h
    refine ⟨d.ps, d.np.symm, fn_bad d fun vs H Q E q => ?_⟩
    obtain ⟨Z, os, Fs, _, _, q⟩ := q
    exact q
  | kk + 1, n, fd, h => by
    obtain ⟨d, hmk⟩ := M.defs n fd h
    have ep : p.vr (fun _ => False) p.Z0 p.B = p := by
      cases p
      simp only at hl
      subst hl
      rfl
    let C : Cfg := ⟨glob, callK glob kk none, fun r g => callK glob kk (some r) g [.fz .lam], none, fd.io⟩
    have eq : (fun os => runFn C fd os) = callK glob (kk + 1) none n := by
      funext os
      show _ = (match glob n with
        | some (.fn fd) => runFn ⟨glob, callK glob kk none, fun r g => callK glob kk (some r) g [.fz .lam], none, []⟩ fd os
        | _ => .bad 63)
      rw [h]
      rfl
    refine ⟨d.ps, d.np.symm, ?_⟩
    rw [← eq]
    refine body_fn (k := 4 * kk + 3) (k' := 4 * kk) (C := C) d fun A outer s H E hr hg => ?_
    have ev := M.evS (l := fun _ => False) (z := p.Z0) (b := p.B) (C := C) (N := d.N) (sc := d.scope) (lm := d.lm) (W := fun cls dd _ H' => E cls dd H') (k := 4 * kk) (X := cxOf (L2.CX P w) P w K mg base d.N d.qual d.scope (p.fn n) d.cdv A outer s H E) rfl rfl rfl rfl rfl rfl rfl rfl d.S.nd rfl (takes_of rfl rfl rfl rfl) hr hg (fun _ => rfl)
      (passes_of (X := cxOf (L2.CX P w) P w K mg base d.N d.qual d.scope (p.fn n) d.cdv A outer s H E) (K := fun e s'' => L2.CX P w outer H s E e s'') rfl) rfl rfl d.S.kind (fun n' fd' h' => by
        rw [ep]
        exact Mf.all M L hl kk n' fd' h') (fun i x p1 p2 pn xe W' _ _ _ _ _ _ => ⟨fun pins s σ H Q I q => by
        obtain ⟨⟨a, _, ha⟩, _⟩ := q
        exact ha.elim⟩) (fun hlm => L kk n fd d hlm (hmk hlm) h A outer s H E hr hg)
    rw [ep] at ev
    exact ev
end
end VI
end

section
set_option Elab.async false
set_option linter.all false
set_option maxRecDepth 10000
set_option maxHeartbeats 1000000
/-! VI27: a def that takes a lambda. -/
namespace VI
open PySem PySem.Spec PyProof.Rows L2

mutual
theorem RD.mono {p p' : Pl} {Z : Hp} (hK : p'.K = p.K) (hf : p'.fn = p.fn) (hl : ∀ a, p.lam a → p'.lam a) : ∀ {d : D} {v : V}, RD p Z d v → RD p' Z d v
  | .non, v, h => by unfold RD at h ⊢; exact h
  | .bl _, v, h => by unfold RD at h ⊢; exact h
  | .int _, v, h => by unfold RD at h ⊢; exact h
  | .str _, v, h => by unfold RD at h ⊢; exact h
  | .tup ds, v, h => by
    unfold RD at h ⊢
    obtain ⟨a, xs, h1, h2, h3⟩ := h
    exact ⟨a, xs, h1, by rw [hK]; exact h2, RDs.mono hK hf hl h3⟩
  | .lst ds, v, h => by
    unfold RD at h ⊢
    obtain ⟨a, xs, h1, h2, h3⟩ := h
    exact ⟨a, xs, h1, h2, RDs.mono hK hf hl h3⟩
  | .dct _, v, h => by unfold RD at h ⊢; exact h
  | .set _, v, h => by unfold RD at h; exact h.elim
  | .ins _ _, v, h => by unfold RD at h; exact h.elim
  | .fn f, v, h => by unfold RD at h ⊢; rw [hf]; exact h
  | .lam, v, h => by
    unfold RD at h ⊢
    obtain ⟨a, h1, h2⟩ := h
    exact ⟨a, h1, hl a h2⟩
  | .scr _, v, h => by
    unfold RD at h ⊢
    rw [hK]
    exact h
theorem RDs.mono {p p' : Pl} {Z : Hp} (hK : p'.K = p.K) (hf : p'.fn = p.fn) (hl : ∀ a, p.lam a → p'.lam a) : ∀ {ds : List D} {vs : List V}, RDs p Z ds vs → RDs p' Z ds vs
  | [], vs, h => by unfold RDs at h ⊢; exact h
  | d :: ds, vs, h => by
    unfold RDs at h ⊢
    obtain ⟨v, r, h1, h2, h3⟩ := h
    exact ⟨v, r, h1, RD.mono hK hf hl h2, RDs.mono hK hf hl h3⟩
end
mutual
theorem RO.mono {p p' : Pl} {Z H : Hp} (hK : p'.K = p.K) (hf : p'.fn = p.fn) (hl : ∀ a, p.lam a → p'.lam a) : ∀ {o : O} {v : V} {F : List Addr}, RO p Z H o v F → RO p' Z H o v F
  | .fz d, v, F, h => RO.fz (RD.mono hK hf hl h.of_fz.1) |> fun r => by obtain ⟨_, rfl⟩ := h.of_fz; exact r
  | .lst os, v, F, h => by
    unfold RO at h ⊢
    obtain ⟨a, xs, G, h1, h2, h3, h4⟩ := h
    exact ⟨a, xs, G, h1, h2, ROs.mono hK hf hl h3, h4⟩
  | .dct _, v, F, h => by unfold RO at h ⊢; exact h
  | .ins _ _, v, F, h => by unfold RO at h; exact h.elim
theorem ROs.mono {p p' : Pl} {Z H : Hp} (hK : p'.K = p.K) (hf : p'.fn = p.fn) (hl : ∀ a, p.lam a → p'.lam a) : ∀ {os : List O} {vs : List V} {F : List Addr}, ROs p Z H os vs F → ROs p' Z H os vs F
  | [], vs, F, h => by unfold ROs at h ⊢; exact h
  | o :: os, vs, F, h => by
    unfold ROs at h ⊢
    obtain ⟨v, r, F1, F2, h1, h2, h3, h4⟩ := h
    exact ⟨v, r, F1, F2, h1, RO.mono hK hf hl h2, ROs.mono hK hf hl h3, h4⟩
end
open Classical in
/-- what stands at the entry, but the tables of codes -/
noncomputable def noTbl (H : Hp) : Hp := fun a => if ∃ ps, H a = some (.tbl ps) then none else H a
theorem noTbl_some {H : Hp} {a : Addr} {o : HO} (h : noTbl H a = some o) : H a = some o ∧ NT o := by
  unfold noTbl at h
  split at h
  · cases h
  · rename_i hn
    exact ⟨h, fun ps e => hn ⟨ps, by rw [h, e]⟩⟩
theorem noTbl_none {H : Hp} {a : Addr} (h : noTbl H a = none) : Fresh H a := fun o e => by
  unfold noTbl at h
  split at h
  · rename_i hn
    obtain ⟨ps, hp⟩ := hn
    rw [e] at hp
    cases hp
    exact ⟨ps, rfl⟩
  · rw [e] at h
    cases h
theorem noTbl_of {H : Hp} {a : Addr} {o : HO} (h : H a = some o) (n : NT o) : noTbl H a = some o := by
  unfold noTbl
  rw [if_neg]
  · exact h
  · rintro ⟨ps, hp⟩
    rw [h] at hp
    cases hp
    exact n ps rfl
/-- since the entry: nothing that stood has changed -/
theorem tr_entry {p : Pl} {l : Addr → Prop} {Z H Z1 H1 : Hp} {F : List Addr} (g : Good (p.vr l Z (noTbl H)) Z1 H1 F) : Tr Z H [] Z1 H1 [] := by
  refine ⟨g.ba.zb, fun a o e => ?_, fun a o e n _ => (g.ba.kb a o (noTbl_of e n)).1, fun a h => by cases h⟩
  rcases g.ba.zf a o e with z | z
  · exact .inl z
  · exact .inr (.inr (noTbl_none z))
section
variable {P : Program} {w : World} {K : PySem.W.Frag} {mg : Str → Option Value} {base : Heap} {p : Pl} {tx : Tx} {glob : Nat → Option G}
theorem Mf.gives (M : Mf P w K mg base p tx glob) (hl : ∀ a, ¬ p.lam a) {X : Cx} (h1 : X.prog = P) (h2 : X.w = w) (h3 : X.K = K) (h4 : X.mg = mg) (h5 : X.base = base) {x a q1 : Str} {fd : Fn} (d : DefOk p K tx fd.io (enc x) fd) (hps : d.ps = [a]) (hlm : d.lm = false) (hg : glob (enc x) = some (.fn fd)) (hgd : X.A.guards = some [])
    (r : VI.CR) (kk : Nat) (hroom : 0 < kk → Room 4 X.A) : GivesX X d.N x d.scope (p.fn (enc x)) d.cdv d.body a q1 (TTr p r (callK glob kk (some r) (enc x) [.fz .lam])) := by
  intro f c' s H Q tl hPE hco htt
  obtain ⟨Z, g, cl2, cl3⟩ := htt
  subst h1 h2 h3 h4 h5
  cases kk with
  | zero => exact (show False from cl3).elim
  | succ kk =>
    let C : Cfg := ⟨glob, fun _ _ => .bad 64, fun r g => callK glob kk (some r) g [.fz .lam], some r, fd.io⟩
    have eq : callK glob (kk + 1) (some r) (enc x) [.fz .lam] = runFn C fd [.fz .lam] := by
      show (match glob (enc x) with
        | some (.fn fd) => runFn ⟨glob, fun _ _ => .bad 64, fun r g => callK glob kk (some r) g [.fz .lam], some r, []⟩ fd [.fz .lam]
        | _ => .bad 63) = _
      rw [hg]
      rfl
    rw [eq] at cl3
    have p2 : ∀ {Z1 H1 : Hp} {F : List Addr}, Good (p.vr (· = f) Z (noTbl H)) Z1 H1 F → Good p Z1 H1 F := fun {Z1 H1 F} g1 => by
      have t := tr_entry g1
      have b : Bas p Z1 H1 [] := g.ba.tr t
      exact ⟨g1.zh, g1.zt, g1.fz, g1.nd, g1.tb, b.zb, fun y o e => ⟨(b.kb y o e).1, (b.kb y o e).2.1, fun z => by
        have hB := (g.ba.kb y o e)
        exact (g1.ba.kb y o (noTbl_of hB.1 hB.2.1)).2.2 z⟩, b.zf⟩
    have gz : Good (p.vr (· = f) Z (noTbl H)) Z H [] := ⟨g.zh, g.zt, g.fz, g.nd, g.tb, Le.rfl', fun y o e => ⟨(noTbl_some e).1, (noTbl_some e).2, fun z => by cases z⟩, fun y o e => .inl e⟩
    have back : ∀ {Z1 H1 Z' H' : Hp} {F G : List Addr}, Good (p.vr (· = f) Z (noTbl H)) Z1 H1 F → Tr Z1 H1 F Z' H' G → Good p Z' H' G → Good (p.vr (· = f) Z (noTbl H)) Z' H' G := fun {Z1 H1 Z' H' F G} g1 t g2 => ⟨g2.zh, g2.zt, g2.fz, g2.nd, g2.tb, g1.ba.tr t⟩
    let Y : Cx := (cxOf C8.CX0 X.prog X.w X.K X.mg X.base d.N x d.scope (p.fn (enc x)) d.cdv X.A X.stack s H C8.E0).nox
    have hN0 : d.N[0]? = some a := by
      have hp := d.S.pre
      rw [hps] at hp
      cases hNl : d.N with
      | nil => rw [hNl] at hp; cases hp
      | cons y l =>
        rw [hNl] at hp
        simp at hp
        rw [hp]
        rfl
    have lam : ∀ (i : Nat) (y : Str) (p1 p2 : Pos) (pn : List (Addr × Obj)) (xe : Value → Shared → Prop) (W' : WX), i = 0 → Y.N[i]? = some y → Vis Y.env.scope y → (y == ("__debug__" : Str)) = false → (y == ("__classdict__" : Str)) = false → Takes (Y.tr pn xe) W' →
        PE (Y.tr pn xe) (.Call (.Name y p1) [] [] p2) (fun σ H9 Q => (∃ a, σ[i]? = some (some (.ref a)) ∧ a = f) ∧ tO (p.vr (· = f) Z (noTbl H)) W' (fun ρ => match C.lamr with
          | some (.ok o _) => .ok o ρ
          | some (.ex c d _) => .ex c d ρ
          | _ => .bad 32) σ H9 Q) := by
      rintro i y pA pB pn xe W' rfl hi hv hd hcd tk
      have hy : y = a := by
        have hi : d.N[0]? = some y := hi
        rw [hN0] at hi
        cases hi
        rfl
      subst hy
      refine PE.weak (hPE W' pn xe (fun σ9 cls dd H' => W' cls dd σ9 H') pA pB tk fun cls dd σ' H' h => h) fun σ H9 Q q => ?_
      obtain ⟨⟨b, e1, rfl⟩, Z1, ρ, Fs, g1, sl, q⟩ := q
      have nt : NT (LamX.CodeO c' q1) := fun ps z => by unfold LamX.CodeO at z; cases z
      refine ⟨e1, (g1.ba.kb c' _ (noTbl_of hco nt)).1, ?_⟩
      have g0 := p2 g1
      have gA : Good p Z1 H9 (List.flatten Fs ++ []) := by rw [List.append_nil]; exact g0
      refine cl2 _ H9 Q Z1 (tr_entry g1) (g0.sub (fun x hx => by cases hx) List.nodup_nil) ?_
      cases r with
      | bad m => exact (show False from q).elim
      | ok o ps =>
        intro v H' Z' G t g' r'
        obtain ⟨a1, a2, a3⟩ := gA.aside (fun x hx => sl.there x hx) t g'
        rw [List.append_nil] at a3
        have hm : ∀ x, x ∈ G ++ List.flatten Fs → x ∈ List.flatten Fs ++ G := fun x hx => by
          rcases List.mem_append.mp hx with z | z
          · exact List.mem_append_right _ z
          · exact List.mem_append_left _ z
        have nd : (G ++ List.flatten Fs).Nodup := (List.perm_append_comm.nodup_iff).mp a1.nd
        have t2 := a3.sub hm
        exact q v H' Z' Fs G t2 (back g1 t2 (a1.sub hm nd)) (sl.le t.zle fun x hx => a2 x hx) (RO.mono (p := p) (p' := p.vr (· = b) Z (noTbl H)) rfl rfl (fun x hx => (hl x hx).elim) r')
      | ex c d ps =>
        intro cls dd H' Z' t g' r'
        obtain ⟨a1, a2, a3⟩ := gA.aside (fun x hx => sl.there x hx) t g'
        rw [List.append_nil] at a1 a3
        have q9 : ExOk (p.vr (· = b) Z (noTbl H)) W' σ Z1 H9 (List.flatten Fs) c d ρ := q
        obtain ⟨x1, x2⟩ := r'
        have b1 := back g1 a3 a1
        have s9 := sl.le t.zle fun x hx => a2 x hx
        show W' cls dd σ H'
        refine q9 cls dd H' Z' Fs a3 b1 s9 ⟨x1, ?_⟩
        show match p.fld c with
          | none => d = .non
          | some f => ∃ q v, dd = some q ∧ Z' q = some (.xd [(f, v)]) ∧ RD (p.vr (· = b) Z (noTbl H)) Z' d v
        cases hf : p.fld c with
        | none => rw [hf] at x2; exact x2
        | some f =>
          rw [hf] at x2
          obtain ⟨q, v, y1, y2, y3⟩ := x2
          exact ⟨q, v, y1, y2, RD.mono (p := p) (p' := p.vr (· = b) Z (noTbl H)) rfl rfl (fun x hx => (hl x hx).elim) y3⟩
    have ev := M.evS (l := (· = f)) (z := Z) (b := noTbl H) (C := C) (N := d.N) (sc := d.scope) (lm := d.lm) (W := fun _ _ _ _ => False) (k := 0) (X := Y) rfl rfl rfl rfl rfl rfl rfl rfl d.S.nd rfl LamX.takes0 ((hroom (Nat.succ_pos _)).deeper _) hgd (fun _ => rfl)
      PassesOwn.never rfl rfl d.S.kind (fun n' fd' h' => by
        obtain ⟨d', _⟩ := M.defs n' fd' h'
        refine ⟨d'.ps, d'.np.symm, fn_bad d' fun vs H Q E q => ?_⟩
        obtain ⟨_, _, _, _, _, q⟩ := q
        exact q) lam (fun h => by rw [hlm] at h; cases h)
    have bd := (trAllS_A2 d.trb).imp fun e S h => stm 60 h ev
    have hnp : fd.np = 1 := by rw [d.np, hps]; rfl
    have er : runFn C fd [.fz .lam] = (match evSs C DEPTH fd.body ([some (.fz .lam)] ++ List.replicate (d.N.length - 1) none) with
      | .ok (.ret o) s => .ok o (endCR fd.io fd.np s)
      | .ok .next s => .ok (.fz .non) (endCR fd.io fd.np s)
      | .ok _ _ => .bad 60
      | .ex c p s => .ex c p (endCR fd.io fd.np s)
      | .bad n => .bad n) := by
      unfold runFn
      rw [if_pos (by rw [hnp]; rfl), d.nl, hnp]
      rfl
    rw [er] at cl3
    have sl0 : SL (p.vr (· = f) Z (noTbl H)) Z H [some (.fz .lam)] [some (.ref f)] [[]] := .cons (RO.fz (by unfold RD; exact ⟨f, rfl, rfl⟩)) .nil
    obtain ⟨Gs, s1, s2⟩ := sl0.pad (d.N.length - 1)
    have s2 : List.flatten Gs = [] := s2
    refine ⟨_, pss_all (n := DEPTH) bd, Z, [some (.fz .lam)] ++ List.replicate (d.N.length - 1) none, Gs, by rw [s2]; exact gz, s1, ?_⟩
    rw [s2]
    have flat : ∀ {dv : D} {Z' : Hp} {v : V}, dv.flat = true → RD (p.vr (· = f) Z (noTbl H)) Z' dv v → RD p Z' dv v := fun {dv Z' v} hf h => by
      cases dv <;> first
        | (unfold RD at h ⊢; exact h)
        | cases hf
    cases hr2 : evSs C DEPTH fd.body ([some (.fz .lam)] ++ List.replicate (d.N.length - 1) none) with
    | bad m => rw [hr2] at cl3; exact (show False from cl3).elim
    | ex c dd ρ' => rw [hr2] at cl3; exact (show False from cl3).elim
    | ok fl ρ' =>
      rw [hr2] at cl3
      cases fl with
      | brk => exact (show False from cl3).elim
      | cont => exact (show False from cl3).elim
      | next =>
        obtain ⟨_, cl3⟩ := (show _ ∧ _ from cl3)
        intro σ' H' Z' Fs' io t g' s'
        exact cl3 .non H' Z' (t.sub fun x hx => by cases hx) ((p2 g').sub (fun x hx => by cases hx) List.nodup_nil) non_rd
      | ret o =>
        cases o with
        | fz dv =>
          obtain ⟨hf, cl3⟩ := (show _ ∧ _ from cl3)
          intro v' σ' H' Z' Fs' G io t g' s' r'
          exact cl3 v' H' Z' (t.sub fun x hx => by cases hx) ((p2 g').sub (fun x hx => by cases hx) List.nodup_nil) (flat hf r'.of_fz.1)
        | lst _ => exact (show False from cl3).elim
        | dct _ => exact (show False from cl3).elim
        | ins _ _ => exact (show False from cl3).elim
end
end VI
end

section
set_option Elab.async false
set_option linter.all false
set_option maxRecDepth 10000
/-! VI28: what the bodies with a lambda ask. -/
namespace VI
open PySem PySem.Spec PyProof.Rows L2

/-- what stands fixed for a def that takes a lambda -/
structure Taker (p : Pl) (K : PySem.W.Frag) (mg : Str → Option Value) (tx : Tx) (glob : Nat → Option G) (x : Str) where
  fd : Fn
  a : Str
  d : DefOk p K tx fd.io (enc x) fd
  hg : glob (enc x) = some (.fn fd)
  ps : d.ps = [a]
  lm : d.lm = false
  nm : d.name = x
  ql : d.qual = x
  gl : mg x = some (.ref (p.fn (enc x)))
  a1 : (a == ("__debug__" : Str)) = false
  a2 : (a == ("__classdict__" : Str)) = false
theorem fnScope0 {N ps : List Str} {sc : Scope} {a : Str} (S : FnScope N ps sc) (h : ps = [a]) : N[0]? = some a ∧ Vis sc a := by
  subst h
  have hp := S.pre
  refine ⟨?_, ?_⟩
  · cases N with
    | nil => cases hp
    | cons y l =>
      simp at hp
      rw [hp]
      rfl
  · rcases S.par a List.mem_cons_self with e | e
    · exact .inl e
    · exact .inr (.inl e)
section
variable {P : Program} {w : World} {K : PySem.W.Frag} {mg : Str → Option Value} {base : Heap} {p : Pl} {tx : Tx} {glob : Nat → Option G}
theorem Mf.lamH (M : Mf P w K mg base p tx glob) (hl : p.lam = fun _ => False) (T : ∀ x ∈ tx.ls, Nonempty (Taker p K mg tx glob x)) : LamH P w K mg base p tx glob := by
  intro kk n fd d hlm hB hg A outer s H E hr hgd x hx
  have ep : p.vr (fun _ => False) p.Z0 p.B = p := by
    cases p
    simp only at hl
    subst hl
    rfl
  rw [ep]
  obtain ⟨t⟩ := T x hx
  obtain ⟨co, Pt, e1, tb, m1, m2⟩ := hB.ex
  obtain ⟨n0, v0⟩ := fnScope0 t.d.S t.ps
  have hl0 : ∀ a, ¬ p.lam a := fun a h => by rw [hl] at h; exact h
  have S1 : FnScope t.d.N [t.a] t.d.scope := by rw [← t.ps]; exact t.d.S
  have lk := t.d.lk
  rw [t.nm, t.ql] at lk
  have hc := t.d.hcd
  rw [t.ql] at hc
  refine ⟨hl0, p.fn (enc x), co, Pt, t.d.params, t.d.body, t.d.scope, t.d.dV, t.d.kV, t.d.doc, t.d.pm, t.d.cdv, t.d.ct, t.d.oc, t.d.an, t.d.od, t.d.osl, t.d.N, t.a, t.gl, t.d.kp, lk, hc, fun s us _ hlen => ?_, S1, n0, v0, t.a1, t.a2, tb, e1, m1, m2, hr.mono (by omega), fun r => ?_⟩
  · have hlen' : us.length = 1 := by simpa using hlen
    have b := t.d.bnd s us (by rw [t.ps]; exact hlen')
    rw [t.ps, t.nm, t.ql] at b
    rw [List.append_nil]
    exact b
  · refine Mf.gives M hl0 rfl rfl rfl rfl rfl t.d t.ps t.lm t.hg hgd r kk fun h => hr.mono (by omega)
end
end VI
end

section
set_option Elab.async false
set_option linter.all false
set_option maxRecDepth 100000
set_option maxHeartbeats 2000000
/-! VIr1: an own error whose __init__ says super().__init__(g); self.f = g, on the machine. -/
namespace VI.Rz
open PySem PySem.W PySem.Calls PyProof.Rows

/-- super().__init__(g); self.f = g -/
abbrev initB (g f : Str) (p0 p1 p2 p3 p4 p5 p6 p7 p8 p9 : Pos) : List Stmt :=
  [.Expr (.Call (.Attribute (.Call (.Name "super" p0) [] [] p1) "__init__" p2) [.Name g p3] [] p4) p5, .Assign [.Attribute (.Name "self" p6) f p7] (.Name g p8) p9]
/-- what stands written of the class at C and its __init__ at fI -/
structure XInit (P : Program) (K : Frag) (C fI : Addr) (B newId initId : String) (bm bmB : List Value) (g f : Str) : Prop where
  base : ExcBaseFacts B newId initId bmB
  facts : KxsFacts B initId
  like : ∀ X : String, bm.contains (.type X) = bmB.contains (.type X)
  cls : ∃ nm q N bs sn sub ab col dd k0 k1 k2 k3 k5, K.lookup C = some (excClassObj nm q C N bs bm true sn sub ab col dd k0 k1 k2 k3 k5 newId)
  pass : ∀ self, refuseLoop self "__setattr__" (.ref C :: bm) = pure ()
  obj : bm.contains (.type "object") = true
  isB : bm.contains (.type B) = true
  up : alongIn K "__init__" bm = some (some (.builtin initId))
  init : findIn K (.ref C) "__init__" = some (some (.ref fI))
  tyI : typeIn K (.ref fI) = some (.type "function")
  fn : ∃ qual params scope dV kV doc pm cda ct oc an od osl cc p0 p1 p2 p3 p4 p5 p6 p7 p8 p9 ar ccl cdd vs ccs file tf cl cld csl, K.lookup fI = some ⟨oc, od, .func (ksFn "__init__" qual params (initB g f p0 p1 p2 p3 p4 p5 p6 p7 p8 p9) scope dV kV doc pm an (.ref cda) ct cc), osl⟩ ∧
    codeIn K (.ref cda) qual = true ∧ K.lookup cda = some ⟨ccl, cdd, .fields vs, ccs⟩ ∧ vs[2]? = some (.str file tf) ∧ ((P.main.file : Str) == file) = true ∧ K.lookup cc = some ⟨cl, cld, .cell (some (.ref C)), csl⟩ ∧
    (params.posonlyargs ++ params.args).head? = some ar ∧ ar.arg = "self" ∧ (∀ (s : Shared) (u v : Value), BindsTo s (ksFn "__init__" qual params (initB g f p0 p1 p2 p3 p4 p5 p6 p7 p8 p9) scope dV kV doc pm an (.ref cda) ct cc) ⟨[u, v], []⟩ [("self", u), (g, v)]) ∧
    (∀ x ∈ scope.names, x.2 ≠ .cell) ∧ scope.names.lookup ("self" : Str) = some .local ∧ scope.names.lookup g = some .local ∧ scope.names.lookup ("super" : Str) = some .globalImplicit ∧ scope.names.lookup ("__class__" : Str) = some .free ∧ scope.kind = .function ∧ scope.isCoroutine = false ∧ scope.isGenerator = false ∧ (p2.endLine == p4.line) = true
  gself : (g == ("self" : Str)) = false
  gdb : (g == ("__debug__" : Str)) = false
  top : (P.main.scope.names.lookup ("super" : Str)).isSome = false
  any : nsIn K cStatics "thirdparty.any" = some none
  sa : findIn K (.ref C) "__setattr__" = some (some (.builtin "object.__setattr__"))
  no : findIn K (.ref C) f = some none
  exC : subIn K (.ref C) (.type "BaseException") = some true
  tyC : typeIn K (.ref C) = some (.type "type")
  kC : keepIn K (.ref C) = true

section
open Builtin Builtin.ObjectAttr
variable {prog : Program} {w : World} {A : Around} {E : Value → Shared → Prop} {R : Result → Shared → Prop} {hp : Heap} {gs : Array GenState} {d : Drawn} {t : Nat} {os : OsState}
/-- the first field of an error -/
theorem osa1 {K : Frag} {name : Str} {tk : Tok} {v : Value} {x C : Addr} {fv : Array Value} {cd : ClassData}
    (X : K.In hp) (hx : hp.get? x = some { cls := .ref C, data := .fields fv }) (hcd : clsIn K C = some cd) (ne : cd.mro.isEmpty = false) (hob : cd.mro.contains (.type "object") = true) (hps : ∀ self, refuseLoop self "__setattr__" cd.mro = pure ()) (hh : cd.hasDict = true) (ha : findIn K (.ref C) name = some none)
    (hq : ∀ h' tk' dx, (∀ b o, b ≠ x → hp.get? b = some o → h'.get? b = some o) → hp.objs.size ≤ dx → dx ≠ x → h'.get? x = some { cls := .ref C, dict := some dx, data := .fields fv } →
      h'.Ns1 dx (fun y => if y = name then some v else none) → R (.ok (.ret .none)) ⟨h', gs, d, tk', os⟩) :
    codeAny (model prog w) A (.call (.builtin "object.__setattr__") ⟨[.ref x, .str name tk, v], []⟩) R ⟨hp, gs, d, t, os⟩ := by
  have I : InstAt hp x { cls := .ref C, data := .fields fv } C none := ⟨hx, rfl, rfl, trivial⟩
  have st := F.store_object
  have xs : x ≠ hp.objs.size := Nat.ne_of_lt (Heap.lt_size hx)
  have is : Looks (model prog w) hp (isInstance (.ref x) (.type "object")) true := I.type.andThen (looks_mroIn X (by unfold mroIn; rw [hcd, Option.bind_some, if_neg (by rw [ne]; decide), hob]))
  refine codeAny_call_builtin st.slot.plain st.entry (@check_slot (model prog w) _ _ ⟨hp, gs, d, t, os⟩ "object.__setattr__" "object" "__setattr__" (.ref x) [.str name tk, v] [] _ st.kind st.split is (st.args (.ref x) (.str name tk) v) ?_)
  have m1 : Looks (model prog w) hp (mroOf (.ref C)) cd.mro := (looks_clsIn X hcd).andThen .now
  have m2 : Looks (model prog w) hp (storeTaker? none) none := .now
  have m3 : Looks (model prog w) hp (classData C) cd := looks_clsIn X hcd
  rw [osa_eq, refuse_eq]
  refine wpAny_bind (wpAny_bind (I.type.at (wpAny_bind (m1.at ?_))))
  rw [hps]
  refine wpAny_pure (wpAny_bind (I.type.at (wpAny_bind ((looks_findIn X ha).at (wpAny_bind (m2.at ?_))))))
  show wpAny _ _ (storeInOwnDict (.ref x) (.ref C) (.str name tk) name v false) _ _ _
  obtain ⟨nm, bs, mro, ns, qn, hd, sn, sb, ab, col, del⟩ := cd
  dsimp only at hh
  subst hh
  unfold storeInOwnDict ownDictForStores
  repeat (first | with_reducible refine PySem.HandSPX.store_in_new ?_ ?_ | with_reducible refine wpAny_loadPart_at hx ?_ | with_reducible refine m3.at ?_ | wp_step)
  · exact ⟨_, #[], _, (Heap.get?_update_ne _ _ _ _ xs.symm).trans (Heap.get?_push_at rfl rfl), rfl, fun e he => absurd he (by simp), fun _ => rfl⟩
  · intro h' tk' hn' hs
    have hx1 : (hp.push { cls := .type "dict", data := .dict #[] }).get? x = some { cls := .ref C, data := .fields fv } := Heap.get?_push_of_some _ hx
    refine hq h' tk' hp.objs.size (fun b o hb ho => ?_) (Nat.le_refl _) xs.symm ?_ hn'
    · exact (hs.2 b (Nat.ne_of_lt (Heap.lt_size ho))).trans ((Heap.get?_update_ne _ _ _ _ hb).trans (Heap.get?_push_of_some _ ho))
    · exact (hs.2 x xs).trans (Heap.get?_update_self _ hx1 rfl)
end
section
variable {prog : Program} {w : World} {A : Around} {E : Value → Shared → Prop} {h : Heap} {gs : Array GenState} {d : Drawn} {t : Nat} {os : OsState}
/-- the bound __init__ of the base called: the args are laid anew -/
theorem call_mw {nm q : Str} {C N : Addr} {bs bm bmB : List Value} {sn : List Str} {sub : List Value} {ab : Bool} {col : Option Bool} {dd : Option Addr} {k0 k1 k2 k3 k5 : Option Value} {B newId initId : String} (F : ExcBaseFacts B newId initId bmB)
    {u e t0 : Addr} {rest : List Value} {Q : Value → Shared → Prop}
    (hC : h.get? C = some (excClassObj nm q C N bs bm true sn sub ab col dd k0 k1 k2 k3 k5 newId)) (he : h.get? e = some (excObj C t0 none .none)) (hu : h.get? u = some (kxs_mw initId e)) (hrest : rest.length ≤ sizeLine)
    (hq : ∀ h', (∀ b o, b ≠ e → h.get? b = some o → h'.get? b = some o) → h'.get? e = some (excObj C h.objs.size none .none) → Q .none ⟨h', gs, d, t, os⟩) :
    wpAny (model prog w) A (call (.ref u) rest) Q E ⟨h, gs, d, t, os⟩ := by
  refine wpAny_call (codeAny_of_tree ?_)
  show wpAny _ A.in1 (callAny (.ref u) ⟨rest, []⟩) _ _ _
  simp only [callAny]
  refine wpAny_bind (wpAny_load hu ?_)
  simp only [kxs_mw, show (Value.type "method-wrapper" == Value.type "method" || Value.type "method-wrapper" == Value.type "builtin_function_or_method" || Value.type "method-wrapper" == Value.type "method-wrapper") = true by decide, if_true]
  refine KFB.if_so (by decide) ?_
  refine wpAny_bind (check_bound_init F.toExcCallFacts hC he rfl ?_)
  refine wpAny_bind (wpAny_pure (wpAny_pure ?_))
  refine ⟨plainId_quiet F.init.plain _, codeAny_builtin F.initEntry ?_⟩
  exact exc_init_tree (cls := .ref C) (t0 := t0) (dv := none) (c2 := .none) (c3 := .none) (b4 := .bool false) he hrest fun h' k e' t' => hq h' k e'
end

section
variable {prog : Program} {w : World} {A : Around} {R : Result → Shared → Prop} {hp : Heap} {gs : Array GenState} {d : Drawn} {t : Nat} {os : OsState}
theorem clsIn_of {K : Frag} {nm q : Str} {C N : Addr} {bs bm : List Value} {sn : List Str} {sub : List Value} {ab : Bool} {col : Option Bool} {dd : Option Addr} {k0 k1 k2 k3 k5 : Option Value} {newId : String}
    (h : K.lookup C = some (excClassObj nm q C N bs bm true sn sub ab col dd k0 k1 k2 k3 k5 newId)) : clsIn K C = some { name := nm, bases := bs, mro := .ref C :: bm, ns := N, qualname := q, hasDict := true, slotNames := sn, subclasses := sub, abstract := ab, collection := col, hasDel := false } := by
  unfold clsIn
  rw [h] <;> rfl
theorem run_init {K : Frag} {C fI : Addr} {B newId initId : String} {bm bmB : List Value} {g f : Str} {mg mb : Str → Option Value} (T : XInit prog K C fI B newId initId bm bmB g f) (X : K.In hp) (G : hp.Ns mainGlobals mg) (hG : mg "super" = none) (Bn : hp.Ns builtinsNs mb) (hB : mb "super" = some (.type "super"))
    (hlim : hp.NoLimit) (hroom : A.depth < recursionLimit) {a t0 : Addr} {v : Value} (hKa : K.lookup a = none) (ha : hp.get? a = some (excObj C t0 none .none))
    (hq : ∀ h' tk' dx t1, (∀ b o, b ≠ a → hp.get? b = some o → h'.get? b = some o) → hp.objs.size ≤ dx → dx ≠ a → h'.get? a = some { cls := .ref C, dict := some dx, data := .fields #[.ref t1, .none, .none, .none, .bool false, .none] } →
      h'.Ns1 dx (fun y => if y = f then some v else none) → R (.ok (.ret .none)) ⟨h', gs, d, tk', os⟩) :
    codeAny (model prog w) A (.call (.ref fI) ⟨[.ref a, v], []⟩) R ⟨hp, gs, d, t, os⟩ := by
  obtain ⟨nm, q, N, bs, sn, sub, ab, col, dd, k0, k1, k2, k3, k5, hC⟩ := T.cls
  obtain ⟨qual, params, scope, dV, kV, doc, pm, cda, ct, oc, an, od, osl, cc, p0, p1, p2, p3, p4, p5, p6, p7, p8, p9, ar, ccl, cdd, vs, ccs, file, tf, cl, cld, csl, lk, hcd, hco, hvs, hfile, hcell, hhead, har, hbind, hnc, hself, hgl, hsup, hcl, hkind, hcor, hgen, hl⟩ := T.fn
  have hcls := clsIn_of hC
  have hac : a ≠ C := fun z => by
    rw [z, X _ _ hC] at ha
    cases ha
  refine ks_codeAny_call_defAt (fd := ksFn "__init__" qual params (initB g f p0 p1 p2 p3 p4 p5 p6 p7 p8 p9) scope dV kV doc pm an (.ref cda) ct cc) (body := initB g f p0 p1 p2 p3 p4 p5 p6 p7 p8 p9) (binds := [("self", .ref a), (g, v)]) hroom (X _ _ lk) rfl hlim (codeRec_of X hcd) rfl (hbind _ _ _) hnc (fun y hy => ?_) (fun h1 ns1 kp1 => ?_) hcor hgen hkind
  · simp only [List.mem_cons, List.not_mem_nil, or_false] at hy
    rcases hy with rfl | rfl
    · exact hself
    · exact hgl
  have X1 : K.In h1 := X.keeps kp1
  have ha1 : h1.get? a = some (excObj C t0 none .none) := kp1 _ _ ha
  have L1 : hp.objs.size ≠ a := Nat.ne_of_gt (Heap.lt_size ha)
  have gself : ([("self", Value.ref a), (g, v)] : List (Str × Value)).reverse.lookup ("self" : Str) = some (.ref a) := by
    have e : (("self" : Str) == g) = false := by
      have := T.gself
      rw [beq_eq_false_iff_ne] at this ⊢
      exact fun z => this z.symm
    simp [List.lookup, e]
  have gg : ([("self", Value.ref a), (g, v)] : List (Str × Value)).reverse.lookup g = some v := by simp [List.lookup]
  let env : Env := ksEnv qual scope hp.objs.size fI (.ref cda) cc
  have he : eval (.Call (.Attribute (.Call (.Name "super" p0) [] [] p1) "__init__" p2) [.Name g p3] [] p4) env = (do
      let ov ← attributeBase (.Call (.Name "super" p0) [] [] p1) "__init__" env (eval (.Call (.Name "super" p0) [] [] p1) env)
      standAt p2.atName
      let (f, first) ← holding [ov] (getMethod ov "__init__" (L2.plainOf (.Call (.Name "super" p0) [] [] p1) env))
      callWith p4 f first (backTo p4 (starEach [.Name g p3] env)) []) := by
    rw [arm_eval_Call]
    exact congrArg (fun k => Bind.bind (attributeBase (.Call (.Name "super" p0) [] [] p1) "__init__" env (eval (.Call (.Name "super" p0) [] [] p1) env)) k) (funext fun ov => congrArg (fun k => Bind.bind (standAt p2.atName) k) (funext fun _ => L2.mcall_line rfl hl))
  have hint : interactive env = false := by
    have e : env.scope.kind = .function := hkind
    simp [interactive, e]
  refine ks_wpAt_execs_cons (ks_wpAt_Expr_any (ks_wpAt_MethodCall (pl := L2.plainOf (.Call (.Name "super" p0) [] [] p1) env) ?_ he) hint rfl)
  have hD1 : h1.get? C = some (excClassObj nm q C N bs bm true sn sub ab col dd k0 k1 k2 k3 k5 newId) := X1 _ _ hC
  have hmro : mroIn K C (.ref C) = some true := by
    unfold mroIn
    rw [hcls, Option.bind_some, if_neg (show ¬ (List.isEmpty (Value.ref C :: bm) = true) from Bool.false_ne_true)]
    simp
  have IA : InstAt h1 a (excObj C t0 none .none) C none := ⟨ha1, rfl, rfl, trivial⟩
  refine ks_wpAt_super_base (env := env) hsup hcl (by decide) rfl (X1 _ _ lk) rfl hhead rfl (X1 _ _ hco) rfl hvs hfile T.top ?_
  refine ks_loadName_global hkind hsup (loadGlobal_builtin (env := env) (mg := mg) (G.keeps kp1) hG (Bn.keeps kp1) hB ⟨rfl, ?_⟩)
  refine wpAny_loadName_free hkind hcl rfl ⟨_, X1 _ _ hcell, rfl⟩ ?_
  rw [har]
  refine wpAny_loadName_local hkind hself ns1 gself ?_
  refine ks_wpAny_isType_cls hD1 rfl ⟨rfl, ?_⟩
  refine ks_wpAny_call_super hD1 rfl IA.at_ IA.cls (fun c e => ?_) (looks_mroIn X1 hmro) (fun h2 e2 kp2 => ?_)
  · have := IA.no
    unfold notCls at this
    rw [e] at this
    exact Bool.noConfusion this
  have X2 : K.In h2 := X1.keeps kp2
  have IA2 : InstAt h2 a (excObj C t0 none .none) C none := ⟨kp2 _ _ ha1, rfl, rfl, trivial⟩
  have hB2 : mroIn K C (.type B) = some true := by
    unfold mroIn
    rw [hcls, Option.bind_some, if_neg (show ¬ (List.isEmpty (Value.ref C :: bm) = true) from Bool.false_ne_true), List.contains_cons, T.isB, Bool.or_true]
  refine kxs_getMethod T.facts e2 (looks_opaque X2 T.any) (l₀ := .ref C :: bm) ((looks_clsIn X2 hcls).andThen .now) (PySem.ESX.drop_own C bm) X2 T.up (IA2.type.andThen (looks_mroIn X2 hB2)) hac (by decide) ?_
  have kp3 : ∀ b o, h2.get? b = some o → (h2.push (kxs_mw initId a)).get? b = some o := fun b o e => Heap.get?_push_of_some _ e
  have X3 : K.In (h2.push (kxs_mw initId a)) := X2.keeps kp3
  have ns3 := (ns1.keeps kp2).keeps kp3
  refine kxs_callWith (i := initId) (x := a) rfl (Calls.evalArgs_plain (Calls.spliced_cons (wpAny_Name (wpAny_loadName_local hkind hgl ns3 gg (Calls.spliced_nil ⟨Heap.get?_push_size _ rfl, ?_⟩)) T.gdb)))
  refine call_mw T.base (X3 _ _ hC) (kp3 _ _ IA2.at_) (Heap.get?_push_size _ rfl) (by show 1 ≤ sizeLine; decide) fun h4 kp4 ha4 => ?_
  have nef : ∀ b o, K.lookup b = some o → b ≠ a := fun b o e z => by
    rw [z, hKa] at e
    cases e
  have X4 : K.In h4 := fun b o e => kp4 b o (nef b o e) (X3 b o e)
  have ns4 := ns3.at fun o e => kp4 _ _ L1 e
  refine ks_wpAt_execs_cons (wpAt_of_wpAny (plainObj_wpAny_Assign_Attribute (wpAny_Name (wpAny_loadName_local hkind hgl ns4 gg (wpAny_Name (wpAny_loadName_local hkind hself ns4 gself ?_) (by decide))) T.gdb) rfl))
  refine set_plain X4 (ox := excObj C (h2.push (kxs_mw initId a)).objs.size none .none) (od := none) ⟨ha4, rfl, rfl, trivial⟩ T.sa ?_
  refine osa1 X4 ha4 hcls rfl (by rw [List.contains_cons, T.obj, Bool.or_true]) T.pass rfl T.no fun h5 tk5 dx kp5 sz ne hx hn => ?_
  refine wpAt_of_wpAny (wpAny_execs_nil ?_)
  have up : ∀ b o, b ≠ a → hp.get? b = some o → h4.get? b = some o := fun b o hb e => kp4 b o hb (kp3 b o (kp2 b o (kp1 b o e)))
  refine hq h5 tk5 dx _ (fun b o hb e => kp5 b o hb (up b o hb e)) (Nat.le_trans (Nat.le_of_lt ns4.lt) sz) ne hx hn
end
end VI.Rz
end

section
set_option Elab.async false
set_option linter.all false
set_option maxRecDepth 100000
set_option maxHeartbeats 2000000
/-! VIr2: such an error is made. -/
namespace VI.Rz
open PySem PySem.Spec PyProof.Rows L2

theorem sh_ne {n a : Nat} (h : n ≤ a) {b : Nat} (hb : b < n) : b ≠ a := by omega
theorem set_same2 {H1 : Hp} {a C dx : Addr} {o : HO} {fs : List (Str × V)} (hn : H1 a = none) (hd : dx ≠ a) : upd (del (upd (upd (upd H1 a o) dx (exd dx fs)) a (exo a C (some dx))) a) dx (.xd fs) = upd H1 dx (.xd fs) := by
  funext b
  by_cases h1 : b = dx
  · subst h1
    rw [upd_same, upd_same]
  · rw [upd_ne h1, upd_ne h1]
    by_cases h2 : b = a
    · subst h2
      rw [del_same, hn]
    · rw [del_ne h2, upd_ne h2, upd_ne h1, upd_ne h2]
theorem raise_init {X : Cx} {C fI : Addr} {B newId initId : String} {bm bmB : List Value} {x g f : Str} (T : XInit X.prog X.K C fI B newId initId bm bmB g f) (hsu : X.mg "super" = none) {k : Nat} (hr : Room (k + 1) X.A) (hg : Gl X x) (hm : X.mg x = some (.ref C)) {e : Expr} {te : TE} {p1 pos : Pos} (he : PE X e te)
    (hs : starEach [e] X.env = [(false, eval e X.env)]) (hdb : (x == ("__debug__" : Str)) = false) :
    PMk X (.Call (.Name x p1) [e] [] pos) (fun σ H Q => te σ H fun v H1 => ∀ q, H1 q = none → Q (.ref C) (some q) (upd H1 q (.xd [(f, v)]))) := by
  intro pins s σ H Q I h
  obtain ⟨nm, q, N, bs, sn, sub, ab, col, dd, k0, k1, k2, k3, k5, hC⟩ := T.cls
  have ha : PA X [e] (tCons te tNil) := pa_cons he pa_nil hs
  refine wpAny_Call_Name_kw (ld_glob I hg hm ?_ hdb)
  let post : List V → Hp → Prop := fun vs H1 => match vs with
    | [v] => ∀ q, H1 q = none → Q (.ref C) (some q) (upd H1 q (.xd [(f, v)]))
    | _ => False
  have hA := ha.run pos pins s σ H post I h
  refine PySem.W.callWith_K (h₀ := X.base) I.ok.mod.kin T.kC (thn hA fun us s1 ⟨vs, H1, I1, r1, q1⟩ => ⟨I1.kIn, ?_⟩) hs rfl
  match vs, us, r1, q1 with
  | [], _, _, q1 => exact (show False from q1).elim
  | _ :: _ :: _, _, _, q1 => exact (show False from q1).elim
  | [v], [], r1, _ => cases r1
  | [v], _ :: _ :: _, r1, _ =>
    cases r1 with
    | cons _ t => cases t
  | [v], [u], r1, q1 =>
      have ru : RelV v u := by cases r1 with | cons a b => exact a
      show wpAny _ _ (call (.ref C) [u]) _ _ _
      obtain ⟨hp, gs, dr, tk, os⟩ := s1
      have hsz : hp.objs.size ≤ hp.objs.size + 1 := Nat.le_succ _
      have hn : H1 (hp.objs.size + 1) = none := I1.hok.fresh hsz
      have kk : ∀ b o, hp.get? b = some o → ((hp.push (PySem.W.kdv_tup [u])).push (PySem.HandSPX.excO C hp.objs.size)).get? b = some o := fun b o e => Heap.get?_push_of_some _ (Heap.get?_push_of_some _ e)
      have hget : ((hp.push (PySem.W.kdv_tup [u])).push (PySem.HandSPX.excO C hp.objs.size)).get? (hp.objs.size + 1) = some (PySem.HandSPX.excO C hp.objs.size) := by heap_get
      have I2 : Inv X pins σ (upd H1 (hp.objs.size + 1) (exo (hp.objs.size + 1) C none)) ⟨(hp.push (PySem.W.kdv_tup [u])).push (PySem.HandSPX.excO C hp.objs.size), gs, dr, tk, os⟩ :=
        I1.laid (t' := tk) (a := hp.objs.size + 1) (o := exo (hp.objs.size + 1) C none) (h' := (hp.push (PySem.W.kdv_tup [u])).push (PySem.HandSPX.excO C hp.objs.size)) kk hsz (exo_ok hget)
      have hKa : X.K.lookup (hp.objs.size + 1) = none := by
        cases z : X.K.lookup (hp.objs.size + 1) with
        | none => rfl
        | some o =>
          have := Heap.lt_size (I1.kIn _ _ z)
          exact absurd this (by show ¬ (hp.objs.size + 1 < hp.objs.size); omega)
      obtain ⟨mb, hnb, hbb⟩ := I2.ok.mod.blt
      refine wpAny_call (PySem.HandSPX.call_own T.base T.like (I1.kIn _ _ hC) (PySem.W.looks_findIn I1.kIn T.init) (fun self => PySem.W.bind_fn I1.kIn self T.tyI) (by show 1 ≤ sizeLine; decide)
        (run_init (mg := X.mg) (mb := mb) T I2.kIn (I2.ok.mod.glob.keeps I2.bk) hsu (hnb.keeps I2.bk) ((hbb _ (by decide)).trans (by first | rfl | kernel_rfl)) I2.nolimit (hr.make C [u] []).depth hKa hget fun h' tk' dx t1 k' dn dne hx hns => ⟨rfl, ?_⟩))
      have hnd0 : upd H1 (hp.objs.size + 1) (exo (hp.objs.size + 1) C none) dx = none := I2.hok.fresh dn
      have hnd : H1 dx = none := by rw [upd_ne dne] at hnd0; exact hnd0
      have hea : upd H1 (hp.objs.size + 1) (exo (hp.objs.size + 1) C none) (hp.objs.size + 1) = some (exo (hp.objs.size + 1) C none) := upd_same
      generalize hA0 : hp.objs.size + 1 = a at *
      generalize hh2 : (hp.push (PySem.W.kdv_tup [u])).push (PySem.HandSPX.excO C hp.objs.size) = h2 at *
      generalize hH0 : upd H1 a (exo a C none) = H0 at *
      have ndx : ∀ {b : Addr} {o : Obj}, h2.get? b = some o → b ≠ dx := fun {b o} z => sh_ne dn (Heap.lt_size z)
      have na : ∀ {b : Addr}, H0 b = none → b ≠ a := fun {b} n z => by
        rw [z, hea] at n
        cases n
      have un : Un (frs X.stack) [] H0 (upd (upd H0 dx (exd dx [(f, v)])) a (exo a C (some dx))) h2 h' := {
        keep := fun b o z n _ _ => k' b o (na n) z
        slot := fun b o z n _ _ => ⟨o.slots, k' b o (na n) z⟩
        free := fun b o z n _ => by rw [upd_ne (na n), upd_ne (ndx z)]; exact n
        there := fun b o z _ => by
          by_cases hb : b = a
          · exact ⟨_, by rw [hb]; exact hx⟩
          · exact ⟨o, k' b o hb z⟩
        tups := fun b xs z => by rw [upd_ne (at_ne hea z exo_tup), upd_ne (ne_of_none z hnd0)]; exact z
        frzs := fun b o w z => by rw [upd_ne (at_ne hea z exo_frz), upd_ne (ne_of_none z hnd0)]; exact z
        tbls := fun b ps z => ⟨#[], by rw [upd_ne (at_ne hea z exo_tbl), upd_ne (ne_of_none z hnd0), z]; simp⟩ }
      have hok : HOk X.prog X.w (upd (upd H0 dx (exd dx [(f, v)])) a (exo a C (some dx))) h' := fun b o z => by
        by_cases hb : b = a
        · subst hb
          rw [upd_same] at z
          cases z
          exact exo_ok hx
        · rw [upd_ne hb] at z
          by_cases hd : b = dx
          · subst hd
            rw [upd_same] at z
            cases z
            exact exd_ok hns (relO_put (fs := []) ru fun g => True.intro)
          · rw [upd_ne hd] at z
            exact (I2.hok b o z).stay (fun c w hc y => k' c w (by
                rcases hc with hc | hc
                · rw [hc]
                  exact hb
                · exact at_ne hea hc exo_own) y)
              (fun c hc => by rw [upd_ne (at_ne hea hc exo_own), upd_ne (ne_of_none hc hnd0)]; exact hc) (fun c xs hc => by rw [upd_ne (at_ne hea hc exo_tup), upd_ne (ne_of_none hc hnd0)]; exact hc)
      subst hH0
      refine mk_end (fs := [(f, v)]) (d := dx) (raises_own T.exC T.tyC) I1 hsz kk un hok rfl I1.bare upd_same ?_ hnd ?_
      · rw [upd_ne dne, upd_same]
      · rw [set_same2 hn dne]
        exact q1 dx hnd
end VI.Rz
end

section
set_option Elab.async false
set_option linter.all false
set_option maxRecDepth 100000
set_option maxHeartbeats 2000000
/-! VIh1: errors' classes as the head tells them. -/
namespace VI.Hd
open PySem PySem.Spec PyProof.Rows L2 He VI.Rz

theorem zip_lookup : ∀ {ps : List Str} {us : List Value} {n : Str}, us.length = ps.length → n ∈ ps → ((ps.zip us).lookup n).isSome = true
  | [], _, _, _, h => by cases h
  | p :: ps, [], _, h, _ => by cases h
  | p :: ps, u :: us, n, hl, h => by
    simp only [List.zip_cons_cons, List.lookup_cons]
    cases e : n == p with
    | true => rfl
    | false =>
      refine zip_lookup (by simpa using hl) ?_
      rcases List.mem_cons.mp h with rfl | h
      · simp at e
      · exact h
theorem fm_congr {α β : Type} {f g : α → Option β} : ∀ {l : List α}, (∀ x ∈ l, f x = g x) → l.filterMap f = l.filterMap g
  | [], _ => rfl
  | x :: l, h => by
    rw [List.filterMap_cons, List.filterMap_cons, h x List.mem_cons_self, fm_congr fun y hy => h y (List.mem_cons_of_mem _ hy)]
theorem zip_fm : ∀ {ps : List Str} {us : List Value}, us.length = ps.length → ps.Nodup → (ps.filterMap fun n => ((ps.zip us).lookup n).map (n, ·)) = ps.zip us
  | [], _, _, _ => rfl
  | p :: ps, [], h, _ => by cases h
  | p :: ps, u :: us, hl, nd => by
    have m := List.nodup_cons.mp nd
    have e : (ps.filterMap fun n => (((p :: ps).zip (u :: us)).lookup n).map (n, ·)) = ps.zip us := by
      rw [← zip_fm (ps := ps) (us := us) (by simpa using hl) m.2]
      refine fm_congr fun n hn => ?_
      have : (n == p) = false := by
        rw [beq_eq_false_iff_ne]
        rintro rfl
        exact m.1 hn
      simp only [List.zip_cons_cons, List.lookup_cons, this]
    rw [List.filterMap_cons, e]
    simp
theorem bind_plain {fd : FuncData} {as : List Arg} {us : List Value} (h : fd.params = ⟨[], as, none, [], [], none, []⟩) (hd : fd.defaults = .none) (nd : (as.map (·.arg)).Nodup) (hl : us.length = (as.map (·.arg)).length) : bindArgs fd ⟨us, []⟩ = pure ((as.map (·.arg)).zip us) := by
  have hm : ((as.map (·.arg)).filter fun n => (((as.map (·.arg)).zip us).lookup n).isNone) = [] := by
    rw [List.filter_eq_nil_iff]
    intro n hn
    have := zip_lookup hl hn
    rw [Option.isSome_iff_ne_none] at this
    simpa using this
  have hf := zip_fm hl nd
  have e0 : seqItems? Value.none = pure none := rfl
  unfold bindArgs
  simp only [h, hd, e0, List.forIn_nil, pure_bind, List.map_nil, List.nil_append, Option.getD_none, Array.toList_empty, List.length_nil, Nat.zero_sub, List.drop_nil, Nat.sub_zero, List.zip_nil_right, List.append_nil, hf, hl, List.take_length, hm, List.isEmpty_nil, Bool.not_true, Bool.false_eq_true, if_false]
  simp

inductive Bas4 where
  | val | idx | ovf | ari | lkp
  deriving DecidableEq
def Bas4.B : Bas4 → String
  | .val => "ValueError" | .idx => "IndexError" | .ovf => "OverflowError" | .ari => "ArithmeticError" | .lkp => "LookupError"
def Bas4.newId : Bas4 → String
  | .val => "ValueError.__new__" | .idx => "IndexError.__new__" | .ovf => "OverflowError.__new__" | .ari => "ArithmeticError.__new__" | .lkp => "LookupError.__new__"
def Bas4.initId : Bas4 → String
  | .val => "ValueError.__init__" | .idx => "IndexError.__init__" | .ovf => "OverflowError.__init__" | .ari => "ArithmeticError.__init__" | .lkp => "LookupError.__init__"
def Bas4.bm : Bas4 → List Value
  | .val => [.type "ValueError", .type "Exception", .type "BaseException", .type "object"]
  | .idx => [.type "IndexError", .type "LookupError", .type "Exception", .type "BaseException", .type "object"]
  | .ovf => [.type "OverflowError", .type "ArithmeticError", .type "Exception", .type "BaseException", .type "object"]
  | .ari => [.type "ArithmeticError", .type "Exception", .type "BaseException", .type "object"]
  | .lkp => [.type "LookupError", .type "Exception", .type "BaseException", .type "object"]
theorem Bas4.facts : ∀ b : Bas4, ExcBaseFacts b.B b.newId b.initId b.bm
  | .val => PySem.F.excBase_ValueError | .idx => PySem.F.excBase_IndexError | .ovf => PySem.F.excBase_OverflowError | .ari => PySem.F.excBase_ArithmeticError | .lkp => PySem.F.excBase_LookupError
theorem Bas4.kxs : ∀ b : Bas4, PySem.W.KxsFacts b.B b.initId
  | .val => PySem.W.kxs_ValueError | .idx => PySem.W.kxs_IndexError | .ovf => PySem.W.kxs_OverflowError | .ari => PySem.W.kxs_ArithmeticError | .lkp => PySem.W.kxs_LookupError
theorem Bas4.pass (b : Bas4) (self : Value) : refuseLoop self "__setattr__" b.bm = pure () := by
  cases b <;> first | rfl | kernel_rfl
theorem Bas4.object (b : Bas4) : b.bm.contains (.type "object") = true := by cases b <;> decide +kernel
theorem Bas4.self (b : Bas4) : b.bm.contains (.type b.B) = true := by cases b <;> decide +kernel

/-- an own error without __init__ of its own -/
def x0B (K : PySem.W.Frag) (x : Str) (b : Bas4) : Bool := PySem.W.excIn K (ga K x) b.bm b.newId && (PySem.W.keepIn K (.ref (ga K x)) && (decide (PySem.W.subIn K (.ref (ga K x)) (.type "BaseException") = some true) && decide (PySem.W.typeIn K (.ref (ga K x)) = some (.type "type"))))
theorem x0_raise {X : Cx} {x : Str} {b : Bas4} (h : x0B X.K x b = true) (gC : X.mg x = some (.ref (ga X.K x))) (hg : Gl X x) (hdb : (x == ("__debug__" : Str)) = false) (m : Str) (j : Nat) (p1 p2 pos : Pos) :
    PMk X (.Call (.Name x p1) [.Constant (.str m) j p2] [] pos) (fun _ H Q => Q (.ref (ga X.K x)) none H) := by
  obtain ⟨c1, h⟩ := ba h
  obtain ⟨c2, h⟩ := ba h
  obtain ⟨c3, c4⟩ := ba h
  exact pmk_own b.facts c1 gC c2 (raises_own (of_decide_eq_true c3) (of_decide_eq_true c4)) hg hdb

/-! ### errors with super().__init__(g); self.f = g -/
def isNm (x : Str) : Expr → Bool
  | .Name y _ => y == x
  | _ => false
/-- the two rows of such an __init__ -/
def matchInit (g f : Str) : List Stmt → Bool
  | [.Expr (.Call (.Attribute (.Call s [] [] p1) i p2) [a] [] p4) p5, .Assign [.Attribute o f' p7] b p9] => isNm "super" s && (i == "__init__" && (isNm g a && (isNm "self" o && (f' == f && (isNm g b && (p2.endLine == p4.line))))))
  | _ => false
theorem isNm_ok {x : Str} {e : Expr} (h : isNm x e = true) : ∃ p, e = .Name x p := by
  cases e <;> first
    | cases h
    | skip
  rename_i y p
  have h : (y == x) = true := h
  rw [beq_iff_eq] at h
  subst h
  exact ⟨p, rfl⟩
theorem matchInit_ok {g f : Str} {b : List Stmt} (h : matchInit g f b = true) : ∃ p0 p1 p2 p3 p4 p5 p6 p7 p8 p9, b = initB g f p0 p1 p2 p3 p4 p5 p6 p7 p8 p9 ∧ (p2.endLine == p4.line) = true := by
  unfold matchInit at h
  split at h
  · rename_i s p1 i p2 a p4 p5 o f' p7 b p9
    obtain ⟨h1, h⟩ := ba h
    obtain ⟨h2, h⟩ := ba h
    obtain ⟨h3, h⟩ := ba h
    obtain ⟨h4, h⟩ := ba h
    obtain ⟨h5, h⟩ := ba h
    obtain ⟨h6, h7⟩ := ba h
    obtain ⟨q1, rfl⟩ := isNm_ok h1
    obtain ⟨q2, rfl⟩ := isNm_ok h3
    obtain ⟨q3, rfl⟩ := isNm_ok h4
    obtain ⟨q4, rfl⟩ := isNm_ok h6
    rw [beq_iff_eq] at h2 h5
    subst h2 h5
    exact ⟨q1, p1, p2, q2, p4, p5, q3, p7, q4, p9, rfl, h7⟩
  · cases h
def plain2 (a b : Str) : Arguments → Bool
  | ⟨[], [x, y], none, [], [], none, []⟩ => x.arg == a && y.arg == b
  | _ => false
def scI (g : Str) (sc : Scope) : Bool := decide (sc.names.lookup ("self" : Str) = some .local) && (decide (sc.names.lookup g = some .local) && (decide (sc.names.lookup ("super" : Str) = some .globalImplicit) && (decide (sc.names.lookup ("__class__" : Str) = some .free) && (decide (sc.kind = .function) && (!sc.isCoroutine && (!sc.isGenerator && sc.names.all fun y => !decide (y.2 = .cell)))))))
/-- a row: the class, its __init__'s text, the parameter, the field, the base -/
structure X1Row where
  x : Str
  st : Stmt
  g : Str
  f : Str
  b : Bas4
def X1Row.txt (r : X1Row) : Bool := matchInit r.g r.f (defBody r.st) && (plain2 "self" r.g (defArgs r.st) && (scI r.g (defScope r.st) && (!(r.g == ("self" : Str)) && !(r.g == ("__debug__" : Str)))))
abbrev FnI : Type := Option (Str × Arguments × FuncBody × Scope × Addr × List Str × Value × Addr)
def fnI (K : PySem.W.Frag) (x : Str) : FnI := match K.lookup (ma K (ga K x) "__init__") with
  | some ⟨_, _, .func fd, _⟩ => some (fd.name, fd.params, fd.body, fd.scope, fd.globals, fd.closure.map (·.1), fd.defaults, fd.builtins)
  | _ => none
def X1Row.val (r : X1Row) : FnI := some ("__init__", defArgs r.st, .stmts (defBody r.st), defScope r.st, mainGlobals, ["__class__"], .none, builtinsNs)
/-- its closure, its code -/
def ccB (K : PySem.W.Frag) (file : Str) (C : Addr) (f : Addr) : Bool := match K.lookup f with
  | some ⟨_, _, .func fd, _⟩ => (match fd.closure with
    | [(_, cc)] => (match K.lookup cc with
      | some ⟨_, _, .cell (some (.ref D)), _⟩ => decide (D = C)
      | _ => false)
    | _ => false) && (match fd.code with
    | .ref cda => PySem.W.codeIn K (.ref cda) fd.qualname && (match K.lookup cda with
      | some ⟨_, _, .fields vs, _⟩ => (match (vs[2]? : Option Value) with
        | some (.str fl _) => file == fl
        | _ => false)
      | _ => false)
    | _ => false)
  | _ => false
def upB (K : PySem.W.Frag) (C : Addr) (id : String) : Bool := match PySem.W.clsIn K C with
  | some cd => decide (PySem.W.alongIn K "__init__" (cd.mro.drop 1) = some (some (.builtin id)))
  | none => false
def x1B (file : Str) (K : PySem.W.Frag) (r : X1Row) : Bool :=
  PySem.W.excInitIn K (ga K r.x) r.b.bm r.b.newId && (PySem.W.hasDictIn K (ga K r.x) && (upB K (ga K r.x) r.b.initId && (decide (PySem.W.findIn K (.ref (ga K r.x)) "__init__" = some (some (.ref (ma K (ga K r.x) "__init__")))) && (decide (PySem.W.typeIn K (.ref (ma K (ga K r.x) "__init__")) = some (.type "function")) &&
  (ccB K file (ga K r.x) (ma K (ga K r.x) "__init__") && (decide (PySem.W.nsIn K cStatics "thirdparty.any" = some none) && (decide (PySem.W.findIn K (.ref (ga K r.x)) "__setattr__" = some (some (.builtin "object.__setattr__"))) && (decide (PySem.W.findIn K (.ref (ga K r.x)) r.f = some none) &&
  (decide (PySem.W.subIn K (.ref (ga K r.x)) (.type "BaseException") = some true) && (decide (PySem.W.typeIn K (.ref (ga K r.x)) = some (.type "type")) && (PySem.W.keepIn K (.ref (ga K r.x)) && xfB K (ga K r.x))))))))))))
theorem cls_of {K : PySem.W.Frag} {C : Addr} {bmB : List Value} {newId : String} (q : PySem.W.excInitIn K C bmB newId = true) (hd : PySem.W.hasDictIn K C = true) : ∃ nm qn N bs bm sn sub ab col dd k0 k1 k2 k3 k5,
    K.lookup C = some (excClassObj nm qn C N bs bm true sn sub ab col dd k0 k1 k2 k3 k5 newId) ∧ PySem.W.excTail bmB bm = true := by
  unfold PySem.W.excInitIn at q
  split at q
  · rename_i dd cd sl ho
    split at q
    · rename_i C' bm k0 k1 k2 k3 n k5 hm hs
      simp only [Bool.and_eq_true, beq_iff_eq, Bool.not_eq_true'] at q
      obtain ⟨⟨⟨rfl, rfl⟩, hdel⟩, ht⟩ := q
      obtain ⟨nm, bs, mro, ns, qn, hd', sn, sub, ab, col, del⟩ := cd
      dsimp only at hm hdel
      subst hm hdel
      have hdt : hd' = true := by
        unfold PySem.W.hasDictIn PySem.W.clsIn at hd
        rw [ho] at hd
        simpa using hd
      subst hdt
      obtain ⟨l⟩ := sl
      simp only at hs
      subst hs
      exact ⟨nm, qn, ns, bs, bm, sn, sub, ab, col, dd, k0, k1, k2, k3, k5, ho, ht⟩
    · cases q
  · cases q
theorem plain2_ok {a b : Str} {ps : Arguments} (h : plain2 a b ps = true) : ∃ x y, ps = ⟨[], [x, y], none, [], [], none, []⟩ ∧ x.arg = a ∧ y.arg = b := by
  unfold plain2 at h
  split at h
  · rename_i x y
    obtain ⟨h1, h2⟩ := ba h
    exact ⟨x, y, rfl, beq_iff_eq.mp h1, beq_iff_eq.mp h2⟩
  · cases h
theorem nb {b : Bool} (h : (!b) = true) : b = false := by cases b <;> first | rfl | cases h
theorem x1_init {P : Program} {K : PySem.W.Frag} {r : X1Row} (h : x1B P.main.file K r = true) (ht : r.txt = true) (hv : fnI K r.x = r.val) (htop : (P.main.scope.names.lookup ("super" : Str)).isSome = false) : ∃ bm, XInit P K (ga K r.x) (ma K (ga K r.x) "__init__") r.b.B r.b.newId r.b.initId bm r.b.bm r.g r.f := by
  obtain ⟨c1, h⟩ := ba h
  obtain ⟨c2, h⟩ := ba h
  obtain ⟨c3, h⟩ := ba h
  obtain ⟨c4, h⟩ := ba h
  obtain ⟨c5, h⟩ := ba h
  obtain ⟨c6, h⟩ := ba h
  obtain ⟨c7, h⟩ := ba h
  obtain ⟨c8, h⟩ := ba h
  obtain ⟨c9, h⟩ := ba h
  obtain ⟨c10, h⟩ := ba h
  obtain ⟨c11, h⟩ := ba h
  obtain ⟨c12, c13⟩ := ba h
  obtain ⟨t1, ht⟩ := ba ht
  obtain ⟨t2, ht⟩ := ba ht
  obtain ⟨t3, ht⟩ := ba ht
  obtain ⟨t4, t5⟩ := ba ht
  obtain ⟨nm, qn, N, bs, bm, sn, sub, ab, col, dd, k0, k1, k2, k3, k5, hC, htl⟩ := cls_of c1 c2
  have like := fun X => PySem.W.excTail_contains (bmB := r.b.bm) X bm htl
  refine ⟨bm, ⟨r.b.facts, r.b.kxs, like, ⟨nm, qn, N, bs, sn, sub, ab, col, dd, k0, k1, k2, k3, k5, hC⟩, fun self => ?_, (like _).trans r.b.object, (like _).trans r.b.self, ?_, of_decide_eq_true c4, of_decide_eq_true c5, ?_, nb t4, nb t5, htop, of_decide_eq_true c7, of_decide_eq_true c8, of_decide_eq_true c9, of_decide_eq_true c10, of_decide_eq_true c11, c12⟩⟩
  · rw [refuseLoop_ref]
    exact PySem.W.excTail_pass self (r.b.pass self) bm htl
  · unfold upB at c3
    rw [clsIn_of hC] at c3
    exact of_decide_eq_true c3
  · unfold ccB at c6
    unfold fnI X1Row.val at hv
    split at c6
    · rename_i oc od fd osl lk
      rw [lk] at hv
      obtain ⟨n1, n2, n3, n4, n5, n6, n7, n8, n9, n10, n11, n12, n13, n14, n15⟩ := fd
      simp only [Option.some.injEq, Prod.mk.injEq] at hv
      obtain ⟨e1, e2, e3, e4, e5, e6, e7, e8⟩ := hv
      dsimp only at e1 e2 e3 e4 e5 e6 e7 e8 c6
      subst e1 e2 e3 e4 e5 e7 e8
      obtain ⟨d1, d2⟩ := ba c6
      split at d1
      · rename_i nm' cc
        simp only [List.map_cons, List.map_nil, List.cons.injEq, and_true] at e6
        subst e6
        split at d1
        · rename_i cl cld D csl hcell
          have d1 := of_decide_eq_true d1
          subst d1
          split at d2
          · rename_i cda
            obtain ⟨d3, d4⟩ := ba d2
            split at d4
            · rename_i ccl cdd vs ccs hco
              split at d4
              · rename_i fl tf hvs
                obtain ⟨p0, p1, p2, p3, p4, p5, p6, p7, p8, p9, eb, hl⟩ := matchInit_ok t1
                obtain ⟨ar, ar2, ep, ea, ea2⟩ := plain2_ok t2
                obtain ⟨s1, t3⟩ := ba t3
                obtain ⟨s2, t3⟩ := ba t3
                obtain ⟨s3, t3⟩ := ba t3
                obtain ⟨s4, t3⟩ := ba t3
                obtain ⟨s5, t3⟩ := ba t3
                obtain ⟨s6, t3⟩ := ba t3
                obtain ⟨s7, s8⟩ := ba t3
                rw [eb] at lk
                refine ⟨_, defArgs r.st, defScope r.st, _, _, _, _, cda, _, _, _, _, _, cc, p0, p1, p2, p3, p4, p5, p6, p7, p8, p9, ar, ccl, cdd, vs, ccs, fl, tf, cl, cld, csl, lk, d3, hco, hvs, d4, hcell, by rw [ep]; rfl, ea, fun s u v => .of_eq ?_, fun y hy z => ?_, of_decide_eq_true s1, of_decide_eq_true s2, of_decide_eq_true s3, of_decide_eq_true s4, of_decide_eq_true s5, nb s6, nb s7, hl⟩
                · refine (bind_plain (as := [ar, ar2]) ep rfl ?_ rfl).trans ?_
                  · have ng : ar.arg ≠ ar2.arg := fun z => by
                      have := nb t4
                      rw [beq_eq_false_iff_ne] at this
                      exact this (ea2.symm.trans (z.symm.trans ea))
                    simp [ng]
                  · rw [← ea, ← ea2]
                    rfl
                · have := List.all_eq_true.mp s8 y hy
                  rw [z] at this
                  simp at this
              · cases d4
            · cases d4
          · cases d2
        · cases d1
      · cases d1
    · cases c6
end VI.Hd
end

section
set_option Elab.async false
set_option linter.all false
set_option maxRecDepth 100000
set_option maxHeartbeats 2000000
/-! VIh2: a text's data, the head's Hook, all that stands fixed. -/
namespace VI.Hd
open PySem PySem.Spec PyProof.Rows L2 He VI.Rz

structure DRow where
  x : Str
  st : Stmt
  io : List Nat
  lm : Bool
  fd : Fn
structure Txt where
  file : Str
  defs : List DRow
  vis : List (Str × Int)
  vss : List (Str × Str)
  ex0 : List (Str × Bas4 × List Str)
  ex1 : List (X1Row × List Str)
  bs : List Str
  ls : List Str
/-- the module's names: the kind, the value -/
def Txt.rows (t : Txt) : List (Str × GK × G) := t.defs.map (fun r => (r.x, .fn, .fn r.fd)) ++ (t.vis.map (fun r => (r.1, .val, .val (.int r.2))) ++ (t.vss.map (fun r => (r.1, .val, .val (.str r.2))) ++ (t.ex0.map (fun r => (r.1, .exc0, .exc (r.2.2.map enc) none)) ++ t.ex1.map fun r => (r.1.x, .exc1 r.1.f, .exc (r.2.map enc) (some (enc r.1.f))))))
def Txt.gs (t : Txt) : List (Str × GK) := t.rows.map fun r => (r.1, r.2.1)
def Txt.tab (t : Txt) : List (Nat × G) := t.rows.map fun r => (enc r.1, r.2.2)
def Txt.tx (t : Txt) : Tx := ⟨t.gs, t.bs, t.ls⟩
def Txt.names (t : Txt) : List Str := t.rows.map (·.1)
def nameOf (l : List Str) (n : Nat) : Str := (l.find? fun x => enc x == n).getD Str.empty
def Txt.fld (t : Txt) (n : Nat) : Option Str := (t.ex1.find? fun r => enc r.1.x == n).map fun r => r.1.f
def Txt.excs (t : Txt) : List Str := t.ex0.map (·.1) ++ t.ex1.map (·.1.x)
def Txt.tf (t : Txt) : List Defn := (t.defs.filter (·.lm)).map fun r => (r.x, none)
def Txt.place (t : Txt) (K : PySem.W.Frag) (Z B : Hp) : Pl := ⟨K, fun n => ga K (nameOf t.names n), fun _ => False, fun n => ga K (nameOf t.names n), t.fld, t.tf.map fun d => ((cT K d).2, d.1 ++ ".<locals>." ++ "<lambda>"), Z, B⟩
/-! ### the Hook -/
def Txt.fa (t : Txt) : List Fa := t.names.map .glo ++ ((t.bs.filter fun x => !t.names.contains x).map .free ++ (.free "super" :: (t.vis.map (fun r => .int r.1 r.2) ++ t.vss.map fun r => .str r.1 r.2)))
def Txt.faN (t : Txt) : List Fa := ((t.defs.map (·.x) ++ t.excs).map .glo) ++ ((t.bs.filter fun x => !t.names.contains x).map .free ++ (.free "super" :: (t.vis.map (fun r => .int r.1 r.2) ++ t.vss.map fun r => .str r.1 r.2)))
def DRow.d (r : DRow) : DefD := ⟨(r.x, none), r.x, r.x, L2.defArgs r.st, L2.defBody r.st, L2.defScope r.st, [], []⟩
def subT (t : Txt) (x y : Str) : Bool := sub? (fun n => t.tab.lookup n) (enc x) (enc y)
def ndB : List Addr → Bool
  | [] => true
  | a :: l => !l.contains a && ndB l
def exB (t : Txt) (K : PySem.W.Frag) : Bool := (t.ex0.all fun r => x0B K r.1 r.2.1) && ((t.ex1.all fun r => x1B t.file K r.1) && ((t.excs.all fun x => t.excs.all fun y => decide (PySem.W.exmOne K (.ref (ga K x)) (.ref (ga K y)) = some (subT t x y))) && ndB (t.tf.map fun d => (cT K d).2)))
def asV (g : Addr → Option Obj) : Nat → List Addr
  | 0 => [mainGlobals, cStatics]
  | n + 1 => growD g (asV g n)
abbrev AlV : Type := AlD × Bool × List FnI
def obsV (t : Txt) (g : Addr → Option Obj) (K : PySem.W.Frag) : AlV := (obsD t.faN (t.defs.map DRow.d) K, exB t K && tabsB g t.tf K, t.ex1.map fun r => fnI K r.1.x)
def valV (t : Txt) : AlV := (valD (t.defs.map DRow.d), true, t.ex1.map fun r => r.1.val)
structure SaysV (t : Txt) (h : Heap) (K : PySem.W.Frag) : Prop where
  d : SaysD t.faN (t.defs.map DRow.d) K
  ex : exB t K = true
  ini : (t.ex1.map fun r => fnI K r.1.x) = t.ex1.map fun r => r.1.val
  hd : ∀ p ∈ t.tf, PySem.W.codeHdIn K (cT K p).1 (cT K p).2 = true
  out : ∀ p ∈ t.tf, K.lookup (cT K p).2 = none
  empty : ∀ p ∈ t.tf, h.get? (cT K p).2 = some { cls := .none, data := .fields #[] }
theorem saysV_of {n : Nat} {t : Txt} {h : Heap} (e : obsV t h.get? (frT h.get? (asV h.get? n)) = valV t) : SaysV t h (frT h.get? (asV h.get? n)) := by
  have e1 : obsD t.faN (t.defs.map DRow.d) (frT h.get? (asV h.get? n)) = valD (t.defs.map DRow.d) := congrArg (fun z : AlV => z.1) e
  have e2 : (exB t (frT h.get? (asV h.get? n)) && tabsB h.get? t.tf (frT h.get? (asV h.get? n))) = true := congrArg (fun z : AlV => z.2.1) e
  have e3 : (t.ex1.map fun r => fnI (frT h.get? (asV h.get? n)) r.1.x) = t.ex1.map fun r => r.1.val := congrArg (fun z : AlV => z.2.2) e
  obtain ⟨h1, h2⟩ := ba e2
  have key : ∀ p ∈ t.tf, PySem.W.codeHdIn (frT h.get? (asV h.get? n)) (cT (frT h.get? (asV h.get? n)) p).1 (cT (frT h.get? (asV h.get? n)) p).2 = true ∧ ∃ o, h.get? (cT (frT h.get? (asV h.get? n)) p).2 = some o ∧ emptyTab o = true := fun p hp => by
    obtain ⟨h3, h4⟩ := ba (List.all_eq_true.mp h2 p hp)
    refine ⟨h3, ?_⟩
    cases q : h.get? (cT (frT h.get? (asV h.get? n)) p).2 with
    | none =>
      rw [q] at h4
      cases h4
    | some o =>
      rw [q] at h4
      exact ⟨o, rfl, h4⟩
  refine ⟨e1, h1, e3, fun p hp => (key p hp).1, fun p hp => ?_, fun p hp => ?_⟩
  · obtain ⟨_, o, q, z⟩ := key p hp
    exact frT_none q z
  · obtain ⟨_, o, q, z⟩ := key p hp
    rw [q, emptyTab_eq z]
def hookV (n : Nat) (t : Txt) : PySem.W.Hook where
  α := AlV
  obs := fun s => obsV t s.heap.get? (frT s.heap.get? (asV s.heap.get? n))
  val := fun _ => valV t
  says := fun _ h => ∃ K : PySem.W.Frag, K.In h ∧ SaysV t h K
  of := fun _ _ e => ⟨_, frT_in, saysV_of e⟩
  keeps := fun _ _ _ ⟨K, hK, c⟩ k => ⟨K, PySem.W.Frag.In.keeps hK k, ⟨c.d, c.ex, c.ini, c.hd, c.out, fun p hp => k _ _ (c.empty p hp)⟩⟩
def obV (n : Nat) (t : Txt) (s : PySem.W.SharedT) : AlV := obsV t (HandSHeadRun.getT s) (frT (HandSHeadRun.getT s) (asV (HandSHeadRun.getT s) n))
theorem obV_eq {n : Nat} {t : Txt} (s : PySem.W.SharedT) : obV n t s = (hookV n t).obs s.abs := by
  have e : HandSHeadRun.getT s = s.abs.heap.get? := funext (HandSHeadRun.getT_eq s)
  unfold obV
  rw [e] <;> rfl

/-! ### what is looked at in the text alone -/
def plainA : Arguments → Bool
  | ⟨[], _, none, [], [], none, []⟩ => true
  | _ => false
def DRow.ok (r : DRow) : Bool := C8.scC (slotsOf r.st) (paramsOf r.st) (L2.defScope r.st) && (plainA (L2.defArgs r.st) && decide (paramsOf r.st).Nodup)
def Txt.ok (t : Txt) : Bool := (t.names.all fun x => nameOf t.names (enc x) == x && !(x == ("__debug__" : Str))) && (decide t.names.Nodup && ((t.defs.all DRow.ok) && ((t.ex1.all fun r => r.1.txt) && (t.ls.all fun x => t.defs.any fun r => r.x == x && (!r.lm && (match paramsOf r.st with
  | [a] => !(a == ("__debug__" : Str)) && !(a == ("__classdict__" : Str))
  | _ => false))))))
theorem plainA_ok {a : Arguments} (h : plainA a = true) : ∃ as, a = ⟨[], as, none, [], [], none, []⟩ := by
  unfold plainA at h
  split at h
  · exact ⟨_, rfl⟩
  · cases h
theorem ndB_ok : ∀ {l : List Addr}, ndB l = true → l.Nodup
  | [], _ => List.nodup_nil
  | a :: l, h => by
    obtain ⟨h1, h2⟩ := ba h
    refine List.nodup_cons.mpr ⟨fun z => ?_, ndB_ok h2⟩
    have := nb h1
    rw [List.contains_iff_mem.mpr z] at this
    cases this
theorem lookup_mem' {α : Type} {n : Nat} {g : α} : ∀ {l : List (Nat × α)}, l.lookup n = some g → (n, g) ∈ l
  | [], h => by cases h
  | (m, a) :: l, h => by
    rw [List.lookup_cons] at h
    split at h
    · rename_i e
      cases h
      rw [beq_iff_eq.mp e]
      exact List.mem_cons_self
    · exact List.mem_cons_of_mem _ (lookup_mem' h)
section
variable {t : Txt} (ok : t.ok = true)
include ok
theorem Txt.nm {x : Str} (h : x ∈ t.names) : nameOf t.names (enc x) = x ∧ (x == ("__debug__" : Str)) = false := by
  obtain ⟨h1, _⟩ := ba ok
  obtain ⟨h2, h3⟩ := ba (List.all_eq_true.mp h1 x h)
  exact ⟨beq_iff_eq.mp h2, nb h3⟩
theorem Txt.inj {x y : Str} (h : x ∈ t.names) (h' : y ∈ t.names) (e : enc x = enc y) : x = y := by
  rw [← (t.nm ok h).1, ← (t.nm ok h').1, e]
end

theorem mem_lookup {α β : Type} [BEq α] [LawfulBEq α] : ∀ {l : List (α × β)} {a : α} {b : β}, (l.map (·.1)).Nodup → (a, b) ∈ l → l.lookup a = some b
  | [], _, _, _, h => by cases h
  | (x, y) :: l, a, b, nd, h => by
    have m := List.nodup_cons.mp (show (x :: l.map (·.1)).Nodup from nd)
    rw [List.lookup_cons]
    rcases List.mem_cons.mp h with e | h9
    · cases e
      simp
    · have hne : (a == x) = false := by
        rw [beq_eq_false_iff_ne]
        rintro rfl
        exact m.1 (List.mem_map_of_mem (f := fun p : α × β => p.1) h9)
      rw [hne]
      exact mem_lookup m.2 h9
theorem lookup_memG {α β : Type} [BEq α] [LawfulBEq α] {n : α} {g : β} : ∀ {l : List (α × β)}, l.lookup n = some g → (n, g) ∈ l
  | [], h => by cases h
  | (m, a) :: l, h => by
    rw [List.lookup_cons] at h
    split at h
    · rename_i e
      cases h
      rw [beq_iff_eq.mp e]
      exact List.mem_cons_self
    · exact List.mem_cons_of_mem _ (lookup_memG h)
theorem nodup_inj {α β : Type} {f : α → β} : ∀ {l : List α}, (l.map f).Nodup → ∀ {x y : α}, x ∈ l → y ∈ l → f x = f y → x = y
  | [], _, _, _, h, _, _ => by cases h
  | a :: l, nd, x, y, hx, hy, e => by
    have m := List.nodup_cons.mp (show (f a :: l.map f).Nodup from nd)
    rcases List.mem_cons.mp hx with e1 | h1
    · rcases List.mem_cons.mp hy with e2 | h2
      · rw [e1, e2]
      · rw [e1] at e
        exact (m.1 (List.mem_map.mpr ⟨_, h2, e.symm⟩)).elim
    · rcases List.mem_cons.mp hy with e2 | h2
      · rw [e2] at e
        exact (m.1 (List.mem_map.mpr ⟨_, h1, e⟩)).elim
      · exact nodup_inj m.2 h1 h2 e
section
variable {t : Txt} (ok : t.ok = true)
include ok
theorem Txt.nd : t.names.Nodup := by
  obtain ⟨_, h⟩ := ba ok
  obtain ⟨h, _⟩ := ba h
  exact of_decide_eq_true h
theorem Txt.row1 {r r' : Str × GK × G} (h : r ∈ t.rows) (h' : r' ∈ t.rows) (e : r.1 = r'.1) : r = r' := nodup_inj (f := fun r : Str × GK × G => r.1) (t.nd ok) h h' e
theorem Txt.row2 {r r' : Str × GK × G} (h : r ∈ t.rows) (h' : r' ∈ t.rows) (e : enc r.1 = enc r'.1) : r = r' := t.row1 ok h h' (t.inj ok (List.mem_map.mpr ⟨r, h, rfl⟩) (List.mem_map.mpr ⟨r', h', rfl⟩) e)
theorem Txt.gs_of {x : Str} {k : GK} {g : G} (h : (x, k, g) ∈ t.rows) : t.gs.lookup x = some k := by
  refine mem_lookup ?_ (List.mem_map.mpr ⟨_, h, rfl⟩)
  have e : t.gs.map (·.1) = t.names := by
    unfold Txt.gs Txt.names
    rw [List.map_map]
    rfl
  rw [e]
  exact t.nd ok
omit ok in
theorem Txt.gs_in {x : Str} {k : GK} (h : t.gs.lookup x = some k) : ∃ g, (x, k, g) ∈ t.rows := by
  obtain ⟨r, hr, e⟩ := List.mem_map.mp (lookup_memG h)
  cases e
  exact ⟨_, hr⟩
omit ok in
theorem Txt.gs_none {x : Str} (h : t.gs.lookup x = none) : x ∉ t.names := fun z => by
  obtain ⟨r, hr, e⟩ := List.mem_map.mp z
  subst e
  have : ∀ {l : List (Str × GK)} {y : Str × GK}, y ∈ l → l.lookup y.1 ≠ none := by
    intro l
    induction l with
    | nil => intro y h; cases h
    | cons a l ih =>
      intro y hy
      obtain ⟨a1, a2⟩ := a
      rw [List.lookup_cons]
      split
      · intro z; cases z
      · rename_i hne
        rcases List.mem_cons.mp hy with rfl | hy
        · simp at hne
        · exact ih hy
  exact this (List.mem_map.mpr ⟨r, hr, rfl⟩ : (r.1, r.2.1) ∈ t.gs) h
omit ok in
theorem Txt.tab_in {n : Nat} {g : G} (h : t.tab.lookup n = some g) : ∃ x k, n = enc x ∧ (x, k, g) ∈ t.rows := by
  obtain ⟨r, hr, e⟩ := List.mem_map.mp (lookup_memG h)
  cases e
  exact ⟨r.1, r.2.1, rfl, hr⟩
theorem Txt.tab_of {x : Str} {k : GK} {g : G} (h : (x, k, g) ∈ t.rows) : t.tab.lookup (enc x) = some g := by
  have m : (enc x, g) ∈ t.tab := List.mem_map.mpr ⟨_, h, rfl⟩
  cases e : t.tab.lookup (enc x) with
  | none =>
    have : ∀ {l : List (Nat × G)} {y : Nat × G}, y ∈ l → l.lookup y.1 ≠ none := by
      intro l
      induction l with
      | nil => intro y h; cases h
      | cons a l ih =>
        intro y hy
        obtain ⟨a1, a2⟩ := a
        rw [List.lookup_cons]
        split
        · intro z; cases z
        · rename_i hne
          rcases List.mem_cons.mp hy with rfl | hy
          · simp at hne
          · exact ih hy
    exact (this m e).elim
  | some g' =>
    obtain ⟨x', k', e1, h'⟩ := Txt.tab_in e
    have := t.row2 ok h h' e1
    cases this
    rfl
omit ok in
theorem Txt.in_def {r : DRow} (h : r ∈ t.defs) : (r.x, GK.fn, G.fn r.fd) ∈ t.rows := List.mem_append_left _ (List.mem_map.mpr ⟨r, h, rfl⟩)
omit ok in
theorem Txt.in_ex0 {r : Str × Bas4 × List Str} (h : r ∈ t.ex0) : (r.1, GK.exc0, G.exc (r.2.2.map enc) none) ∈ t.rows := List.mem_append_right _ (List.mem_append_right _ (List.mem_append_right _ (List.mem_append_left _ (List.mem_map.mpr ⟨r, h, rfl⟩))))
omit ok in
theorem Txt.in_ex1 {r : X1Row × List Str} (h : r ∈ t.ex1) : (r.1.x, GK.exc1 r.1.f, G.exc (r.2.map enc) (some (enc r.1.f))) ∈ t.rows := List.mem_append_right _ (List.mem_append_right _ (List.mem_append_right _ (List.mem_append_right _ (List.mem_map.mpr ⟨r, h, rfl⟩))))
omit ok in
theorem Txt.cases {x : Str} {k : GK} {g : G} (h : (x, k, g) ∈ t.rows) : (∃ r ∈ t.defs, x = r.x ∧ k = .fn ∧ g = .fn r.fd) ∨ (∃ r ∈ t.vis, x = r.1 ∧ k = .val ∧ g = .val (.int r.2)) ∨ (∃ r ∈ t.vss, x = r.1 ∧ k = .val ∧ g = .val (.str r.2)) ∨ (∃ r ∈ t.ex0, x = r.1 ∧ k = .exc0 ∧ g = .exc (r.2.2.map enc) none) ∨ (∃ r ∈ t.ex1, x = r.1.x ∧ k = .exc1 r.1.f ∧ g = .exc (r.2.map enc) (some (enc r.1.f))) := by
  unfold Txt.rows at h
  simp only [List.mem_append, List.mem_map] at h
  rcases h with ⟨r, hr, e⟩ | ⟨r, hr, e⟩ | ⟨r, hr, e⟩ | ⟨r, hr, e⟩ | ⟨r, hr, e⟩ <;> cases e
  · exact .inl ⟨r, hr, rfl, rfl, rfl⟩
  · exact .inr (.inl ⟨r, hr, rfl, rfl, rfl⟩)
  · exact .inr (.inr (.inl ⟨r, hr, rfl, rfl, rfl⟩))
  · exact .inr (.inr (.inr (.inl ⟨r, hr, rfl, rfl, rfl⟩)))
  · exact .inr (.inr (.inr (.inr ⟨r, hr, rfl, rfl, rfl⟩)))
omit ok in
theorem Txt.in_excs {x : Str} {k : GK} {g : G} (h : (x, k, g) ∈ t.rows) (hk : k = .exc0 ∨ ∃ f, k = .exc1 f) : x ∈ t.excs := by
  rcases Txt.cases h with ⟨r, hr, rfl, rfl, rfl⟩ | ⟨r, hr, rfl, rfl, rfl⟩ | ⟨r, hr, rfl, rfl, rfl⟩ | ⟨r, hr, rfl, rfl, rfl⟩ | ⟨r, hr, rfl, rfl, rfl⟩
  · rcases hk with z | ⟨f, z⟩ <;> cases z
  · rcases hk with z | ⟨f, z⟩ <;> cases z
  · rcases hk with z | ⟨f, z⟩ <;> cases z
  · exact List.mem_append_left _ (List.mem_map.mpr ⟨r, hr, rfl⟩)
  · exact List.mem_append_right _ (List.mem_map.mpr ⟨r, hr, rfl⟩)
theorem Txt.nameOf_row {x : Str} {k : GK} {g : G} (h : (x, k, g) ∈ t.rows) : nameOf t.names (enc x) = x ∧ (x == ("__debug__" : Str)) = false := t.nm ok (List.mem_map.mpr ⟨_, h, rfl⟩)
end
end VI.Hd
end

section
set_option Elab.async false
set_option linter.all false
set_option maxRecDepth 100000
set_option maxHeartbeats 2000000
/-! VIh3: all that stands fixed for a text, from what the head tells. -/
namespace VI.Hd
open PySem PySem.Spec PyProof.Rows L2 He VI.Rz

/-- what is asked of the text: the kernel looks -/
structure TxtOk (t : Txt) (P : Program) : Prop where
  ok : t.ok = true
  tr : t.defs.map (fun r => trFn t.tx r.fd.io r.lm r.st) = t.defs.map fun r => some r.fd
  file : P.main.file = t.file
  sup : (P.main.scope.names.lookup ("super" : Str)).isSome = false
theorem DRow.ok_ {r : DRow} (h : r.ok = true) : FnScope (slotsOf r.st) (paramsOf r.st) (L2.defScope r.st) ∧ (∃ as, L2.defArgs r.st = ⟨[], as, none, [], [], none, []⟩) ∧ (paramsOf r.st).Nodup := by
  obtain ⟨h1, h⟩ := ba h
  obtain ⟨h2, h3⟩ := ba h
  exact ⟨C8.fnScope_by h1, plainA_ok h2, of_decide_eq_true h3⟩
theorem map_eq_mem {α β : Type} {f g : α → β} : ∀ {l : List α}, l.map f = l.map g → ∀ x ∈ l, f x = g x
  | [], _, x, h => by cases h
  | a :: l, e, x, h => by
    obtain ⟨e1, e2⟩ := List.cons.inj (show f a :: l.map f = g a :: l.map g from e)
    rcases List.mem_cons.mp h with z | z
    · rw [z]; exact e1
    · exact map_eq_mem e2 x z
section
variable {t : Txt} {P : Program} {w : World} {h : Heap} {K : PySem.W.Frag} {mg : Str → Option Value} {base : Heap} {Z B : Hp}
theorem SaysV.exB_ (c : SaysV t h K) : (∀ r ∈ t.ex0, x0B K r.1 r.2.1 = true) ∧ (∀ r ∈ t.ex1, x1B t.file K r.1 = true) ∧ (∀ x ∈ t.excs, ∀ y ∈ t.excs, PySem.W.exmOne K (.ref (ga K x)) (.ref (ga K y)) = some (subT t x y)) ∧ (t.tf.map fun d => (cT K d).2).Nodup := by
  obtain ⟨h1, q⟩ := ba c.ex
  obtain ⟨h2, q⟩ := ba q
  obtain ⟨h3, h4⟩ := ba q
  exact ⟨fun r hr => List.all_eq_true.mp h1 r hr, fun r hr => List.all_eq_true.mp h2 r hr, fun x hx y hy => of_decide_eq_true (List.all_eq_true.mp (List.all_eq_true.mp h3 x hx) y hy), ndB_ok h4⟩
theorem Txt.fn_at (o : TxtOk t P) {x : Str} (h : x ∈ t.names) : (t.place K Z B).fn (enc x) = ga K x := congrArg (ga K) (t.nm o.ok h).1
theorem Txt.exc_at (o : TxtOk t P) {x : Str} (h : x ∈ t.names) : (t.place K Z B).exc (enc x) = ga K x := congrArg (ga K) (t.nm o.ok h).1
theorem Txt.name_of {x : Str} {k : GK} {g : G} (h : (x, k, g) ∈ t.rows) : x ∈ t.names := List.mem_map.mpr ⟨_, h, rfl⟩
theorem gloDef (c : SaysV t h K) (X : K.In h) (Gm : h.Ns mainGlobals mg) {r : DRow} (hr : r ∈ t.defs) : mg r.x = some (.ref (ga K r.x)) :=
  glo_ok X Gm (c.d.facts (f := .glo r.x) (List.mem_append_left _ (List.mem_map.mpr ⟨r.x, List.mem_append_left _ (List.mem_map.mpr ⟨r, hr, rfl⟩), rfl⟩)))
theorem gloExc (c : SaysV t h K) (X : K.In h) (Gm : h.Ns mainGlobals mg) {x : Str} (hx : x ∈ t.excs) : mg x = some (.ref (ga K x)) :=
  glo_ok X Gm (c.d.facts (f := .glo x) (List.mem_append_left _ (List.mem_map.mpr ⟨x, List.mem_append_right _ hx, rfl⟩)))
theorem freeSup (c : SaysV t h K) (X : K.In h) (Gm : h.Ns mainGlobals mg) : mg "super" = none :=
  free_ok X Gm (c.d.facts (f := .free "super") (List.mem_append_right _ (List.mem_append_right _ List.mem_cons_self)))
theorem freeBlt (c : SaysV t h K) (X : K.In h) (Gm : h.Ns mainGlobals mg) {x : Str} (hx : x ∈ t.bs) (hn : x ∉ t.names) : mg x = none := by
  refine free_ok X Gm (c.d.facts (f := .free x) (List.mem_append_right _ (List.mem_append_left _ (List.mem_map.mpr ⟨x, List.mem_filter.mpr ⟨hx, ?_⟩, rfl⟩))))
  cases q : t.names.contains x with
  | false => rfl
  | true => exact (hn (List.contains_iff_mem.mp q)).elim
theorem intVal (c : SaysV t h K) (X : K.In h) (Gm : h.Ns mainGlobals mg) {r : Str × Int} (hr : r ∈ t.vis) : ∃ k, mg r.1 = some (.int r.2 k) :=
  int_ok X Gm (c.d.facts (f := .int r.1 r.2) (List.mem_append_right _ (List.mem_append_right _ (List.mem_cons_of_mem _ (List.mem_append_left _ (List.mem_map.mpr ⟨r, hr, rfl⟩))))))
theorem strVal (c : SaysV t h K) (X : K.In h) (Gm : h.Ns mainGlobals mg) {r : Str × Str} (hr : r ∈ t.vss) : ∃ k, mg r.1 = some (.str r.2 k) :=
  str_ok X Gm (c.d.facts (f := .str r.1 r.2) (List.mem_append_right _ (List.mem_append_right _ (List.mem_cons_of_mem _ (List.mem_append_right _ (List.mem_map.mpr ⟨r, hr, rfl⟩))))))
/-- a def -/
theorem defOk_of (o : TxtOk t P) (c : SaysV t h K) {r : DRow} (hr : r ∈ t.defs) : ∃ d : DefOk (t.place K Z B) K t.tx r.fd.io (enc r.x) r.fd, d.ps = paramsOf r.st ∧ d.lm = r.lm ∧ d.name = r.x ∧ d.qual = r.x ∧ d.cdv = .ref (codeOf K (r.x, none)) := by
  obtain ⟨fdv, F⟩ := c.d.defs (d := r.d) (List.mem_map.mpr ⟨r, hr, rfl⟩)
  obtain ⟨oc, od, dV, kV, doc, pm, an, cdv, ct, osl, rfl, lk, hcd, hD, hK⟩ := F.ex
  have hdV : dV = .none := by
    rcases hD with ⟨_, e⟩ | ⟨e, _⟩
    · exact e
    · exact absurd rfl e
  subst hdV
  obtain ⟨_, hok⟩ := ba o.ok
  obtain ⟨_, hok⟩ := ba hok
  obtain ⟨hok, _⟩ := ba hok
  obtain ⟨S, ⟨as, ea⟩, nd⟩ := DRow.ok_ (List.all_eq_true.mp hok r hr)
  have ht := map_eq_mem o.tr r hr
  have ht : trFn t.tx r.fd.io r.lm r.st = some r.fd := ht
  unfold trFn at ht
  obtain ⟨b, hb, hfd⟩ := Option.map_eq_some_iff.mp ht
  obtain ⟨cd, rfl⟩ := codeIn_ref hcd
  have hfn : (t.place K Z B).fn (enc r.x) = ga K r.x := t.fn_at o (Txt.name_of (Txt.in_def hr))
  refine ⟨⟨r.x, L2.defArgs r.st, L2.defBody r.st, L2.defScope r.st, .none, kV, doc, pm, .ref cd, ct, oc, an, od, osl, r.x, slotsOf r.st, paramsOf r.st, r.lm, by rw [hfn]; exact lk, hcd, S, by rw [hfn]; exact F.kp, fun s us hl => .of_eq (bind_plain ea rfl ?_ ?_ |>.trans ?_), by rw [← hfd], by rw [← hfd], rfl, by rw [← hfd]; exact hb⟩, rfl, rfl, rfl, rfl, congrArg Value.ref (codeOf_eq lk rfl).symm⟩
  · have e : paramsOf r.st = as.map (·.arg) := by unfold paramsOf; rw [ea]
    rw [← e]
    exact nd
  · have e : paramsOf r.st = as.map (·.arg) := by unfold paramsOf; rw [ea]
    rw [← e]
    exact hl
  · have e : paramsOf r.st = as.map (·.arg) := by unfold paramsOf; rw [ea]
    rw [e]
theorem maker_of (o : TxtOk t P) (c : SaysV t h K) (T : ∀ p ∈ t.tf.map (cT K), LamX.TabB base mg p.1 p.2) {r : DRow} (hr : r ∈ t.defs) (hl : r.lm = true) : Maker (t.place K Z B) K mg base (.ref (codeOf K (r.x, none))) r.x := by
  have hm : ((r.x, none) : Defn) ∈ t.tf := List.mem_map.mpr ⟨r, List.mem_filter.mpr ⟨hr, hl⟩, rfl⟩
  refine ⟨codeOf K (r.x, none), (cT K (r.x, none)).2, rfl, T _ (List.mem_map.mpr ⟨_, hm, rfl⟩), List.mem_map.mpr ⟨_, hm, rfl⟩, fun q hq e => ?_⟩
  obtain ⟨d, hd, rfl⟩ := List.mem_map.mp hq
  have := nodup_inj c.exB_.2.2.2 hd hm e
  subst this
  rfl
theorem mf_of (o : TxtOk t P) (c : SaysV t h K) (X : K.In h) (Gm : h.Ns mainGlobals mg) (T : ∀ p ∈ t.tf.map (cT K), LamX.TabB base mg p.1 p.2) : Mf P w K mg base (t.place K Z B) t.tx (fun n => t.tab.lookup n) where
  hK := rfl
  defs := fun n fd hn => by
    obtain ⟨x, k, rfl, hr⟩ := Txt.tab_in hn
    rcases Txt.cases hr with ⟨r, hr', rfl, rfl, e⟩ | ⟨r, hr', rfl, rfl, e⟩ | ⟨r, hr', rfl, rfl, e⟩ | ⟨r, hr', rfl, rfl, e⟩ | ⟨r, hr', rfl, rfl, e⟩ <;> cases e
    obtain ⟨d, e1, e2, e3, e4, e5⟩ := defOk_of (Z := Z) (B := B) o c hr'
    refine ⟨d, fun hl => ?_⟩
    rw [e5, e4]
    exact maker_of o c T hr' (e2.symm.trans hl)
  gfn := fun x hx => by
    obtain ⟨g, hr⟩ := Txt.gs_in hx
    rcases Txt.cases hr with ⟨r, hr', rfl, e, rfl⟩ | ⟨r, hr', rfl, e, rfl⟩ | ⟨r, hr', rfl, e, rfl⟩ | ⟨r, hr', rfl, e, rfl⟩ | ⟨r, hr', rfl, e, rfl⟩ <;> cases e
    refine ⟨by rw [t.fn_at o (Txt.name_of hr)]; exact gloDef c X Gm hr', fun d z => ?_⟩
    have z : t.tab.lookup (enc r.x) = _ := z
    rw [t.tab_of o.ok hr] at z
    cases z
  gval := fun x hx => by
    obtain ⟨g, hr⟩ := Txt.gs_in hx
    rcases Txt.cases hr with ⟨r, hr', rfl, e, rfl⟩ | ⟨r, hr', rfl, e, rfl⟩ | ⟨r, hr', rfl, e, rfl⟩ | ⟨r, hr', rfl, e, rfl⟩ | ⟨r, hr', rfl, e, rfl⟩ <;> cases e
    · obtain ⟨k, e⟩ := intVal c X Gm hr'
      exact ⟨_, .int r.2, _, t.tab_of o.ok hr, e, ⟨k, rfl⟩, fun l z b Z => by unfold RD; rfl⟩
    · obtain ⟨k, e⟩ := strVal c X Gm hr'
      exact ⟨_, .str r.2, _, t.tab_of o.ok hr, e, ⟨k, rfl⟩, fun l z b Z => by unfold RD; rfl⟩
  gblt := fun x hx hn => freeBlt c X Gm hx (Txt.gs_none hn)
  raise0 := fun x hx => by
    obtain ⟨g, hr⟩ := Txt.gs_in hx
    rcases Txt.cases hr with ⟨r, hr', rfl, e, rfl⟩ | ⟨r, hr', rfl, e, rfl⟩ | ⟨r, hr', rfl, e, rfl⟩ | ⟨r, hr', rfl, e, rfl⟩ | ⟨r, hr', rfl, e, rfl⟩ <;> cases e
    refine ⟨?_, fun Y h1 h2 h3 h4 h5 hg m j p1 p2 pos => ?_⟩
    · show (t.ex1.find? fun q => enc q.1.x == enc r.1).map (fun q => q.1.f) = none
      cases e : t.ex1.find? fun q => enc q.1.x == enc r.1 with
      | none => rfl
      | some q =>
        have := t.row2 o.ok (Txt.in_ex1 (List.mem_of_find?_eq_some e)) hr (beq_iff_eq.mp (List.find?_some (p := fun q : X1Row × List Str => enc q.1.x == enc r.1) e))
        injection this with _ z
        injection z with z _
        cases z
    · rw [t.exc_at o (Txt.name_of hr)]
      subst h3
      exact x0_raise (c.exB_.1 r hr') (by rw [h4]; exact gloExc c X Gm (Txt.in_excs hr (.inl rfl))) hg (t.nameOf_row o.ok hr).2 m j p1 p2 pos
  raise1 := fun x f hx => by
    obtain ⟨g, hr⟩ := Txt.gs_in hx
    rcases Txt.cases hr with ⟨r, hr', rfl, e, rfl⟩ | ⟨r, hr', rfl, e, rfl⟩ | ⟨r, hr', rfl, e, rfl⟩ | ⟨r, hr', rfl, e, rfl⟩ | ⟨r, hr', rfl, e, rfl⟩ <;> cases e
    refine ⟨?_, fun Y h1 h2 h3 h4 h5 hg k hk e te p1 pos st he => ?_⟩
    · show (t.ex1.find? fun q => enc q.1.x == enc r.1.x).map (fun q => q.1.f) = some r.1.f
      cases e : t.ex1.find? fun q => enc q.1.x == enc r.1.x with
      | none =>
        have := List.find?_eq_none.mp e r hr'
        simp at this
      | some q =>
        have := t.row2 o.ok (Txt.in_ex1 (List.mem_of_find?_eq_some e)) hr (beq_iff_eq.mp (List.find?_some (p := fun q : X1Row × List Str => enc q.1.x == enc r.1.x) e))
        have : q.1.f = r.1.f := by
          injection this with _ z
          injection z with z _
          injection z
        show some q.1.f = _
        rw [this]
    · rw [t.exc_at o (Txt.name_of hr)]
      have ht : r.1.txt = true := by
        obtain ⟨_, q⟩ := ba o.ok
        obtain ⟨_, q⟩ := ba q
        obtain ⟨_, q⟩ := ba q
        obtain ⟨q, _⟩ := ba q
        exact List.all_eq_true.mp q r hr'
      have hB := c.exB_.2.1 r hr'
      rw [← o.file] at hB
      obtain ⟨bm, I⟩ := x1_init hB ht (map_eq_mem c.ini r hr') o.sup
      subst h1 h3
      exact raise_init (k := k + 2) I (by rw [h4]; exact freeSup c X Gm) hk hg (by rw [h4]; exact gloExc c X Gm (Txt.in_excs hr (.inr ⟨_, rfl⟩))) he (star_of st) (t.nameOf_row o.ok hr).2
  exm := fun d x gk hd hx hk => by
    obtain ⟨g, hr⟩ := Txt.gs_in hx
    have hx' := Txt.in_excs hr hk
    cases e : t.tab.lookup d with
    | none =>
      have hd : (match t.tab.lookup d with | some (G.exc _ _) => true | _ => false) = true := hd
      rw [e] at hd
      cases hd
    | some g' =>
      have hd : (match t.tab.lookup d with | some (G.exc _ _) => true | _ => false) = true := hd
      rw [e] at hd
      obtain ⟨y, k', rfl, hr'⟩ := Txt.tab_in e
      have hy : y ∈ t.excs := by
        rcases Txt.cases hr' with ⟨r, h1, rfl, e1, rfl⟩ | ⟨r, h1, rfl, e1, rfl⟩ | ⟨r, h1, rfl, e1, rfl⟩ | ⟨r, h1, rfl, e1, rfl⟩ | ⟨r, h1, rfl, e1, rfl⟩
        · cases hd
        · cases hd
        · cases hd
        · exact Txt.in_excs hr' (.inl e1)
        · exact Txt.in_excs hr' (.inr ⟨_, e1⟩)
      rw [t.exc_at o (Txt.name_of hr), t.exc_at o (Txt.name_of hr')]
      exact c.exB_.2.2.1 y hy x hx'
  nms := fun x gk hx hk => by
    obtain ⟨g, hr⟩ := Txt.gs_in hx
    rw [t.exc_at o (Txt.name_of hr)]
    exact gloExc c X Gm (Txt.in_excs hr hk)
  xf := fun x f hx => by
    obtain ⟨g, hr⟩ := Txt.gs_in hx
    rcases Txt.cases hr with ⟨r, hr', rfl, e, rfl⟩ | ⟨r, hr', rfl, e, rfl⟩ | ⟨r, hr', rfl, e, rfl⟩ | ⟨r, hr', rfl, e, rfl⟩ | ⟨r, hr', rfl, e, rfl⟩ <;> cases e
    rw [t.exc_at o (Txt.name_of hr)]
    have q := c.exB_.2.1 r hr'
    obtain ⟨_, q⟩ := ba q
    obtain ⟨_, q⟩ := ba q
    obtain ⟨_, q⟩ := ba q
    obtain ⟨_, q⟩ := ba q
    obtain ⟨_, q⟩ := ba q
    obtain ⟨_, q⟩ := ba q
    obtain ⟨_, q⟩ := ba q
    obtain ⟨_, q⟩ := ba q
    obtain ⟨c9, q⟩ := ba q
    obtain ⟨_, q⟩ := ba q
    obtain ⟨_, q⟩ := ba q
    obtain ⟨_, c13⟩ := ba q
    exact ⟨xfB_ok c13, of_decide_eq_true c9⟩
theorem taker_of (o : TxtOk t P) (c : SaysV t h K) (X : K.In h) (Gm : h.Ns mainGlobals mg) : ∀ x ∈ t.tx.ls, Nonempty (Taker (t.place K Z B) K mg t.tx (fun n => t.tab.lookup n) x) := fun x hx => by
  obtain ⟨_, q⟩ := ba o.ok
  obtain ⟨_, q⟩ := ba q
  obtain ⟨_, q⟩ := ba q
  obtain ⟨_, q⟩ := ba q
  have q := List.all_eq_true.mp q x hx
  obtain ⟨r, hr, q⟩ := List.any_eq_true.mp q
  obtain ⟨q1, q⟩ := ba q
  obtain ⟨q2, q3⟩ := ba q
  rw [beq_iff_eq] at q1
  subst q1
  obtain ⟨d, e1, e2, e3, e4, e5⟩ := defOk_of (Z := Z) (B := B) o c hr
  split at q3
  · rename_i a ea
    obtain ⟨q3, q4⟩ := ba q3
    refine ⟨⟨r.fd, a, d, t.tab_of o.ok (Txt.in_def hr), e1.trans ea, e2.trans (nb q2), e3, e4, ?_, nb q3, nb q4⟩⟩
    rw [t.fn_at o (Txt.name_of (Txt.in_def hr))]
    exact gloDef c X Gm hr
  · cases q3
end
end VI.Hd
end

section
set_option Elab.async false
set_option linter.all false
set_option maxRecDepth 100000
set_option maxHeartbeats 2000000
/-! VIh4: the law's end. -/
namespace VI.Hd
open PySem PySem.Spec PyProof.Rows L2 He VI.Rz

/-- what is tracked when the law is called: the tables, and the script where K does not hold it -/
def heap0 (cs : List Addr) (b0 : Bool) (a : Addr) (o : Obj) (xs : List V) : Hp := fun b => if b ∈ cs then some (.tbl #[]) else if b0 && b == a then some (.frz o (.lst xs)) else none
section
variable {cs : List Addr} {b0 : Bool} {a : Addr} {o : Obj} {xs : List V}
theorem heap0_tbl {b : Addr} (h : b ∈ cs) : heap0 cs b0 a o xs b = some (.tbl #[]) := if_pos h
theorem heap0_inv {b : Addr} {u : HO} (h : heap0 cs b0 a o xs b = some u) : (b ∈ cs ∧ u = .tbl #[]) ∨ (b ∉ cs ∧ b0 = true ∧ b = a ∧ u = .frz o (.lst xs)) := by
  unfold heap0 at h
  split at h
  · rename_i hc
    cases h
    exact .inl ⟨hc, rfl⟩
  · rename_i hc
    split at h
    · rename_i hb
      cases h
      obtain ⟨h1, h2⟩ := ba hb
      exact .inr ⟨hc, h1, beq_iff_eq.mp h2, rfl⟩
    · cases h
theorem heap0_scr (hb : b0 = true) (ha : a ∉ cs) : heap0 cs b0 a o xs a = some (.frz o (.lst xs)) := by
  unfold heap0
  rw [if_neg ha, if_pos (by rw [hb]; simp)]
end
theorem law_end {P : Program} {w : World} {K : PySem.W.Frag} {mg mb : Str → Option Value} {k : Nat} {fa a : Addr} {cs : List (Addr × Addr)} {sp : Sp} {s₁ : Shared} {vs : List Value} {ns : List Int}
    (KX : K.In s₁.heap) (hns : s₁.heap.Ns mainGlobals mg) (hb : s₁.heap.Ns builtinsNs mb) (hbb : ∀ x : Str, x ≠ "__name__" → mb x = bootBuiltins x) (hlim : s₁.heap.NoLimit) (hg : s₁.gens = #[])
    (hT : ∀ p ∈ cs, s₁.heap.get? p.2 = some { cls := .none, data := .fields #[] }) (nT : ∀ p ∈ cs, K.lookup p.2 = none) (C : ∀ p ∈ cs, PySem.W.CodeHd s₁.heap p.1 p.2)
    (hbm : ∃ (bm : Addr) (ob : Obj), mg "__builtins__" = some (.ref bm) ∧ bm ≠ builtinsNs ∧ s₁.heap.get? bm = some ob ∧ ob.cls = .type "module" ∧ ob.dict = some builtinsNs ∧ ob.data = .plain)
    (ha : s₁.heap.get? a = some { cls := .type "list", data := .seq vs.toArray }) (hi : IntsAre vs ns) (hl : ns.length ≤ sizeLine) (hr : Room k callerA)
    (F : ∀ base : Heap, K.In base → base.Ns mainGlobals mg → (∀ p ∈ cs, LamX.TabB base mg p.1 p.2) → ∃ x : Str, FnG P w K mg base k fa [x] sp)
    (hsp : ∀ H : Hp, (∀ p ∈ cs, H p.2 = some (.tbl #[])) → SqL K H a (ns.map V.int) → sp [.ref a] H (fun v _ => v = .bl true) fun _ _ _ => False) :
    codeAny (model P w) callerA (.call (.ref fa) ⟨[.ref a], []⟩) (fun r s' => r = .ok (.ret (.bool true)) ∧ OldK s₁.heap s'.heap ∧ s'.os = s₁.os ∧ AllBare s'.gens) s₁ := by
  have rv := vals_ints hi
  have hsz : vs.toArray.size ≤ sizeLine := by rw [List.size_toArray, hi.length]; exact hl
  let ob : Obj := { cls := .type "list", data := .seq vs.toArray }
  let ts := cs.map (·.2)
  have tabs : ∀ b ∈ ts, ∃ p ∈ cs, p.2 = b := fun b hb => List.mem_map.mp hb
  have atT : ∀ b ∈ ts, s₁.heap.get? b = some { cls := .none, data := .fields #[] } := fun b hb => by
    obtain ⟨p, hp, rfl⟩ := tabs b hb
    exact hT p hp
  have aT : a ∉ ts := fun z => by
    have q := (atT a z).symm.trans ha
    injection q with q
    injection q with _ _ q
    cases q
  let H : Hp := heap0 ts (K.lookup a).isNone a ob (ns.map V.int)
  have hH : ∀ p ∈ cs, H p.2 = some (.tbl #[]) := fun p hp => heap0_tbl (List.mem_map.mpr ⟨p, hp, rfl⟩)
  have hS : SqL K H a (ns.map V.int) := by
    cases e : K.lookup a with
    | none => exact .inl (.inr ⟨ob, heap0_scr (by rw [e]; rfl) aT⟩)
    | some o =>
      have z := (KX a o e).symm.trans ha
      cases z
      exact .inr ⟨_, vs.toArray, _, e, rfl, rfl, rfl, hsz, by simpa using rv⟩
  have hok : HOk P w H s₁.heap := fun b u z => by
    rcases heap0_inv z with ⟨h1, rfl⟩ | ⟨_, _, rfl, rfl⟩
    · exact atT b h1
    · exact ⟨ha, by rw [List.length_map]; exact hl, vs, _, rv, ha⟩
  -- what is neither the script nor a table is not tracked
  have free : ∀ {b : Addr} {o : Obj}, s₁.heap.get? b = some o → (∀ vs n, o.data ≠ .seq vs n) → o.data ≠ .fields #[] → H b = none := fun {b o} e h1 h2 => by
    cases q : H b with
    | none => rfl
    | some u =>
      rcases heap0_inv q with ⟨z, _⟩ | ⟨_, _, rfl, _⟩
      · rw [atT b z] at e
        cases e
        exact (h2 rfl).elim
      · rw [ha] at e
        cases e
        exact (h1 _ _ rfl).elim
  have kept : ∀ {b : Addr} {m : Str → Option Value}, s₁.heap.Ns b m → (hidT s₁.heap H).Ns b m := fun {b m} ⟨o, es, ep, e, d, r⟩ => ⟨o, es, ep, hidT_get e (free e (fun vs n z => by rw [d] at z; cases z) fun z => by rw [d] at z; cases z), d, r⟩
  have hKb : K.In (hidT s₁.heap H) := fun b o e => hidT_get (KX b o e) (by
    cases q : H b with
    | none => rfl
    | some u =>
      rcases heap0_inv q with ⟨z, _⟩ | ⟨_, z, rfl, _⟩
      · obtain ⟨p, hp, rfl⟩ := tabs b z
        rw [nT p hp] at e
        cases e
      · rw [e] at z
        cases z)
  have hM : L2.Mod K mg (hidT s₁.heap H) := ⟨hKb, kept hns, ⟨mb, kept hb, hbb⟩, let ⟨mc, h1, h2⟩ := hlim; ⟨mc, kept h1, h2⟩⟩
  have TB : ∀ p ∈ cs, LamX.TabB (hidT s₁.heap H) mg p.1 p.2 := fun p hp => by
    obtain ⟨og, es, ep, eg, hdg, _⟩ := hns
    refine ⟨?_, ?_, fun z => ?_⟩
    · obtain ⟨o, us, file, tf, flags, tg, inF, text, tt, e1, r1, r2, r3, r4, r5, r6, r7, r8, hne⟩ := C p hp
      refine ⟨o, us, file, tf, flags, tg, inF, text, tt, hidT_get e1 (free e1 (fun vs n z => ?_) fun z => ?_), r1, r2, r3, r4, r5, r6, r7, r8, hne⟩ <;> (rw [r2] at z; cases z)
      simp at r3
    · obtain ⟨bm, ob, b1, b2, b3, b4, b5, b6⟩ := hbm
      have nG : bm ≠ mainGlobals := fun q => by
        rw [q, eg] at b3
        cases b3
        rw [hdg] at b6
        cases b6
      have nP : bm ≠ p.2 := fun q => by
        rw [q, hT p hp] at b3
        cases b3
        cases b6
      exact ⟨bm, ob, b1, b2, nG, nP, hidT_get b3 (free b3 (fun vs n z => by rw [b6] at z; cases z) fun z => by rw [b6] at z; cases z), b4, b5, b6⟩
    · rw [z, hT p hp] at eg
      cases eg
      cases hdg
  have e0 : Env0 P w K mg (hidT s₁.heap H) callerA [] s₁ H := ⟨rfl, hM, fun b o e => of_hidT e, Nat.le_of_eq (hidT_size _ _), trivial, fun b hb => absurd (show b ∈ ([] : List Addr) from hb) (by simp), hok, .of_eq hg⟩
  obtain ⟨x, hF⟩ := F _ hKb (kept hns) TB
  obtain ⟨fd, hbd, hrun⟩ := hF.at_
  refine codeAny_mono (hrun callerA [] s₁ H ⟨[.ref a], []⟩ [.ref a] [.ref a] _ _ hr rfl e0 (hbd s₁ [.ref a] rfl) (.cons rfl .nil) rfl (hsp H hH hS)) fun r s' q => ?_
  match r, q with
  | .error e, q =>
    obtain ⟨_, _, _, _, _, _, _, _, _, _, _, _, z⟩ := (show L2.CX P w [] H s₁ (fun _ _ _ => False) e s' from q)
    exact z.elim
  | .ok .next, q => exact (show False from q).elim
  | .ok .brk, q => exact (show False from q).elim
  | .ok .cont, q => exact (show False from q).elim
  | .ok (.ret u), q =>
    obtain ⟨v, H', os, bare, un, hok', r', qv⟩ := q
    have qv : v = .bl true := qv
    subst qv
    obtain rfl : u = Value.bool true := r'
    have key : ∀ b o, b ∉ ts → s₁.heap.get? b = some o → s'.heap.get? b = some o := fun b o nb e => by
      cases q : H b with
      | none => exact un.keep b o e q (by intro z; exact absurd (show b ∈ ([] : List Addr) from z) (by simp)) (by simp)
      | some u =>
        rcases heap0_inv q with ⟨z, _⟩ | ⟨_, _, rfl, rfl⟩
        · exact (nb z).elim
        · obtain ⟨e2, _⟩ := hok' b _ (un.frzs b _ _ q)
          rw [ha] at e
          cases e
          exact e2
    have grown : ∀ b ∈ ts, ∃ more : Array Value, s'.heap.get? b = some { cls := .none, data := .fields more } := fun b hb => by
      obtain ⟨more, z⟩ := un.tbls b #[] (heap0_tbl hb)
      exact ⟨_, hok' b _ z⟩
    refine ⟨rfl, ⟨fun b o e => ?_, fun b o e => ?_⟩, os, bare⟩
    · by_cases hb : b ∈ ts
      · obtain ⟨more, hm⟩ := grown b hb
        obtain ⟨p, hp, rfl⟩ := tabs b hb
        rw [hT p hp] at e
        cases e
        exact .inr (.inl ⟨((C p hp).tab (hT p hp)).isCodeTable, rfl, #[], more, rfl, by rw [Array.empty_append]; exact hm⟩)
      · exact .inl (key b o hb e)
    · by_cases hb : b ∈ ts
      · obtain ⟨more, hm⟩ := grown b hb
        exact ⟨_, hm⟩
      · exact ⟨o, key b o hb e⟩
/-- the call of the law by its evaluation -/
theorem walk_law {l : PySem.W.OpenLaw} {n kk nH : Nat} {q : Program} {loose : List Str} {XP : (Str → Option Value) → Heap → Prop} {d : DefRec} {t : Txt} {fd : Fn}
    (hn : l.most = some n) (hn2 : n ≤ sizeLine) (hdf : d.params.defaults = []) (hr : Room (4 * kk) callerA) (o : TxtOk t l.prog) (hnm : d.name ∈ t.names) (hlw : t.tab.lookup (enc d.name) = some (.fn fd)) (hnp : fd.np = 1)
    (ev : ∀ ns : List Int, ns.length ≤ n → ∃ ps, callK (fun n => t.tab.lookup n) kk none (enc d.name) [.fz (.scr ns)] = .ok (.fz (.bl true)) ps) :
    PySem.W.WalkO q loose XP (hookV nH t).says l.row.toRowW d [] (fun f vs => PySem.call f vs) := by
  refine Att.attach_callB hn hdf fun w s₀ s₁ mg mb fa ob pm cd doc a vs ns G Y ho hd hcd hmg hobj hints hlen hbits hg => ?_
  obtain ⟨K, KX, c⟩ := Y
  let cs := t.tf.map (cT K)
  have mc : ∀ p ∈ cs, ∃ e ∈ t.tf, cT K e = p := fun p hp => List.mem_map.mp hp
  have efa : fa = ga K d.name := by
    obtain ⟨x, k, e, hr'⟩ := Txt.tab_in hlw
    have hx : d.name = x := t.inj o.ok hnm (Txt.name_of hr') e
    rcases Txt.cases hr' with ⟨r, h1, rfl, e1, e2⟩ | ⟨r, h1, rfl, e1, e2⟩ | ⟨r, h1, rfl, e1, e2⟩ | ⟨r, h1, rfl, e1, e2⟩ | ⟨r, h1, rfl, e1, e2⟩ <;> cases e2
    have := gloDef c KX G.T.g h1
    rw [← hx, hmg] at this
    injection this with this
    injection this
  let p := t.place K (fun _ => none) (fun _ => none)
  have ef : p.fn (enc d.name) = fa := by rw [efa]; exact t.fn_at o hnm
  refine law_end (cs := cs) (sp := spFn p (callK (fun n => t.tab.lookup n) kk none (enc d.name))) KX G.T.g G.T.b G.T.builtins G.T.nolimit hg (fun z hz => ?_) (fun z hz => ?_) (fun z hz => ?_) G.T.bmain hobj hints (Nat.le_trans hlen hn2) hr (fun base hK hB T => ?_) fun H hH hS => ?_
  · obtain ⟨e, he, rfl⟩ := mc z hz
    exact c.empty e he
  · obtain ⟨e, he, rfl⟩ := mc z hz
    exact c.out e he
  · obtain ⟨e, he, rfl⟩ := mc z hz
    exact PySem.W.codeHd_of_K KX (c.hd e he)
  · have M := mf_of (w := w) (Z := fun _ => none) (B := fun _ => none) o c KX G.T.g T
    obtain ⟨ps, h1, h2⟩ := M.all (M.lamH rfl (taker_of o c KX G.T.g)) rfl kk (enc d.name) fd hlw
    rw [hnp] at h1
    match ps, h1 with
    | [x], _ => exact ⟨x, by rw [← ef]; exact h2⟩
  · obtain ⟨ps, e⟩ := ev ns hlen
    refine ⟨noTbl H, [.fz (.scr ns)], [[]], ⟨fun b u h => (noTbl_some h).1, fun b u h => (noTbl_some h).2, fun b hb => (by cases hb), List.nodup_nil, fun z hz => ?_, ⟨fun b u h => (by cases h), fun b u h => (by cases h), fun b u h => .inr rfl⟩⟩, .cons (RO.fz ?_) .nil, ?_⟩
    · obtain ⟨e, he, rfl⟩ := List.mem_map.mp hz
      exact LamX.TabS.nil (hH _ (List.mem_map.mpr ⟨e, he, rfl⟩))
    · unfold RD
      refine ⟨a, rfl, hS.imp (fun h => ?_) id⟩
      rcases h with h | ⟨o, h⟩
      · exact .inl (noTbl_of h fun ps z => by cases z)
      · exact .inr ⟨o, noTbl_of h fun ps z => by cases z⟩
    · rw [e]
      intro v H' Z' Gs G t g s r
      have r := r.of_fz.1
      unfold RD at r
      exact r
end VI.Hd
end

section
set_option Elab.async false
set_option linter.all false
set_option maxRecDepth 100000
set_option maxHeartbeats 4000000
/-! VIk1: the evaluator once more, by recursors, for the kernel: the operations. -/
namespace VI.Kn
open PySem VI
noncomputable section

theorem ifb_eq {α : Type} (b : Bool) (t f : α) : (@Bool.rec (fun _ => α) f t b) = if b then t else f := by cases b <;> rfl

/-! ### numbers -/
/-- the number is computed at once -/
def frN {α : Type} (n : Nat) (k : Nat → α) : α := @Nat.rec (fun _ => α) (k Nat.zero) (fun m _ => k (Nat.succ m)) n
theorem frN_eq {α : Type} (n : Nat) (k : Nat → α) : frN n k = k n := by cases n <;> rfl
def frI {α : Type} (i : Int) (k : Int → α) : α := @Int.rec (fun _ => α) (fun n => frN n fun n => k (.ofNat n)) (fun n => frN n fun n => k (.negSucc n)) i
theorem frI_eq {α : Type} (i : Int) (k : Int → α) : frI i k = k i := by
  cases i with
  | ofNat n => exact frN_eq n fun n => k (.ofNat n)
  | negSucc n => exact frN_eq n fun n => k (.negSucc n)
def iSub (m n : Nat) : Int := @Nat.rec (fun _ => Int) (.ofNat (Nat.sub m n)) (fun k _ => .negSucc k) (Nat.sub n m)
theorem iSub_eq (m n : Nat) : iSub m n = Int.subNatNat m n := by
  unfold iSub Int.subNatNat
  show @Nat.rec (fun _ => Int) (.ofNat (m - n)) (fun k _ => .negSucc k) (n - m) = _
  cases n - m <;> rfl
def iNeg (i : Int) : Int := @Int.rec (fun _ => Int) (fun n => @Nat.rec (fun _ => Int) (.ofNat Nat.zero) (fun m _ => .negSucc m) n) (fun n => .ofNat (Nat.succ n)) i
theorem iNeg_eq (i : Int) : iNeg i = -i := by
  cases i with
  | ofNat n => cases n <;> rfl
  | negSucc n => rfl
def iAdd (i j : Int) : Int := @Int.rec (fun _ => Int) (fun m => @Int.rec (fun _ => Int) (fun n => .ofNat (Nat.add m n)) (fun n => iSub m (Nat.succ n)) j) (fun m => @Int.rec (fun _ => Int) (fun n => iSub n (Nat.succ m)) (fun n => .negSucc (Nat.succ (Nat.add m n))) j) i
theorem iAdd_eq (i j : Int) : iAdd i j = i + j := by
  cases i <;> cases j
  · rfl
  · exact iSub_eq _ _
  · exact iSub_eq _ _
  · rfl
def iMul (i j : Int) : Int := @Int.rec (fun _ => Int) (fun m => @Int.rec (fun _ => Int) (fun n => .ofNat (Nat.mul m n)) (fun n => iNeg (.ofNat (Nat.mul m (Nat.succ n)))) j) (fun m => @Int.rec (fun _ => Int) (fun n => iNeg (.ofNat (Nat.mul (Nat.succ m) n))) (fun n => .ofNat (Nat.mul (Nat.succ m) (Nat.succ n))) j) i
theorem iMul_eq (i j : Int) : iMul i j = i * j := by
  cases i with
  | ofNat m => cases j with
    | ofNat n => rfl
    | negSucc n => exact (iNeg_eq (.ofNat (m * Nat.succ n))).trans rfl
  | negSucc m => cases j with
    | ofNat n => exact (iNeg_eq (.ofNat (Nat.succ m * n))).trans rfl
    | negSucc n => rfl
/-- by a number above zero -/
def iDiv (i : Int) (n : Nat) : Int := @Int.rec (fun _ => Int) (fun m => .ofNat (Nat.div m n)) (fun m => .negSucc (Nat.div m n)) i
theorem iDiv_eq (i : Int) (n : Nat) (h : 0 < n) : iDiv i n = i / (n : Int) := by
  cases i with
  | ofNat m => rfl
  | negSucc m => cases n with
    | zero => omega
    | succ n => rfl
def iMod (i : Int) (n : Nat) : Int := @Int.rec (fun _ => Int) (fun m => .ofNat (Nat.mod m n)) (fun m => iSub n (Nat.succ (Nat.mod m n))) i
theorem iMod_eq (i : Int) (n : Nat) : iMod i n = i % (n : Int) := by
  cases i with
  | ofNat m => rfl
  | negSucc m => exact iSub_eq _ _
def iLe (i j : Int) : Bool := @Int.rec (fun _ => Bool) (fun m => @Int.rec (fun _ => Bool) (fun n => Nat.ble m n) (fun n => false) j) (fun m => @Int.rec (fun _ => Bool) (fun n => true) (fun n => Nat.ble n m) j) i
theorem iLe_eq (i j : Int) : iLe i j = decide (i ≤ j) := by
  cases i with
  | ofNat m => cases j with
    | ofNat n =>
      show Nat.ble m n = _
      cases h : Nat.ble m n
      · have : ¬ m ≤ n := fun z => by rw [Nat.ble_eq_true_of_le z] at h; cases h
        exact (decide_eq_false (by simpa using this)).symm
      · exact (decide_eq_true (by simpa using Nat.le_of_ble_eq_true h)).symm
    | negSucc n =>
      show false = _
      exact (decide_eq_false (by simp; omega)).symm
  | negSucc m => cases j with
    | ofNat n =>
      show true = _
      exact (decide_eq_true (by simp; omega)).symm
    | negSucc n =>
      show Nat.ble n m = _
      cases h : Nat.ble n m
      · have : ¬ n ≤ m := fun z => by rw [Nat.ble_eq_true_of_le z] at h; cases h
        exact (decide_eq_false (by omega)).symm
      · have := Nat.le_of_ble_eq_true h
        exact (decide_eq_true (by omega)).symm
def nB (b : Bool) : Bool := @Bool.rec (fun _ => _) true false b
theorem nB_eq (b : Bool) : nB b = !b := by cases b <;> rfl
def iLt (i j : Int) : Bool := nB (iLe j i)
theorem iLt_eq (i j : Int) : iLt i j = decide (i < j) := by
  unfold iLt
  rw [nB_eq, iLe_eq]
  by_cases h : j ≤ i
  · rw [decide_eq_true h, decide_eq_false (by omega)]; rfl
  · rw [decide_eq_false h, decide_eq_true (by omega)]; rfl
def iEq (i j : Int) : Bool := @Int.rec (fun _ => Bool) (fun m => @Int.rec (fun _ => Bool) (fun n => Nat.beq m n) (fun n => false) j) (fun m => @Int.rec (fun _ => Bool) (fun n => false) (fun n => Nat.beq n m) j) i
theorem nbeq (m n : Nat) : Nat.beq m n = decide (m = n) := by
  cases h : Nat.beq m n
  · exact (decide_eq_false (Nat.ne_of_beq_eq_false h)).symm
  · exact (decide_eq_true (Nat.eq_of_beq_eq_true h)).symm
theorem iEq_eq (i j : Int) : iEq i j = decide (i = j) := by
  cases i with
  | ofNat m => cases j with
    | ofNat n =>
      show Nat.beq m n = _
      rw [nbeq]
      by_cases h : m = n
      · subst h; simp
      · rw [decide_eq_false h, decide_eq_false fun z => h (by injection z)]
    | negSucc n => rfl
  | negSucc m => cases j with
    | ofNat n => rfl
    | negSucc n =>
      show Nat.beq n m = _
      rw [nbeq]
      simp [eq_comm]

/-! ### lists -/
section
variable {α β γ : Type}
def nth (n : Nat) : List α → Option α := @Nat.rec (fun _ => List α → Option α) (fun l => @List.rec α (fun _ => Option α) none (fun x _ _ => some x) l) (fun _ ih l => @List.rec α (fun _ => Option α) none (fun _ r _ => ih r) l) n
theorem nth_eq : ∀ (n : Nat) (l : List α), nth n l = l[n]?
  | 0, [] => rfl
  | 0, _ :: _ => rfl
  | n + 1, [] => rfl
  | n + 1, _ :: r => (nth_eq n r).trans (by simp)
def len (l : List α) : Nat := @List.rec α (fun _ => Nat) Nat.zero (fun _ _ ih => Nat.succ ih) l
theorem len_eq : ∀ l : List α, len l = l.length
  | [] => rfl
  | _ :: r => congrArg Nat.succ (len_eq r)
/-- the spine is laid at once -/
def frL (l : List α) : (List α → β) → β := @List.rec α (fun _ => (List α → β) → β) (fun k => k []) (fun x _ ih k => ih fun r => k (x :: r)) l
theorem frL_eq : ∀ (l : List α) (k : List α → β), frL l k = k l
  | [], _ => rfl
  | x :: r, k => frL_eq r fun r => k (x :: r)
def app (l m : List α) : (List α → β) → β := @List.rec α (fun _ => (List α → β) → β) (fun k => k m) (fun x _ ih k => ih fun r => k (x :: r)) l
theorem app_eq : ∀ (l m : List α) (k : List α → β), app l m k = k (l ++ m)
  | [], _, _ => rfl
  | x :: r, m, k => app_eq r m fun r => k (x :: r)
def mapK (f : α → β) (l : List α) : (List β → γ) → γ := @List.rec α (fun _ => (List β → γ) → γ) (fun k => k []) (fun x _ ih k => ih fun r => k (f x :: r)) l
theorem mapK_eq (f : α → β) : ∀ (l : List α) (k : List β → γ), mapK f l k = k (l.map f)
  | [], _ => rfl
  | x :: r, k => mapK_eq f r fun r => k (f x :: r)
def revK (l : List α) : List α → List α := @List.rec α (fun _ => List α → List α) (fun a => a) (fun x _ ih a => ih (x :: a)) l
theorem revK_eq : ∀ l a : List α, revK l a = l.reverse ++ a
  | [], _ => rfl
  | x :: r, a => (revK_eq r (x :: a)).trans (by simp)
def dropK (n : Nat) : List α → List α := @Nat.rec (fun _ => List α → List α) (fun l => l) (fun _ ih l => @List.rec α (fun _ => List α) [] (fun _ r _ => ih r) l) n
theorem dropK_eq : ∀ (n : Nat) (l : List α), dropK n l = l.drop n
  | 0, l => rfl
  | n + 1, [] => rfl
  | n + 1, _ :: r => dropK_eq n r
def takeK (n : Nat) : List α → List α := @Nat.rec (fun _ => List α → List α) (fun l => []) (fun _ ih l => @List.rec α (fun _ => List α) [] (fun x r _ => x :: ih r) l) n
theorem takeK_eq : ∀ (n : Nat) (l : List α), takeK n l = l.take n
  | 0, l => rfl
  | n + 1, [] => rfl
  | n + 1, x :: r => congrArg (x :: ·) (takeK_eq n r)
def setK (n : Nat) (x : α) : List α → (List α → β) → β := @Nat.rec (fun _ => List α → (List α → β) → β) (fun l k => @List.rec α (fun _ => β) (k []) (fun _ r _ => k (x :: r)) l) (fun _ ih l k => @List.rec α (fun _ => β) (k []) (fun y r _ => ih r fun r => k (y :: r)) l) n
theorem setK_eq (x : α) : ∀ (n : Nat) (l : List α) (k : List α → β), setK n x l k = k (l.set n x)
  | 0, [], _ => rfl
  | 0, _ :: _, _ => rfl
  | n + 1, [], _ => rfl
  | n + 1, y :: r, k => setK_eq x n r fun r => k (y :: r)
def eraK (n : Nat) : List α → (List α → β) → β := @Nat.rec (fun _ => List α → (List α → β) → β) (fun l k => @List.rec α (fun _ => β) (k []) (fun _ r _ => k r) l) (fun _ ih l k => @List.rec α (fun _ => β) (k []) (fun y r _ => ih r fun r => k (y :: r)) l) n
theorem eraK_eq : ∀ (n : Nat) (l : List α) (k : List α → β), eraK n l k = k (l.eraseIdx n)
  | 0, [], _ => rfl
  | 0, _ :: _, _ => rfl
  | n + 1, [], _ => rfl
  | n + 1, y :: r, k => eraK_eq n r fun r => k (y :: r)
def repK (n : Nat) (x : α) : (List α → β) → β := @Nat.rec (fun _ => (List α → β) → β) (fun k => k []) (fun _ ih k => ih fun r => k (x :: r)) n
theorem repK_eq (x : α) : ∀ (n : Nat) (k : List α → β), repK n x k = k (List.replicate n x)
  | 0, _ => rfl
  | n + 1, k => (repK_eq x n fun r => k (x :: r)).trans (by rw [List.replicate_succ])
def memN (x : Nat) (l : List Nat) : Bool := @List.rec Nat (fun _ => Bool) false (fun y _ ih => @Bool.rec (fun _ => _) ih true (Nat.beq x y)) l
theorem memN_eq (x : Nat) : ∀ l : List Nat, memN x l = l.contains x
  | [] => rfl
  | y :: r => by
    show (@Bool.rec (fun _ => Bool) (memN x r) true (Nat.beq x y)) = _
    rw [ifb_eq, memN_eq x r, nbeq, List.contains_cons]
    by_cases h : x = y <;> simp [h]
end
/-! ### texts -/
def eqN (l : List Nat) : List Nat → Bool := @List.rec Nat (fun _ => List Nat → Bool) (fun m => @List.rec Nat (fun _ => Bool) true (fun _ _ _ => false) m) (fun x _ ih m => @List.rec Nat (fun _ => Bool) false (fun y r _ => @Bool.rec (fun _ => _) false (ih r) (Nat.beq x y)) m) l
theorem eqN_eq : ∀ l m : List Nat, eqN l m = decide (l = m)
  | [], [] => rfl
  | [], _ :: _ => rfl
  | _ :: _, [] => rfl
  | x :: r, y :: q => by
    show (@Bool.rec (fun _ => Bool) false (eqN r q) (Nat.beq x y)) = _
    rw [ifb_eq, eqN_eq r q, nbeq]
    by_cases h : x = y <;> simp [h]
def strK (a b : Str) : Bool := @Str.rec (fun _ => Bool) (fun x => @Str.rec (fun _ => Bool) (fun y => eqN x.toList y.toList) b) a
theorem strK_eq (a b : Str) : strK a b = (a == b) := by
  obtain ⟨⟨x⟩⟩ := a
  obtain ⟨⟨y⟩⟩ := b
  show eqN x y = _
  rw [eqN_eq]
  by_cases h : x = y
  · subst h
    simp
  · rw [decide_eq_false h]
    symm
    rw [beq_eq_false_iff_ne]
    intro z
    cases z
    exact h rfl
end
end VI.Kn
end

section
set_option Elab.async false
set_option linter.all false
set_option maxRecDepth 100000
set_option maxHeartbeats 4000000
/-! VIk2: the evaluator for the kernel: data. -/
namespace VI.Kn
open PySem VI
noncomputable section

/-! ### cases -/
section
variable {α : Type}
def dcase (d : D) (non : α) (bl : Bool → α) (int : Int → α) (str : Str → α) (tup lst : List D → α) (z : α) : α :=
  @D.rec (fun _ => α) (fun _ => Unit) (fun _ => Unit) (fun _ => Unit) (fun _ => Unit) (fun _ => Unit) non bl int str (fun l _ => tup l) (fun l _ => lst l) (fun _ _ => z) (fun _ => z) (fun _ _ _ => z) (fun _ => z) z (fun _ => z) () (fun _ _ _ _ => ()) () (fun _ _ _ _ => ()) () (fun _ _ _ _ => ()) (fun _ _ _ _ => ()) (fun _ _ _ => ()) d
theorem dcase_eq (d : D) (non : α) (bl : Bool → α) (int : Int → α) (str : Str → α) (tup lst : List D → α) (z : α) : dcase d non bl int str tup lst z = match d with
  | .non => non
  | .bl b => bl b
  | .int i => int i
  | .str s => str s
  | .tup l => tup l
  | .lst l => lst l
  | _ => z := by cases d <;> rfl
def onInt (d : D) (k : Int → α) (z : α) : α :=
  @D.rec (fun _ => α) (fun _ => Unit) (fun _ => Unit) (fun _ => Unit) (fun _ => Unit) (fun _ => Unit) z (fun _ => z) k (fun _ => z) (fun _ _ => z) (fun _ _ => z) (fun _ _ => z) (fun _ => z) (fun _ _ _ => z) (fun _ => z) z (fun _ => z) () (fun _ _ _ _ => ()) () (fun _ _ _ _ => ()) () (fun _ _ _ _ => ()) (fun _ _ _ _ => ()) (fun _ _ _ => ()) d
theorem onInt_eq (d : D) (k : Int → α) (z : α) : onInt d k z = match d with
  | .int i => k i
  | _ => z := by cases d <;> rfl
def onSeq (d : D) (tup lst : List D → α) (z : α) : α :=
  @D.rec (fun _ => α) (fun _ => Unit) (fun _ => Unit) (fun _ => Unit) (fun _ => Unit) (fun _ => Unit) z (fun _ => z) (fun _ => z) (fun _ => z) (fun l _ => tup l) (fun l _ => lst l) (fun _ _ => z) (fun _ => z) (fun _ _ _ => z) (fun _ => z) z (fun _ => z) () (fun _ _ _ _ => ()) () (fun _ _ _ _ => ()) () (fun _ _ _ _ => ()) (fun _ _ _ _ => ()) (fun _ _ _ => ()) d
theorem onSeq_eq (d : D) (tup lst : List D → α) (z : α) : onSeq d tup lst z = match d with
  | .tup l => tup l
  | .lst l => lst l
  | _ => z := by cases d <;> rfl
def onBl (d : D) (k : Bool → α) (z : α) : α :=
  @D.rec (fun _ => α) (fun _ => Unit) (fun _ => Unit) (fun _ => Unit) (fun _ => Unit) (fun _ => Unit) z k (fun _ => z) (fun _ => z) (fun _ _ => z) (fun _ _ => z) (fun _ _ => z) (fun _ => z) (fun _ _ _ => z) (fun _ => z) z (fun _ => z) () (fun _ _ _ _ => ()) () (fun _ _ _ _ => ()) () (fun _ _ _ _ => ()) (fun _ _ _ _ => ()) (fun _ _ _ => ()) d
theorem onBl_eq (d : D) (k : Bool → α) (z : α) : onBl d k z = match d with
  | .bl b => k b
  | _ => z := by cases d <;> rfl
/-- owned data: frozen | a list | other -/
def ocase (o : O) (fz : D → α) (lst : List O → α) (z : α) : α :=
  @O.rec (fun _ => α) (fun _ => Unit) (fun _ => Unit) (fun _ => Unit) (fun _ => Unit) (fun _ => Unit) fz (fun l _ => lst l) (fun _ _ => z) (fun _ _ _ => z) () (fun _ _ _ _ => ()) () (fun _ _ _ _ => ()) () (fun _ _ _ _ => ()) (fun _ _ _ => ()) (fun _ _ _ => ()) o
theorem ocase_eq (o : O) (fz : D → α) (lst : List O → α) (z : α) : ocase o fz lst z = match o with
  | .fz d => fz d
  | .lst l => lst l
  | _ => z := by cases o <;> rfl
def opt {β : Type} (o : Option β) (z : α) (k : β → α) : α := @Option.rec β (fun _ => α) z k o
theorem opt_eq {β : Type} (o : Option β) (z : α) (k : β → α) : opt o z k = match o with
  | some x => k x
  | none => z := by cases o <;> rfl
end

/-! ### freezing -/
def frzD {β : Type} (o : O) (k : D → β) : β := ocase o k (fun l => k (O.lst l).toD) (k o.toD)
theorem frzD_eq {β : Type} (o : O) (k : D → β) : frzD o k = k o.toD := by
  cases o <;> first
    | rfl
    | (unfold frzD; rw [ocase_eq]; unfold O.toD; rfl)
def frzL {β : Type} (l : List O) : (List D → β) → β := @List.rec O (fun _ => (List D → β) → β) (fun k => k []) (fun o _ ih k => frzD o fun d => ih fun r => k (d :: r)) l
theorem frzL_eq {β : Type} : ∀ (l : List O) (k : List D → β), frzL l k = k (O.toDs l)
  | [], k => by unfold O.toDs; rfl
  | o :: r, k => by
    show frzD o (fun d => frzL r fun r => k (d :: r)) = _
    rw [frzD_eq, frzL_eq r]
    conv => rhs; unfold O.toDs
/-- a value, frozen -/
def frzO {β : Type} (o : O) (k : D → β) : β := ocase o k (fun l => frzL l fun ds => k (.lst ds)) (k o.toD)
theorem frzO_eq {β : Type} (o : O) (k : D → β) : frzO o k = k o.toD := by
  unfold frzO
  rw [ocase_eq]
  cases o <;> first
    | (simp only [frzL_eq]; unfold O.toD; rfl)
    | (unfold O.toD; rfl)
    | rfl
def fzs {β : Type} (l : List D) : (List O → β) → β := mapK O.fz l

/-! ### equality -/
def sok (s : Str) : Bool := @Str.rec (fun _ => Bool) (fun a => @List.rec Nat (fun _ => Bool) true (fun c _ ih => @Bool.rec (fun _ => _) false ih (Nat.ble (Nat.succ c) 1114112)) a.toList) s
theorem if_and {a b : Bool} (h : (@Bool.rec (fun _ => Bool) false b a) = true) : a = true ∧ b = true := by cases a <;> simp_all
theorem sok_ok {s : Str} (h : sok s = true) : PyData.strOk s = true := by
  obtain ⟨⟨l⟩⟩ := s
  have key : ∀ l : List Nat, (@List.rec Nat (fun _ => Bool) true (fun c _ ih => @Bool.rec (fun _ => _) false ih (Nat.ble (Nat.succ c) 1114112)) l) = true → l.all (· < 0x110000) = true := by
    intro l
    induction l with
    | nil => intro _; rfl
    | cons c r ih =>
      intro h
      obtain ⟨h1, h2⟩ := if_and h
      rw [List.all_cons, ih h2, Bool.and_true]
      exact decide_eq_true (Nat.le_of_ble_eq_true h1)
  unfold PyData.strOk
  simpa using key l h
/-- such data as may be compared, at most n deep -/
def sh (n : Nat) : D → Bool := @Nat.rec (fun _ => D → Bool) (fun d => dcase d true (fun _ => true) (fun _ => true) sok (fun _ => false) (fun _ => false) false)
  (fun _ ih d => dcase d true (fun _ => true) (fun _ => true) sok (fun l => @List.rec D (fun _ => Bool) true (fun x _ r => @Bool.rec (fun _ => _) false r (ih x)) l) (fun l => @List.rec D (fun _ => Bool) true (fun x _ r => @Bool.rec (fun _ => _) false r (ih x)) l) false) n
def shs (n : Nat) (l : List D) : Bool := @List.rec D (fun _ => Bool) true (fun x _ r => @Bool.rec (fun _ => _) false r (sh n x)) l
mutual
theorem sh_ok : ∀ (n : Nat) (d : D), sh n d = true → ∃ p, d.toP = some p ∧ p.canLay0 = true ∧ p.depth ≤ n
  | n, .non, _ => ⟨_, rfl, rfl, Nat.zero_le _⟩
  | n, .bl b, _ => ⟨_, rfl, rfl, Nat.zero_le _⟩
  | n, .int i, _ => ⟨_, rfl, rfl, Nat.zero_le _⟩
  | 0, .str s, h => ⟨_, rfl, by simp only [PyData.canLay0]; exact sok_ok h, Nat.zero_le _⟩
  | n + 1, .str s, h => ⟨_, rfl, by simp only [PyData.canLay0]; exact sok_ok h, Nat.zero_le _⟩
  | 0, .tup l, h => by cases h
  | 0, .lst l, h => by cases h
  | n + 1, .tup l, h => by
    obtain ⟨ps, h1, h2, h3⟩ := shs_ok n l h
    refine ⟨.tuple ps, ?_, ?_, ?_⟩
    · unfold D.toP; rw [h1]; rfl
    · simpa [PyData.canLay0] using h2
    · simpa [PyData.depth] using h3
  | n + 1, .lst l, h => by
    obtain ⟨ps, h1, h2, h3⟩ := shs_ok n l h
    refine ⟨.list ps, ?_, ?_, ?_⟩
    · unfold D.toP; rw [h1]; rfl
    · simpa [PyData.canLay0] using h2
    · simpa [PyData.depth] using h3
  | n, .dct _, h => by cases n <;> cases h
  | n, .set _, h => by cases n <;> cases h
  | n, .ins _ _, h => by cases n <;> cases h
  | n, .fn _, h => by cases n <;> cases h
  | n, .lam, h => by cases n <;> cases h
  | n, .scr _, h => by cases n <;> cases h
theorem shs_ok : ∀ (n : Nat) (l : List D), shs n l = true → ∃ ps, D.toPs l = some ps ∧ PyData.canLayAll0 ps = true ∧ PyData.depthAll ps ≤ n
  | n, [], _ => ⟨[], by unfold D.toPs; rfl, rfl, Nat.zero_le _⟩
  | n, x :: l, h => by
    obtain ⟨h1, h2⟩ := if_and (show (@Bool.rec (fun _ => Bool) false (shs n l) (sh n x)) = true from h)
    obtain ⟨p, a1, a2, a3⟩ := sh_ok n x h1
    obtain ⟨ps, b1, b2, b3⟩ := shs_ok n l h2
    refine ⟨p :: ps, ?_, ?_, ?_⟩
    · unfold D.toPs; rw [a1, b1]
    · simp [PyData.canLayAll0, a2, b2]
    · simp only [PyData.depthAll]; omega
end
theorem shaped_of {d : D} (h : sh 60 d = true) : ∃ p, d.toP = some p ∧ SeqAt.shaped p = true := by
  obtain ⟨p, h1, h2, h3⟩ := sh_ok 60 d h
  exact ⟨p, h1, by unfold SeqAt.shaped; rw [h2, decide_eq_true (by omega)]; rfl⟩
def b01 (b : Bool) : Int := @Bool.rec (fun _ => _) (.ofNat Nat.zero) (.ofNat (Nat.succ Nat.zero)) b
def eqvs (ih : D → D → Bool) (l : List D) : List D → Bool := @List.rec D (fun _ => List D → Bool) (fun m => @List.rec D (fun _ => Bool) true (fun _ _ _ => false) m) (fun u _ r m => @List.rec D (fun _ => Bool) false (fun v q _ => @Bool.rec (fun _ => _) false (r q) (ih u v)) m) l
/-- equality of such data -/
def eqv (n : Nat) : D → D → Bool := @Nat.rec (fun _ => D → D → Bool) (fun _ _ => false)
  (fun _ ih x y => dcase x (dcase y true (fun _ => false) (fun _ => false) (fun _ => false) (fun _ => false) (fun _ => false) false)
    (fun a => dcase y false (fun b => @Bool.rec (fun _ => _) (nB b) b a) (fun j => iEq (b01 a) j) (fun _ => false) (fun _ => false) (fun _ => false) false)
    (fun i => dcase y false (fun b => iEq i (b01 b)) (fun j => iEq i j) (fun _ => false) (fun _ => false) (fun _ => false) false)
    (fun s => dcase y false (fun _ => false) (fun _ => false) (fun t => strK s t) (fun _ => false) (fun _ => false) false)
    (fun l => onSeq y (fun m => eqvs ih l m) (fun _ => false) false)
    (fun l => onSeq y (fun _ => false) (fun m => eqvs ih l m) false) false) n
theorem b01_eq (b : Bool) : b01 b = if b then 1 else 0 := by cases b <;> rfl
theorem iEq_beq (i j : Int) : iEq i j = (i == j) := by
  rw [iEq_eq]
  by_cases h : i = j <;> simp [h]
theorem toPs_nil : D.toPs [] = some [] := by unfold D.toPs; rfl
theorem toPs_cons {d : D} {l : List D} {r : List PyData} (h : D.toPs (d :: l) = some r) : ∃ p ps, d.toP = some p ∧ D.toPs l = some ps ∧ r = p :: ps := by
  unfold D.toPs at h
  split at h
  · rename_i p h1
    split at h
    · rename_i ps h2
      cases h
      exact ⟨p, ps, h1, h2, rfl⟩
    · cases h
  · cases h
theorem eqvs_ok {n : Nat} {ih : D → D → Bool} (H : ∀ (x y : D) (p q : PyData), x.toP = some p → y.toP = some q → p.depth ≤ n → ih x y = PyData.eqv p q) : ∀ (l m : List D) (ps qs : List PyData), D.toPs l = some ps → D.toPs m = some qs → PyData.depthAll ps ≤ n → eqvs ih l m = PyData.eqvAll ps qs
  | [], [], ps, qs, h1, h2, _ => by
    rw [toPs_nil] at h1 h2
    cases h1; cases h2
    rfl
  | [], y :: m, ps, qs, h1, h2, _ => by
    rw [toPs_nil] at h1
    cases h1
    obtain ⟨_, _, _, _, rfl⟩ := toPs_cons h2
    rfl
  | x :: l, [], ps, qs, h1, h2, _ => by
    rw [toPs_nil] at h2
    cases h2
    obtain ⟨_, _, _, _, rfl⟩ := toPs_cons h1
    rfl
  | x :: l, y :: m, ps, qs, h1, h2, hd => by
    obtain ⟨p, ps, a1, a2, rfl⟩ := toPs_cons h1
    obtain ⟨q, qs, b1, b2, rfl⟩ := toPs_cons h2
    simp only [PyData.depthAll] at hd
    show (@Bool.rec (fun _ => Bool) false (eqvs ih l m) (ih x y)) = _
    rw [ifb_eq, H x y p q a1 b1 (by omega), eqvs_ok H l m ps qs a2 b2 (by omega)]
    simp only [PyData.eqvAll]
    cases PyData.eqv p q <;> rfl
theorem eqv_ok : ∀ (n : Nat) (x y : D) (p q : PyData), x.toP = some p → y.toP = some q → p.depth < n → eqv n x y = PyData.eqv p q
  | 0, _, _, _, _, _, _, h => by omega
  | n + 1, x, y, p, q, hx, hy, h1 => by
    have H := eqv_ok n
    cases x <;> cases y <;> simp only [D.toP, Option.some.injEq, Option.map_eq_some_iff, reduceCtorEq] at hx hy <;> first
      | (cases hx; done)
      | (cases hy; done)
      | skip
    all_goals first
      | (subst hx; subst hy; rfl)
      | (subst hx; subst hy; exact (iEq_beq _ _).trans rfl)
      | (subst hx; subst hy; exact (iEq_beq _ _).trans (by rw [b01_eq]; simp only [PyData.eqv]))
      | (subst hx; subst hy; exact (strK_eq _ _).trans rfl)
      | (subst hx; subst hy; rename_i a b; cases a <;> cases b <;> rfl)
      | (obtain ⟨ps, e1, rfl⟩ := hx; obtain ⟨qs, e2, rfl⟩ := hy; have h2 : PyData.depthAll ps < n := (by simp only [PyData.depth] at h1; omega); exact (eqvs_ok (n := n - 1) (fun x y p q a b c => H x y p q a b (by omega)) _ _ _ _ e1 e2 (by omega)).trans (by simp only [PyData.eqv]))
      | (obtain ⟨ps, e1, rfl⟩ := hx; obtain ⟨qs, e2, rfl⟩ := hy; simp only [PyData.eqv]; rfl)
      | (obtain ⟨ps, e1, rfl⟩ := hx; subst hy; simp only [PyData.eqv]; rfl)
      | (subst hx; obtain ⟨qs, e2, rfl⟩ := hy; simp only [PyData.eqv]; rfl)
/-- VI.eqD, where it answers -/
def eqK (x y : D) : Option Bool := onInt x (fun i => onInt y (fun j => some (iEq i j)) (@Bool.rec (fun _ => _) none (some (eqv 61 x y)) (sh 60 y))) (@Bool.rec (fun _ => _) none (@Bool.rec (fun _ => _) none (some (eqv 61 x y)) (sh 60 y)) (sh 60 x))
theorem eqK_ok {x y : D} {b : Bool} (h : eqK x y = some b) : eqD x y = some b := by
  have gen : ∀ {x y : D} {b : Bool}, (∀ i j, x = .int i → y = .int j → False) → sh 60 x = true → sh 60 y = true → eqv 61 x y = b → eqD x y = some b := by
    intro x y b hn h1 h2 h3
    obtain ⟨p, p1, p2, p3⟩ := sh_ok 60 x h1
    obtain ⟨q, q1, q2, q3⟩ := sh_ok 60 y h2
    obtain ⟨p', p1', p4⟩ := shaped_of h1
    obtain ⟨q', q1', q4⟩ := shaped_of h2
    rw [p1] at p1'
    cases p1'
    rw [q1] at q1'
    cases q1'
    have e := eqv_ok 61 x y p q p1 q1 (by omega)
    unfold eqD
    split
    · exact (hn _ _ rfl rfl).elim
    · rw [p1, q1]
      simp only [p4, q4, and_self, if_true]
      rw [← e, h3]
  unfold eqK at h
  rw [onInt_eq] at h
  split at h
  · rename_i i
    rw [onInt_eq] at h
    split at h
    · rw [iEq_eq] at h
      exact h
    · rename_i hn
      rw [ifb_eq] at h
      split at h
      · rename_i h2
        cases h
        exact gen (fun i j _ e => hn j e) rfl h2 rfl
      · cases h
  · rename_i hn
    rw [ifb_eq] at h
    split at h
    · rename_i h1
      rw [ifb_eq] at h
      split at h
      · rename_i h2
        cases h
        exact gen (fun i j e _ => hn i e) h1 h2 rfl
      · cases h
    · cases h
end
end VI.Kn
end

section
set_option Elab.async false
set_option linter.all false
set_option maxRecDepth 100000
set_option maxHeartbeats 4000000
/-! VIk3: the evaluator for the kernel: operations on data. -/
namespace VI.Kn
open PySem VI
noncomputable section

theorem ble_if {α : Type} {a b : Nat} {x y : α} : (@Bool.rec (fun _ => α) y x (Nat.ble a b)) = if a ≤ b then x else y := by
  rw [ifb_eq]
  by_cases h : a ≤ b
  · rw [if_pos h, if_pos (Nat.ble_eq_true_of_le h)]
  · rw [if_neg h, if_neg fun z => h (Nat.le_of_ble_eq_true z)]
/-! ### comparisons -/
def neK (x y : D) : Option Bool := opt (eqK x y) none fun b => some (nB b)
def ltK (x y : D) : Option Bool := onInt x (fun i => onInt y (fun j => some (iLt i j)) (ltD x y)) (ltD x y)
def leK (x y : D) : Option Bool := onInt x (fun i => onInt y (fun j => some (iLe i j)) none) none
def gtK (x y : D) : Option Bool := onInt x (fun i => onInt y (fun j => some (iLt j i)) none) none
def geK (x y : D) : Option Bool := onInt x (fun i => onInt y (fun j => some (iLe j i)) none) none
def beqB (a b : Bool) : Bool := @Bool.rec (fun _ => _) (nB b) b a
theorem beqB_eq (a b : Bool) : beqB a b = decide (a = b) := by cases a <;> cases b <;> rfl
def isK (x y : D) : Option Bool := dcase y (dcase x (some true) (fun _ => some false) (fun _ => some false) (fun _ => some false) (fun _ => some false) (fun _ => some false) (some false)) (fun b => onBl x (fun a => some (beqB a b)) none) (fun _ => none) (fun _ => none) (fun _ => none) (fun _ => none) none
def isnK (x y : D) : Option Bool := opt (isK x y) none fun b => some (nB b)
def anyE (x : D) (l : List D) : Bool := @List.rec D (fun _ => Bool) false (fun z _ ih => @Bool.rec (fun _ => _) ih true (eqv 61 z x)) l
def inK (x y : D) : Option Bool := @Bool.rec (fun _ => _) none (onSeq y (fun l => @Bool.rec (fun _ => _) none (some (anyE x l)) (shs 59 l)) (fun l => @Bool.rec (fun _ => _) none (some (anyE x l)) (shs 59 l)) none) (sh 60 x)
def ninK (x y : D) : Option Bool := opt (inK x y) none fun b => some (nB b)
/-- a test of two data -/
structure F2 (α : Type) where
  f : D → D → Option α
def cmK (c : Cm) : F2 Bool := match c with
  | .eq => ⟨eqK⟩ | .ne => ⟨neK⟩ | .lt => ⟨ltK⟩ | .le => ⟨leK⟩ | .gt => ⟨gtK⟩ | .ge => ⟨geK⟩ | .isk => ⟨isK⟩ | .isn => ⟨isnK⟩ | .isin => ⟨inK⟩ | .nin => ⟨ninK⟩
theorem opt_some {α β : Type} {o : Option β} {k : β → Option α} {r : α} (h : opt o none k = some r) : ∃ x, o = some x ∧ k x = some r := by
  cases o with
  | none => cases h
  | some x => exact ⟨x, rfl, h⟩
theorem anyE_eq {x : D} {p : PyData} (hx : x.toP = some p) (hp : p.depth ≤ 60) : ∀ {l : List D} {ps : List PyData}, D.toPs l = some ps → PyData.depthAll ps ≤ 59 → anyE x l = ps.any fun z => PyData.eqv z p
  | [], ps, h, _ => by
    rw [toPs_nil] at h
    cases h
    rfl
  | y :: l, ps, h, hd => by
    obtain ⟨q, qs, a1, a2, rfl⟩ := toPs_cons h
    simp only [PyData.depthAll] at hd
    show (@Bool.rec (fun _ => Bool) (anyE x l) true (eqv 61 y x)) = _
    rw [ifb_eq, eqv_ok 61 y x q p a1 hx (by omega), anyE_eq hx hp a2 (by omega), List.any_cons]
    cases PyData.eqv q p <;> rfl
theorem inK_ok {x y : D} {b : Bool} (h : inK x y = some b) : inD x y = some b ∧ ∀ l, y ≠ .dct l := by
  unfold inK at h
  rw [ifb_eq] at h
  split at h
  · rename_i h1
    obtain ⟨p, p1, p2, p3⟩ := sh_ok 60 x h1
    obtain ⟨p', q1, q2⟩ := shaped_of h1
    rw [p1] at q1
    cases q1
    rw [onSeq_eq] at h
    split at h
    · rename_i l
      rw [ifb_eq] at h
      split at h
      · rename_i h2
        cases h
        obtain ⟨ps, b1, b2, b3⟩ := shs_ok 59 l h2
        refine ⟨?_, fun _ z => by cases z⟩
        have e : (D.tup l).toP = some (.tuple ps) := by unfold D.toP; rw [b1]; rfl
        have e2 : SeqAt.shaped (.tuple ps) = true := by
          unfold SeqAt.shaped
          simp only [PyData.canLay0, PyData.depth, b2, Bool.true_and]
          exact decide_eq_true (by omega)
        unfold inD
        rw [p1, e]
        simp only [q2, e2, and_self, if_true]
        rw [anyE_eq p1 p3 b1 b3]
      · cases h
    · rename_i l
      rw [ifb_eq] at h
      split at h
      · rename_i h2
        cases h
        obtain ⟨ps, b1, b2, b3⟩ := shs_ok 59 l h2
        refine ⟨?_, fun _ z => by cases z⟩
        have e : (D.lst l).toP = some (.list ps) := by unfold D.toP; rw [b1]; rfl
        have e2 : SeqAt.shaped (.list ps) = true := by
          unfold SeqAt.shaped
          simp only [PyData.canLay0, PyData.depth, b2, Bool.true_and]
          exact decide_eq_true (by omega)
        unfold inD
        rw [p1, e]
        simp only [q2, e2, and_self, if_true]
        rw [anyE_eq p1 p3 b1 b3]
      · cases h
    · cases h
  · cases h
theorem isK_eq (x y : D) : isK x y = cmpD .isk x y := by cases y <;> cases x <;> first | rfl | (show some (beqB _ _) = some _; rw [beqB_eq])
theorem cmK_ok {c : Cm} {x y : D} {b : Bool} (h : (cmK c).f x y = some b) : cmpD c x y = some b := by
  cases c
  · exact eqK_ok h
  · obtain ⟨r, h1, h2⟩ := opt_some h
    cases h2
    show (eqD x y).map (!·) = _
    rw [eqK_ok h1, nB_eq]
    rfl
  · have h : ltK x y = some b := h
    show ltD x y = _
    unfold ltK at h
    rw [onInt_eq] at h
    split at h
    · rw [onInt_eq] at h
      split at h
      · rw [iLt_eq] at h
        exact h
      · exact h
    · exact h
  · have h : leK x y = some b := h
    unfold leK at h
    rw [onInt_eq] at h
    split at h
    · rw [onInt_eq] at h
      split at h
      · rw [iLe_eq] at h
        exact h
      · cases h
    · cases h
  · have h : gtK x y = some b := h
    unfold gtK at h
    rw [onInt_eq] at h
    split at h
    · rw [onInt_eq] at h
      split at h
      · rw [iLt_eq] at h
        exact h
      · cases h
    · cases h
  · have h : geK x y = some b := h
    unfold geK at h
    rw [onInt_eq] at h
    split at h
    · rw [onInt_eq] at h
      split at h
      · rw [iLe_eq] at h
        exact h
      · cases h
    · cases h
  · rw [← isK_eq]
    exact h
  · obtain ⟨r, h1, h2⟩ := opt_some h
    cases h2
    rw [isK_eq] at h1
    rw [nB_eq]
    cases y <;> cases x <;> first
      | (cases h1; done)
      | (injection h1 with h1; subst h1; rfl)
  · obtain ⟨h1, h2⟩ := inK_ok h
    show (match y with
      | .dct _ => none
      | _ => inD x y) = _
    split
    · exact (h2 _ rfl).elim
    · exact h1
  · obtain ⟨r, h3, h4⟩ := opt_some h
    cases h4
    obtain ⟨h1, h2⟩ := inK_ok h3
    show (match y with
      | .dct _ => none
      | _ => (inD x y).map (!·)) = _
    split
    · exact (h2 _ rfl).elim
    · rw [h1, nB_eq]
      rfl

/-! ### truth, kinds -/
def nilB {α : Type} (l : List α) : Bool := @List.rec α (fun _ => Bool) true (fun _ _ _ => false) l
theorem nilB_eq {α : Type} (l : List α) : nilB l = l.isEmpty := by cases l <;> rfl
def iZ : Int := .ofNat Nat.zero
def truK (d : D) : Option Bool := dcase d (some false) (fun b => some b) (fun i => some (nB (iEq i iZ))) (fun _ => none) (fun l => some (nB (nilB l))) (fun l => some (nB (nilB l))) none
theorem truK_eq (d : D) : truK d = truthD d := by
  cases d <;> first
    | rfl
    | (show some (nB _) = some _; rw [nB_eq, nilB_eq])
    | (show some (nB _) = some _; rw [nB_eq, iEq_beq]; rfl)
structure F1 (α : Type) where
  f : D → Option α
def isiK (t : Ty) : F1 Bool := match t with
  | .int => ⟨fun x => dcase x (some false) (fun _ => some true) (fun _ => some true) (fun _ => some false) (fun _ => some false) (fun _ => some false) (isiD x .int)⟩
  | .bool => ⟨fun x => dcase x (some false) (fun _ => some true) (fun _ => some false) (fun _ => some false) (fun _ => some false) (fun _ => some false) (isiD x .bool)⟩
  | .str => ⟨fun x => dcase x (some false) (fun _ => some false) (fun _ => some false) (fun _ => some true) (fun _ => some false) (fun _ => some false) (isiD x .str)⟩
  | .tuple => ⟨fun x => dcase x (some false) (fun _ => some false) (fun _ => some false) (fun _ => some false) (fun _ => some true) (fun _ => some false) (isiD x .tuple)⟩
  | .list => ⟨fun x => dcase x (some false) (fun _ => some false) (fun _ => some false) (fun _ => some false) (fun _ => some false) (fun _ => some true) (isiD x .list)⟩
  | t => ⟨fun x => isiD x t⟩
theorem isiK_eq (t : Ty) (x : D) : (isiK t).f x = isiD x t := by cases t <;> first | rfl | (cases x <;> rfl)

/-! ### items, slices -/
def ixL {α : Type} (l : List α) (i : Int) : Option α := @Int.rec (fun _ => Option α) (fun m => nth m l) (fun m => @Bool.rec (fun _ => _) none (nth (Nat.sub (len l) (Nat.succ m)) l) (Nat.ble (Nat.succ m) (len l))) i
theorem ixL_eq {α : Type} (l : List α) (i : Int) : ixL l i = (ixN l.length i).bind fun j => l[j]? := by
  cases i with
  | ofNat m =>
    show nth m l = _
    rw [nth_eq]
    unfold ixN
    rw [if_pos (show 0 ≤ Int.ofNat m by simp)]
    by_cases h : m < l.length
    · rw [if_pos (show Int.ofNat m < (l.length : Int) by simpa using h)]
      rfl
    · rw [if_neg (show ¬ Int.ofNat m < (l.length : Int) by simpa using h)]
      exact List.getElem?_eq_none (by omega)
  | negSucc m =>
    show (@Bool.rec (fun _ => Option α) none (nth (len l - (m + 1)) l) (Nat.ble (m + 1) (len l))) = _
    rw [ble_if, len_eq, nth_eq]
    unfold ixN
    rw [if_neg (show ¬ 0 ≤ Int.negSucc m by omega)]
    by_cases h : m + 1 ≤ l.length
    · rw [if_pos h, if_pos (show -(l.length : Int) ≤ Int.negSucc m by omega)]
      show _ = l[(Int.negSucc m + (l.length : Int)).toNat]?
      congr 1
      omega
    · rw [if_neg h, if_neg (show ¬ -(l.length : Int) ≤ Int.negSucc m by omega)]
      rfl
def dgetK (k : D) (l : List (D × D)) : Option (Option D) := @List.rec (D × D) (fun _ => Option (Option D)) (some none) (fun p _ ih => @Prod.rec D D (fun _ => Option (Option D)) (fun q v => opt (eqK q k) none fun b => @Bool.rec (fun _ => _) ih (some (some v)) b) p) l
theorem dgetK_ok {k : D} : ∀ {l : List (D × D)} {r : Option D}, dgetK k l = some r → dget k l = some r
  | [], r, h => h
  | (q, v) :: l, r, h => by
    obtain ⟨b, h1, h2⟩ := opt_some (show opt (eqK q k) none (fun b => @Bool.rec (fun _ => _) (dgetK k l) (some (some v)) b) = some r from h)
    show (match eqD q k with
      | some true => some (some v)
      | some false => dget k l
      | none => none) = _
    rw [eqK_ok h1]
    cases b with
    | true => exact h2
    | false => exact dgetK_ok h2
def idxK (x y : D) : Option D :=
  @D.rec (fun _ => Option D) (fun _ => Unit) (fun _ => Unit) (fun _ => Unit) (fun _ => Unit) (fun _ => Unit) none (fun _ => none) (fun _ => none) (fun _ => none) (fun l _ => onInt y (fun i => ixL l i) none) (fun l _ => onInt y (fun i => ixL l i) none) (fun l _ => opt (dgetK y l) none fun r => r) (fun _ => none) (fun _ _ _ => none) (fun _ => none) none (fun _ => none) () (fun _ _ _ _ => ()) () (fun _ _ _ _ => ()) () (fun _ _ _ _ => ()) (fun _ _ _ _ => ()) (fun _ _ _ => ()) x
theorem onIx {y d : D} {l : List D} (h : onInt y (fun i => ixL l i) none = some d) : ∃ i, y = .int i ∧ (ixN l.length i).bind (fun j => l[j]?) = some d := by
  rw [onInt_eq] at h
  split at h
  · rename_i i
    rw [ixL_eq] at h
    exact ⟨i, rfl, h⟩
  · cases h
theorem idxK_ok {x y d : D} (h : idxK x y = some d) : idxD x y = some d := by
  cases x with
  | tup l =>
    obtain ⟨i, rfl, e⟩ := onIx h
    exact e
  | lst l =>
    obtain ⟨i, rfl, e⟩ := onIx h
    exact e
  | dct l =>
    obtain ⟨r, h1, h2⟩ := opt_some (show opt (dgetK y l) none (fun r => r) = some d from h)
    show (dget y l).bind id = _
    rw [dgetK_ok h1]
    exact h2
  | _ => cases h
def sIxK (n d : Nat) (o : Option Int) : Nat := opt o d fun v => @Int.rec (fun _ => Nat) (fun m => @Bool.rec (fun _ => _) n m (Nat.ble m n)) (fun m => Nat.sub n (Nat.succ m)) v
theorem sIxK_eq (n d : Nat) (o : Option Int) : sIxK n d o = sIx n d o := by
  cases o with
  | none => rfl
  | some v => cases v with
    | ofNat m =>
      show (@Bool.rec (fun _ => Nat) n m (Nat.ble m n)) = if Int.ofNat m < 0 then (Int.ofNat m + n).toNat else min m n
      rw [if_neg (show ¬ Int.ofNat m < 0 by simp), ble_if]
      split <;> omega
    | negSucc m =>
      show n - (m + 1) = if Int.negSucc m < 0 then (Int.negSucc m + n).toNat else min (Int.negSucc m).toNat n
      rw [if_pos (show Int.negSucc m < 0 by omega)]
      omega
def cutK {α β : Type} (l : List α) (lo hi : Option Int) (k : List α → β) : β := frN (len l) fun n => frN (sIxK n Nat.zero lo) fun a => frL (takeK (Nat.sub (sIxK n n hi) a) (dropK a l)) k
theorem cutK_eq {α β : Type} (l : List α) (lo hi : Option Int) (k : List α → β) : cutK l lo hi k = k (cutL l lo hi) := by
  unfold cutK
  rw [frN_eq, frN_eq, frL_eq, takeK_eq, dropK_eq, sIxK_eq, sIxK_eq, len_eq]
  rfl
def slcK (x : D) (lo hi : Option Int) : Option O := onSeq x (fun l => cutK l lo hi fun r => some (.fz (.tup r))) (fun l => cutK l lo hi fun r => mapK O.fz r fun r => some (.lst r)) none
theorem slcK_eq (x : D) (lo hi : Option Int) : slcK x lo hi = slcO x lo hi := by
  unfold slcK
  rw [onSeq_eq]
  simp only [cutK_eq, mapK_eq]
  cases x <;> rfl
def rvK (x : D) : Option O := onSeq x (fun _ => none) (fun l => mapK O.fz (revK l []) fun r => some (.lst r)) none
theorem rvK_eq (x : D) : rvK x = revO x := by
  unfold rvK
  rw [onSeq_eq]
  simp only [mapK_eq, revK_eq, List.append_nil]
  cases x <;> rfl

/-! ### numbers, sums of lists -/
def addK (x y : D) : Option O := dcase x none (fun _ => none) (fun i => onInt y (fun j => frI (iAdd i j) fun r => some (.fz (.int r))) none) (fun _ => binO .add x y)
  (fun a => onSeq y (fun b => @Bool.rec (fun _ => _) none (app a b fun r => some (.fz (.tup r))) (Nat.ble (Nat.add (len a) (len b)) 1000000)) (fun _ => none) none)
  (fun a => onSeq y (fun _ => none) (fun b => @Bool.rec (fun _ => _) none (app a b fun r => mapK O.fz r fun r => some (.lst r)) (Nat.ble (Nat.add (len a) (len b)) 1000000)) none) none
theorem addK_ok {x y : D} {o : O} (h : addK x y = some o) : binO .add x y = some o := by
  unfold addK at h
  rw [dcase_eq] at h
  split at h <;> try (cases h; done)
  · rw [onInt_eq] at h
    split at h
    · rw [frI_eq, iAdd_eq] at h
      exact h
    · cases h
  · exact h
  · rw [onSeq_eq] at h
    split at h <;> try (cases h; done)
    rw [ble_if, app_eq, len_eq, len_eq] at h
    exact h
  · rw [onSeq_eq] at h
    split at h <;> try (cases h; done)
    rw [ble_if, app_eq, mapK_eq, len_eq, len_eq] at h
    exact h
def subK (x y : D) : Option O := onInt x (fun i => onInt y (fun j => frI (iAdd i (iNeg j)) fun r => some (.fz (.int r))) none) none
theorem subK_ok {x y : D} {o : O} (h : subK x y = some o) : binO .sub x y = some o := by
  unfold subK at h
  rw [onInt_eq] at h
  split at h
  · rw [onInt_eq] at h
    split at h
    · rw [frI_eq, iAdd_eq, iNeg_eq] at h
      exact h
    · cases h
  · cases h
def bigK (i : Int) : Bool := @Int.rec (fun _ => Bool) (fun n => Nat.ble (Nat.succ (Nat.log2 n)) 400000) (fun n => Nat.ble (Nat.succ (Nat.log2 (Nat.succ n))) 400000) i
theorem bigK_ok {i : Int} (h : bigK i = true) : big i < 400000 := by
  cases i with
  | ofNat n => exact Nat.le_of_ble_eq_true h
  | negSucc n => exact Nat.le_of_ble_eq_true h
def mulK (x y : D) : Option O := onInt x (fun i => onInt y (fun j => @Bool.rec (fun _ => _) none (@Bool.rec (fun _ => _) none (frI (iMul i j) fun r => some (.fz (.int r))) (bigK j)) (bigK i)) (binO .mul x y)) (binO .mul x y)
theorem mulK_ok {x y : D} {o : O} (h : mulK x y = some o) : binO .mul x y = some o := by
  unfold mulK at h
  rw [onInt_eq] at h
  split at h
  · rename_i i
    rw [onInt_eq] at h
    split at h
    · rename_i j
      rw [ifb_eq] at h
      split at h
      · rename_i h1
        rw [ifb_eq] at h
        split at h
        · rename_i h2
          rw [frI_eq, iMul_eq] at h
          have a := bigK_ok h1
          have b := bigK_ok h2
          show (if big i + big j < 1000000 then some (O.fz (.int (i * j))) else none) = _
          rw [if_pos (by omega)]
          exact h
        · cases h
      · cases h
    · exact h
  · exact h
/-- above zero, and not too great -/
def posK {α : Type} (j : Int) (k : Nat → α) (z : α) : α := @Int.rec (fun _ => α) (fun n => @Nat.rec (fun _ => α) z (fun m _ => @Bool.rec (fun _ => _) z (k (Nat.succ m)) (Nat.ble (Nat.succ (Nat.log2 (Nat.succ m))) 8999)) n) (fun _ => z) j
theorem posK_inv {α : Type} {j : Int} {k : Nat → α} {z r : α} (h : posK j k z = r) : r = z ∨ ∃ n : Nat, j = (n : Int) ∧ 0 < n ∧ big j < 9000 ∧ k n = r := by
  cases j with
  | ofNat n => cases n with
    | zero => exact .inl h.symm
    | succ m =>
      have h : (@Bool.rec (fun _ => α) z (k (m + 1)) (Nat.ble (Nat.succ (Nat.log2 (m + 1))) 8999)) = r := h
      rw [ble_if] at h
      split at h
      · rename_i h1
        exact .inr ⟨m + 1, rfl, Nat.succ_pos _, by show Nat.log2 (m + 1) < 9000; omega, h⟩
      · exact .inl h.symm
  | negSucc n => exact .inl h.symm
def divK (x y : D) : Option O := onInt x (fun i => onInt y (fun j => posK j (fun n => frI (iDiv i n) fun r => some (.fz (.int r))) none) none) none
theorem divK_ok {x y : D} {o : O} (h : divK x y = some o) : binO .fdiv x y = some o := by
  unfold divK at h
  rw [onInt_eq] at h
  split at h
  · rename_i i
    rw [onInt_eq] at h
    split at h
    · rename_i j
      rcases posK_inv h with z | ⟨n, rfl, h1, h2, h3⟩
      · cases z
      · rw [frI_eq, iDiv_eq _ _ h1] at h3
        show (if 0 < (n : Int) ∧ big n < 9000 then some (O.fz (.int (i / n))) else none) = _
        rw [if_pos ⟨by omega, h2⟩]
        exact h3
    · cases h
  · cases h
def modK (x y : D) : Option O := onInt x (fun i => onInt y (fun j => posK j (fun n => frI (iMod i n) fun r => some (.fz (.int r))) none) none) none
theorem modK_ok {x y : D} {o : O} (h : modK x y = some o) : binO .mod x y = some o := by
  unfold modK at h
  rw [onInt_eq] at h
  split at h
  · rename_i i
    rw [onInt_eq] at h
    split at h
    · rename_i j
      rcases posK_inv h with z | ⟨n, rfl, h1, h2, h3⟩
      · cases z
      · rw [frI_eq, iMod_eq] at h3
        show (if 0 < (n : Int) then some (O.fz (.int (i % n))) else none) = _
        rw [if_pos (by omega)]
        exact h3
    · cases h
  · cases h
def opK (op : Op) : F2 O := match op with
  | .add => ⟨addK⟩ | .sub => ⟨subK⟩ | .mul => ⟨mulK⟩ | .fdiv => ⟨divK⟩ | .mod => ⟨modK⟩ | op => ⟨binO op⟩
theorem opK_ok {op : Op} {x y : D} {o : O} (h : (opK op).f x y = some o) : binO op x y = some o := by
  cases op <;> first
    | exact addK_ok h
    | exact subK_ok h
    | exact mulK_ok h
    | exact divK_ok h
    | exact modK_ok h
    | exact h
end
end VI.Kn
end

section
set_option Elab.async false
set_option linter.all false
set_option maxRecDepth 100000
set_option maxHeartbeats 4000000
/-! VIk4: the evaluator for the kernel: built-in functions, what is walked. -/
namespace VI.Kn
open PySem VI
noncomputable section

def intO {α : Type} (n : Nat) (k : O → α) : α := frN n fun n => k (.fz (.int (.ofNat n)))
def lenK (d : D) : Option O := onSeq d (fun l => intO (len l) some) (fun l => intO (len l) some) (bi1 .len d)
theorem lenK_eq (d : D) : lenK d = bi1 .len d := by
  unfold lenK
  rw [onSeq_eq]
  cases d <;> first
    | rfl
    | (simp only [intO, frN_eq, len_eq]; rfl)
def intK (d : D) : Option O := dcase d none (fun b => some (.fz (.int (b01 b)))) (fun i => some (.fz (.int i))) (fun _ => none) (fun _ => none) (fun _ => none) none
theorem intK_eq (d : D) : intK d = bi1 .int d := by
  cases d <;> first
    | rfl
    | (rename_i b; cases b <;> rfl)
def sumL (l : List D) : Int → Option O := @List.rec D (fun _ => Int → Option O) (fun a => some (.fz (.int a))) (fun x _ ih a => onInt x (fun i => frI (iAdd a i) ih) none) l
theorem sumL_ok : ∀ {l : List D} {a : Int} {o : O}, sumL l a = some o → ∃ ns, intsOf l = some ns ∧ o = .fz (.int (a + ns.sum))
  | [], a, o, h => by
    cases h
    exact ⟨[], rfl, by simp⟩
  | x :: l, a, o, h => by
    replace h : onInt x (fun i => frI (iAdd a i) (sumL l)) none = some o := h
    rw [onInt_eq] at h
    split at h
    · rename_i i
      rw [frI_eq, iAdd_eq] at h
      obtain ⟨ns, h1, h2⟩ := sumL_ok h
      refine ⟨i :: ns, by simp [intsOf, h1], ?_⟩
      rw [h2, List.sum_cons, Int.add_assoc]
    · cases h
def sumK (d : D) : Option O := onSeq d (fun _ => none) (fun l => sumL l iZ) none
theorem sumK_ok {d : D} {o : O} (h : sumK d = some o) : bi1 .sum d = some o := by
  unfold sumK at h
  rw [onSeq_eq] at h
  split at h <;> try (cases h; done)
  obtain ⟨ns, h1, rfl⟩ := sumL_ok h
  show (intsOf _).map _ = _
  rw [h1]
  show some (O.fz (D.int ns.sum)) = some (O.fz (D.int (iZ + ns.sum)))
  have : iZ + ns.sum = ns.sum := Int.zero_add _
  rw [this]
/-- all (any) of a list of truths -/
def allL (l : List D) : Bool → Option O := @List.rec D (fun _ => Bool → Option O) (fun a => some (.fz (.bl a))) (fun x _ ih a => onBl x (fun b => @Bool.rec (fun _ => _) (ih false) (ih a) b) none) l
theorem allL_ok : ∀ {l : List D} {a : Bool} {o : O}, allL l a = some o → ∃ bs, boolsOf l = some bs ∧ o = .fz (.bl (a && bs.all id))
  | [], a, o, h => by
    cases h
    exact ⟨[], rfl, by simp⟩
  | x :: l, a, o, h => by
    replace h : onBl x (fun b => @Bool.rec (fun _ => _) (allL l false) (allL l a) b) none = some o := h
    rw [onBl_eq] at h
    split at h
    · rename_i b
      cases b with
      | true =>
        obtain ⟨bs, h1, h2⟩ := allL_ok h
        exact ⟨true :: bs, by simp [boolsOf, h1], by rw [h2]; simp⟩
      | false =>
        obtain ⟨bs, h1, h2⟩ := allL_ok h
        exact ⟨false :: bs, by simp [boolsOf, h1], by rw [h2]; simp⟩
    · cases h
def allK (d : D) : Option O := onSeq d (fun _ => none) (fun l => allL l true) none
theorem allK_ok {d : D} {o : O} (h : allK d = some o) : bi1 .all d = some o := by
  unfold allK at h
  rw [onSeq_eq] at h
  split at h <;> try (cases h; done)
  obtain ⟨bs, h1, rfl⟩ := allL_ok h
  show (boolsOf _).map _ = _
  rw [h1]
  simp
def anyL (l : List D) : Bool → Option O := @List.rec D (fun _ => Bool → Option O) (fun a => some (.fz (.bl a))) (fun x _ ih a => onBl x (fun b => @Bool.rec (fun _ => _) (ih a) (ih true) b) none) l
theorem anyL_ok : ∀ {l : List D} {a : Bool} {o : O}, anyL l a = some o → ∃ bs, boolsOf l = some bs ∧ o = .fz (.bl (a || bs.any id))
  | [], a, o, h => by
    cases h
    exact ⟨[], rfl, by simp⟩
  | x :: l, a, o, h => by
    replace h : onBl x (fun b => @Bool.rec (fun _ => _) (anyL l a) (anyL l true) b) none = some o := h
    rw [onBl_eq] at h
    split at h
    · rename_i b
      cases b with
      | true =>
        obtain ⟨bs, h1, h2⟩ := anyL_ok h
        exact ⟨true :: bs, by simp [boolsOf, h1], by rw [h2]; simp⟩
      | false =>
        obtain ⟨bs, h1, h2⟩ := anyL_ok h
        exact ⟨false :: bs, by simp [boolsOf, h1], by rw [h2]; simp⟩
    · cases h
def anyK (d : D) : Option O := onSeq d (fun _ => none) (fun l => anyL l false) none
theorem anyK_ok {d : D} {o : O} (h : anyK d = some o) : bi1 .any d = some o := by
  unfold anyK at h
  rw [onSeq_eq] at h
  split at h <;> try (cases h; done)
  obtain ⟨bs, h1, rfl⟩ := anyL_ok h
  show (boolsOf _).map _ = _
  rw [h1]
  simp
def tupK (d : D) : Option O := onSeq d (fun l => some (.fz (.tup l))) (fun l => some (.fz (.tup l))) none
theorem tupK_eq (d : D) : tupK d = bi1 .tuple d := by
  unfold tupK
  rw [onSeq_eq]
  cases d <;> rfl
def lstK (d : D) : Option O := onSeq d (fun l => mapK O.fz l fun r => some (.lst r)) (fun l => mapK O.fz l fun r => some (.lst r)) none
theorem lstK_eq (d : D) : lstK d = bi1 .list d := by
  unfold lstK
  rw [onSeq_eq]
  simp only [mapK_eq]
  cases d <;> rfl
/-! sorted -/
def insK (x : Int) (l : List Int) : List Int := @List.rec Int (fun _ => List Int) [x] (fun y r ih => @Bool.rec (fun _ => _) (y :: ih) (x :: y :: r) (iLe x y)) l
theorem insK_eq (x : Int) : ∀ l : List Int, insK x l = insI x l
  | [] => rfl
  | y :: r => by
    show (@Bool.rec (fun _ => List Int) (y :: insK x r) (x :: y :: r) (iLe x y)) = _
    rw [ifb_eq, iLe_eq, insK_eq x r]
    show _ = if x ≤ y then x :: y :: r else y :: insI x r
    by_cases h : x ≤ y <;> simp [h]
def srtK (l : List D) : List Int → Option (List Int) := @List.rec D (fun _ => List Int → Option (List Int)) (fun a => some a) (fun x _ ih a => onInt x (fun i => ih (frL (insK i a) fun r => r)) none) l
/-- the numbers, each put into its place from the back -/
def srtB (l : List D) : Option (List Int) := @List.rec D (fun _ => Option (List Int)) (some []) (fun x _ ih => onInt x (fun i => opt ih none fun r => frL (insK i r) some) none) l
theorem srtB_ok : ∀ {l : List D} {r : List Int}, srtB l = some r → ∃ ns, intsOf l = some ns ∧ r = sortI ns
  | [], r, h => by
    cases h
    exact ⟨[], rfl, rfl⟩
  | x :: l, r, h => by
    replace h : onInt x (fun i => opt (srtB l) none fun r => frL (insK i r) some) none = some r := h
    rw [onInt_eq] at h
    split at h
    · rename_i i
      obtain ⟨q, h1, h2⟩ := opt_some h
      obtain ⟨ns, h3, rfl⟩ := srtB_ok h1
      rw [frL_eq, insK_eq] at h2
      cases h2
      exact ⟨i :: ns, by simp [intsOf, h3], rfl⟩
    · cases h
def intsO {α : Type} (l : List Int) (k : List O → α) : α := mapK (fun i => O.fz (D.int i)) l k
def sortK (d : D) : Option O := onSeq d (fun _ => none) (fun l => opt (srtB l) none fun r => intsO r fun r => some (.lst r)) none
theorem sortK_ok {d : D} {o : O} (h : sortK d = some o) : bi1 .sorted d = some o := by
  unfold sortK at h
  rw [onSeq_eq] at h
  split at h <;> try (cases h; done)
  obtain ⟨r, h1, h2⟩ := opt_some h
  obtain ⟨ns, h3, rfl⟩ := srtB_ok h1
  unfold intsO at h2
  rw [mapK_eq] at h2
  show (intsOf _).map _ = _
  rw [h3]
  exact h2
def biK (b : Bi) : F1 O := match b with
  | .len => ⟨lenK⟩ | .int => ⟨intK⟩ | .sum => ⟨sumK⟩ | .all => ⟨allK⟩ | .any => ⟨anyK⟩ | .tuple => ⟨tupK⟩ | .list => ⟨lstK⟩ | .sorted => ⟨sortK⟩ | b => ⟨bi1 b⟩
theorem biK_ok {b : Bi} {d : D} {o : O} (h : (biK b).f d = some o) : bi1 b d = some o := by
  cases b <;> first
    | exact (lenK_eq d).symm.trans h
    | exact (intK_eq d).symm.trans h
    | exact sumK_ok h
    | exact allK_ok h
    | exact anyK_ok h
    | exact (tupK_eq d).symm.trans h
    | exact (lstK_eq d).symm.trans h
    | exact sortK_ok h
    | exact h
def maxK (x y : D) : Option O := onInt x (fun m => onInt y (fun n => some (.fz (.int (@Bool.rec (fun _ => _) m n (iLt m n))))) none) none
def minK (x y : D) : Option O := onInt x (fun m => onInt y (fun n => some (.fz (.int (@Bool.rec (fun _ => _) m n (iLt n m))))) none) none
def bi2K (b : Bi) : F2 O := match b with
  | .max2 => ⟨maxK⟩ | .min2 => ⟨minK⟩ | b => ⟨bi2 b⟩
theorem bi2K_ok {b : Bi} {x y : D} {o : O} (h : (bi2K b).f x y = some o) : bi2 b x y = some o := by
  cases b
  case max2 =>
    replace h : maxK x y = some o := h
    unfold maxK at h
    rw [onInt_eq] at h
    split at h
    · rw [onInt_eq] at h
      split at h
      · rename_i m _ n
        cases h
        show some (O.fz (D.int (if n > m then n else m))) = some (O.fz (D.int (@Bool.rec (fun _ => Int) m n (iLt m n))))
        rw [ifb_eq, iLt_eq]
        by_cases z : m < n
        · rw [if_pos z, if_pos (decide_eq_true z)]
        · rw [if_neg z, if_neg (by rw [decide_eq_false z]; exact Bool.false_ne_true)]
      · cases h
    · cases h
  case min2 =>
    replace h : minK x y = some o := h
    unfold minK at h
    rw [onInt_eq] at h
    split at h
    · rw [onInt_eq] at h
      split at h
      · rename_i m _ n
        cases h
        show some (O.fz (D.int (if n < m then n else m))) = some (O.fz (D.int (@Bool.rec (fun _ => Int) m n (iLt n m))))
        rw [ifb_eq, iLt_eq]
        by_cases z : n < m
        · rw [if_pos z, if_pos (decide_eq_true z)]
        · rw [if_neg z, if_neg (by rw [decide_eq_false z]; exact Bool.false_ne_true)]
      · cases h
    · cases h
  all_goals exact h

/-! ### what is walked -/
def seqK {α : Type} (d : D) (k : List D → Option α) : Option α := onSeq d k k none
theorem seqK_ok {α : Type} {d : D} {k : List D → Option α} {r : α} (h : seqK d k = some r) : ∃ l, seqOf d = some l ∧ k l = some r ∧ (d = .tup l ∨ d = .lst l) := by
  unfold seqK at h
  rw [onSeq_eq] at h
  split at h
  · exact ⟨_, rfl, h, .inl rfl⟩
  · exact ⟨_, rfl, h, .inr rfl⟩
  · cases h
def rgK {β : Type} (n : Nat) : Int → (List D → β) → β := @Nat.rec (fun _ => Int → (List D → β) → β) (fun _ k => k []) (fun _ ih a k => frI (iAdd a (.ofNat (Nat.succ Nat.zero))) fun b => ih b fun r => k (.int a :: r)) n
theorem rgK_eq {β : Type} : ∀ (n : Nat) (a : Int) (k : List D → β), rgK n a k = k (rangeL a n)
  | 0, _, _ => rfl
  | n + 1, a, k => by
    show frI (iAdd a (.ofNat (Nat.succ Nat.zero))) (fun b => rgK n b fun r => k (.int a :: r)) = _
    rw [frI_eq, iAdd_eq, rgK_eq n]
    rfl
def smallK (i : Int) : Bool := @Int.rec (fun _ => Bool) (fun n => Nat.ble (Nat.succ n) 1000000) (fun n => Nat.ble (Nat.succ (Nat.succ n)) 1000000) i
theorem smallK_ok {i : Int} (h : smallK i = true) : -1000000 < i ∧ i < 1000000 := by
  cases i with
  | ofNat n =>
    have : n + 1 ≤ 1000000 := Nat.le_of_ble_eq_true h
    simp only [Int.ofNat_eq_natCast]
    omega
  | negSucc n =>
    have : n + 1 + 1 ≤ 1000000 := Nat.le_of_ble_eq_true h
    omega
def natI (i : Int) : Nat := @Int.rec (fun _ => Nat) (fun n => n) (fun _ => Nat.zero) i
theorem natI_eq (i : Int) : natI i = i.toNat := by cases i <;> rfl
def rg1K (x : D) : Option (List D) := onInt x (fun j => @Bool.rec (fun _ => _) none (rgK (natI j) iZ some) (smallK j)) none
theorem rg1K_ok {x : D} {l : List D} (h : rg1K x = some l) : itD .range1 [x] = some l := by
  unfold rg1K at h
  rw [onInt_eq] at h
  split at h
  · rename_i j
    rw [ifb_eq] at h
    split at h
    · rename_i hs
      rw [rgK_eq, natI_eq] at h
      show (if -1000000 < j ∧ j < 1000000 then some (rangeL 0 j.toNat) else none) = _
      rw [if_pos (smallK_ok hs)]
      exact h
    · cases h
  · cases h
def rg2K (x y : D) : Option (List D) := onInt x (fun i => onInt y (fun j => @Bool.rec (fun _ => _) none (@Bool.rec (fun _ => _) none (rgK (natI (iAdd j (iNeg i))) i some) (smallK j)) (smallK i)) none) none
theorem rg2K_ok {x y : D} {l : List D} (h : rg2K x y = some l) : itD .range2 [x, y] = some l := by
  unfold rg2K at h
  rw [onInt_eq] at h
  split at h
  · rename_i i
    rw [onInt_eq] at h
    split at h
    · rename_i j
      rw [ifb_eq] at h
      split at h
      · rename_i h1
        rw [ifb_eq] at h
        split at h
        · rename_i h2
          rw [rgK_eq, natI_eq, iAdd_eq, iNeg_eq] at h
          have a := smallK_ok h1
          have b := smallK_ok h2
          show (if -1000000 < i ∧ i < 1000000 ∧ -1000000 < j ∧ j < 1000000 then some (rangeL i (j - i).toNat) else none) = _
          rw [if_pos ⟨a.1, a.2, b.1, b.2⟩]
          exact h
        · cases h
      · cases h
    · cases h
  · cases h
def enuK {β : Type} (l : List D) : Nat → (List D → β) → β := @List.rec D (fun _ => Nat → (List D → β) → β) (fun _ k => k []) (fun x _ ih n k => frN (Nat.succ n) fun m => ih m fun r => k (.tup [.int (.ofNat n), x] :: r)) l
theorem enuK_eq {β : Type} : ∀ (l : List D) (n : Nat) (k : List D → β), enuK l n k = k (enumFrom n l)
  | [], _, _ => rfl
  | x :: l, n, k => by
    show frN (Nat.succ n) (fun m => enuK l m fun r => k (.tup [.int (.ofNat n), x] :: r)) = _
    rw [frN_eq, enuK_eq l]
    rfl
def zipK {β : Type} (l : List D) : List D → (List D → β) → β := @List.rec D (fun _ => List D → (List D → β) → β) (fun _ k => k []) (fun x _ ih m k => @List.rec D (fun _ => β) (k []) (fun y q _ => ih q fun r => k (.tup [x, y] :: r)) m) l
theorem zipK_eq {β : Type} : ∀ (l m : List D) (k : List D → β), zipK l m k = k (lexZip l m)
  | [], _, _ => rfl
  | x :: l, [], _ => rfl
  | x :: l, y :: m, k => zipK_eq l m fun r => k (.tup [x, y] :: r)
def on1 {α : Type} (xs : List D) (k : D → Option α) : Option α := @List.rec D (fun _ => Option α) none (fun x r _ => @List.rec D (fun _ => Option α) (k x) (fun _ _ _ => none) r) xs
theorem on1_ok {α : Type} {xs : List D} {k : D → Option α} {r : α} (h : on1 xs k = some r) : ∃ x, xs = [x] ∧ k x = some r := by
  match xs, h with
  | [], h => cases h
  | [x], h => exact ⟨x, rfl, h⟩
  | _ :: _ :: _, h => cases h
def on2 {α : Type} (xs : List D) (k : D → D → Option α) : Option α := @List.rec D (fun _ => Option α) none (fun x r _ => on1 r fun y => k x y) xs
theorem on2_ok {α : Type} {xs : List D} {k : D → D → Option α} {r : α} (h : on2 xs k = some r) : ∃ x y, xs = [x, y] ∧ k x y = some r := by
  match xs, h with
  | [], h => cases h
  | x :: l, h =>
    obtain ⟨y, rfl, e⟩ := on1_ok (show on1 l (fun y => k x y) = some r from h)
    exact ⟨x, y, rfl, e⟩
/-- of a list of arguments -/
structure FL (α : Type) where
  f : List D → Option α
def itK (it : It) : FL (List D) := match it with
  | .val => ⟨fun xs => on1 xs fun x => seqK x some⟩
  | .range1 => ⟨fun xs => on1 xs rg1K⟩
  | .range2 => ⟨fun xs => on2 xs rg2K⟩
  | .enum => ⟨fun xs => on1 xs fun x => seqK x fun l => enuK l Nat.zero some⟩
  | .zip => ⟨fun xs => on2 xs fun x y => seqK x fun l => seqK y fun m => zipK l m some⟩
  | .enumzip => ⟨fun xs => on2 xs fun x y => seqK x fun l => seqK y fun m => zipK l m fun r => enuK r Nat.zero some⟩
  | it => ⟨itD it⟩
theorem itK_ok {it : It} {xs l : List D} (h : (itK it).f xs = some l) : itD it xs = some l := by
  cases it
  case val =>
    obtain ⟨x, rfl, h⟩ := on1_ok (show on1 xs (fun x => seqK x some) = some l from h)
    obtain ⟨m, h1, h2, h3⟩ := seqK_ok h
    cases h2
    rcases h3 with rfl | rfl <;> rfl
  case range1 =>
    obtain ⟨x, rfl, h⟩ := on1_ok (show on1 xs rg1K = some l from h)
    exact rg1K_ok h
  case range2 =>
    obtain ⟨x, y, rfl, h⟩ := on2_ok (show on2 xs rg2K = some l from h)
    exact rg2K_ok h
  case enum =>
    obtain ⟨x, rfl, h⟩ := on1_ok (show on1 xs (fun x => seqK x fun l => enuK l Nat.zero some) = some l from h)
    obtain ⟨m, h1, h2, h3⟩ := seqK_ok h
    rw [enuK_eq] at h2
    cases h2
    show (seqOf x).map _ = _
    rw [h1]
    rfl
  case zip =>
    obtain ⟨x, y, rfl, h⟩ := on2_ok (show on2 xs (fun x y => seqK x fun l => seqK y fun m => zipK l m some) = some l from h)
    obtain ⟨m, h1, h2, h3⟩ := seqK_ok h
    obtain ⟨m2, h4, h5, h6⟩ := seqK_ok h2
    rw [zipK_eq] at h5
    cases h5
    show (match seqOf x, seqOf y with
      | some l, some m => some (lexZip l m)
      | _, _ => none) = _
    rw [h1, h4]
  case enumzip =>
    obtain ⟨x, y, rfl, h⟩ := on2_ok (show on2 xs (fun x y => seqK x fun l => seqK y fun m => zipK l m fun r => enuK r Nat.zero some) = some l from h)
    obtain ⟨m, h1, h2, h3⟩ := seqK_ok h
    obtain ⟨m2, h4, h5, h6⟩ := seqK_ok h2
    rw [zipK_eq, enuK_eq] at h5
    cases h5
    show (match seqOf x, seqOf y with
      | some l, some m => some (enumFrom 0 (lexZip l m))
      | _, _ => none) = _
    rw [h1, h4]
  all_goals exact h
end
end VI.Kn
end

section
set_option Elab.async false
set_option linter.all false
set_option maxRecDepth 100000
set_option maxHeartbeats 4000000
/-! VIk5: the evaluator for the kernel: code is laid out as functions once, then run. -/
namespace VI.Kn
open PySem VI

/-- a slot: forgotten, a value, dice whose next rolls are told -/
inductive L where
  | no | o (x : O) | tk (t : List (Nat × Nat))
  deriving Inhabited
abbrev LS := List L
inductive KR (α : Type) where
  | ok (a : α) (s : LS) | ex (c : Nat) (p : D) (s : LS) | bad (n : Nat)
inductive LCR where
  | ok (o : O) (ps : LS) | ex (c : Nat) (p : D) (ps : LS) | bad (n : Nat)
abbrev Lr := Option LCR
structure Kx (α : Type) where
  run : Lr → LS → KR α
structure Kf where
  run : Lr → LS → LCR
structure KT where
  run : D → LS → KR Unit
structure KTs where
  run : List D → LS → KR Unit
/-- what is done at a call of a def whose first argument is the dice -/
inductive Hok where
  | roll
  | sum (rows : List (Nat × List O × O))
structure KC where
  glob : Nat → Option G
  call : Nat → Kf
  io : List Nat
noncomputable section
section
variable {α β : Type}
def kb (r : KR α) (f : α → LS → KR β) : KR β := @KR.rec α (fun _ => KR β) f (fun c p s => .ex c p s) (fun n => .bad n) r
def kofO (o : Option α) (n : Nat) (s : LS) : KR α := @Option.rec α (fun _ => KR α) (.bad n) (fun a => .ok a s) o
def lcase (x : L) (z : α) (f : O → α) : α := @L.rec (fun _ => α) z f (fun _ => z) x
def setZ (n : Nat) (x : α) : List α → β → (List α → β) → β := @Nat.rec (fun _ => List α → β → (List α → β) → β) (fun l z k => @List.rec α (fun _ => β) z (fun _ r _ => k (x :: r)) l) (fun _ ih l z k => @List.rec α (fun _ => β) z (fun y r _ => ih r z fun r => k (y :: r)) l) n
theorem setZ_eq (x : α) : ∀ (n : Nat) (l : List α) (z : β) (k : List α → β), setZ n x l z k = if n < l.length then k (l.set n x) else z
  | 0, [], _, _ => rfl
  | 0, _ :: _, _, _ => rfl
  | n + 1, [], _, _ => rfl
  | n + 1, y :: r, z, k => (setZ_eq x n r z fun r => k (y :: r)).trans (by simp)
def wipeK (l : List Nat) : LS → (LS → β) → β := @List.rec Nat (fun _ => LS → (LS → β) → β) (fun s k => k s) (fun i _ ih s k => ih s fun s => setK i .no s k) l
end
/-! ### slots -/
def rdS (i : Nat) (s : LS) : KR D := opt (nth i s) (.bad 1) fun x => lcase x (.bad 1) fun o => ocase o (fun d => .ok d s) (fun l => frzL l fun ds => setK i (.o (.fz (.lst ds))) s fun s => .ok (.lst ds) s) (setK i (.o (.fz o.toD)) s fun s => .ok o.toD s)
def pkS (i : Nat) (s : LS) : KR D := opt (nth i s) (.bad 1) fun x => lcase x (.bad 1) fun o => ocase o (fun d => .ok d s) (fun l => frzL l fun ds => mapK O.fz ds fun os => setK i (.o (.lst os)) s fun s => .ok (.lst ds) s) (setK i (.o o.parts) s fun s => .ok o.toD s)
def hasS (i : Nat) (s : LS) : Bool := opt (nth i s) false fun x => lcase x false fun _ => true
def stS (i : Nat) (o : O) (s : LS) : KR Unit := setZ i (.o o) s (.bad 3) fun s => .ok () s
/-! ### handlers of expressions -/
def xBad (α : Type) (n : Nat) : Kx α := ⟨fun _ _ => .bad n⟩
def xK (d : D) : Kx O := ⟨fun _ s => .ok (.fz d) s⟩
def xKD (d : D) : Kx D := ⟨fun _ s => .ok d s⟩
def xLoc (i : Nat) : Kx O := ⟨fun _ s => kb (rdS i s) fun d s => .ok (.fz d) s⟩
def xRd (i : Nat) : Kx D := ⟨fun _ s => rdS i s⟩
def xPk (i : Nat) : Kx D := ⟨fun _ s => pkS i s⟩
def xD (A : Kx O) : Kx D := ⟨fun lr s => kb (A.run lr s) fun o s => frzO o fun d => .ok d s⟩
def xQl (i : Nat) : Kx (Sum Nat D) := ⟨fun _ s => @Bool.rec (fun _ => _) (.bad 1) (.ok (.inl i) s) (hasS i s)⟩
def xQr (A : Kx D) : Kx (Sum Nat D) := ⟨fun lr s => kb (A.run lr s) fun d s => .ok (.inr d) s⟩
def qdS (q : Sum Nat D) (s : LS) : KR D := @Sum.rec Nat D (fun _ => KR D) (fun i => pkS i s) (fun d => .ok d s) q
def xPn : Kx (Option Int) := ⟨fun _ s => .ok none s⟩
def xPs (A : Kx D) : Kx (Option Int) := ⟨fun lr s => kb (A.run lr s) fun d s => onInt d (fun i => .ok (some i) s) (.bad 43)⟩
def xBin (F : F2 O) (A B : Kx D) : Kx O := ⟨fun lr s => kb (A.run lr s) fun x s => kb (B.run lr s) fun y s => kofO (F.f x y) 21 s⟩
def xNeg (A : Kx D) : Kx O := ⟨fun lr s => kb (A.run lr s) fun x s => onInt x (fun i => frI (iNeg i) fun j => .ok (.fz (.int j)) s) (.bad 22)⟩
def xInv (A : Kx D) : Kx O := ⟨fun lr s => kb (A.run lr s) fun x s => onInt x (fun i => .ok (.fz (.int (Builtin.bitNot i))) s) (.bad 22)⟩
def blO (b : Bool) (s : LS) : KR O := @Bool.rec (fun _ => _) (.ok (.fz (.bl false)) s) (.ok (.fz (.bl true)) s) b
def xNot (A : Kx D) : Kx O := ⟨fun lr s => kb (A.run lr s) fun x s => kb (kofO (truK x) 44 s) fun b s => blO (nB b) s⟩
def xFz (A : Kx D) : Kx O := ⟨fun lr s => kb (A.run lr s) fun d s => .ok (.fz d) s⟩
def xAndV (A B : Kx D) : Kx D := ⟨fun lr s => kb (A.run lr s) fun d s => kb (kofO (truK d) 14 s) fun b s => @Bool.rec (fun _ => _) (.ok d s) (B.run lr s) b⟩
def xOrV (A B : Kx D) : Kx D := ⟨fun lr s => kb (A.run lr s) fun d s => kb (kofO (truK d) 14 s) fun b s => @Bool.rec (fun _ => _) (B.run lr s) (.ok d s) b⟩
def xAndC (A B : Kx Bool) : Kx Bool := ⟨fun lr s => kb (A.run lr s) fun b s => @Bool.rec (fun _ => _) (.ok false s) (B.run lr s) b⟩
def xOrC (A B : Kx Bool) : Kx Bool := ⟨fun lr s => kb (A.run lr s) fun b s => @Bool.rec (fun _ => _) (B.run lr s) (.ok true s) b⟩
def xTru (A : Kx D) : Kx Bool := ⟨fun lr s => kb (A.run lr s) fun d s => kofO (truK d) 44 s⟩
def xNotC (A : Kx Bool) : Kx Bool := ⟨fun lr s => kb (A.run lr s) fun b s => @Bool.rec (fun _ => _) (.ok true s) (.ok false s) b⟩
def xIteC (C A B : Kx Bool) : Kx Bool := ⟨fun lr s => kb (C.run lr s) fun b s => @Bool.rec (fun _ => _) (B.run lr s) (A.run lr s) b⟩
def xIte (C : Kx Bool) (A B : Kx D) : Kx O := ⟨fun lr s => kb (C.run lr s) fun b s => @Bool.rec (fun _ => _) (kb (B.run lr s) fun d s => .ok (.fz d) s) (kb (A.run lr s) fun d s => .ok (.fz d) s) b⟩
def xCmp (F : F2 Bool) (A : Kx (Sum Nat D)) (B : Kx D) : Kx O := ⟨fun lr s => kb (A.run lr s) fun q s => kb (B.run lr s) fun y s => kb (qdS q s) fun x s => kb (kofO (F.f x y) 12 s) fun b s => blO b s⟩
def xCmp2 (F F' : F2 Bool) (A B B' : Kx D) : Kx O := ⟨fun lr s => kb (A.run lr s) fun x s => kb (B.run lr s) fun y s => kb (kofO (F.f x y) 12 s) fun b s => @Bool.rec (fun _ => _) (.ok (.fz (.bl false)) s) (kb (B'.run lr s) fun z s => kb (kofO (F'.f y z) 12 s) fun b s => blO b s) b⟩
def xNil : Kx (List D) := ⟨fun _ s => .ok [] s⟩
def xCons (A : Kx D) (B : Kx (List D)) : Kx (List D) := ⟨fun lr s => kb (A.run lr s) fun d s => kb (B.run lr s) fun ds s => .ok (d :: ds) s⟩
def xStar (A : Kx D) (B : Kx (List D)) : Kx (List D) := ⟨fun lr s => kb (A.run lr s) fun d s => onSeq d (fun xs => kb (B.run lr s) fun ds s => app xs ds fun r => .ok r s) (fun xs => kb (B.run lr s) fun ds s => app xs ds fun r => .ok r s) (.bad 4)⟩
def xTup (A : Kx (List D)) : Kx O := ⟨fun lr s => kb (A.run lr s) fun ds s => @Bool.rec (fun _ => _) (.bad 23) (.ok (.fz (.tup ds)) s) (Nat.ble (len ds) LIM)⟩
def xLst (A : Kx (List D)) : Kx O := ⟨fun lr s => kb (A.run lr s) fun ds s => @Bool.rec (fun _ => _) (.bad 23) (mapK O.fz ds fun os => .ok (.lst os) s) (Nat.ble (len ds) LIM)⟩
def xKnil : Kx (List (D × D)) := ⟨fun _ s => .ok [] s⟩
def xKv (A B : Kx D) (R : Kx (List (D × D))) : Kx (List (D × D)) := ⟨fun lr s => kb (A.run lr s) fun x s => kb (B.run lr s) fun y s => kb (R.run lr s) fun r s => .ok ((x, y) :: r) s⟩
def xDct (A : Kx (List (D × D))) : Kx O := ⟨fun lr s => kb (A.run lr s) fun kvs s => kb (kofO (dmerge [] kvs) 24 s) fun r s => mapK (fun p => (p.1, O.fz p.2)) r fun r => .ok (.dct r) s⟩
def xIdx (A : Kx (Sum Nat D)) (B : Kx D) : Kx O := ⟨fun lr s => kb (A.run lr s) fun q s => kb (B.run lr s) fun y s => kb (qdS q s) fun x s => kb (kofO (idxK x y) 25 s) fun d s => .ok (.fz d) s⟩
def xSlc (A : Kx (Sum Nat D)) (B C : Kx (Option Int)) : Kx O := ⟨fun lr s => kb (A.run lr s) fun q s => kb (B.run lr s) fun l s => kb (C.run lr s) fun h s => kb (qdS q s) fun x s => kofO (slcK x l h) 26 s⟩
def xRev (A : Kx D) : Kx O := ⟨fun lr s => kb (A.run lr s) fun x s => kofO (rvK x) 26 s⟩
def xTrue : Kx Bool := ⟨fun _ s => .ok true s⟩
def xTest (A B : Kx Bool) : Kx Bool := ⟨fun lr s => kb (A.run lr s) fun b s => @Bool.rec (fun _ => _) (.ok false s) (B.run lr s) b⟩
def noEx {α : Type} (r : KR α) : KR α := @KR.rec α (fun _ => KR α) (fun a s => .ok a s) (fun _ _ _ => .bad 70) (fun n => .bad n) r
def lcK (f : D → LS → (LS → KR (List O)) → KR (List O)) (l : List D) : LS → KR (List O) := @List.rec D (fun _ => LS → KR (List O)) (fun s => .ok [] s) (fun d _ ih s => f d s ih) l
def lcEnd (own : List Nat) (r : KR (List O)) : KR O := kb (noEx r) fun os s => @Bool.rec (fun _ => _) (.bad 28) (wipeK own s fun s => .ok (.lst os) s) (Nat.ble (len os) LIM)
def lcOne (T : KT) (W : Kx Bool) (lr : Lr) (w : List Nat) (body : LS → (LS → KR (List O)) → KR (List O)) (d : D) (s : LS) (k : LS → KR (List O)) : KR (List O) := wipeK w s fun s => kb (T.run d s) fun _ s => kb (W.run lr s) fun b s => @Bool.rec (fun _ => _) (k s) (body s k) b
def lcBody (A : Kx O) (lr : Lr) (s : LS) (k : LS → KR (List O)) : KR (List O) := kb (A.run lr s) fun o s => kb (k s) fun r s => .ok (o :: r) s
def xLc1 (own : List Nat) (T : KT) (I : FL (List D)) (Xs : Kx (List D)) (W : Kx Bool) (A : Kx O) : Kx O := ⟨fun lr s => opt lr (kb (Xs.run lr s) fun xs s => kb (kofO (I.f xs) 27 s) fun items s => lcEnd own (lcK (lcOne T W lr own (lcBody A lr)) items s)) fun _ => .bad 29⟩
def xLc2 (own w2 : List Nat) (T T2 : KT) (I I2 : FL (List D)) (Xs Xs2 : Kx (List D)) (W W2 : Kx Bool) (A : Kx O) : Kx O := ⟨fun lr s => opt lr (kb (Xs.run lr s) fun xs s => kb (kofO (I.f xs) 27 s) fun items s =>
  lcEnd own (lcK (lcOne T W lr own fun s k => kb (Xs2.run lr s) fun xs2 s => kb (kofO (I2.f xs2) 27 s) fun items2 s => kb (lcK (lcOne T2 W2 lr w2 (lcBody A lr)) items2 s) fun os s => kb (k s) fun r s => app os r fun r => .ok r s) items s)) fun _ => .bad 29⟩
def dcK (f : D → List (D × D) → LS → KR (List (D × D))) (l : List D) : List (D × D) → LS → KR (List (D × D)) := @List.rec D (fun _ => List (D × D) → LS → KR (List (D × D))) (fun a s => .ok a s) (fun d _ ih a s => kb (f d a s) ih) l
def xDc (own : List Nat) (T : KT) (I : FL (List D)) (Xs : Kx (List D)) (W : Kx Bool) (A B : Kx D) : Kx O := ⟨fun lr s => opt lr (kb (Xs.run lr s) fun xs s => kb (kofO (I.f xs) 27 s) fun items s =>
  kb (noEx (dcK (fun d acc s => wipeK own s fun s => kb (T.run d s) fun _ s => kb (W.run lr s) fun b s => @Bool.rec (fun _ => _) (.ok acc s) (kb (A.run lr s) fun x s => kb (B.run lr s) fun y s => kofO (dput x y acc) 30 s) b) items [] s)) fun r s =>
    @Bool.rec (fun _ => _) (.bad 28) (wipeK own s fun s => mapK (fun p => (p.1, O.fz p.2)) r fun r => .ok (.dct r) s) (Nat.ble (len r) LIM)) fun _ => .bad 29⟩
/-! ### calls -/
def lcr {α : Type} (r : LCR) (ok : O → LS → α) (ex : Nat → D → LS → α) (bad : Nat → α) : α := @LCR.rec (fun _ => α) ok ex bad r
/-- no argument is handed over to be changed -/
def xCall0 (F : Kf) (A : Kx (List D)) : Kx O := ⟨fun lr s => opt lr (kb (A.run lr s) fun ds s => mapK (fun d => L.o (.fz d)) ds fun os => lcr (F.run none os) (fun o _ => .ok o s) (fun c p _ => .ex c p s) fun n => .bad n) fun _ => .bad 64⟩
abbrev KAs := List (Option Nat × D)
def xAnil : Kx KAs := ⟨fun _ s => .ok [] s⟩
def xAio (i : Nat) (R : Kx KAs) : Kx KAs := ⟨fun lr s => opt (nth i s) (.bad 8) fun x => @L.rec (fun _ => KR KAs) (.bad 8) (fun _ => kb (R.run lr s) fun r s => .ok ((some i, .non) :: r) s) (fun _ => kb (R.run lr s) fun r s => .ok ((some i, .non) :: r) s) x⟩
def xAv (A : Kx D) (R : Kx KAs) : Kx KAs := ⟨fun lr s => kb (A.run lr s) fun d s => kb (R.run lr s) fun r s => .ok ((none, d) :: r) s⟩
def argK {β : Type} (l : KAs) : LS → β → (LS → LS → β) → β := @List.rec (Option Nat × D) (fun _ => LS → β → (LS → LS → β) → β) (fun s _ k => k [] s)
  (fun p _ ih s z k => @Prod.rec (Option Nat) D (fun _ => β) (fun i d => @Option.rec Nat (fun _ => β) (ih s z fun os s => k (.o (.fz d) :: os) s) (fun i => opt (nth i s) z fun x => @L.rec (fun _ => β) z (fun o => setK i .no s fun s => ih s z fun os s => k (.o o :: os) s) (fun t => setK i .no s fun s => ih s z fun os s => k (.tk t :: os) s) x) i) p) l
def bakK {β : Type} (l : KAs) : LS → LS → β → (LS → β) → β := @List.rec (Option Nat × D) (fun _ => LS → LS → β → (LS → β) → β) (fun _ s _ k => k s)
  (fun p _ ih ps s z k => @List.rec L (fun _ => β) z (fun x r _ => @Prod.rec (Option Nat) D (fun _ => β) (fun i _ => @Option.rec Nat (fun _ => β) (ih r s z k) (fun i => @L.rec (fun _ => β) z (fun o => setZ i (.o o) s z fun s => ih r s z k) (fun t => setZ i (.tk t) s z fun s => ih r s z k) x) i) p) ps) l
def xCall (F : Kf) (A : Kx KAs) : Kx O := ⟨fun lr s => opt lr (kb (A.run lr s) fun as s => argK as s (.bad 10) fun os s => lcr (F.run none os) (fun o ps => bakK as ps s (.bad 9) fun s => .ok o s) (fun c p ps => bakK as ps s (.bad 9) fun s => .ex c p s) fun n => .bad n) fun _ => .bad 64⟩
/-- a name of a function, of a lambda -/
def fcase {α : Type} (d : D) (fn : Nat → α) (lam z : α) : α :=
  @D.rec (fun _ => α) (fun _ => Unit) (fun _ => Unit) (fun _ => Unit) (fun _ => Unit) (fun _ => Unit) z (fun _ => z) (fun _ => z) (fun _ => z) (fun _ _ => z) (fun _ _ => z) (fun _ _ => z) (fun _ => z) (fun _ _ _ => z) fn lam (fun _ => z) () (fun _ _ _ _ => ()) () (fun _ _ _ _ => ()) () (fun _ _ _ _ => ()) (fun _ _ _ _ => ()) (fun _ _ _ => ()) d
theorem fcase_eq {α : Type} (d : D) (fn : Nat → α) (lam z : α) : fcase d fn lam z = match d with
  | .fn f => fn f
  | .lam => lam
  | _ => z := by cases d <;> rfl
def xLcall (i : Nat) (nil : Bool) (F : Nat → Kx O) : Kx O := ⟨fun lr s => opt (nth i s) (.bad 33) fun x => lcase x (.bad 33) fun o => ocase o (fun d => fcase d (fun f => (F f).run lr s)
  (@Bool.rec (fun _ => _) (.bad 32) (@Bool.rec (fun _ => _) (.bad 32) (opt lr (.bad 32) fun r => lcr r (fun o _ => .ok o s) (fun c p _ => .ex c p s) fun _ => .bad 32) nil) (Nat.beq i Nat.zero)) (.bad 33)) (fun _ => .bad 33) (.bad 33)⟩
def xBi1 (F : F1 O) (A : Kx D) : Kx O := ⟨fun lr s => kb (A.run lr s) fun x s => kofO (F.f x) 34 s⟩
def xBi2 (F : F2 O) (A : Kx (List D)) : Kx O := ⟨fun lr s => kb (A.run lr s) fun xs s => kofO (on2 xs F.f) 34 s⟩
def xIsi (F : F1 Bool) (A : Kx D) : Kx O := ⟨fun lr s => kb (A.run lr s) fun x s => kb (kofO (F.f x) 35 s) fun b s => blO b s⟩
/-- the slot's own list -/
def ownS {α : Type} (i : Nat) (s : LS) (z : α) (k : List O → α) : α := opt (nth i s) z fun x => lcase x z fun o => ocase o (fun _ => z) k z
def xApp (i : Nat) (A : Kx O) : Kx O := ⟨fun lr s => ownS i s (.bad 37) fun _ => kb (A.run lr s) fun o s => ownS i s (.bad 37) fun l => @Bool.rec (fun _ => _) (.bad 36) (app l [o] fun l => setK i (.o (.lst l)) s fun s => .ok (.fz .non) s) (Nat.ble (Nat.succ (len l)) LIM)⟩
def xExt (i : Nat) (A : Kx D) : Kx O := ⟨fun lr s => ownS i s (.bad 37) fun _ => kb (A.run lr s) fun d s => onSeq d (fun _ => .bad 37) (fun ds => ownS i s (.bad 37) fun l => @Bool.rec (fun _ => _) (.bad 36) (mapK O.fz ds fun ds => app l ds fun l => setK i (.o (.lst l)) s fun s => .ok (.fz .non) s) (Nat.ble (Nat.succ (Nat.add (len l) (len ds))) LIM)) (.bad 37)⟩
def lastK {β : Type} (l : List O) (z : β) (k : O → List O → β) : β := @List.rec O (fun _ => β) z (fun o r _ => revK r [] |> fun q => k o q) (revK l [])
def xPop0 (i : Nat) : Kx O := ⟨fun lr s => ownS i s (.bad 37) fun l => opt (l.getLast?) (.bad 38) fun o => frL l.dropLast fun l => setK i (.o (.lst l)) s fun s => .ok o s⟩
def xPop1 (i : Nat) (A : Kx D) : Kx O := ⟨fun lr s => ownS i s (.bad 37) fun _ => kb (A.run lr s) fun d s => onInt d (fun k => ownS i s (.bad 37) fun l => @Bool.rec (fun _ => _) (opt (ixN (len l) k) (.bad 38) fun j => opt (nth j l) (.bad 38) fun o => eraK j l fun l => setK i (.o (.lst l)) s fun s => .ok o s) (.bad 36) (Nat.ble LIM (len l))) (.bad 37)⟩
/-- a lambda's body is run here, what it gives goes to the def that takes it -/
def flatK (d : D) : Bool := dcase d true (fun _ => true) (fun _ => true) (fun _ => true) (fun _ => false) (fun _ => false) false
theorem flatK_eq (d : D) : flatK d = d.flat := by cases d <;> rfl
def lamEndK (G : Kf) (r : LCR) (s : LS) : KR O := lcr (G.run (some r) [.o (.fz .lam)]) (fun o _ => ocase o (fun d => @Bool.rec (fun _ => _) (.bad 41) (.ok (.fz d) s) (flatK d)) (fun _ => .bad 41) (.bad 41)) (fun _ _ _ => .bad 41) fun n => .bad n
def xLam (G : Kf) (F : Nat → Kf) (ok : Nat → Bool) (V : Kx D) (A : Kx (List D)) : Kx O := ⟨fun lr s => opt lr (kb (V.run lr s) fun fv s => kb (A.run lr s) fun xs s => fcase fv (fun f => @Bool.rec (fun _ => _) (.bad 42) (mapK (fun d => L.o (.fz d)) xs fun os => lcr ((F f).run none os) (fun o ps => lamEndK G (.ok o ps) s) (fun c p ps => lamEndK G (.ex c p ps) s) fun n => .bad n) (ok f)) (.bad 42) (.bad 42)) fun _ => .bad 64⟩
/-! ### code is laid out -/
structure KF where
  e : E → Kx O
  d : E → Kx D
  p : E → Kx D
  q : E → Kx (Sum Nat D)
  part : Option E → Kx (Option Int)
  c : E → Kx Bool
mutual
def cT (io : List Nat) : T → KT
  | .name i => if io.contains i then ⟨fun _ _ => .bad 2⟩ else ⟨fun d s => stS i (.fz d) s⟩
  | .tup ts => ⟨fun d s => onSeq d (fun ds => (cTs io ts).run ds s) (fun _ => .bad 5) (.bad 5)⟩
  | _ => ⟨fun _ _ => .bad 5⟩
def cTs (io : List Nat) : List T → KTs
  | [] => ⟨fun ds s => @List.rec D (fun _ => KR Unit) (.ok () s) (fun _ _ _ => .bad 6) ds⟩
  | t :: ts => ⟨fun ds s => @List.rec D (fun _ => KR Unit) (.bad 6) (fun d r _ => kb ((cT io t).run d s) fun _ s => (cTs io ts).run r s) ds⟩
end
def cDs (f : E → Kx D) : List E → Kx (List D)
  | [] => xNil
  | e :: l => xCons (f e) (cDs f l)
def cSpl (f : E → Kx D) : List (Bool × E) → Kx (List D)
  | [] => xNil
  | (b, e) :: l => if b then xStar (f e) (cSpl f l) else xCons (f e) (cSpl f l)
def cKvs (f : E → Kx D) : List (E × E) → Kx (List (D × D))
  | [] => xKnil
  | (a, b) :: l => xKv (f a) (f b) (cKvs f l)
def cAndV (f : E → Kx D) : List E → Kx D
  | [] => xBad D 13
  | [e] => f e
  | e :: l => xAndV (f e) (cAndV f l)
def cOrV (f : E → Kx D) : List E → Kx D
  | [] => xBad D 13
  | [e] => f e
  | e :: l => xOrV (f e) (cOrV f l)
def cAndC (f : E → Kx Bool) : List E → Kx Bool
  | [] => xBad Bool 13
  | [e] => f e
  | e :: l => xAndC (f e) (cAndC f l)
def cOrC (f : E → Kx Bool) : List E → Kx Bool
  | [] => xBad Bool 13
  | [e] => f e
  | e :: l => xOrC (f e) (cOrC f l)
def cTests (f : E → Kx Bool) : List E → Kx Bool
  | [] => xTrue
  | e :: l => xTest (f e) (cTests f l)
def cArgs (f : E → Kx D) (io : List Nat) : Nat → List E → Kx KAs
  | _, [] => xAnil
  | j, e :: l => if io.contains j then (match e with
    | .loc i => xAio i (cArgs f io (j + 1) l)
    | _ => xBad KAs 8) else xAv (f e) (cArgs f io (j + 1) l)
def cCall (C : KC) (f : E → Kx D) (as : List E) (g : Nat) : Kx O := match C.glob g with
  | some (.fn fd) => if as.length = fd.np then (if fd.io = [] then xCall0 (C.call g) (cDs f as) else xCall (C.call g) (cArgs f fd.io 0 as)) else xBad O 31
  | _ => xBad O 31
def lamOk (C : KC) (n f : Nat) : Bool := match C.glob f with
  | some (.fn fd) => decide (n = fd.np ∧ fd.io = [])
  | _ => false
def cFnV (e : E) : Kx D := match e with
  | .glob m => xKD (.fn m)
  | .loc i => xRd i
  | _ => xBad D 42
def cE (C : KC) (f : KF) (e : E) : Kx O := match e with
  | .k d => xK d
  | .loc i => xLoc i
  | .glob x => (match C.glob x with
    | some (.fn _) => xK (.fn x)
    | some (.val d) => xK d
    | _ => xBad O 20)
  | .bin op a b => xBin (opK op) (f.d a) (f.d b)
  | .neg a => xNeg (f.d a)
  | .inv a => xInv (f.d a)
  | .not a => xNot (f.p a)
  | .and l => xFz (cAndV f.d l)
  | .or l => xFz (cOrV f.d l)
  | .cmp a l => (match l with
    | [(c, b)] => xCmp (cmK c) (f.q a) (f.p b)
    | [(c, b), (c2, b2)] => xCmp2 (cmK c) (cmK c2) (f.d a) (f.d b) (f.d b2)
    | _ => xBad O 11)
  | .ite c a b => xIte (f.c c) (f.d a) (f.d b)
  | .tup l => xTup (cSpl f.d l)
  | .lst l => xLst (cSpl f.d l)
  | .dct l => xDct (cKvs f.d l)
  | .idx a b => xIdx (f.q a) (f.d b)
  | .slc a lo hi => xSlc (f.q a) (f.part lo) (f.part hi)
  | .rev a => xRev (f.p a)
  | .lc e own gs => (match gs with
    | [(t, it, as, cs)] => xLc1 own (cT C.io t) (itK it) (cDs f.d as) (cTests f.c cs) (f.e e)
    | [(t, it, as, cs), (t2, it2, as2, cs2)] => xLc2 own t2.vars (cT C.io t) (cT C.io t2) (itK it) (itK it2) (cDs f.d as) (cDs f.d as2) (cTests f.c cs) (cTests f.c cs2) (f.e e)
    | _ => xBad O 29)
  | .dc k v own gs => (match gs with
    | [(t, it, as, cs)] => xDc own (cT C.io t) (itK it) (cDs f.d as) (cTests f.c cs) (f.d k) (f.d v)
    | _ => xBad O 29)
  | .call g as => cCall C f.d as g
  | .lcall i as => xLcall i as.isEmpty (cCall C f.d as)
  | .bi b as => (match as with
    | [a] => xBi1 (biK b) (f.p a)
    | _ => xBi2 (bi2K b) (cDs f.d as))
  | .isi a t => xIsi (isiK t) (f.p a)
  | .mut m i as => (match m, as with
    | .append, [e] => xApp i (f.e e)
    | .extend, [e] => xExt i (f.d e)
    | .pop0, [] => xPop0 i
    | .pop1, [e] => xPop1 i (f.d e)
    | _, _ => xBad O 39)
  | .met m a as => xBad O 40
  | .lam g h as => if as.all E.flat then xLam (C.call g) C.call (lamOk C as.length) (cFnV h) (cDs f.d as) else xBad O 42
def cD (f : KF) (e : E) : Kx D := match e with
  | .k d => xKD d
  | .loc i => xRd i
  | _ => xD (f.e e)
def cP (f : KF) (e : E) : Kx D := match e with
  | .loc i => xPk i
  | _ => f.d e
def cQ (f : KF) (e : E) : Kx (Sum Nat D) := match e with
  | .loc i => xQl i
  | _ => xQr (f.d e)
def cPart (f : KF) (e : Option E) : Kx (Option Int) := match e with
  | none => xPn
  | some e => xPs (f.d e)
def cC (f : KF) (e : E) : Kx Bool := match e with
  | .and l => cAndC f.c l
  | .or l => cOrC f.c l
  | .not a => xNotC (f.c a)
  | .ite c a b => xIteC (f.c c) (f.c a) (f.c b)
  | _ => xTru (f.p e)
def KF0 : KF := ⟨fun _ => xBad O 0, fun _ => xBad D 0, fun _ => xBad D 0, fun _ => xBad _ 0, fun _ => xBad _ 0, fun _ => xBad Bool 0⟩
def kf (C : KC) : Nat → KF
  | 0 => KF0
  | 1 => KF0
  | n + 2 => ⟨cE C (kf C (n + 1)), cD (kf C (n + 1)), cP (kf C (n + 1)), cQ (kf C (n + 1)), cPart (kf C (n + 1)), cC (kf C (n + 1))⟩
end
end VI.Kn
end

section
set_option Elab.async false
set_option linter.all false
set_option maxRecDepth 100000
set_option maxHeartbeats 4000000
/-! VIk6: statements, functions. -/
namespace VI.Kn
open PySem VI
noncomputable section
def flc {α : Type} (f : Fl) (next : α) (ret : O → α) (brk cont : α) : α := @Fl.rec (fun _ => α) next ret brk cont f
def yExpr (A : Kx O) : Kx Fl := ⟨fun lr s => kb (A.run lr s) fun _ s => .ok .next s⟩
def yAsg (i : Nat) (A : Kx O) : Kx Fl := ⟨fun lr s => kb (A.run lr s) fun o s => kb (stS i o s) fun _ s => .ok .next s⟩
def yAsgT (T : KT) (A : Kx D) : Kx Fl := ⟨fun lr s => kb (A.run lr s) fun d s => kb (T.run d s) fun _ s => .ok .next s⟩
def yPar (T U : KT) (A B : Kx D) : Kx Fl := ⟨fun lr s => kb (A.run lr s) fun x s => kb (B.run lr s) fun y s => kb (T.run x s) fun _ s => kb (U.run y s) fun _ s => .ok .next s⟩
def ySeti (i : Nat) (K A : Kx D) : Kx Fl := ⟨fun lr s => kb (A.run lr s) fun d s => @Bool.rec (fun _ => _) (.bad 53) (kb (K.run lr s) fun q s => onInt q (fun z => ownS i s (.bad 53) fun l => opt (ixN (len l) z) (.bad 50) fun j => setK j (.fz d) l fun l => setK i (.o (.lst l)) s fun s => .ok .next s) (.bad 53)) (hasS i s)⟩
/-- the slot's number -/
def intS {α : Type} (i : Nat) (s : LS) (z : α) (k : Int → α) : α := opt (nth i s) z fun x => lcase x z fun o => ocase o (fun d => onInt d k z) (fun _ => z) z
def yAug (i : Nat) (F : F2 O) (A : Kx D) : Kx Fl := ⟨fun lr s => intS i s (.bad 55) fun x => kb (A.run lr s) fun y s => onInt y (fun y => kb (kofO (F.f (.int x) (.int y)) 54 s) fun o s => kb (stS i o s) fun _ s => .ok .next s) (.bad 55)⟩
def yIf (C : Kx Bool) (A B : Kx Fl) : Kx Fl := ⟨fun lr s => kb (C.run lr s) fun b s => @Bool.rec (fun _ => _) (B.run lr s) (A.run lr s) b⟩
def forK (f : D → LS → KR Fl) (l : List D) : LS → KR Fl := @List.rec D (fun _ => LS → KR Fl) (fun s => .ok .next s) (fun d _ ih s => kb (f d s) fun r s => flc r (ih s) (fun o => .ok (.ret o) s) (.ok .next s) (ih s)) l
def yFor (T : KT) (I : FL (List D)) (Xs : Kx (List D)) (B : Kx Fl) : Kx Fl := ⟨fun lr s => kb (Xs.run lr s) fun xs s => kb (kofO (I.f xs) 27 s) fun items s => forK (fun d s => kb (T.run d s) fun _ s => B.run lr s) items s⟩
def whK (C : LS → KR Bool) (f : LS → KR Fl) (n : Nat) : LS → KR Fl := @Nat.rec (fun _ => LS → KR Fl) (fun _ => .bad 7) (fun _ ih s => kb (C s) fun b s => @Bool.rec (fun _ => _) (.ok .next s) (kb (f s) fun r s => flc r (ih s) (fun o => .ok (.ret o) s) (.ok .next s) (ih s)) b) n
def yWh (C : Kx Bool) (B : Kx Fl) : Kx Fl := ⟨fun lr s => whK (C.run lr) (B.run lr) WFUEL s⟩
def yRet0 : Kx Fl := ⟨fun _ s => .ok (.ret (.fz .non)) s⟩
def yRetIo (i : Nat) : Kx Fl := ⟨fun _ s => kb (rdS i s) fun d s => .ok (.ret (.fz d)) s⟩
def yRetL (i : Nat) : Kx Fl := ⟨fun _ s => opt (nth i s) (.bad 57) fun x => lcase x (.bad 57) fun o => setK i .no s fun s => .ok (.ret o) s⟩
def yRet (A : Kx O) : Kx Fl := ⟨fun lr s => kb (A.run lr s) fun o s => .ok (.ret o) s⟩
def yRaise0 (c : Nat) : Kx Fl := ⟨fun _ s => .ex c .non s⟩
def yRaise (c : Nat) (A : Kx D) : Kx Fl := ⟨fun lr s => kb (A.run lr s) fun d s => .ex c d s⟩
def yFl (f : Fl) : Kx Fl := ⟨fun _ s => .ok f s⟩
def yNil : Kx Fl := yFl .next
def ySeq (A B : Kx Fl) : Kx Fl := ⟨fun lr s => kb (A.run lr s) fun f s => flc f (B.run lr s) (fun o => .ok (.ret o) s) (.ok .brk s) (.ok .cont s)⟩
def repS (pre : Str) (p : D) (s : LS) : KR Fl := match evRep pre p ([] : St) with
  | .ok (.ret (.fz d)) _ => .ok (.ret (.fz d)) s
  | _ => .bad 45
def hdK (g : Nat → Option G) (c : Nat) (p : D) : List (Nat × Hk) → LS → KR Fl
  | [], s => .ex c p s
  | (h, k) :: l, s => if sub? g c h then (match k with
    | .ret d => .ok (.ret (.fz d)) s
    | .rep i pre => if Nat.beq c h && Nat.ble (i + 1) (len s) then repS pre p s else .bad 47) else hdK g c p l s
def yTry (g : Nat → Option G) (A : Kx Fl) (hs : List (Nat × Hk)) : Kx Fl := ⟨fun lr s => @KR.rec Fl (fun _ => KR Fl) (fun f s => .ok f s) (fun c p s => @Bool.rec (fun _ => _) (.bad 48) (hdK g c p hs s) (isExc g c)) (fun n => .bad n) (A.run lr s)⟩
structure KS where
  s : S → Kx Fl
  ss : List S → Kx Fl
def cS (C : KC) (f : KF) (g : KS) (c : S) : Kx Fl := match c with
  | .expr e => yExpr (f.e e)
  | .asg t e => (match t with
    | .name i => if C.io.contains i then xBad Fl 2 else yAsg i (f.e e)
    | t => yAsgT (cT C.io t) (f.d e))
  | .par t u a b => yPar (cT C.io t) (cT C.io u) (f.d a) (f.d b)
  | .seti i k e => ySeti i (f.d k) (f.d e)
  | .aug i op e => if C.io.contains i then xBad Fl 2 else yAug i (opK op) (f.d e)
  | .ife c a b => yIf (f.c c) (g.ss a) (g.ss b)
  | .forr t it as b => yFor (cT C.io t) (itK it) (cDs f.d as) (g.ss b)
  | .whil c b => yWh (f.c c) (g.ss b)
  | .ret e => (match e with
    | none => yRet0
    | some (.loc i) => if C.io.contains i then yRetIo i else yRetL i
    | some e => yRet (f.e e))
  | .raise c e => (match e with
    | none => yRaise0 c
    | some e => yRaise c (f.d e))
  | .pass => yFl .next
  | .brk => yFl .brk
  | .cont => yFl .cont
  | .trye b hs => yTry C.glob (g.ss b) hs
def cSs (g : KS) (l : List S) : Kx Fl := match l with
  | [] => yNil
  | c :: l => ySeq (g.s c) (g.ss l)
def KS0 : KS := ⟨fun _ => xBad Fl 0, fun _ => xBad Fl 0⟩
def ks (C : KC) : Nat → KS
  | 0 => KS0
  | n + 1 => ⟨cS C (kf C n) (ks C n), cSs (ks C n)⟩
/-- the parameters behind a call -/
def endS (io : List Nat) (np : Nat) (s : LS) : LS := (List.range np).map fun j => if io.contains j then (nth j s).getD .no else .no
def endK (io : List Nat) (np : Nat) (r : KR Fl) : LCR := @KR.rec Fl (fun _ => LCR) (fun f s => flc f (.ok (.fz .non) (endS io np s)) (fun o => .ok o (endS io np s)) (.bad 60) (.bad 60)) (fun c p s => .ex c p (endS io np s)) (fun n => .bad n) r
def fRun (C : KC) (fd : Fn) (B : Kx Fl) : Kf := ⟨fun lr os => @Bool.rec (fun _ => _) (.bad 61) (app os (List.replicate (fd.nl - fd.np) L.no) fun s => endK fd.io fd.np (B.run lr s)) (Nat.beq (len os) fd.np)⟩
/-! ### hooks -/
/-- the next roll as it is told; 1000 + total: more must be told -/
def rollK (t : List (Nat × Nat)) (d : D) : LCR := onInt d (fun i => @Int.rec (fun _ => LCR) (fun n => @List.rec (Nat × Nat) (fun _ => LCR) (.bad (Nat.add 1000 (Nat.add n n))) (fun p r _ => @Bool.rec (fun _ => _) (.bad 901) (@Bool.rec (fun _ => _) (.ok (.fz (.int (.ofNat p.1))) [.tk r, .no]) (.bad 900) (Nat.beq n Nat.zero)) (Nat.beq p.2 n)) t) (fun _ => .bad 902) i) (.bad 903)
def kRoll : Kf := ⟨fun lr os => opt lr (@List.rec L (fun _ => LCR) (.bad 904) (fun x r _ => @L.rec (fun _ => LCR) (.bad 905) (fun _ => .bad 906) (fun t => @List.rec L (fun _ => LCR) (.bad 904) (fun y q _ => @List.rec L (fun _ => LCR) (lcase y (.bad 907) fun o => ocase o (fun d => rollK t d) (fun _ => .bad 907) (.bad 907)) (fun _ _ _ => .bad 909) q) r) x) os) fun _ => .bad 908⟩
/-- the same data -/
def sameD (n : Nat) : D → D → Bool := @Nat.rec (fun _ => D → D → Bool) (fun _ _ => false)
  (fun _ ih x y => dcase x (dcase y true (fun _ => false) (fun _ => false) (fun _ => false) (fun _ => false) (fun _ => false) false)
    (fun a => onBl y (fun b => beqB a b) false)
    (fun i => onInt y (fun j => iEq i j) false)
    (fun s => dcase y false (fun _ => false) (fun _ => false) (fun t => strK s t) (fun _ => false) (fun _ => false) false)
    (fun l => onSeq y (fun m => eqvs ih l m) (fun _ => false) false)
    (fun l => onSeq y (fun _ => false) (fun m => eqvs ih l m) false) (fcase x (fun f => fcase y (fun g => Nat.beq f g) false false) false false)) n
theorem same_ok : ∀ (n : Nat) (x y : D), sameD n x y = true → x = y := by
  intro n
  induction n with
  | zero => intro x y h; cases h
  | succ n ih =>
    have lst : ∀ l m : List D, eqvs (sameD n) l m = true → l = m := by
      intro l
      induction l with
      | nil => intro m h; cases m with
        | nil => rfl
        | cons _ _ => cases h
      | cons a l ihl =>
        intro m h
        cases m with
        | nil => cases h
        | cons b m =>
          obtain ⟨h1, h2⟩ := if_and (show (@Bool.rec (fun _ => Bool) false (eqvs (sameD n) l m) (sameD n a b)) = true from h)
          rw [ih a b h1, ihl m h2]
    intro x y h
    cases x with
    | non => cases y <;> first | rfl | cases h
    | bl a => cases y with
      | bl b => exact congrArg D.bl (of_decide_eq_true ((beqB_eq a b).symm.trans h))
      | _ => cases h
    | int i => cases y with
      | int j => exact congrArg D.int (of_decide_eq_true ((iEq_eq i j).symm.trans h))
      | _ => cases h
    | str s => cases y with
      | str t =>
        have : (s == t) = true := (strK_eq s t).symm.trans h
        exact congrArg D.str (beq_iff_eq.mp this)
      | _ => cases h
    | tup l => cases y with
      | tup m => exact congrArg D.tup (lst l m h)
      | _ => cases h
    | lst l => cases y with
      | lst m => exact congrArg D.lst (lst l m h)
      | _ => cases h
    | fn f => cases y with
      | fn g => exact congrArg D.fn (Nat.eq_of_beq_eq_true h)
      | _ => cases h
    | _ => cases h
/-- owned data: the same -/
def sameO (a b : O) : Bool := ocase a (fun d => ocase b (fun e => sameD 60 d e) (fun _ => false) false) (fun l => ocase b (fun _ => false) (fun m => @List.rec O (fun _ => List O → Bool) (fun m => @List.rec O (fun _ => Bool) true (fun _ _ _ => false) m) (fun x _ r m => @List.rec O (fun _ => Bool) false (fun y q _ => @Bool.rec (fun _ => _) false (r q) (ocase x (fun d => ocase y (fun e => sameD 60 d e) (fun _ => false) false) (fun _ => false) false)) m) l m) false) false
theorem sameF {a b : O} (h : ocase a (fun d => ocase b (fun e => sameD 60 d e) (fun _ => false) false) (fun _ => false) false = true) : a = b := by
  rw [ocase_eq] at h
  split at h
  · rw [ocase_eq] at h
    split at h
    · exact congrArg O.fz (same_ok _ _ _ h)
    · cases h
    · cases h
  · cases h
  · cases h
theorem sameO_ok {a b : O} (h : sameO a b = true) : a = b := by
  cases a with
  | fz d => cases b with
    | fz e => exact congrArg O.fz (same_ok 60 _ _ h)
    | _ => cases h
  | lst l => cases b with
    | lst m =>
      refine congrArg O.lst ?_
      have key : ∀ l m : List O, (@List.rec O (fun _ => List O → Bool) (fun m => @List.rec O (fun _ => Bool) true (fun _ _ _ => false) m) (fun x _ r m => @List.rec O (fun _ => Bool) false (fun y q _ => @Bool.rec (fun _ => _) false (r q) (ocase x (fun d => ocase y (fun e => sameD 60 d e) (fun _ => false) false) (fun _ => false) false)) m) l m) = true → l = m := by
        intro l
        induction l with
        | nil => intro m h; cases m with
          | nil => rfl
          | cons _ _ => cases h
        | cons x l ih =>
          intro m h
          cases m with
          | nil => cases h
          | cons y m =>
            obtain ⟨h1, h2⟩ := if_and h
            rw [sameF h1, ih m h2]
      exact key l m h
    | _ => cases h
  | _ => cases h
def sameOs (l : List O) : LS → Bool := @List.rec O (fun _ => LS → Bool) (fun m => @List.rec L (fun _ => Bool) true (fun _ _ _ => false) m) (fun x _ ih m => @List.rec L (fun _ => Bool) false (fun y q _ => lcase y false fun o => @Bool.rec (fun _ => _) false (ih q) (sameO x o)) m) l
/-- summaries: the row (mark, arguments behind the dice, what is handed back); 2^20 + mark: the call must be told -/
def sumRow (t : List (Nat × Nat)) (rest : LS) (rows : List (Nat × List O × O)) (z : LCR) : LCR := @List.rec (Nat × List O × O) (fun _ => LCR) z (fun w _ ih => @Bool.rec (fun _ => _) ih (@List.rec (Nat × Nat) (fun _ => LCR) (.bad (Nat.add 1001 (Nat.add w.1 w.1))) (fun p r _ => @Bool.rec (fun _ => _) (.bad 912) (@Bool.rec (fun _ => _) (.bad 911) (.ok w.2.2 (.tk r :: List.replicate (len rest) .no)) (Nat.beq p.2 Nat.zero)) (Nat.beq p.1 w.1)) t) (sameOs w.2.1 rest)) rows
def kSum (rows : List (Nat × List O × O)) (F : Kf) : Kf := ⟨fun lr os => opt lr (@List.rec L (fun _ => LCR) (F.run none os) (fun x r _ => @L.rec (fun _ => LCR) (F.run none os) (fun _ => F.run none os) (fun t => sumRow t r rows (F.run none os)) x) os) fun r => F.run (some r) os⟩
def hookK (h : Option Hok) (F : Kf) : Kf := match h with
  | none => F
  | some .roll => kRoll
  | some (.sum rows) => kSum rows F
def fnB (glob : Nat → Option G) (call : Nat → Kf) (f : Nat) : Kf := match glob f with
  | some (.fn fd) => fRun ⟨glob, call, fd.io⟩ fd ((ks ⟨glob, call, fd.io⟩ DEPTH).ss fd.body)
  | _ => ⟨fun _ _ => .bad 63⟩
def fnK (glob : Nat → Option G) (hook : Nat → Nat → Option Hok) : Nat → Nat → Kf
  | 0, _ => ⟨fun _ _ => .bad 62⟩
  | k + 1, f => hookK (hook k f) (fnB glob (fnK glob hook k) f)
end
end VI.Kn
end

section
set_option Elab.async false
set_option linter.all false
set_option maxRecDepth 100000
set_option maxHeartbeats 4000000
/-! VIs1: the evaluator for the kernel and the evaluator: the relation, the handlers. -/
namespace VI.Kn
open PySem VI

/-- a slot and what it stands for -/
inductive SR (F : List (Nat × Nat) → O → Prop) : L → Option O → Prop
  | no {x} : SR F .no x
  | o {x} : SR F (.o x) (some x)
  | tk {t x} : F t x → SR F (.tk t) (some x)
inductive SS (F : List (Nat × Nat) → O → Prop) : LS → St → Prop
  | nil : SS F [] []
  | cons {x y s t} : SR F x y → SS F s t → SS F (x :: s) (y :: t)
section
variable {F : List (Nat × Nat) → O → Prop}
theorem SS.len {s : LS} {t : St} (h : SS F s t) : s.length = t.length := by
  induction h with
  | nil => rfl
  | cons _ _ ih => simp [ih]
theorem SS.get {s : LS} {t : St} (h : SS F s t) : ∀ {i : Nat} {x : L}, s[i]? = some x → ∃ y, t[i]? = some y ∧ SR F x y := by
  induction h with
  | nil => intro i x e; simp at e
  | cons r _ ih =>
    intro i x e
    cases i with
    | zero =>
      simp at e
      subst e
      exact ⟨_, by simp, r⟩
    | succ i => simpa using ih (i := i) (by simpa using e)
theorem SS.set {s : LS} {t : St} (h : SS F s t) {x : L} {y : Option O} (r : SR F x y) : ∀ (i : Nat), SS F (s.set i x) (t.set i y) := by
  induction h with
  | nil => intro i; exact .nil
  | cons r' h ih =>
    intro i
    cases i with
    | zero => exact .cons r h
    | succ i => exact .cons r' (ih i)
theorem SS.app {s : LS} {t : St} (h : SS F s t) {s2 : LS} {t2 : St} (h2 : SS F s2 t2) : SS F (s ++ s2) (t ++ t2) := by
  induction h with
  | nil => exact h2
  | cons r _ ih => exact .cons r ih
theorem SS.no {t : St} : ∀ {n : Nat}, t.length = n → SS F (List.replicate n .no) t := by
  induction t with
  | nil => intro n h; subst h; exact .nil
  | cons x t ih => intro n h; subst h; exact .cons .no (ih rfl)
theorem SS.fzs : ∀ ds : List D, SS F (ds.map fun d => L.o (.fz d)) ((ds.map O.fz).map some)
  | [] => .nil
  | d :: l => .cons .o (SS.fzs l)
end
/-- a result and what it stands for -/
def RS {α : Type} (F : List (Nat × Nat) → O → Prop) (r : KR α) (r' : R α) : Prop := match r with
  | .bad _ => True
  | .ok a s => ∃ s', r' = .ok a s' ∧ SS F s s'
  | .ex c p s => ∃ s', r' = .ex c p s' ∧ SS F s s'
def CS (F : List (Nat × Nat) → O → Prop) (r : LCR) (r' : VI.CR) : Prop := match r with
  | .bad _ => True
  | .ok o ps => ∃ ps', r' = .ok o ps' ∧ SS F ps ps'
  | .ex c p ps => ∃ ps', r' = .ex c p ps' ∧ SS F ps ps'
section
variable {F : List (Nat × Nat) → O → Prop} {α β : Type}
theorem RS.bad {n : Nat} {r : R α} : RS F (.bad n) r := trivial
theorem RS.ok {a : α} {s : LS} {t : St} (h : SS F s t) : RS F (.ok a s) (.ok a t) := ⟨t, rfl, h⟩
theorem RS.ex {c : Nat} {p : D} {s : LS} {t : St} (h : SS F s t) : RS F (.ex c p s : KR α) (.ex c p t) := ⟨t, rfl, h⟩
theorem RS.bind {r : KR α} {r' : R α} (h : RS F r r') {f : α → LS → KR β} {f' : α → St → R β} (hf : ∀ a s t, SS F s t → RS F (f a s) (f' a t)) : RS F (kb r f) (r'.bind f') := by
  cases r with
  | bad n => exact trivial
  | ok a s =>
    obtain ⟨t, rfl, q⟩ := h
    exact hf a s t q
  | ex c p s =>
    obtain ⟨t, rfl, q⟩ := h
    exact ⟨t, rfl, q⟩
theorem RS.of {o o' : Option α} {n m : Nat} {s : LS} {t : St} (h : SS F s t) (k : ∀ a, o = some a → o' = some a) : RS F (kofO o n s) (ofO o' m t) := by
  cases o with
  | none => exact trivial
  | some a =>
    rw [k a rfl]
    exact ⟨t, rfl, h⟩
theorem RS.ifb {b : Bool} {x y : KR α} {x' y' : R α} (h1 : b = true → RS F x x') (h2 : b = false → RS F y y') : RS F (@Bool.rec (fun _ => KR α) y x b) (if b then x' else y') := by
  cases b with
  | true => exact h1 rfl
  | false => exact h2 rfl
/-- a function of the kernel's and one of the evaluator's -/
def Sm (F : List (Nat × Nat) → O → Prop) (lr : Lr) (A : Kx α) (a : St → R α) : Prop := ∀ s t, SS F s t → RS F (A.run lr s) (a t)
/-! ### slots -/
theorem opt_rs {o : Option β} {n : Nat} {k : β → KR α} {r : R α} (h : ∀ x, o = some x → RS F (k x) r) : RS F (opt o (.bad n) k) r := by
  cases o with
  | none => exact trivial
  | some x => exact h x rfl
theorem slot_rs {i n m : Nat} {s : LS} {t : St} (h : SS F s t) {k : O → KR α} {r : R α} (hk : ∀ o, t[i]? = some (some o) → RS F (k o) r) : RS F (opt (nth i s) (.bad n) fun x => lcase x (.bad m) k) r := by
  refine opt_rs fun x e => ?_
  rw [nth_eq] at e
  obtain ⟨y, e2, q⟩ := h.get e
  cases q with
  | no => exact trivial
  | o => exact hk _ e2
  | tk _ => exact trivial
theorem ocase_rs {o : O} {f : D → KR α} {g : List O → KR α} {z : KR α} {r : R α} (h1 : ∀ d, o = .fz d → RS F (f d) r) (h2 : ∀ l, o = .lst l → RS F (g l) r) (h3 : (∀ d, o ≠ .fz d) → RS F z r) : RS F (ocase o f g z) r := by
  rw [ocase_eq]
  split
  · exact h1 _ rfl
  · exact h2 _ rfl
  · rename_i q _
    exact h3 fun d e => q d e
theorem rdS_ok {i : Nat} {s : LS} {t : St} (h : SS F s t) : RS F (rdS i s) (rdLoc i t) := by
  refine slot_rs h fun o e => ?_
  unfold rdLoc
  rw [e]
  refine ocase_rs (fun d e => ?_) (fun l e => ?_) fun q => ?_
  · subst e
    exact .ok h
  · subst e
    rw [frzL_eq, setK_eq]
    show RS F _ (.ok (O.toD (.lst l)) (t.set i (some (.fz (O.toD (.lst l))))))
    have : O.toD (.lst l) = .lst (O.toDs l) := by unfold O.toD; rfl
    rw [this]
    exact .ok (h.set .o i)
  · rw [setK_eq]
    split
    · rename_i d e
      cases e
      exact (q d rfl).elim
    · rename_i o' hne e
      cases e
      exact .ok (h.set .o i)
    · rename_i hn1 hn2
      exact (hn2 o rfl).elim
theorem pkS_ok {i : Nat} {s : LS} {t : St} (h : SS F s t) : RS F (pkS i s) (pkLoc i t) := by
  refine slot_rs h fun o e => ?_
  unfold pkLoc
  rw [e]
  refine ocase_rs (fun d e => ?_) (fun l e => ?_) fun q => ?_
  · subst e
    exact .ok h
  · subst e
    rw [frzL_eq, mapK_eq, setK_eq]
    show RS F _ (.ok (O.toD (.lst l)) (t.set i (some (O.parts (.lst l)))))
    have : O.toD (.lst l) = .lst (O.toDs l) := by unfold O.toD; rfl
    rw [this]
    exact .ok (h.set .o i)
  · rw [setK_eq]
    split
    · rename_i d e
      cases e
      exact (q d rfl).elim
    · rename_i o' hne e
      cases e
      exact .ok (h.set .o i)
    · rename_i hn1 hn2
      exact (hn2 o rfl).elim
theorem hasS_ok {i : Nat} {s : LS} {t : St} (h : SS F s t) (e : hasS i s = true) : ∃ o, t[i]? = some (some o) := by
  unfold hasS at e
  rw [nth_eq] at e
  cases e2 : s[i]? with
  | none => rw [e2] at e; cases e
  | some x =>
    rw [e2] at e
    obtain ⟨y, e3, q⟩ := h.get e2
    cases q with
    | no => cases e
    | o => exact ⟨_, e3⟩
    | tk _ => cases e
theorem stS_ok {C : Cfg} {i : Nat} {o : O} {s : LS} {t : St} (hio : C.io.contains i = false) (h : SS F s t) : RS F (stS i o s) (stLoc C i o t) := by
  unfold stS stLoc
  rw [setZ_eq, hio, h.len]
  show RS F _ (if i < t.length then .ok () (t.set i (some o)) else .bad 3)
  split
  · exact .ok (h.set .o i)
  · exact trivial
theorem wipe_ok {l : List Nat} : ∀ {s : LS} {t : St} (h : SS F s t) {k : LS → KR α} {r : R α}, (∀ s', SS F s' (wipeO l t) → RS F (k s') r) → RS F (wipeK l s k) r := by
  induction l with
  | nil => intro s t h k r hk; exact hk s h
  | cons i l ih =>
    intro s t h k r hk
    show RS F (wipeK l s fun s => setK i .no s k) r
    refine ih h fun s' h' => ?_
    rw [setK_eq]
    exact hk _ (h'.set .no i)
theorem ownS_ok {i n : Nat} {s : LS} {t : St} (h : SS F s t) {k : List O → KR α} {r : R α} (hk : ∀ l, t[i]? = some (some (.lst l)) → RS F (k l) r) : RS F (ownS i s (.bad n) k) r := by
  refine slot_rs h fun o e => ?_
  refine ocase_rs (fun _ _ => trivial) (fun l e2 => ?_) fun _ => trivial
  subst e2
  exact hk l e
/-! ### targets -/
mutual
theorem cT_ok {C : Cfg} {io : List Nat} (hio : C.io = io) : ∀ (T : VI.T) (d : D) (s : LS) (t : St), SS F s t → RS F ((cT io T).run d s) (asgT C T d t)
  | .name i, d, s, t, h => by
    unfold cT
    cases e : io.contains i with
    | true => exact trivial
    | false =>
      show RS F (stS i (.fz d) s) (asgT C (.name i) d t)
      unfold asgT
      exact stS_ok (by rw [hio]; exact e) h
  | .tup ts, d, s, t, h => by
    unfold cT
    show RS F (onSeq d (fun ds => (cTs io ts).run ds s) (fun _ => .bad 5) (.bad 5)) _
    rw [onSeq_eq]
    split
    · rename_i ds
      unfold asgT
      exact cTs_ok hio ts ds s t h
    · exact trivial
    · exact trivial
  | .sub _, d, s, t, h => by unfold cT; exact trivial
  | .attr _ _, d, s, t, h => by unfold cT; exact trivial
theorem cTs_ok {C : Cfg} {io : List Nat} (hio : C.io = io) : ∀ (ts : List VI.T) (ds : List D) (s : LS) (t : St), SS F s t → RS F ((cTs io ts).run ds s) (asgTs C ts ds t)
  | [], [], s, t, h => by
    unfold cTs asgTs
    exact .ok h
  | [], _ :: _, s, t, h => by unfold cTs; exact trivial
  | _ :: _, [], s, t, h => by unfold cTs; exact trivial
  | T :: ts, d :: ds, s, t, h => by
    unfold cTs asgTs
    show RS F (kb ((cT io T).run d s) fun _ s => (cTs io ts).run ds s) _
    have q := cT_ok hio T d s t h
    cases e1 : (cT io T).run d s with
    | bad n => exact trivial
    | ok a s' =>
      rw [e1] at q
      obtain ⟨t', e2, q⟩ := q
      rw [e2]
      exact cTs_ok hio ts ds s' t' q
    | ex c p s' =>
      rw [e1] at q
      obtain ⟨t', e2, q⟩ := q
      rw [e2]
      exact .ex q
end
end
end VI.Kn
end

section
set_option Elab.async false
set_option linter.all false
set_option maxRecDepth 100000
set_option maxHeartbeats 4000000
/-! VIs2: expressions. -/
namespace VI.Kn
open PySem VI

structure Cok (F : List (Nat × Nat) → O → Prop) (K : KC) (C : Cfg) (lr : Lr) : Prop where
  glob : C.glob = K.glob
  io : C.io = K.io
  lrs : match lr with
    | none => C.lamr = none
    | some r => ∃ r', C.lamr = some r' ∧ CS F r r'
  call : lr = none → ∀ f os os', SS F os (os'.map some) → CS F ((K.call f).run none os) (C.call f os')
  len : ∀ f os o ps, C.call f os = .ok o ps → ps.length = os.length
  lenx : ∀ f os c p ps, C.call f os = .ex c p ps → ps.length = os.length
  lamc : lr = none → ∀ r r' g, CS F r r' → CS F ((K.call g).run (some r) [.o (.fz .lam)]) (C.lamc r' g)
structure FOk (F : List (Nat × Nat) → O → Prop) (lr : Lr) (f : KF) (C : Cfg) (n : Nat) : Prop where
  e : ∀ e, Sm F lr (f.e e) (evE C n e)
  d : ∀ e, Sm F lr (f.d e) (evD C n e)
  p : ∀ e, Sm F lr (f.p e) (evP C n e)
  q : ∀ e, Sm F lr (f.q e) (evQ C n e)
  part : ∀ e, Sm F lr (f.part e) (evPart C n e)
  c : ∀ e, Sm F lr (f.c e) (evC C n e)
section
variable {F : List (Nat × Nat) → O → Prop} {lr : Lr} {K : KC} {C : Cfg}
theorem FOk.zero {n : Nat} : FOk F lr KF0 C n := ⟨fun _ _ _ _ => trivial, fun _ _ _ _ => trivial, fun _ _ _ _ => trivial, fun _ _ _ _ => trivial, fun _ _ _ _ => trivial, fun _ _ _ _ => trivial⟩
/-! ### lists of expressions -/
theorem cDs_ok {f : E → Kx D} {g : E → St → R D} (h : ∀ e, Sm F lr (f e) (g e)) : ∀ l : List E, Sm F lr (cDs f l) (evDs g l)
  | [], s, t, q => .ok q
  | e :: l, s, t, q => by
    show RS F (kb ((f e).run lr s) fun d s => kb ((cDs f l).run lr s) fun ds s => .ok (d :: ds) s) ((g e t).bind fun d s => (evDs g l s).bind fun ds s => .ok (d :: ds) s)
    exact (h e s t q).bind fun d s t q => (cDs_ok h l s t q).bind fun ds s t q => .ok q
theorem cSpl_ok {f : E → Kx D} {g : E → St → R D} (h : ∀ e, Sm F lr (f e) (g e)) : ∀ l : List (Bool × E), Sm F lr (cSpl f l) (evSpl g l)
  | [], s, t, q => .ok q
  | (b, e) :: l, s, t, q => by
    cases b with
    | false =>
      show RS F (kb ((f e).run lr s) fun d s => kb ((cSpl f l).run lr s) fun ds s => .ok (d :: ds) s) ((g e t).bind fun d s => (evSpl g l s).bind fun ds s => .ok (d :: ds) s)
      exact (h e s t q).bind fun d s t q => (cSpl_ok h l s t q).bind fun ds s t q => .ok q
    | true =>
      show RS F (kb ((f e).run lr s) fun d s => onSeq d (fun xs => kb ((cSpl f l).run lr s) fun ds s => app xs ds fun r => .ok r s) (fun xs => kb ((cSpl f l).run lr s) fun ds s => app xs ds fun r => .ok r s) (.bad 4)) ((g e t).bind fun d s => (match seqOf d with
        | some xs => (evSpl g l s).bind fun ds s => .ok (xs ++ ds) s
        | none => .bad 4))
      refine (h e s t q).bind fun d s t q => ?_
      rw [onSeq_eq]
      split
      · exact (cSpl_ok h l s t q).bind fun ds s t q => by rw [app_eq]; exact .ok q
      · exact (cSpl_ok h l s t q).bind fun ds s t q => by rw [app_eq]; exact .ok q
      · exact trivial
theorem cKvs_ok {f : E → Kx D} {g : E → St → R D} (h : ∀ e, Sm F lr (f e) (g e)) : ∀ l : List (E × E), Sm F lr (cKvs f l) (evKvs g l)
  | [], s, t, q => .ok q
  | (a, b) :: l, s, t, q => by
    show RS F (kb ((f a).run lr s) fun x s => kb ((f b).run lr s) fun y s => kb ((cKvs f l).run lr s) fun r s => .ok ((x, y) :: r) s) ((g a t).bind fun x s => (g b s).bind fun y s => (evKvs g l s).bind fun r s => .ok ((x, y) :: r) s)
    exact (h a s t q).bind fun x s t q => (h b s t q).bind fun y s t q => (cKvs_ok h l s t q).bind fun r s t q => .ok q
theorem cAndV_ok {f : E → Kx D} {g : E → St → R D} (h : ∀ e, Sm F lr (f e) (g e)) : ∀ l : List E, Sm F lr (cAndV f l) (andV g l)
  | [], s, t, q => trivial
  | [e], s, t, q => h e s t q
  | e :: e2 :: l, s, t, q => by
    show RS F (kb ((f e).run lr s) fun d s => kb (kofO (truK d) 14 s) fun b s => @Bool.rec (fun _ => _) (.ok d s) ((cAndV f (e2 :: l)).run lr s) b) ((g e t).bind fun d s => (ofO (truthD d) 14 s).bind fun b s => if b then andV g (e2 :: l) s else .ok d s)
    refine (h e s t q).bind fun d s t q => (RS.of q fun a z => by rw [← truK_eq]; exact z).bind fun b s t q => .ifb (fun _ => ?_) fun _ => .ok q
    exact cAndV_ok h (e2 :: l) s t q
theorem cOrV_ok {f : E → Kx D} {g : E → St → R D} (h : ∀ e, Sm F lr (f e) (g e)) : ∀ l : List E, Sm F lr (cOrV f l) (orV g l)
  | [], s, t, q => trivial
  | [e], s, t, q => h e s t q
  | e :: e2 :: l, s, t, q => by
    show RS F (kb ((f e).run lr s) fun d s => kb (kofO (truK d) 14 s) fun b s => @Bool.rec (fun _ => _) ((cOrV f (e2 :: l)).run lr s) (.ok d s) b) ((g e t).bind fun d s => (ofO (truthD d) 14 s).bind fun b s => if b then .ok d s else orV g (e2 :: l) s)
    refine (h e s t q).bind fun d s t q => (RS.of q fun a z => by rw [← truK_eq]; exact z).bind fun b s t q => .ifb (fun _ => .ok q) fun _ => ?_
    exact cOrV_ok h (e2 :: l) s t q
theorem cAndC_ok {f : E → Kx Bool} {g : E → St → R Bool} (h : ∀ e, Sm F lr (f e) (g e)) : ∀ l : List E, Sm F lr (cAndC f l) (andC g l)
  | [], s, t, q => trivial
  | [e], s, t, q => h e s t q
  | e :: e2 :: l, s, t, q => by
    show RS F (kb ((f e).run lr s) fun b s => @Bool.rec (fun _ => _) (.ok false s) ((cAndC f (e2 :: l)).run lr s) b) ((g e t).bind fun b s => if b then andC g (e2 :: l) s else .ok false s)
    refine (h e s t q).bind fun b s t q => .ifb (fun _ => ?_) fun _ => .ok q
    exact cAndC_ok h (e2 :: l) s t q
theorem cOrC_ok {f : E → Kx Bool} {g : E → St → R Bool} (h : ∀ e, Sm F lr (f e) (g e)) : ∀ l : List E, Sm F lr (cOrC f l) (orC g l)
  | [], s, t, q => trivial
  | [e], s, t, q => h e s t q
  | e :: e2 :: l, s, t, q => by
    show RS F (kb ((f e).run lr s) fun b s => @Bool.rec (fun _ => _) ((cOrC f (e2 :: l)).run lr s) (.ok true s) b) ((g e t).bind fun b s => if b then .ok true s else orC g (e2 :: l) s)
    refine (h e s t q).bind fun b s t q => .ifb (fun _ => .ok q) fun _ => ?_
    exact cOrC_ok h (e2 :: l) s t q
theorem cTests_ok {f : E → Kx Bool} {g : E → St → R Bool} (h : ∀ e, Sm F lr (f e) (g e)) : ∀ l : List E, Sm F lr (cTests f l) (evTests g l)
  | [], s, t, q => .ok q
  | e :: l, s, t, q => by
    show RS F (kb ((f e).run lr s) fun b s => @Bool.rec (fun _ => _) (.ok false s) ((cTests f l).run lr s) b) ((g e t).bind fun b s => if b then evTests g l s else .ok false s)
    exact (h e s t q).bind fun b s t q => .ifb (fun _ => cTests_ok h l s t q) fun _ => .ok q
theorem blO_ok {b : Bool} {s : LS} {t : St} (h : SS F s t) : RS F (blO b s) (.ok (.fz (.bl b)) t) := by cases b <;> exact .ok h
theorem qdS_ok {q : Sum Nat D} {s : LS} {t : St} (h : SS F s t) : RS F (qdS q s) (evQd q t) := by
  cases q with
  | inl i => exact pkS_ok h
  | inr d => exact .ok h
/-! ### comprehensions -/
theorem noEx_ok {α : Type} {r : KR α} {r' : R α} (h : RS F r r') : RS F (noEx r) r'.noex := by
  cases r with
  | bad n => exact trivial
  | ok a s =>
    obtain ⟨t, rfl, q⟩ := h
    exact .ok q
  | ex c p s => exact trivial
theorem lcK_ok {f : D → LS → (LS → KR (List O)) → KR (List O)} {g : D → St → R (List O)} (h : ∀ d s t, SS F s t → ∀ (k : LS → KR (List O)) (k' : St → R (List O)), (∀ s t, SS F s t → RS F (k s) (k' t)) → RS F (f d s k) ((g d t).bind fun os t => (k' t).bind fun r t => .ok (os ++ r) t)) : ∀ (l : List D) (s : LS) (t : St), SS F s t → RS F (lcK f l s) (lcLoop g l t)
  | [], s, t, q => .ok q
  | d :: l, s, t, q => h d s t q (lcK f l) (lcLoop g l) fun s t q => lcK_ok h l s t q
theorem lcEnd_ok {own : List Nat} {r : KR (List O)} {r' : R (List O)} (h : RS F r r') : RS F (lcEnd own r) (r'.noex.bind fun os s => if os.length ≤ LIM then .ok (.lst os) (wipeO own s) else .bad 28) := by
  refine (noEx_ok h).bind fun os s t q => ?_
  rw [ble_if, len_eq]
  split
  · exact wipe_ok q fun s q => .ok q
  · exact trivial
theorem bind_ok {α β γ : Type} {r : R α} {f : α → St → R β} {g : β → St → R γ} : (r.bind f).bind g = r.bind fun a s => (f a s).bind g := by cases r <;> rfl
theorem lcOne_ok {T : KT} {T' : D → St → R Unit} {W : Kx Bool} {W' : St → R Bool} {w : List Nat} {body : LS → (LS → KR (List O)) → KR (List O)} {body' : St → R (List O)} (hT : ∀ d s t, SS F s t → RS F (T.run d s) (T' d t)) (hW : Sm F lr W W')
    (hb : ∀ s t, SS F s t → ∀ (k : LS → KR (List O)) (k' : St → R (List O)), (∀ s t, SS F s t → RS F (k s) (k' t)) → RS F (body s k) ((body' t).bind fun os t => (k' t).bind fun r t => .ok (os ++ r) t)) :
    ∀ d s t, SS F s t → ∀ (k : LS → KR (List O)) (k' : St → R (List O)), (∀ s t, SS F s t → RS F (k s) (k' t)) → RS F (lcOne T W lr w body d s k) (((T' d (wipeO w t)).bind fun _ s => (W' s).bind fun b s => if b then body' s else .ok [] s).bind fun os t => (k' t).bind fun r t => .ok (os ++ r) t) := by
  intro d s t q k k' hk
  refine wipe_ok q fun s q => ?_
  rw [bind_ok]
  refine (hT d s _ q).bind fun _ s t q => ?_
  rw [bind_ok]
  refine (hW s t q).bind fun b s t q => ?_
  cases b with
  | true => exact hb s t q k k' hk
  | false =>
    show RS F (k s) ((R.ok [] t).bind _)
    have : ((R.ok ([] : List O) t).bind fun os t => (k' t).bind fun r t => .ok (os ++ r) t) = k' t := by
      show (k' t).bind (fun r t => .ok ([] ++ r) t) = k' t
      cases k' t <;> rfl
    rw [this]
    exact hk s t q
theorem lcBody_ok {A : Kx O} {A' : St → R O} (h : Sm F lr A A') : ∀ s t, SS F s t → ∀ (k : LS → KR (List O)) (k' : St → R (List O)), (∀ s t, SS F s t → RS F (k s) (k' t)) → RS F (lcBody A lr s k) (((A' t).bind fun o s => .ok [o] s).bind fun os t => (k' t).bind fun r t => .ok (os ++ r) t) := by
  intro s t q k k' hk
  rw [bind_ok]
  exact (h s t q).bind fun o s t q => (hk s t q).bind fun r s t q => .ok q
theorem dcK_ok {f : D → List (D × D) → LS → KR (List (D × D))} {g : D → List (D × D) → St → R (List (D × D))} (h : ∀ d a s t, SS F s t → RS F (f d a s) (g d a t)) : ∀ (l : List D) (a : List (D × D)) (s : LS) (t : St), SS F s t → RS F (dcK f l a s) (dcLoop g l a t)
  | [], a, s, t, q => .ok q
  | d :: l, a, s, t, q => (h d a s t q).bind fun a s t q => dcK_ok h l a s t q
/-! ### calls -/
theorem opt_lr {lr : Lr} {α : Type} {a : KR α} {b : LCR → KR α} {r : R α} (h1 : lr = none → RS F a r) (h2 : ∀ x, lr = some x → RS F (b x) r) : RS F (opt lr a b) r := by
  cases lr with
  | none => exact h1 rfl
  | some x => exact h2 x rfl
theorem evArgs_none {g : E → St → R D} : ∀ (j : Nat) (as : List E) (t : St), evArgs g [] j as t = (evDs g as t).bind fun ds s => .ok (ds.map fun d => (none, d)) s
  | j, [], t => rfl
  | j, e :: l, t => by
    show (g e t).bind (fun d s => (evArgs g [] (j + 1) l s).bind fun r s => .ok ((none, d) :: r) s) = ((g e t).bind fun d s => (evDs g l s).bind fun ds s => .ok (d :: ds) s).bind _
    rw [bind_ok]
    cases g e t with
    | ok d s =>
      show (evArgs g [] (j + 1) l s).bind _ = ((evDs g l s).bind _).bind _
      rw [evArgs_none (j + 1) l s, bind_ok, bind_ok]
      rfl
    | ex c p s => rfl
    | bad n => rfl
theorem argOs_none : ∀ (ds : List D) (t : St), argOs (ds.map fun d => (none, d)) t = some (ds.map O.fz, t)
  | [], t => rfl
  | d :: l, t => by
    show (match argOs (l.map fun d => (none, d)) t with
      | some (os, s1) => some (O.fz d :: os, s1)
      | none => none) = _
    rw [argOs_none l t]
    rfl
theorem argBack_none : ∀ (ds : List D) (ps : List (Option O)) (t : St), ps.length = ds.length → argBack (ds.map fun d => (none, d)) ps t = some t
  | [], ps, t, h => by cases ps <;> rfl
  | d :: l, [], t, h => by cases h
  | d :: l, p :: ps, t, h => argBack_none l ps t (by simpa using h)
theorem call0_ok (ok : Cok F K C lr) {f : E → Kx D} {g : E → St → R D} (h : ∀ e, Sm F lr (f e) (g e)) {n : Nat} {as : List E} : Sm F lr (xCall0 (K.call n) (cDs f as)) (fun t => (evArgs g [] 0 as t).bind fun as s => doCall C n as s) := by
  intro s t q
  refine opt_lr (fun e0 => ?_) fun _ _ => trivial
  show RS F _ ((evArgs g [] 0 as t).bind fun as s => doCall C n as s)
  rw [evArgs_none, bind_ok]
  refine (cDs_ok h as s t q).bind fun ds s t q => ?_
  show RS F _ (doCall C n (ds.map fun d => (none, d)) t)
  rw [mapK_eq]
  unfold doCall
  rw [argOs_none]
  have c := ok.call e0 n (ds.map fun d => L.o (.fz d)) (ds.map O.fz) (SS.fzs ds)
  cases e : (K.call n).run none (ds.map fun d => L.o (.fz d)) with
  | bad n => exact trivial
  | ok o ps =>
    rw [e] at c
    obtain ⟨ps', e2, _⟩ := c
    show RS F (.ok o s) (match C.call n (ds.map O.fz) with
      | .ok o ps => _
      | .ex c p ps => _
      | .bad n => _)
    rw [e2]
    show RS F (.ok o s) (match argBack (ds.map fun d => (none, d)) ps' t with
      | some s2 => R.ok o s2
      | none => .bad 9)
    rw [argBack_none ds ps' t (by rw [ok.len n _ o ps' e2, List.length_map])]
    exact .ok q
  | ex c' p ps =>
    rw [e] at c
    obtain ⟨ps', e2, _⟩ := c
    show RS F (.ex c' p s) (match C.call n (ds.map O.fz) with
      | .ok o ps => _
      | .ex c p ps => _
      | .bad n => _)
    rw [e2]
    show RS F (.ex c' p s) (match argBack (ds.map fun d => (none, d)) ps' t with
      | some s2 => R.ex c' p s2
      | none => .bad 9)
    rw [argBack_none ds ps' t (by rw [ok.lenx n _ c' p ps' e2, List.length_map])]
    exact .ex q
theorem cArgs_ok {f : E → Kx D} {g : E → St → R D} {io : List Nat} (h : ∀ e, Sm F lr (f e) (g e)) : ∀ (l : List E) (j : Nat), Sm F lr (cArgs f io j l) (evArgs g io j l)
  | [], j, s, t, q => .ok q
  | e :: l, j, s, t, q => by
    unfold cArgs evArgs
    by_cases hj : io.contains j = true
    · rw [if_pos hj, if_pos hj]
      cases e with
      | loc i =>
        refine opt_rs fun x hx => ?_
        rw [nth_eq] at hx
        obtain ⟨y, e2, r⟩ := q.get hx
        cases r with
        | no => exact trivial
        | o =>
          show RS F (kb ((cArgs f io (j + 1) l).run lr s) fun r s => .ok ((some i, .non) :: r) s) (match t[i]? with
            | some (some _) => (evArgs g io (j + 1) l t).bind fun r s => .ok ((some i, .non) :: r) s
            | _ => .bad 8)
          rw [e2]
          exact (cArgs_ok h l (j + 1) s t q).bind fun r s t q => .ok q
        | tk _ =>
          show RS F (kb ((cArgs f io (j + 1) l).run lr s) fun r s => .ok ((some i, .non) :: r) s) (match t[i]? with
            | some (some _) => (evArgs g io (j + 1) l t).bind fun r s => .ok ((some i, .non) :: r) s
            | _ => .bad 8)
          rw [e2]
          exact (cArgs_ok h l (j + 1) s t q).bind fun r s t q => .ok q
      | _ => exact trivial
    · rw [if_neg hj, if_neg hj]
      exact (h e s t q).bind fun d s t q => (cArgs_ok h l (j + 1) s t q).bind fun r s t q => .ok q
theorem argK_ok {α : Type} {n : Nat} : ∀ (l : KAs) (s : LS) (t : St), SS F s t → ∀ (k : LS → LS → KR α) (r : R α), (∀ os s os' t', SS F os (os'.map some) → SS F s t' → argOs l t = some (os', t') → os'.length = l.length → RS F (k os s) r) → RS F (argK l s (.bad n) k) r
  | [], s, t, q, k, r, hk => hk [] s [] t .nil q rfl rfl
  | (none, d) :: l, s, t, q, k, r, hk => by
    show RS F (argK l s (.bad n) fun os s => k (.o (.fz d) :: os) s) r
    refine argK_ok l s t q _ r fun os s os' t' h1 h2 h3 h4 => hk (.o (.fz d) :: os) s (.fz d :: os') t' (.cons .o h1) h2 ?_ (by simp [h4])
    show (match argOs l t with
      | some (os, s1) => some (O.fz d :: os, s1)
      | none => none) = _
    rw [h3]
  | (some i, d) :: l, s, t, q, k, r, hk => by
    show RS F (opt (nth i s) (.bad n) fun x => @L.rec (fun _ => KR α) (.bad n) (fun o => setK i .no s fun s => argK l s (.bad n) fun os s => k (.o o :: os) s) (fun t => setK i .no s fun s => argK l s (.bad n) fun os s => k (.tk t :: os) s) x) r
    refine opt_rs fun x hx => ?_
    rw [nth_eq] at hx
    obtain ⟨y, e2, u⟩ := q.get hx
    have key : ∀ {x : L} {o : O}, SR F x (some o) → t[i]? = some (some o) → RS F (argK l (s.set i .no) (.bad n) fun os s => k (x :: os) s) r := fun {x o} u e2 => by
      refine argK_ok l (s.set i .no) (t.set i none) (q.set .no i) _ r fun os s os' t' h1 h2 h3 h4 => hk (x :: os) s (o :: os') t' (.cons u h1) h2 ?_ (by simp [h4])
      show (match t[i]? with
        | some (some o) => (match argOs l (t.set i none) with
          | some (os, s1) => some (o :: os, s1)
          | none => none)
        | _ => none) = _
      rw [e2]
      show (match argOs l (t.set i none) with
          | some (os, s1) => some (o :: os, s1)
          | none => none) = _
      rw [h3]
    cases u with
    | no => exact trivial
    | o =>
      show RS F (setK i .no s _) r
      rw [setK_eq]
      exact key .o e2
    | tk ht =>
      show RS F (setK i .no s _) r
      rw [setK_eq]
      exact key (.tk ht) e2
theorem bakK_ok {α : Type} {n : Nat} : ∀ (l : KAs) (ps : LS) (ps' : List (Option O)) (s : LS) (t : St), SS F ps ps' → SS F s t → ∀ (k : LS → KR α) (r : R α), (∀ s t', SS F s t' → argBack l ps' t = some t' → RS F (k s) r) → RS F (bakK l ps s (.bad n) k) r
  | [], ps, ps', s, t, u, q, k, r, hk => hk s t q (by cases ps' <;> rfl)
  | _ :: _, [], _, s, t, u, q, k, r, hk => trivial
  | (none, d) :: l, x :: ps, _, s, t, .cons (y := y) (t := ps') u1 u, q, k, r, hk => by
    show RS F (bakK l ps s (.bad n) k) r
    exact bakK_ok l ps ps' s t u q k r fun s t' h1 h2 => hk s t' h1 h2
  | (some i, d) :: l, x :: ps, _, s, t, .cons (y := y) (t := ps') u1 u, q, k, r, hk => by
    have key : ∀ {x : L} {o : O}, SR F x (some o) → y = some o → RS F (setZ i x s (.bad n) fun s => bakK l ps s (.bad n) k) r := fun {x o} v ey => by
      rw [setZ_eq]
      split
      · rename_i hi
        refine bakK_ok l ps ps' _ (t.set i (some o)) u (q.set v i) k r fun s t' h1 h2 => hk s t' h1 ?_
        rw [ey]
        show (if i < t.length then argBack l ps' (t.set i (some o)) else none) = _
        rw [if_pos (by rw [← q.len]; exact hi)]
        exact h2
      · exact trivial
    cases u1 with
    | no => exact trivial
    | o => exact key .o rfl
    | tk ht => exact key (.tk ht) rfl
theorem call_ok (ok : Cok F K C lr) {n : Nat} {A : Kx KAs} {a : St → R KAs} (hA : Sm F lr A a) : Sm F lr (xCall (K.call n) A) (fun t => (a t).bind fun as s => doCall C n as s) := by
  intro s t q
  refine opt_lr (fun e0 => ?_) fun _ _ => trivial
  refine (hA s t q).bind fun as s t q => ?_
  refine argK_ok as s t q _ _ fun os s os' t' h1 h2 h3 h4 => ?_
  unfold doCall
  rw [h3]
  have c := ok.call e0 n os os' h1
  cases e : (K.call n).run none os with
  | bad n => exact trivial
  | ok o ps =>
    rw [e] at c
    obtain ⟨ps', e2, u⟩ := c
    show RS F (bakK as ps s (.bad 9) fun s => .ok o s) (match C.call n os' with
      | .ok o ps => (match argBack as ps t' with
        | some s2 => .ok o s2
        | none => .bad 9)
      | .ex c p ps => (match argBack as ps t' with
        | some s2 => .ex c p s2
        | none => .bad 9)
      | .bad n => .bad n)
    rw [e2]
    refine bakK_ok as ps ps' s t' u h2 _ _ fun s t2 h5 h6 => ?_
    show RS F _ (match argBack as ps' t' with
        | some s2 => .ok o s2
        | none => .bad 9)
    rw [h6]
    exact .ok h5
  | ex c' p ps =>
    rw [e] at c
    obtain ⟨ps', e2, u⟩ := c
    show RS F (bakK as ps s (.bad 9) fun s => .ex c' p s) (match C.call n os' with
      | .ok o ps => (match argBack as ps t' with
        | some s2 => .ok o s2
        | none => .bad 9)
      | .ex c p ps => (match argBack as ps t' with
        | some s2 => .ex c p s2
        | none => .bad 9)
      | .bad n => .bad n)
    rw [e2]
    refine bakK_ok as ps ps' s t' u h2 _ _ fun s t2 h5 h6 => ?_
    show RS F _ (match argBack as ps' t' with
        | some s2 => .ex c' p s2
        | none => .bad 9)
    rw [h6]
    exact .ex h5
theorem cCall_ok (ok : Cok F K C lr) {f : E → Kx D} {g : E → St → R D} (h : ∀ e, Sm F lr (f e) (g e)) (as : List E) (n : Nat) : Sm F lr (cCall K f as n) (fun s => match C.glob n with
    | some (.fn fd) => if as.length = fd.np then (evArgs g fd.io 0 as s).bind fun as s => doCall C n as s else .bad 31
    | _ => .bad 31) := by
  intro s t q
  show RS F ((cCall K f as n).run lr s) (match C.glob n with
    | some (.fn fd) => if as.length = fd.np then (evArgs g fd.io 0 as t).bind fun as s => doCall C n as s else .bad 31
    | _ => .bad 31)
  unfold cCall
  rw [ok.glob]
  cases e : K.glob n with
  | none => exact trivial
  | some G => cases G with
    | fn fd =>
      by_cases hn : as.length = fd.np
      · simp only [hn, if_true]
        by_cases hi : fd.io = []
        · simp only [hi, if_true]
          exact call0_ok ok h s t q
        · simp only [hi, if_false]
          exact call_ok ok (cArgs_ok h as 0) s t q
      · simp only [hn, if_false]
        exact trivial
    | _ => exact trivial
end
end VI.Kn
end

section
set_option Elab.async false
set_option linter.all false
set_option maxRecDepth 100000
set_option maxHeartbeats 4000000
/-! VIs3: every expression. -/
namespace VI.Kn
open PySem VI

section
variable {F : List (Nat × Nat) → O → Prop} {lr : Lr} {K : KC} {C : Cfg} {n : Nat} {f : KF}
theorem tru_of {d : D} {b : Bool} (h : truK d = some b) : truthD d = some b := by rw [← truK_eq]; exact h
theorem fnV_ok (e : E) : Sm F lr (cFnV e) (fnV e) := by
  intro s t q
  cases e <;> first
    | exact RS.ok q
    | exact rdS_ok q
    | exact trivial
theorem app1_ok (ok : FOk F lr f C n) (i : Nat) (e : E) : Sm F lr (xApp i (f.e e)) (evE C (n + 1) (.mut .append i [e])) := by
  intro s t q
  show RS F (ownS i s (.bad 37) fun _ => kb ((f.e e).run lr s) fun o s => ownS i s (.bad 37) fun l => @Bool.rec (fun _ => _) (.bad 36) (app l [o] fun l => setK i (.o (.lst l)) s fun s => KR.ok (O.fz .non) s) (Nat.ble (Nat.succ (len l)) LIM)) _
  refine ownS_ok q fun l0 e0 => ?_
  show RS F _ (match t[i]? with
    | some (some (.lst _)) => (evE C n e t).bind fun o s => (match s[i]? with
        | some (some (.lst l)) => if l.length < LIM then R.ok (O.fz .non) (s.set i (some (.lst (l ++ [o])))) else .bad 36
        | _ => .bad 37)
    | _ => .bad 37)
  rw [e0]
  refine (ok.e e s t q).bind fun o s t q => ?_
  refine ownS_ok q fun l e1 => ?_
  rw [e1, ble_if, app_eq, setK_eq, len_eq]
  show RS F _ (if l.length < LIM then R.ok (O.fz .non) (t.set i (some (.lst (l ++ [o])))) else .bad 36)
  by_cases hl : l.length < LIM
  · rw [if_pos (show Nat.succ l.length ≤ LIM from hl), if_pos hl]
    exact .ok (q.set .o i)
  · rw [if_neg (show ¬ Nat.succ l.length ≤ LIM from hl)]
    exact trivial
theorem ext_ok (ok : FOk F lr f C n) (i : Nat) (e : E) : Sm F lr (xExt i (f.d e)) (evE C (n + 1) (.mut .extend i [e])) := by
  intro s t q
  show RS F (ownS i s (.bad 37) fun _ => kb ((f.d e).run lr s) fun d s => onSeq d (fun _ => .bad 37) (fun ds => ownS i s (.bad 37) fun l => @Bool.rec (fun _ => _) (.bad 36) (mapK O.fz ds fun ds => app l ds fun l => setK i (.o (.lst l)) s fun s => KR.ok (O.fz .non) s) (Nat.ble (Nat.succ (Nat.add (len l) (len ds))) LIM)) (.bad 37)) _
  refine ownS_ok q fun l0 e0 => ?_
  show RS F _ (match t[i]? with
    | some (some (.lst _)) => (evD C n e t).bind fun d s => (match d, s[i]? with
        | .lst ds, some (some (.lst l)) => if l.length + ds.length < LIM then R.ok (O.fz .non) (s.set i (some (.lst (l ++ ds.map .fz)))) else .bad 36
        | _, _ => .bad 37)
    | _ => .bad 37)
  rw [e0]
  refine (ok.d e s t q).bind fun d s t q => ?_
  cases d with
  | lst ds =>
    refine ownS_ok q fun l e1 => ?_
    rw [e1, ble_if, mapK_eq, app_eq, setK_eq, len_eq, len_eq]
    show RS F _ (if l.length + ds.length < LIM then R.ok (O.fz .non) (t.set i (some (.lst (l ++ ds.map .fz)))) else .bad 36)
    by_cases hl : l.length + ds.length < LIM
    · rw [if_pos (show Nat.succ (Nat.add l.length ds.length) ≤ LIM from hl), if_pos hl]
      exact .ok (q.set .o i)
    · rw [if_neg (show ¬ Nat.succ (Nat.add l.length ds.length) ≤ LIM from hl)]
      exact trivial
  | _ => exact trivial
theorem pop0_ok (i : Nat) : Sm F lr (xPop0 i) (evE C (n + 1) (.mut .pop0 i [])) := by
  intro s t q
  show RS F (ownS i s (.bad 37) fun l => opt (l.getLast?) (.bad 38) fun o => frL l.dropLast fun l => setK i (.o (.lst l)) s fun s => .ok o s) _
  refine ownS_ok q fun l e0 => ?_
  show RS F _ (match t[i]? with
    | some (some (.lst _)) => (match t[i]? with
        | some (some (.lst l)) => (match l.getLast? with
          | some o => .ok o (t.set i (some (.lst l.dropLast)))
          | none => .bad 38)
        | _ => .bad 37)
    | _ => .bad 37)
  rw [e0]
  refine opt_rs fun o eo => ?_
  show RS F _ (match l.getLast? with
          | some o => .ok o (t.set i (some (.lst l.dropLast)))
          | none => .bad 38)
  rw [eo, frL_eq, setK_eq]
  exact .ok (q.set .o i)
theorem pop1_ok (ok : FOk F lr f C n) (i : Nat) (e : E) : Sm F lr (xPop1 i (f.d e)) (evE C (n + 1) (.mut .pop1 i [e])) := by
  intro s t q
  show RS F (ownS i s (.bad 37) fun _ => kb ((f.d e).run lr s) fun d s => onInt d (fun k => ownS i s (.bad 37) fun l => @Bool.rec (fun _ => _) (opt (ixN (len l) k) (.bad 38) fun j => opt (nth j l) (.bad 38) fun o => eraK j l fun l => setK i (.o (.lst l)) s fun s => .ok o s) (.bad 36) (Nat.ble LIM (len l))) (.bad 37)) _
  refine ownS_ok q fun l0 e0 => ?_
  show RS F _ (match t[i]? with
    | some (some (.lst _)) => (evD C n e t).bind fun d s => (match d, s[i]? with
        | .int k, some (some (.lst l)) => if LIM ≤ l.length then .bad 36 else (match ixN l.length k with
          | some j => (match l[j]? with
            | some o => .ok o (s.set i (some (.lst (l.eraseIdx j))))
            | none => .bad 38)
          | none => .bad 38)
        | _, _ => .bad 37)
    | _ => .bad 37)
  rw [e0]
  refine (ok.d e s t q).bind fun d s t q => ?_
  cases d with
  | int k =>
    refine ownS_ok q fun l e1 => ?_
    rw [e1, ble_if, len_eq]
    show RS F _ (if LIM ≤ l.length then .bad 36 else (match ixN l.length k with
          | some j => (match l[j]? with
            | some o => .ok o (t.set i (some (.lst (l.eraseIdx j))))
            | none => .bad 38)
          | none => .bad 38))
    by_cases hl : LIM ≤ l.length
    · rw [if_pos hl]
      exact trivial
    · rw [if_neg hl, if_neg hl]
      refine opt_rs fun j ej => opt_rs fun o eo => ?_
      rw [nth_eq] at eo
      rw [ej, eraK_eq, setK_eq]
      show RS F _ (match l[j]? with
            | some o => .ok o (t.set i (some (.lst (l.eraseIdx j))))
            | none => .bad 38)
      rw [eo]
      exact .ok (q.set .o i)
  | _ => exact trivial
theorem cE_ok (ck : Cok F K C lr) (ok : FOk F lr f C n) (e : E) : Sm F lr (cE K f e) (evE C (n + 1) e) := by
  cases e with
  | k d => exact fun s t q => RS.ok q
  | loc i =>
    intro s t q
    show RS F (kb (rdS i s) fun d s => .ok (.fz d) s) (evE C (n + 1) (.loc i) t)
    exact (rdS_ok q).bind fun d s t q => .ok q
  | glob x =>
    intro s t q
    show RS F ((match K.glob x with
      | some (.fn _) => xK (.fn x)
      | some (.val d) => xK d
      | _ => xBad O 20).run lr s) (evE C (n + 1) (.glob x) t)
    show RS F _ (match C.glob x with
      | some (.fn _) => R.ok (O.fz (.fn x)) t
      | some (.val d) => R.ok (O.fz d) t
      | _ => .bad 20)
    rw [ck.glob]
    cases K.glob x with
    | none => exact trivial
    | some G => cases G with
      | fn _ => exact .ok q
      | val d => exact .ok q
      | _ => exact trivial
  | bin op a b =>
    intro s t q
    exact (ok.d a s t q).bind fun x s t q => (ok.d b s t q).bind fun y s t q => .of q fun o h => opK_ok h
  | neg a =>
    intro s t q
    show RS F (kb ((f.d a).run lr s) fun x s => onInt x (fun i => frI (iNeg i) fun j => KR.ok (O.fz (.int j)) s) (.bad 22)) _
    refine (ok.d a s t q).bind fun x s t q => ?_
    rw [onInt_eq]
    split
    · rw [frI_eq, iNeg_eq]
      exact .ok q
    · exact trivial
  | inv a =>
    intro s t q
    show RS F (kb ((f.d a).run lr s) fun x s => onInt x (fun i => KR.ok (O.fz (.int (Builtin.bitNot i))) s) (.bad 22)) _
    refine (ok.d a s t q).bind fun x s t q => ?_
    rw [onInt_eq]
    split
    · exact .ok q
    · exact trivial
  | not a =>
    intro s t q
    refine (ok.p a s t q).bind fun x s t q => (RS.of q fun b h => tru_of h).bind fun b s t q => ?_
    rw [nB_eq]
    exact blO_ok q
  | and l =>
    intro s t q
    exact (cAndV_ok ok.d l s t q).bind fun d s t q => .ok q
  | or l =>
    intro s t q
    exact (cOrV_ok ok.d l s t q).bind fun d s t q => .ok q
  | cmp a l =>
    intro s t q
    match l with
    | [] => exact trivial
    | [(c, b)] =>
        exact (ok.q a s t q).bind fun u s t q => (ok.p b s t q).bind fun y s t q => (qdS_ok q).bind fun x s t q => (RS.of q fun b h => cmK_ok h).bind fun b s t q => blO_ok q
    | [(c, b), (c2, b2)] =>
        exact (ok.d a s t q).bind fun x s t q => (ok.d b s t q).bind fun y s t q => (RS.of q fun b h => cmK_ok h).bind fun b s t q => .ifb (fun _ => (ok.d b2 s t q).bind fun z s t q => (RS.of q fun b h => cmK_ok h).bind fun b s t q => blO_ok q) fun _ => .ok q
    | _ :: _ :: _ :: _ => exact trivial
  | ite c a b =>
    intro s t q
    exact (ok.c c s t q).bind fun b' s t q => .ifb (fun _ => (ok.d a s t q).bind fun d s t q => .ok q) fun _ => (ok.d b s t q).bind fun d s t q => .ok q
  | tup l =>
    intro s t q
    refine (cSpl_ok ok.d l s t q).bind fun ds s t q => ?_
    rw [ble_if, len_eq]
    split
    · exact .ok q
    · exact trivial
  | lst l =>
    intro s t q
    refine (cSpl_ok ok.d l s t q).bind fun ds s t q => ?_
    rw [ble_if, len_eq, mapK_eq]
    split
    · exact .ok q
    · exact trivial
  | dct l =>
    intro s t q
    refine (cKvs_ok ok.d l s t q).bind fun kvs s t q => (RS.of q fun r h => h).bind fun r s t q => ?_
    rw [mapK_eq]
    exact .ok q
  | idx a b =>
    intro s t q
    exact (ok.q a s t q).bind fun u s t q => (ok.d b s t q).bind fun y s t q => (qdS_ok q).bind fun x s t q => (RS.of q fun d h => idxK_ok h).bind fun d s t q => .ok q
  | slc a lo hi =>
    intro s t q
    exact (ok.q a s t q).bind fun u s t q => (ok.part lo s t q).bind fun l s t q => (ok.part hi s t q).bind fun h s t q => (qdS_ok q).bind fun x s t q => RS.of q fun o e => by rw [← slcK_eq]; exact e
  | rev a =>
    intro s t q
    exact (ok.p a s t q).bind fun x s t q => RS.of q fun o e => by rw [← rvK_eq]; exact e
  | lc e own gs =>
    intro s t q
    match gs with
    | [] => exact trivial
    | [(T, it, as, cs)] =>
      refine opt_lr (fun e0 => ?_) fun _ _ => trivial
      have hl : C.lamr = none := by have := ck.lrs; rw [e0] at this; exact this
      show RS F _ (if C.lamr.isSome then R.bad 29 else (evDs (evD C n) as t).bind fun xs s => (ofO (itD it xs) 27 s).bind fun items s =>
        (lcLoop (fun d s => (asgT C T d (wipeO own s)).bind fun _ s => (evTests (evC C n) cs s).bind fun b s => if b then (evE C n e s).bind fun o s => .ok [o] s else .ok [] s) items s).noex.bind fun os s =>
          if os.length ≤ LIM then R.ok (O.lst os) (wipeO own s) else .bad 28)
      rw [hl]
      refine (cDs_ok ok.d as s t q).bind fun xs s t q => (RS.of q fun items h => itK_ok h).bind fun items s t q => ?_
      exact lcEnd_ok (lcK_ok (lcOne_ok (cT_ok ck.io T) (cTests_ok ok.c cs) (lcBody_ok (ok.e e))) items s t q)
    | [(T, it, as, cs), (T2, it2, as2, cs2)] =>
      refine opt_lr (fun e0 => ?_) fun _ _ => trivial
      have hl : C.lamr = none := by have := ck.lrs; rw [e0] at this; exact this
      show RS F _ (if C.lamr.isSome then R.bad 29 else (evDs (evD C n) as t).bind fun xs s => (ofO (itD it xs) 27 s).bind fun items s =>
        (lcLoop (fun d s => (asgT C T d (wipeO own s)).bind fun _ s => (evTests (evC C n) cs s).bind fun b s => if b then
          (evDs (evD C n) as2 s).bind fun xs2 s => (ofO (itD it2 xs2) 27 s).bind fun items2 s =>
            lcLoop (fun d s => (asgT C T2 d (wipeO T2.vars s)).bind fun _ s => (evTests (evC C n) cs2 s).bind fun b s => if b then (evE C n e s).bind fun o s => .ok [o] s else .ok [] s) items2 s
          else .ok [] s) items s).noex.bind fun os s =>
          if os.length ≤ LIM then R.ok (O.lst os) (wipeO own s) else .bad 28)
      rw [hl]
      refine (cDs_ok ok.d as s t q).bind fun xs s t q => (RS.of q fun items h => itK_ok h).bind fun items s t q => ?_
      refine lcEnd_ok (lcK_ok (lcOne_ok (cT_ok ck.io T) (cTests_ok ok.c cs) fun s t q k k' hk => ?_) items s t q)
      rw [bind_ok]
      refine (cDs_ok ok.d as2 s t q).bind fun xs2 s t q => ?_
      rw [bind_ok]
      refine (RS.of q fun items h => itK_ok h).bind fun items2 s t q => ?_
      refine (lcK_ok (lcOne_ok (cT_ok ck.io T2) (cTests_ok ok.c cs2) (lcBody_ok (ok.e e))) items2 s t q).bind fun os s t q => ?_
      refine (hk s t q).bind fun r s t q => ?_
      rw [app_eq]
      exact .ok q
    | _ :: _ :: _ :: _ => exact trivial
  | dc k v own gs =>
    intro s t q
    match gs with
    | [] => exact trivial
    | [(T, it, as, cs)] =>
      refine opt_lr (fun e0 => ?_) fun _ _ => trivial
      have hl : C.lamr = none := by have := ck.lrs; rw [e0] at this; exact this
      show RS F _ (if C.lamr.isSome then R.bad 29 else (evDs (evD C n) as t).bind fun xs s => (ofO (itD it xs) 27 s).bind fun items s =>
        (dcLoop (fun d acc s => (asgT C T d (wipeO own s)).bind fun _ s => (evTests (evC C n) cs s).bind fun b s => if b then (evD C n k s).bind fun x s => (evD C n v s).bind fun y s => ofO (dput x y acc) 30 s else .ok acc s) items [] s).noex.bind fun r s =>
          if r.length ≤ LIM then R.ok (O.dct (r.map fun p => (p.1, .fz p.2))) (wipeO own s) else .bad 28)
      rw [hl]
      refine (cDs_ok ok.d as s t q).bind fun xs s t q => (RS.of q fun items h => itK_ok h).bind fun items s t q => ?_
      refine (noEx_ok (dcK_ok (fun d acc s t q => ?_) items [] s t q)).bind fun r s t q => ?_
      · refine wipe_ok q fun s q => (cT_ok ck.io T d s _ q).bind fun _ s t q => (cTests_ok ok.c cs s t q).bind fun b s t q => .ifb (fun _ => (ok.d k s t q).bind fun x s t q => (ok.d v s t q).bind fun y s t q => .of q fun a h => h) fun _ => .ok q
      · rw [ble_if, len_eq]
        split
        · refine wipe_ok q fun s q => ?_
          rw [mapK_eq]
          exact .ok q
        · exact trivial
    | _ :: _ :: _ => exact trivial
  | call g as =>
    intro s t q
    exact cCall_ok ck ok.d as g s t q
  | lcall i as =>
    intro s t q
    refine slot_rs q fun o e0 => ?_
    show RS F _ (match t[i]? with
      | some (some (.fz (.fn f))) => (match C.glob f with
        | some (.fn fd) => if as.length = fd.np then (evArgs (evD C n) fd.io 0 as t).bind fun as s => doCall C f as s else .bad 31
        | _ => .bad 31)
      | some (some (.fz .lam)) => if i = 0 then (match as, C.lamr with
        | [], some (.ok o _) => .ok o t
        | [], some (.ex c p _) => .ex c p t
        | _, _ => .bad 32) else .bad 32
      | _ => .bad 33)
    rw [e0]
    refine ocase_rs (fun d ed => ?_) (fun _ _ => trivial) fun _ => trivial
    subst ed
    rw [fcase_eq]
    split
    · rename_i g
      exact cCall_ok ck ok.d as g s t q
    · cases hb : Nat.beq i Nat.zero with
      | false => exact trivial
      | true =>
        have hi : i = 0 := Nat.eq_of_beq_eq_true hb
        cases as with
        | cons _ _ => exact trivial
        | nil =>
          refine opt_lr (fun _ => trivial) fun r er => ?_
          have := ck.lrs
          rw [er] at this
          obtain ⟨r', e1, e2⟩ := this
          show RS F (lcr r (fun o _ => .ok o s) (fun c p _ => .ex c p s) fun _ => .bad 32) (if i = 0 then _ else _)
          rw [if_pos hi, e1]
          cases r with
          | bad _ => exact trivial
          | ok o ps =>
            obtain ⟨_, rfl, _⟩ := e2
            exact .ok q
          | ex c p ps =>
            obtain ⟨_, rfl, _⟩ := e2
            exact .ex q
    · exact trivial
  | bi b as =>
    intro s t q
    have two : ∀ (as : List E), Sm F lr (xBi2 (bi2K b) (cDs f.d as)) (fun t => (evDs (evD C n) as t).bind fun xs s => ofO (biO b xs) 34 s) := fun as s t q => by
      refine (cDs_ok ok.d as s t q).bind fun xs s t q => ?_
      refine RS.of q fun o h => ?_
      obtain ⟨x, y, rfl, h⟩ := on2_ok h
      exact bi2K_ok h
    match as with
    | [] => exact two [] s t q
    | [a] => exact (ok.p a s t q).bind fun x s t q => RS.of q fun o h => biK_ok h
    | a :: a2 :: as => exact two (a :: a2 :: as) s t q
  | isi a T =>
    intro s t q
    exact (ok.p a s t q).bind fun x s t q => (RS.of q fun b h => by rw [← isiK_eq]; exact h).bind fun b s t q => blO_ok q
  | «mut» m i as =>
    intro s t q
    match m, as with
    | .append, [] => exact trivial
    | .append, [e] => exact app1_ok ok i e s t q
    | .append, _ :: _ :: _ => exact trivial
    | .extend, [] => exact trivial
    | .extend, [e] => exact ext_ok ok i e s t q
    | .extend, _ :: _ :: _ => exact trivial
    | .pop0, [] => exact pop0_ok i s t q
    | .pop0, _ :: _ => exact trivial
    | .pop1, [] => exact trivial
    | .pop1, [e] => exact pop1_ok ok i e s t q
    | .pop1, _ :: _ :: _ => exact trivial
    | .insert, _ => exact trivial
    | .setitem, _ => exact trivial
  | met m a as => exact fun s t q => trivial
  | lam g h as =>
    intro s t q
    show RS F ((if as.all E.flat then xLam (K.call g) K.call (lamOk K as.length) (cFnV h) (cDs f.d as) else xBad O 42).run lr s) _
    by_cases hf : as.all E.flat = true
    · rw [if_pos hf]
      refine opt_lr (fun e0 => ?_) fun _ _ => trivial
      show RS F _ (if as.all E.flat then (fnV h t).bind fun fv s => (evDs (evD C n) as s).bind fun xs s => (match fv with
      | .fn f => (match C.glob f with
        | some (.fn fd) => if as.length = fd.np ∧ fd.io = [] then lamEnd C g xs.length (C.call f (xs.map .fz)) s else .bad 42
        | _ => .bad 42)
      | _ => .bad 42) else .bad 42)
      rw [if_pos hf]
      refine (fnV_ok h s t q).bind fun fv s t q => (cDs_ok ok.d as s t q).bind fun xs s t q => ?_
      rw [fcase_eq]
      split
      · rename_i m
        cases hk : lamOk K as.length m with
        | false => exact trivial
        | true =>
          unfold lamOk at hk
          cases em : K.glob m with
          | none => rw [em] at hk; cases hk
          | some G => cases G with
            | fn fd =>
              rw [em] at hk
              have hk := of_decide_eq_true hk
              show RS F _ (match C.glob m with
                | some (.fn fd) => if as.length = fd.np ∧ fd.io = [] then lamEnd C g xs.length (C.call m (xs.map .fz)) t else .bad 42
                | _ => .bad 42)
              rw [ck.glob, em]
              show RS F (mapK (fun d => L.o (.fz d)) xs fun os => lcr ((K.call m).run none os) (fun o ps => lamEndK (K.call g) (.ok o ps) s) (fun c p ps => lamEndK (K.call g) (.ex c p ps) s) fun n => .bad n) (if as.length = fd.np ∧ fd.io = [] then _ else _)
              rw [if_pos hk, mapK_eq]
              have c := ck.call e0 m _ _ (SS.fzs xs)
              have fin : ∀ (r : LCR) (r' : VI.CR), CS F r r' → (∀ n, r' ≠ .bad n) → r'.pl = xs.length → RS F (lamEndK (K.call g) r s) (lamEnd C g xs.length r' t) := by
                intro r r' hr hn hp
                unfold lamEnd
                split
                · exact (hn _ rfl).elim
                · rw [if_pos hp]
                  have c2 := ck.lamc e0 r r' g hr
                  unfold lamEndK
                  cases e2 : (K.call g).run (some r) [L.o (.fz .lam)] with
                  | bad n => exact trivial
                  | ex _ _ _ => exact trivial
                  | ok o ps =>
                    rw [e2] at c2
                    obtain ⟨ps', e3, _⟩ := c2
                    rw [e3]
                    show RS F (ocase o (fun d => @Bool.rec (fun _ => _) (.bad 41) (KR.ok (O.fz d) s) (flatK d)) (fun _ => .bad 41) (.bad 41)) _
                    refine ocase_rs (fun d ed => ?_) (fun _ _ => trivial) fun _ => trivial
                    subst ed
                    rw [flatK_eq]
                    exact .ifb (fun _ => .ok q) fun _ => trivial
              cases e : (K.call m).run none (xs.map fun d => L.o (.fz d)) with
              | bad n => exact trivial
              | ok o ps =>
                rw [e] at c
                obtain ⟨ps', e2, u⟩ := c
                show RS F (lamEndK (K.call g) (.ok o ps) s) (lamEnd C g xs.length (C.call m (xs.map .fz)) t)
                rw [e2]
                exact fin _ _ ⟨ps', rfl, u⟩ (fun _ z => by cases z) (by show ps'.length = _; rw [ck.len m _ o ps' e2, List.length_map])
              | ex c' p ps =>
                rw [e] at c
                obtain ⟨ps', e2, u⟩ := c
                show RS F (lamEndK (K.call g) (.ex c' p ps) s) (lamEnd C g xs.length (C.call m (xs.map .fz)) t)
                rw [e2]
                exact fin _ _ ⟨ps', rfl, u⟩ (fun _ z => by cases z) (by show ps'.length = _; rw [ck.lenx m _ c' p ps' e2, List.length_map])
            | _ => rw [em] at hk; cases hk
      · exact trivial
      · exact trivial
    · rw [if_neg hf]
      exact trivial
theorem kf_ok (ck : Cok F K C lr) : ∀ n, FOk F lr (kf K n) C n
  | 0 => .zero
  | 1 => .zero
  | n + 2 => by
    have ok := kf_ok ck (n + 1)
    refine ⟨fun e => cE_ok ck ok e, fun e => ?_, fun e => ?_, fun e => ?_, fun e => ?_, fun e => ?_⟩
    · have gen : Sm F lr (xD ((kf K (n + 1)).e e)) (evD C (n + 2) e) := fun s t q => by
        unfold evD
        exact (ok.e e s t q).bind fun o s t q => by rw [frzO_eq]; exact .ok q
      cases e with
      | k d => exact fun s t q => .ok q
      | loc i =>
        intro s t q
        show RS F (rdS i s) (((rdLoc i t).bind fun d s => R.ok (O.fz d) s).bind fun o s => .ok o.toD s)
        rw [bind_ok]
        have := (rdS_ok (F := F) q (i := i)).bind (f := fun d s => .ok d s) (f' := fun d s => (R.ok (O.fz d) s).bind fun o s => .ok o.toD s) fun d s t q => .ok q
        have e1 : kb (rdS i s) (fun d s => KR.ok d s) = rdS i s := by cases rdS i s <;> rfl
        rw [e1] at this
        exact this
      | _ => exact gen
    · cases e with
      | loc i => exact fun s t q => by unfold evP; exact pkS_ok q
      | _ => exact fun s t q => by unfold evP; exact ok.d _ s t q
    · cases e with
      | loc i =>
        intro s t q
        unfold evQ
        show RS F (@Bool.rec (fun _ => KR (Sum Nat D)) (.bad 1) (.ok (.inl i) s) (hasS i s)) _
        cases hb : hasS i s with
        | false => exact trivial
        | true =>
          obtain ⟨o, eo⟩ := hasS_ok q hb
          simp only [eo]
          exact .ok q
      | _ => exact fun s t q => by unfold evQ; exact (ok.d _ s t q).bind fun d s t q => .ok q
    · cases e with
      | none => exact fun s t q => by unfold evPart; exact .ok q
      | some e =>
        intro s t q
        unfold evPart
        refine (ok.d e s t q).bind fun d s t q => ?_
        rw [onInt_eq]
        split
        · exact .ok q
        · exact trivial
    · cases e with
      | and l => exact fun s t q => by unfold evC; exact cAndC_ok ok.c l s t q
      | or l => exact fun s t q => by unfold evC; exact cOrC_ok ok.c l s t q
      | not a =>
        intro s t q
        unfold evC
        refine (ok.c a s t q).bind fun b s t q => ?_
        cases b <;> exact .ok q
      | ite c a b => exact fun s t q => by unfold evC; exact (ok.c c s t q).bind fun b' s t q => .ifb (fun _ => ok.c a s t q) fun _ => ok.c b s t q
      | _ => exact fun s t q => by unfold evC; exact (ok.p _ s t q).bind fun d s t q => RS.of q fun b h => tru_of h
end
end VI.Kn
end

section
set_option Elab.async false
set_option linter.all false
set_option maxRecDepth 100000
set_option maxHeartbeats 200000
/-! VIs4: every statement, every function. -/
namespace VI.Kn
open PySem VI

structure SOk (F : List (Nat × Nat) → O → Prop) (lr : Lr) (g : KS) (C : Cfg) (n : Nat) : Prop where
  s : ∀ c, Sm F lr (g.s c) (evS C n c)
  ss : ∀ l, Sm F lr (g.ss l) (evSs C n l)
section
variable {F : List (Nat × Nat) → O → Prop} {lr : Lr} {K : KC} {C : Cfg} {n : Nat} {f : KF} {g : KS}
theorem SOk.zero {n : Nat} : SOk F lr KS0 C n := ⟨fun _ _ _ _ => trivial, fun _ _ _ _ => trivial⟩
theorem flc_rs {r : Fl} {a d e : KR Fl} {b : O → KR Fl} {R0 : R Fl} (h1 : r = .next → RS F a R0) (h2 : ∀ o, r = .ret o → RS F (b o) R0) (h3 : r = .brk → RS F d R0) (h4 : r = .cont → RS F e R0) : RS F (flc r a b d e) R0 := by
  cases r with
  | next => exact h1 rfl
  | ret o => exact h2 o rfl
  | brk => exact h3 rfl
  | cont => exact h4 rfl
theorem forK_ok {a : D → LS → KR Fl} {b : D → St → R Fl} (h : ∀ d s t, SS F s t → RS F (a d s) (b d t)) : ∀ (l : List D) (s : LS) (t : St), SS F s t → RS F (forK a l s) (forLoop b l t)
  | [], s, t, q => .ok q
  | d :: l, s, t, q => by
    show RS F (kb (a d s) fun r s => flc r (forK a l s) (fun o => .ok (.ret o) s) (.ok .next s) (forK a l s)) ((b d t).bind fun r s => match r with
      | .next => forLoop b l s
      | .cont => forLoop b l s
      | .brk => .ok .next s
      | .ret o => .ok (.ret o) s)
    refine (h d s t q).bind fun r s t q => ?_
    cases r with
    | next => exact forK_ok h l s t q
    | ret o => exact .ok q
    | brk => exact .ok q
    | cont => exact forK_ok h l s t q
theorem whK_ok {a : LS → KR Bool} {a' : St → R Bool} {b : LS → KR Fl} {b' : St → R Fl} (ha : ∀ s t, SS F s t → RS F (a s) (a' t)) (hb : ∀ s t, SS F s t → RS F (b s) (b' t)) : ∀ (n : Nat) (s : LS) (t : St), SS F s t → RS F (whK a b n s) (whLoop a' b' n t)
  | 0, s, t, q => trivial
  | n + 1, s, t, q => by
    show RS F (kb (a s) fun x s => @Bool.rec (fun _ => _) (.ok .next s) (kb (b s) fun r s => flc r (whK a b n s) (fun o => .ok (.ret o) s) (.ok .next s) (whK a b n s)) x) ((a' t).bind fun x s => if x then (b' s).bind fun r s => (match r with
      | .next => whLoop a' b' n s
      | .cont => whLoop a' b' n s
      | .brk => .ok .next s
      | .ret o => .ok (.ret o) s) else .ok .next s)
    refine (ha s t q).bind fun x s t q => .ifb (fun _ => (hb s t q).bind fun r s t q => ?_) fun _ => .ok q
    cases r with
    | next => exact whK_ok ha hb n s t q
    | ret o => exact .ok q
    | brk => exact .ok q
    | cont => exact whK_ok ha hb n s t q
theorem repS_ok {pre : Str} {p : D} {s : LS} {t : St} (q : SS F s t) : RS F (repS pre p s) (evRep pre p t) := by
  unfold repS evRep
  cases p.toP with
  | none => exact trivial
  | some d =>
    dsimp only
    split
    · rename_i d' s' e
      split at e
      · rename_i hc
        cases e
        rw [if_pos hc]
        exact .ok q
      · cases e
    · exact trivial
theorem hdK_ok {gl : Nat → Option G} {c : Nat} {p : D} : ∀ (l : List (Nat × Hk)) (s : LS) (t : St), SS F s t → RS F (hdK gl c p l s) (handle gl c p l t)
  | [], s, t, q => .ex q
  | (h, k) :: l, s, t, q => by
    show RS F (if sub? gl c h then (match k with
      | .ret d => .ok (.ret (.fz d)) s
      | .rep i pre => if Nat.beq c h && Nat.ble (i + 1) (len s) then repS pre p s else .bad 47) else hdK gl c p l s) (if sub? gl c h then (match k with
      | .ret d => .ok (.ret (.fz d)) t
      | .rep i pre => if c = h ∧ i < t.length then evRep pre p t else .bad 47) else handle gl c p l t)
    by_cases hs : sub? gl c h = true
    · rw [if_pos hs, if_pos hs]
      cases k with
      | ret d => exact .ok q
      | rep i pre =>
        show RS F (if (Nat.beq c h && Nat.ble (i + 1) (len s)) = true then repS pre p s else .bad 47) (if c = h ∧ i < t.length then evRep pre p t else .bad 47)
        by_cases hc : (Nat.beq c h && Nat.ble (i + 1) (len s)) = true
        · obtain ⟨h1, h2⟩ := Bool.and_eq_true_iff.mp hc
          have h3 := Nat.le_of_ble_eq_true h2
          rw [len_eq, q.len] at h3
          rw [if_pos hc, if_pos ⟨Nat.eq_of_beq_eq_true h1, h3⟩]
          exact repS_ok q
        · rw [if_neg hc]
          exact trivial
    · rw [if_neg hs, if_neg hs]
      exact hdK_ok l s t q
theorem cS_ok (ck : Cok F K C lr) (ok : FOk F lr f C n) (so : SOk F lr g C n) (c : S) : Sm F lr (cS K f g c) (evS C (n + 1) c) := by
  have io : ∀ i, K.io.contains i = false → C.io.contains i = false := fun i h => by rw [ck.io]; exact h
  cases c with
  | expr e => exact fun s t q => (ok.e e s t q).bind fun _ s t q => .ok q
  | asg T e =>
    intro s t q
    cases T with
    | name i =>
      show RS F ((if K.io.contains i then xBad Fl 2 else yAsg i (f.e e)).run lr s) _
      cases h : K.io.contains i with
      | true => exact trivial
      | false => exact (ok.e e s t q).bind fun o s t q => (stS_ok (io i h) q).bind fun _ s t q => .ok q
    | tup l => exact (ok.d e s t q).bind fun d s t q => (cT_ok ck.io (.tup l) d s t q).bind fun _ s t q => .ok q
    | sub i => exact (ok.d e s t q).bind fun d s t q => (cT_ok ck.io (.sub i) d s t q).bind fun _ s t q => .ok q
    | attr i j => exact (ok.d e s t q).bind fun d s t q => (cT_ok ck.io (.attr i j) d s t q).bind fun _ s t q => .ok q
  | par T U a b => exact fun s t q => (ok.d a s t q).bind fun x s t q => (ok.d b s t q).bind fun y s t q => (cT_ok ck.io T x s t q).bind fun _ s t q => (cT_ok ck.io U y s t q).bind fun _ s t q => .ok q
  | seti i k e =>
    intro s t q
    show RS F (kb ((f.d e).run lr s) fun d s => @Bool.rec (fun _ => _) (.bad 53) (kb ((f.d k).run lr s) fun u s => onInt u (fun z => ownS i s (.bad 53) fun l => opt (ixN (len l) z) (.bad 50) fun j => setK j (.fz d) l fun l => setK i (.o (.lst l)) s fun s => KR.ok Fl.next s) (.bad 53)) (hasS i s)) _
    refine (ok.d e s t q).bind fun d s t q => ?_
    cases hb : hasS i s with
    | false => exact trivial
    | true =>
      obtain ⟨o, eo⟩ := hasS_ok q hb
      show RS F _ (match t[i]? with
        | some (some _) => (evD C n k t).bind fun u s => (match u, s[i]? with
          | .int z, some (some (.lst l)) => (match ixN l.length z with
            | some j => R.ok Fl.next (s.set i (some (.lst (l.set j (.fz d)))))
            | none => .bad 50)
          | _, _ => .bad 53)
        | _ => .bad 53)
      rw [eo]
      refine (ok.d k s t q).bind fun u s t q => ?_
      cases u with
      | int z =>
        refine ownS_ok q fun l e1 => ?_
        rw [e1, len_eq]
        refine opt_rs fun j ej => ?_
        show RS F _ (match ixN l.length z with
            | some j => R.ok Fl.next (t.set i (some (.lst (l.set j (.fz d)))))
            | none => .bad 50)
        rw [ej, setK_eq, setK_eq]
        exact .ok (q.set .o i)
      | _ => exact trivial
  | aug i op e =>
    intro s t q
    show RS F ((if K.io.contains i then xBad Fl 2 else yAug i (opK op) (f.d e)).run lr s) _
    cases h : K.io.contains i with
    | true => exact trivial
    | false =>
      refine slot_rs q fun o e0 => ?_
      show RS F _ (match t[i]? with
        | some (some (.fz (.int x))) => (evD C n e t).bind fun y s => (match y with
          | .int y => (ofO (binO op (.int x) (.int y)) 54 s).bind fun o s => (stLoc C i o s).bind fun _ s => R.ok Fl.next s
          | _ => .bad 55)
        | _ => .bad 55)
      rw [e0]
      refine ocase_rs (fun d ed => ?_) (fun _ _ => trivial) fun _ => trivial
      subst ed
      cases d with
      | int x =>
        refine (ok.d e s t q).bind fun y s t q => ?_
        cases y with
        | int y => exact (RS.of q fun o h => opK_ok h).bind fun o s t q => (stS_ok (io i h) q).bind fun _ s t q => .ok q
        | _ => exact trivial
      | _ => exact trivial
  | ife c a b => exact fun s t q => (ok.c c s t q).bind fun x s t q => .ifb (fun _ => so.ss a s t q) fun _ => so.ss b s t q
  | forr T it as b =>
    intro s t q
    refine (cDs_ok ok.d as s t q).bind fun xs s t q => (RS.of q fun items h => itK_ok h).bind fun items s t q => ?_
    exact forK_ok (fun d s t q => (cT_ok ck.io T d s t q).bind fun _ s t q => so.ss b s t q) items s t q
  | whil c b => exact fun s t q => whK_ok (ok.c c) (so.ss b) WFUEL s t q
  | ret e =>
    intro s t q
    cases e with
    | none => exact .ok q
    | some e =>
      have gen : Sm F lr (yRet (f.e e)) (fun t => (evE C n e t).bind fun o s => R.ok (.ret o) s) := fun s t q => (ok.e e s t q).bind fun o s t q => .ok q
      cases e with
      | loc i =>
        show RS F ((if K.io.contains i then yRetIo i else yRetL i).run lr s) (if C.io.contains i then (rdLoc i t).bind fun d s => R.ok (.ret (.fz d)) s else (match t[i]? with
          | some (some o) => .ok (.ret o) (t.set i none)
          | _ => .bad 57))
        rw [ck.io]
        cases h : K.io.contains i with
        | true => exact (rdS_ok q).bind fun d s t q => .ok q
        | false =>
          refine slot_rs q fun o e0 => ?_
          rw [setK_eq]
          show RS F _ (match t[i]? with
          | some (some o) => R.ok (Fl.ret o) (t.set i none)
          | _ => .bad 57)
          rw [e0]
          exact .ok (q.set .no i)
      | _ => exact gen s t q
  | raise c e =>
    intro s t q
    cases e with
    | none => exact .ex q
    | some e => exact (ok.d e s t q).bind fun d s t q => .ex q
  | pass => exact fun s t q => .ok q
  | brk => exact fun s t q => .ok q
  | cont => exact fun s t q => .ok q
  | trye b hs =>
    intro s t q
    have := so.ss b s t q
    show RS F (@KR.rec Fl (fun _ => KR Fl) (fun f s => .ok f s) (fun c p s => @Bool.rec (fun _ => _) (.bad 48) (hdK K.glob c p hs s) (isExc K.glob c)) (fun n => .bad n) ((g.ss b).run lr s)) (match evSs C n b t with
      | .ok f s => .ok f s
      | .ex c p s => if isExc C.glob c then handle C.glob c p hs s else .bad 48
      | .bad k => .bad k)
    cases e : (g.ss b).run lr s with
    | bad n => exact trivial
    | ok f s =>
      rw [e] at this
      obtain ⟨t', e2, q'⟩ := this
      rw [e2]
      exact .ok q'
    | ex c p s =>
      rw [e] at this
      obtain ⟨t', e2, q'⟩ := this
      rw [e2]
      show RS F (@Bool.rec (fun _ => KR Fl) (.bad 48) (hdK K.glob c p hs s) (isExc K.glob c)) (if isExc C.glob c then handle C.glob c p hs t' else .bad 48)
      rw [ck.glob]
      exact .ifb (fun _ => hdK_ok hs s t' q') fun _ => trivial
theorem ks_ok (ck : Cok F K C lr) : ∀ n, SOk F lr (ks K n) C n
  | 0 => .zero
  | n + 1 => by
    have so := ks_ok ck n
    refine ⟨fun c => cS_ok ck (kf_ok ck n) so c, fun l s t q => ?_⟩
    cases l with
    | nil => exact .ok q
    | cons c l =>
      refine (so.s c s t q).bind fun r s t q => ?_
      cases r with
      | next => exact so.ss l s t q
      | ret o => exact .ok q
      | brk => exact .ok q
      | cont => exact .ok q
theorem SS.map {α : Type} {a : α → L} {b : α → Option O} (h : ∀ x, SR F (a x) (b x)) : ∀ l : List α, SS F (l.map a) (l.map b)
  | [] => .nil
  | x :: l => .cons (h x) (SS.map h l)
theorem endS_ok {io : List Nat} {np : Nat} {s : LS} {t : St} (q : SS F s t) : SS F (endS io np s) (endCR io np t) := by
  refine SS.map (fun j => ?_) _
  cases io.contains j with
  | false => exact .no
  | true =>
    show SR F ((nth j s).getD .no) ((t[j]?).join)
    rw [nth_eq]
    cases e : s[j]? with
    | none => exact .no
    | some x =>
      obtain ⟨y, e2, r⟩ := q.get e
      rw [e2]
      exact r
theorem fRun_ok {fd : Fn} (ck : Cok F K C lr) (io : C.io = fd.io) {os : LS} {os' : List O} (q : SS F os (os'.map some)) : CS F ((fRun K fd ((ks K DEPTH).ss fd.body)).run lr os) (runFn C fd os') := by
  unfold runFn
  show CS F (@Bool.rec (fun _ => LCR) (.bad 61) (app os (List.replicate (fd.nl - fd.np) L.no) fun s => endK fd.io fd.np (((ks K DEPTH).ss fd.body).run lr s)) (Nat.beq (len os) fd.np)) _
  have hl : os.length = os'.length := by rw [q.len, List.length_map]
  rw [len_eq, hl, nbeq]
  by_cases hn : os'.length = fd.np
  · rw [decide_eq_true hn, if_pos hn]
    show CS F (app os _ _) _
    rw [app_eq]
    have eC : ({ C with io := fd.io } : Cfg) = C := by rw [← io]
    rw [eC]
    have q2 : SS F (os ++ List.replicate (fd.nl - fd.np) L.no) (os'.map some ++ List.replicate (fd.nl - fd.np) none) := q.app (SS.no (by simp))
    have := (ks_ok ck DEPTH).ss fd.body _ _ q2
    cases e : ((ks K DEPTH).ss fd.body).run lr (os ++ List.replicate (fd.nl - fd.np) L.no) with
    | bad n => exact trivial
    | ok r s =>
      rw [e] at this
      obtain ⟨t', e2, q'⟩ := this
      rw [e2]
      cases r with
      | next => exact ⟨_, rfl, endS_ok q'⟩
      | ret o => exact ⟨_, rfl, endS_ok q'⟩
      | brk => exact trivial
      | cont => exact trivial
    | ex c p s =>
      rw [e] at this
      obtain ⟨t', e2, q'⟩ := this
      rw [e2]
      exact ⟨_, rfl, endS_ok q'⟩
  · rw [decide_eq_false hn]
    exact trivial
end
/-! ### functions -/
def LrS (F : List (Nat × Nat) → O → Prop) (lr : Lr) (lr' : Option VI.CR) : Prop := match lr with
  | none => lr' = none
  | some r => ∃ r', lr' = some r' ∧ CS F r r'
/-- a function of the kernel's does what the evaluator does at that depth -/
def FnS (F : List (Nat × Nat) → O → Prop) (glob : Nat → Option G) (k f : Nat) (B : Kf) : Prop := ∀ lr lr' os os', LrS F lr lr' → SS F os (os'.map some) → CS F (B.run lr os) (callK glob k lr' f os')
def HookOk (F : List (Nat × Nat) → O → Prop) (glob : Nat → Option G) (hook : Nat → Nat → Option Hok) : Prop := ∀ k f h, hook k f = some h → ∀ B, FnS F glob (k + 1) f B → FnS F glob (k + 1) f (hookK (some h) B)
theorem callK_len {glob : Nat → Option G} {k : Nat} {lr : Option VI.CR} {f : Nat} {os : List O} : (∀ o ps, callK glob k lr f os = .ok o ps → ps.length = os.length) ∧ ∀ c p ps, callK glob k lr f os = .ex c p ps → ps.length = os.length := by
  cases k with
  | zero => exact ⟨fun o ps e => (by cases e), fun c p ps e => (by cases e)⟩
  | succ k =>
    have h : ∀ (C : Cfg) (fd : Fn), (∀ o ps, runFn C fd os = .ok o ps → ps.length = os.length) ∧ ∀ c p ps, runFn C fd os = .ex c p ps → ps.length = os.length := by
      intro C fd
      unfold runFn
      by_cases hn : os.length = fd.np
      · rw [if_pos hn]
        have le : ∀ t, (endCR fd.io fd.np t).length = os.length := fun t => by unfold endCR; rw [List.length_map, List.length_range, hn]
        cases evSs { C with io := fd.io } DEPTH fd.body (os.map some ++ List.replicate (fd.nl - fd.np) none) with
        | bad n => exact ⟨fun o ps e => (by cases e), fun c p ps e => (by cases e)⟩
        | ok r s =>
          cases r with
          | next => exact ⟨fun o ps e => (by cases e; exact le s), fun c p ps e => (by cases e)⟩
          | ret o => exact ⟨fun o ps e => (by cases e; exact le s), fun c p ps e => (by cases e)⟩
          | brk => exact ⟨fun o ps e => (by cases e), fun c p ps e => (by cases e)⟩
          | cont => exact ⟨fun o ps e => (by cases e), fun c p ps e => (by cases e)⟩
        | ex c p s => exact ⟨fun o ps e => (by cases e), fun c p ps e => (by cases e; exact le s)⟩
      · rw [if_neg hn]
        exact ⟨fun o ps e => (by cases e), fun c p ps e => (by cases e)⟩
    unfold callK
    cases glob f with
    | none => exact ⟨fun o ps e => (by cases e), fun c p ps e => (by cases e)⟩
    | some G => cases G with
      | fn fd => exact h _ fd
      | _ => exact ⟨fun o ps e => (by cases e), fun c p ps e => (by cases e)⟩
theorem cok_of {F : List (Nat × Nat) → O → Prop} {glob : Nat → Option G} {k : Nat} {B : Nat → Kf} {io : List Nat} {lr : Lr} {lr' : Option VI.CR} (ih : ∀ f, FnS F glob k f (B f)) (hl : LrS F lr lr') {call : Nat → List O → VI.CR} (hc : (lr' = none ∧ call = callK glob k none) ∨ (lr' ≠ none ∧ call = fun _ _ => .bad 64)) : Cok F ⟨glob, B, io⟩ ⟨glob, call, fun r g => callK glob k (some r) g [.fz .lam], lr', io⟩ lr where
  glob := rfl
  io := rfl
  lrs := hl
  call := fun e f os os' q => by
    subst e
    cases hl
    rcases hc with ⟨_, rfl⟩ | ⟨h, _⟩
    · exact ih f none none os os' rfl q
    · exact absurd rfl h
  len := fun f os o ps e => by
    rcases hc with ⟨_, rfl⟩ | ⟨_, rfl⟩
    · exact callK_len.1 o ps e
    · cases e
  lenx := fun f os c p ps e => by
    rcases hc with ⟨_, rfl⟩ | ⟨_, rfl⟩
    · exact callK_len.2 c p ps e
    · cases e
  lamc := fun e r r' g hr => ih g (some r) (some r') [.o (.fz .lam)] [.fz .lam] ⟨r', rfl, hr⟩ (.cons .o .nil)
/-- a call, from above -/
theorem callK_fn {glob : Nat → Option G} {k : Nat} {lr : Option VI.CR} {f : Nat} {os : List O} {fd : Fn} (h : glob f = some (.fn fd)) : ∃ call : Nat → List O → VI.CR, ((lr = none ∧ call = callK glob k none) ∨ (lr ≠ none ∧ call = fun _ _ => .bad 64)) ∧ callK glob (k + 1) lr f os = runFn ⟨glob, call, fun r g => callK glob k (some r) g [.fz .lam], lr, []⟩ fd os := by
  cases lr with
  | none =>
    refine ⟨_, .inl ⟨rfl, rfl⟩, ?_⟩
    show (match glob f with
      | some (.fn fd) => runFn ⟨glob, callK glob k none, fun r g => callK glob k (some r) g [.fz .lam], none, []⟩ fd os
      | _ => .bad 63) = _
    rw [h]
  | some r =>
    refine ⟨_, .inr ⟨fun z => (by cases z), rfl⟩, ?_⟩
    show (match glob f with
      | some (.fn fd) => runFn ⟨glob, fun _ _ => .bad 64, fun r g => callK glob k (some r) g [.fz .lam], some r, []⟩ fd os
      | _ => .bad 63) = _
    rw [h]
theorem fnK_ok {F : List (Nat × Nat) → O → Prop} {glob : Nat → Option G} {hook : Nat → Nat → Option Hok} (ho : HookOk F glob hook) : ∀ k f, FnS F glob k f (fnK glob hook k f)
  | 0, f => fun _ _ _ _ _ _ => trivial
  | k + 1, f => by
    have ih := fnK_ok ho k
    have base : FnS F glob (k + 1) f (fnB glob (fnK glob hook k) f) := by
      intro lr lr' os os' hl q
      unfold fnB
      cases hg : glob f with
      | none => exact trivial
      | some G => cases G with
        | fn fd =>
          obtain ⟨call, hc, e⟩ := callK_fn (k := k) (lr := lr') (os := os') hg
          rw [e]
          exact fRun_ok (C := ⟨glob, call, fun r g => callK glob k (some r) g [.fz .lam], lr', fd.io⟩) (cok_of ih hl hc) rfl q
        | _ => exact trivial
    have key : ∀ o, hook k f = o → FnS F glob (k + 1) f (hookK o (fnB glob (fnK glob hook k) f)) := fun o e => by
      cases o with
      | none => exact base
      | some h => exact ho k f h e _ base
    exact key _ rfl
end VI.Kn
end

section
set_option Elab.async false
set_option linter.all false
set_option maxRecDepth 100000
set_option maxHeartbeats 400000
/-! VIx1: the dice of the laws. -/
namespace VI.Kn
open PySem VI

section
variable {C : Cfg} {n : Nat} {s : St}
theorem q_k {d : D} : evD C (n + 2) (.k d) s = .ok d s := rfl
theorem q_loc {i : Nat} {d : D} (h : s[i]? = some (some (.fz d))) : evD C (n + 2) (.loc i) s = .ok d s := by
  show ((rdLoc i s).bind fun d s => R.ok (O.fz d) s).bind (fun o s => .ok o.toD s) = _
  have e : rdLoc i s = .ok d s := by unfold rdLoc; rw [h]
  rw [e]
  show R.ok (O.toD (.fz d)) s = _
  unfold O.toD
  rfl
theorem p_loc {i : Nat} {d : D} (h : s[i]? = some (some (.fz d))) : evP C (n + 1) (.loc i) s = .ok d s := by
  show pkLoc i s = _
  unfold pkLoc
  rw [h]
theorem q_of {e : E} {o : O} {s' : St} (h : evE C n e s = .ok o s') : evD C (n + 1) e s = .ok o.toD s' := by
  show (evE C n e s).bind (fun o s => .ok o.toD s) = _
  rw [h]
  rfl
theorem e_bin {op : Op} {a b : E} {x y : D} {o : O} {s1 s2 : St} (h1 : evD C n a s = .ok x s1) (h2 : evD C n b s1 = .ok y s2) (h : binO op x y = some o) : evE C (n + 1) (.bin op a b) s = .ok o s2 := by
  show ((evD C n a s).bind fun x s => (evD C n b s).bind fun y s => ofO (binO op x y) 21 s) = _
  rw [h1]
  show ((evD C n b s1).bind fun y s => ofO (binO op x y) 21 s) = _
  rw [h2]
  show ofO (binO op x y) 21 s2 = _
  rw [h]
  rfl
theorem q_int {op : Op} {a b : E} {x y : D} {z : Int} {s1 s2 : St} (h1 : evD C n a s = .ok x s1) (h2 : evD C n b s1 = .ok y s2) (h : binO op x y = some (.fz (.int z))) : evD C (n + 2) (.bin op a b) s = .ok (.int z) s2 := (q_of (e_bin h1 h2 h)).trans (by unfold O.toD; rfl)
theorem p_of {e : E} {d : D} {s' : St} (hn : ∀ i, e ≠ .loc i) (h : evD C n e s = .ok d s') : evP C (n + 1) e s = .ok d s' := by
  cases e with
  | loc i => exact (hn i rfl).elim
  | _ => exact h
theorem e_bi {b : Bi} {a : E} {x : D} {o : O} {s1 : St} (h1 : evP C n a s = .ok x s1) (h : biO b [x] = some o) : evE C (n + 1) (.bi b [a]) s = .ok o s1 := by
  show ((evP C n a s).bind fun x s => ofO (biO b [x]) 34 s) = _
  rw [h1]
  show ofO (biO b [x]) 34 s1 = _
  rw [h]
  rfl
theorem q_bi {b : Bi} {a : E} {x : D} {z : Int} {s1 : St} (h1 : evP C n a s = .ok x s1) (h : biO b [x] = some (.fz (.int z))) : evD C (n + 2) (.bi b [a]) s = .ok (.int z) s1 := (q_of (e_bi h1 h)).trans (by unfold O.toD; rfl)
theorem e_bi2 {b : Bi} {a a2 : E} {x y : D} {o : O} {s1 s2 : St} (h1 : evD C n a s = .ok x s1) (h2 : evD C n a2 s1 = .ok y s2) (h : biO b [x, y] = some o) : evE C (n + 1) (.bi b [a, a2]) s = .ok o s2 := by
  show ((evDs (evD C n) [a, a2] s).bind fun xs s => ofO (biO b xs) 34 s) = _
  show (((evD C n a s).bind fun d s => ((evD C n a2 s).bind fun d s => R.ok [d] s).bind fun ds s => .ok (d :: ds) s).bind fun xs s => ofO (biO b xs) 34 s) = _
  rw [h1]
  show ((((evD C n a2 s1).bind fun d s => R.ok [d] s).bind fun ds s => R.ok (x :: ds) s).bind fun xs s => ofO (biO b xs) 34 s) = _
  rw [h2]
  show ofO (biO b [x, y]) 34 s2 = _
  rw [h]
  rfl
theorem q_bi2 {b : Bi} {a a2 : E} {x y : D} {z : Int} {s1 s2 : St} (h1 : evD C n a s = .ok x s1) (h2 : evD C n a2 s1 = .ok y s2) (h : biO b [x, y] = some (.fz (.int z))) : evD C (n + 2) (.bi b [a, a2]) s = .ok (.int z) s2 := (q_of (e_bi2 h1 h2 h)).trans (by unfold O.toD; rfl)
/-- a comparison whose left side is a slot that is frozen, or no name -/
theorem e_cmp {c : Cm} {a b : E} {q : Sum Nat D} {x y : D} {t : Bool} {s1 s2 s3 : St} (h1 : evQ C n a s = .ok q s1) (h2 : evP C n b s1 = .ok y s2) (h3 : evQd q s2 = .ok x s3) (h : cmpD c x y = some t) : evE C (n + 1) (.cmp a [(c, b)]) s = .ok (.fz (.bl t)) s3 := by
  show ((evQ C n a s).bind fun q s => (evP C n b s).bind fun y s => (evQd q s).bind fun x s => (ofO (cmpD c x y) 12 s).bind fun t s => R.ok (O.fz (.bl t)) s) = _
  rw [h1]
  show ((evP C n b s1).bind fun y s => (evQd q s).bind fun x s => (ofO (cmpD c x y) 12 s).bind fun t s => R.ok (O.fz (.bl t)) s) = _
  rw [h2]
  show ((evQd q s2).bind fun x s => (ofO (cmpD c x y) 12 s).bind fun t s => R.ok (O.fz (.bl t)) s) = _
  rw [h3]
  show ((ofO (cmpD c x y) 12 s3).bind fun t s => R.ok (O.fz (.bl t)) s) = _
  rw [h]
  rfl
theorem c_of {a : E} {l : List (Cm × E)} {t : Bool} {s1 : St} (h : evE C n (.cmp a l) s = .ok (.fz (.bl t)) s1) : evC C (n + 3) (.cmp a l) s = .ok t s1 := by
  show ((evD C (n + 1) (.cmp a l) s).bind fun d s => ofO (truthD d) 44 s) = _
  rw [q_of h]
  show ofO (truthD (O.toD (.fz (.bl t)))) 44 s1 = _
  unfold O.toD
  rfl
theorem q_loc_q {i : Nat} {d : O} (h : s[i]? = some (some d)) : evQ C (n + 1) (.loc i) s = .ok (.inl i) s := by
  show (match s[i]? with
    | some (some _) => R.ok (Sum.inl i) s
    | _ => .bad 1) = _
  rw [h]
theorem q_q {e : E} {d : D} {s1 : St} (hn : ∀ i, e ≠ .loc i) (h : evD C n e s = .ok d s1) : evQ C (n + 1) e s = .ok (.inr d) s1 := by
  cases e with
  | loc i => exact (hn i rfl).elim
  | _ =>
    show ((evD C n _ s).bind fun d s => R.ok (Sum.inr d) s) = _
    rw [h]
    rfl
theorem qd_fz {i : Nat} {d : D} (h : s[i]? = some (some (.fz d))) : evQd (.inl i) s = .ok d s := by
  show pkLoc i s = _
  unfold pkLoc
  rw [h]
theorem e_idx {a b : E} {q : Sum Nat D} {x y d : D} {s1 s2 s3 : St} (h1 : evQ C n a s = .ok q s1) (h2 : evD C n b s1 = .ok y s2) (h3 : evQd q s2 = .ok x s3) (h : idxD x y = some d) : evE C (n + 1) (.idx a b) s = .ok (.fz d) s3 := by
  show ((evQ C n a s).bind fun q s => (evD C n b s).bind fun y s => (evQd q s).bind fun x s => (ofO (idxD x y) 25 s).bind fun d s => R.ok (O.fz d) s) = _
  rw [h1]
  show ((evD C n b s1).bind fun y s => (evQd q s).bind fun x s => (ofO (idxD x y) 25 s).bind fun d s => R.ok (O.fz d) s) = _
  rw [h2]
  show ((evQd q s2).bind fun x s => (ofO (idxD x y) 25 s).bind fun d s => R.ok (O.fz d) s) = _
  rw [h3]
  show ((ofO (idxD x y) 25 s3).bind fun d s => R.ok (O.fz d) s) = _
  rw [h]
  rfl
theorem e_ite {c a b : E} {t : Bool} {d : D} {s1 s2 : St} (h1 : evC C n c s = .ok t s1) (h2 : t = true → evD C n a s1 = .ok d s2) (h3 : t = false → evD C n b s1 = .ok d s2) : evE C (n + 1) (.ite c a b) s = .ok (.fz d) s2 := by
  show ((evC C n c s).bind fun t s => if t then (evD C n a s).bind fun d s => R.ok (O.fz d) s else (evD C n b s).bind fun d s => R.ok (O.fz d) s) = _
  rw [h1]
  show (if t then (evD C n a s1).bind fun d s => R.ok (O.fz d) s else (evD C n b s1).bind fun d s => R.ok (O.fz d) s) = _
  cases t with
  | true =>
    show ((evD C n a s1).bind fun d s => R.ok (O.fz d) s) = _
    rw [h2 rfl]
    rfl
  | false =>
    show ((evD C n b s1).bind fun d s => R.ok (O.fz d) s) = _
    rw [h3 rfl]
    rfl
theorem s_asg {i : Nat} {e : E} {o : O} {s1 : St} (h : evE C n e s = .ok o s1) (hio : C.io.contains i = false) (hi : i < s1.length) : evS C (n + 1) (.asg (.name i) e) s = .ok .next (s1.set i (some o)) := by
  show ((evE C n e s).bind fun o s => (stLoc C i o s).bind fun _ s => R.ok Fl.next s) = _
  rw [h]
  show ((stLoc C i o s1).bind fun _ s => R.ok Fl.next s) = _
  unfold stLoc
  rw [hio]
  show ((if i < s1.length then R.ok () (s1.set i (some o)) else .bad 3).bind fun _ s => R.ok Fl.next s) = _
  rw [if_pos hi]
  rfl
theorem s_cons {c : S} {l : List S} {s1 : St} (h : evS C n c s = .ok .next s1) : evSs C (n + 1) (c :: l) s = evSs C n l s1 := by
  show ((evS C n c s).bind fun f s => (match f with
    | .next => evSs C n l s
    | f => R.ok f s)) = _
  rw [h]
  rfl
theorem s_ret {c : S} {l : List S} {o : O} {s1 : St} (h : evS C n c s = .ok (.ret o) s1) : evSs C (n + 1) (c :: l) s = .ok (.ret o) s1 := by
  show ((evS C n c s).bind fun f s => (match f with
    | .next => evSs C n l s
    | f => R.ok f s)) = _
  rw [h]
  rfl
theorem s_rete {e : E} {o : O} {s1 : St} (hn : ∀ i, e ≠ .loc i) (h : evE C n e s = .ok o s1) : evS C (n + 1) (.ret (some e)) s = .ok (.ret o) s1 := by
  have g : ((evE C n e s).bind fun o s => R.ok (Fl.ret o) s) = .ok (.ret o) s1 := by
    rw [h]
    rfl
  cases e with
  | loc i => exact (hn i rfl).elim
  | _ => exact g
end

/-! ### the dice -/
def diceO (a b c : Int) : O := .lst [.fz (.int a), .fz (.int b), .fz (.int c)]
def rollFn (k : Int) : Fn := ⟨2, 5, [0], [(.ife (.cmp (.idx (.loc 0) (.k (.int 0))) [(.gt, (.k (.int 0)))]) [(.asg (.name 2) (.bin .mod (.idx (.loc 0) (.k (.int 0))) (.loc 1))), (.seti 0 (.k (.int 0)) (.bin .fdiv (.idx (.loc 0) (.k (.int 0))) (.loc 1))), (.ret (some (.bi .int [(.loc 2)])))] []), (.seti 0 (.k (.int 2)) (.bin .add (.idx (.loc 0) (.k (.int 2))) (.k (.int 1)))), (.asg (.name 3) (.bin .mod (.bin .add (.idx (.loc 0) (.k (.int 1))) (.bin .mul (.k (.int 86028157)) (.idx (.loc 0) (.k (.int 2))))) (.k (.int 2305843009213693951)))), (.asg (.name 4) (.bin .add (.bin .mul (.bin .mod (.bin .add (.bin .mul (.loc 3) (.loc 3)) (.bin .mul (.k (.int k)) (.idx (.loc 0) (.k (.int 2))))) (.k (.int 2305843009213693907))) (.k (.int 15485867))) (.loc 3))), (.ret (some (.bin .mod (.bi .int [(.bin .fdiv (.loc 4) (.k (.int 65579)))]) (.loc 1))))]⟩
def diceFn (k0 k1 k2 k3 k4 k5 : Int) : Fn := ⟨2, 5, [], [(.asg (.name 2) (.ite (.cmp (.loc 1) [(.lt, (.bi .len [(.loc 0)]))]) (.bi .int [(.idx (.loc 0) (.loc 1))]) (.bin .add (.bin .mul (.k (.int k0)) (.loc 1)) (.k (.int k1))))), (.asg (.name 3) (.bin .mod (.bi .int [(.bi .abs [(.loc 2)])]) (.bin .pow (.bin .pow (.k (.int 10)) (.k (.int 54))) (.k (.int 6))))), (.asg (.name 4) (.bin .add (.bin .add (.bin .add (.bin .mul (.bin .mod (.loc 3) (.k (.int 2305843009213693921))) (.k (.int k2))) (.bin .mul (.k (.int k3)) (.loc 1))) (.bin .mul (.k (.int k4)) (.bi .int [(.cmp (.loc 2) [(.lt, (.k (.int 0)))])]))) (.k (.int k5)))), (.ret (some (.lst [(false, (.bi .max2 [(.k (.int 0)), (.bin .sub (.loc 3) (.bin .pow (.k (.int 10)) (.k (.int 16))))])), (false, (.loc 4)), (false, (.k (.int 0)))])))]⟩
/-- the reading of a number of the dice -/
theorem dice_idx {C : Cfg} {n : Nat} {a b c : Int} {l : St} {i : Nat} {x : Int} (h : [a, b, c][i]? = some x) : evD C (n + 4) (.idx (.loc 0) (.k (.int i))) (some (diceO a b c) :: l) = .ok (.int x) (some (diceO a b c) :: l) := by
  have hi : i < 3 := by
    have := (List.getElem?_eq_some_iff.mp h).1
    simpa using this
  have e : idxD (.lst [.int a, .int b, .int c]) (.int i) = some (.int x) := by
    match i, hi with
    | 0, _ => simp at h; subst h; rfl
    | 1, _ => simp at h; subst h; rfl
    | 2, _ => simp at h; subst h; rfl
  have p : evQd (.inl 0) (some (diceO a b c) :: l) = .ok (.lst [.int a, .int b, .int c]) (some (diceO a b c) :: l) := by
    show pkLoc 0 (some (diceO a b c) :: l) = _
    have t : O.toD (diceO a b c) = .lst [.int a, .int b, .int c] := by
      unfold diceO
      simp only [O.toD, O.toDs]
    have q : O.parts (diceO a b c) = diceO a b c := by
      unfold diceO
      simp only [O.parts, O.toD, O.toDs, List.map]
    show R.ok (O.toD (diceO a b c)) ((some (diceO a b c) :: l).set 0 (some (O.parts (diceO a b c)))) = _
    rw [t, q]
    rfl
  exact (q_of (e_idx (q_loc_q rfl) q_k p e)).trans (by unfold O.toD; rfl)
end VI.Kn
end

section
set_option Elab.async false
set_option linter.all false
set_option maxRecDepth 100000
set_option maxHeartbeats 400000
/-! VIx2: a roll, the dice's making. -/
namespace VI.Kn
open PySem VI

theorem big_lt {i : Int} {N : Nat} (h : i.natAbs < 2 ^ N) (hN : 0 < N) : big i < N := by
  unfold big
  by_cases z : i.natAbs = 0
  · rw [z]
    simpa using hN
  · exact (Nat.log2_lt z).mpr h
theorem b_mul {i j : Int} {N : Nat} (h1 : i.natAbs < 2 ^ N) (h2 : j.natAbs < 2 ^ N) (hN : 0 < N) (hN2 : N ≤ 400000) : binO .mul (.int i) (.int j) = some (.fz (.int (i * j))) := by
  show (if big i + big j < 1000000 then some (O.fz (.int (i * j))) else none) = _
  rw [if_pos (by have := big_lt h1 hN; have := big_lt h2 hN; omega)]
theorem b_mod {i j : Int} (h : 0 < j) : binO .mod (.int i) (.int j) = some (.fz (.int (i % j))) := if_pos h
theorem b_div {i j : Int} {N : Nat} (h : 0 < j) (h2 : j.natAbs < 2 ^ N) (hN : 0 < N) (hN2 : N ≤ 9000) : binO .fdiv (.int i) (.int j) = some (.fz (.int (i / j))) := if_pos ⟨h, by have := big_lt h2 hN; omega⟩
theorem s_seti {C : Cfg} {n : Nat} {a b c x : Int} {l : St} {i : Nat} {e : E} {r : O} (hi : i < 3) (h : evD C (n + 2) e (some (diceO a b c) :: l) = .ok (.int x) (some (diceO a b c) :: l)) (hr : O.lst ([.fz (.int a), .fz (.int b), .fz (.int c)].set i (.fz (.int x))) = r) :
    evS C (n + 3) (.seti 0 (.k (.int i)) e) (some (diceO a b c) :: l) = .ok .next (some r :: l) := by
  show ((evD C (n + 2) e (some (diceO a b c) :: l)).bind fun (d : D) (s : St) => (match s[0]? with
      | some (some _) => (evD C (n + 2) (.k (.int i)) s).bind fun (q : D) (s : St) => (match q, s[0]? with
        | .int z, some (some (O.lst l)) => (match ixN l.length z with
          | some j => R.ok Fl.next (s.set 0 (some (.lst (l.set j (.fz d)))))
          | none => .bad 50)
        | _, _ => .bad 53)
      | _ => .bad 53)) = _
  rw [h]
  show (match ixN 3 (i : Int) with
          | some j => R.ok Fl.next ((some (diceO a b c) :: l).set 0 (some (.lst ([O.fz (.int a), .fz (.int b), .fz (.int c)].set j (.fz (.int x))))))
          | none => .bad 50) = _
  have e : ixN 3 (i : Int) = some i := by
    unfold ixN
    rw [if_pos (by omega), if_pos (by omega)]
    simp
  rw [e]
  show R.ok Fl.next ((some (diceO a b c) :: l).set 0 (some (O.lst ([O.fz (.int a), .fz (.int b), .fz (.int c)].set i (.fz (.int x)))))) = _
  rw [hr]
  rfl
theorem s_ife {C : Cfg} {n : Nat} {s s1 : St} {c : E} {a b : List S} {t : Bool} (h : evC C n c s = .ok t s1) : evS C (n + 1) (.ife c a b) s = if t then evSs C n a s1 else evSs C n b s1 := by
  show ((evC C n c s).bind fun t s => if t then evSs C n a s else evSs C n b s) = _
  rw [h]
  rfl
theorem evSs_nil {C : Cfg} {n : Nat} {s : St} : evSs C (n + 1) [] s = .ok .next s := rfl
/-- one roll -/
theorem roll_run {a b c k : Int} {n : Nat} (hn : 0 < n) (hn2 : n < 2 ^ 64) (hb : b.natAbs < 2 ^ 1000) (hc0 : 0 ≤ c) (hc : c.natAbs < 2 ^ 1000) (hk : k.natAbs < 2 ^ 64) :
    ∃ r a' c' : Int, 0 ≤ r ∧ r < n ∧ ((a' = a ∧ c' = c + 1) ∨ (0 < a ∧ a' = a / n ∧ c' = c)) ∧ ∀ C : Cfg, C.io = [0] → ∃ t, evSs C DEPTH (rollFn k).body [some (diceO a b c), some (.fz (.int n)), none, none, none] = .ok (.ret (.fz (.int r))) (some (diceO a' b c') :: t) := by
  have io1' : ∀ (C : Cfg), C.io = [0] → ∀ i, 0 < i → C.io.contains i = false := fun C hio i hi => by
    rw [hio]
    cases i with
    | zero => omega
    | succ i => rfl
  have hN : (0 : Int) < n := by omega
  have nN : (n : Int).natAbs < 2 ^ 64 := by simpa using hn2
  -- the test
  have hcond' : ∀ C : Cfg, evC C 198 (.cmp (.idx (.loc 0) (.k (.int 0))) [(.gt, (.k (.int 0)))]) [some (diceO a b c), some (.fz (.int n)), none, none, none] = .ok (decide (0 < a)) [some (diceO a b c), some (.fz (.int n)), none, none, none] := fun C =>
    c_of (n := 195) (e_cmp (n := 194) (q_q (n := 193) (fun i z => by cases z) (dice_idx (n := 189) (i := 0) rfl)) (p_of (n := 193) (fun i z => by cases z) (q_k (n := 191))) rfl rfl)
  by_cases ha : 0 < a
  · refine ⟨a % n, a / n, c, Int.emod_nonneg _ (by omega), Int.emod_lt_of_pos _ hN, .inr ⟨ha, rfl, rfl⟩, fun C hio => ?_⟩
    have io1 := io1' C hio
    have hcond := hcond' C
    refine ⟨[some (.fz (.int n)), some (.fz (.int (a % n))), none, none], ?_⟩
    refine s_ret (n := 199) ?_
    refine (s_ife (n := 198) hcond).trans ?_
    rw [decide_eq_true ha]
    show evSs C 198 [_, _, _] _ = _
    refine (s_cons (n := 197) (s_asg (n := 196) (e_bin (n := 195) (dice_idx (n := 191) (i := 0) rfl) (q_loc (n := 193) rfl) (b_mod hN)) (io1 2 (by omega)) (by show 2 < 5; omega))).trans ?_
    refine (s_cons (n := 196) (s_seti (n := 193) (i := 0) (x := a / n) (by omega) (q_int (n := 193) (dice_idx (n := 189) (i := 0) rfl) (q_loc (n := 191) rfl) (b_div hN nN (by omega) (by omega))) rfl)).trans ?_
    exact s_ret (n := 195) (s_rete (n := 194) (fun i z => by cases z) (e_bi (n := 193) (x := .int (a % n)) (p_loc (n := 192) rfl) rfl))
  · let x := (b + 86028157 * (c + 1)) % 2305843009213693951
    let y := (x * x + k * (c + 1)) % 2305843009213693907 * 15485867 + x
    have hx : x.natAbs < 2 ^ 64 := by
      have h1 : 0 ≤ x := Int.emod_nonneg _ (by omega)
      have h2 : x < 2305843009213693951 := Int.emod_lt_of_pos _ (by omega)
      omega
    have hc1 : (c + 1).natAbs < 2 ^ 1001 := by
      have : (2 : Nat) ^ 1001 = 2 ^ 1000 * 2 := by rw [Nat.pow_succ]
      omega
    have hm : ((x * x + k * (c + 1)) % 2305843009213693907).natAbs < 2 ^ 64 := by
      have h1 : 0 ≤ (x * x + k * (c + 1)) % 2305843009213693907 := Int.emod_nonneg _ (by omega)
      have h2 : (x * x + k * (c + 1)) % 2305843009213693907 < 2305843009213693907 := Int.emod_lt_of_pos _ (by omega)
      omega
    have p64 : ∀ {i : Int}, i.natAbs < 2 ^ 64 → i.natAbs < 2 ^ 1001 := fun h => Nat.lt_of_lt_of_le h (Nat.pow_le_pow_right (by omega) (by omega))
    refine ⟨y / 65579 % n, a, c + 1, Int.emod_nonneg _ (by omega), Int.emod_lt_of_pos _ hN, .inl ⟨rfl, rfl⟩, fun C hio => ?_⟩
    have io1 := io1' C hio
    have hcond := hcond' C
    refine ⟨[some (.fz (.int n)), none, some (.fz (.int x)), some (.fz (.int y))], ?_⟩
    have e1 : evS C 199 (.ife (.cmp (.idx (.loc 0) (.k (.int 0))) [(.gt, (.k (.int 0)))]) [(.asg (.name 2) (.bin .mod (.idx (.loc 0) (.k (.int 0))) (.loc 1))), (.seti 0 (.k (.int 0)) (.bin .fdiv (.idx (.loc 0) (.k (.int 0))) (.loc 1))), (.ret (some (.bi .int [(.loc 2)])))] []) [some (diceO a b c), some (.fz (.int n)), none, none, none] = .ok .next [some (diceO a b c), some (.fz (.int n)), none, none, none] := by
      refine (s_ife (n := 198) hcond).trans ?_
      rw [decide_eq_false ha]
      exact evSs_nil (C := C) (n := 197)
    refine (s_cons (n := 199) e1).trans ?_
    refine (s_cons (n := 198) (s_seti (n := 195) (i := 2) (x := c + 1) (by omega) (q_int (n := 195) (dice_idx (n := 191) (i := 2) rfl) (q_k (n := 193)) rfl) rfl)).trans ?_
    refine (s_cons (n := 197) (s_asg (n := 196) (o := .fz (.int x)) (e_bin (n := 195) (x := .int (b + 86028157 * (c + 1))) (q_int (n := 193) (dice_idx (n := 189) (i := 1) rfl) (q_int (n := 191) (x := .int 86028157) (y := .int (c + 1)) (q_k (n := 189)) (dice_idx (n := 187) (i := 2) rfl) (b_mul (N := 1001) (p64 (by decide)) hc1 (by omega) (by omega))) rfl) (q_k (n := 193)) (b_mod (by omega))) (io1 3 (by omega)) (by show 3 < 5; omega))).trans ?_
    refine (s_cons (n := 196) (s_asg (n := 195) (o := .fz (.int y)) (e_bin (n := 194) (x := .int ((x * x + k * (c + 1)) % 2305843009213693907 * 15485867)) (y := .int x) (q_int (n := 192) (x := .int ((x * x + k * (c + 1)) % 2305843009213693907)) (y := .int 15485867) (q_int (n := 190) (x := .int (x * x + k * (c + 1))) (y := .int 2305843009213693907) (q_int (n := 188) (x := .int (x * x)) (y := .int (k * (c + 1))) (q_int (n := 186) (x := .int x) (y := .int x) (q_loc (n := 184) rfl) (q_loc (n := 184) rfl) (b_mul (N := 1001) (p64 hx) (p64 hx) (by omega) (by omega))) (q_int (n := 186) (x := .int k) (y := .int (c + 1)) (q_k (n := 184)) (dice_idx (n := 182) (i := 2) rfl) (b_mul (N := 1001) (p64 hk) hc1 (by omega) (by omega))) rfl) (q_k (n := 188)) (b_mod (by omega))) (q_k (n := 190)) (b_mul (N := 1001) (p64 hm) (p64 (by decide)) (by omega) (by omega))) (q_loc (n := 192) rfl) rfl) (io1 4 (by omega)) (by show 4 < 5; omega))).trans ?_
    exact s_ret (n := 195) (s_rete (n := 194) (fun i z => by cases z) (e_bin (n := 193) (x := .int (y / 65579)) (y := .int n) (q_bi (n := 191) (x := .int (y / 65579)) (p_of (n := 190) (fun i z => by cases z) (q_int (n := 188) (x := .int y) (y := .int 65579) (q_loc (n := 186) rfl) (q_k (n := 186)) (b_div (N := 64) (by omega) (by decide) (by omega) (by omega)))) rfl) (q_loc (n := 191) rfl) (b_mod hN)))
end VI.Kn
end

section
set_option Elab.async false
set_option linter.all false
set_option maxRecDepth 100000
set_option maxHeartbeats 400000
set_option exponentiation.threshold 2000
/-! VIx3: the dice's making. -/
namespace VI.Kn
open PySem VI

theorem scr_ix {ns : List Int} {i : Nat} {x : Int} (h : ns[i]? = some x) : idxD (.scr ns) (.int i) = some (.int x) := by
  have hi := (List.getElem?_eq_some_iff.mp h).1
  show ((ixN ns.length (i : Int)).bind fun j => (ns[j]?).map D.int) = _
  have e : ixN ns.length (i : Int) = some i := by
    unfold ixN
    rw [if_pos (by omega), if_pos (by omega)]
    simp
  rw [e]
  show (ns[i]?).map D.int = _
  rw [h]
  rfl
theorem b_pow {i j : Int} (h : 0 ≤ j ∧ ((big i + 1 : Nat) : Int) * j ≤ 134217728) : binO .pow (.int i) (.int j) = some (.fz (.int (i ^ j.toNat))) := if_pos h
theorem sum4 {x y z u v w p B F : Nat} (b1 : x ≤ y + p) (b2 : y ≤ z + w) (b3 : z ≤ u + v) (a1 : u ≤ B) (a2 : v ≤ B) (a3 : w ≤ B) (h : p < F) (f : F < B) : x ≤ B * 8 := by omega
theorem dice_run {C : Cfg} {ns : List Int} {i : Nat} {k0 k1 k2 k3 k4 k5 : Int} (hio : C.io = []) (hi : i < 2 ^ 20) (h0 : k0.natAbs < 2 ^ 64) (h2 : k2.natAbs < 2 ^ 64) (h3 : k3.natAbs < 2 ^ 64) (h4 : k4.natAbs < 2 ^ 64) (h5 : k5.natAbs < 2 ^ 64) :
    ∃ a b : Int, b.natAbs < 2 ^ 1000 ∧ ∃ t, evSs C DEPTH (diceFn k0 k1 k2 k3 k4 k5).body [some (.fz (.scr ns)), some (.fz (.int i)), none, none, none] = .ok (.ret (diceO a b 0)) t := by
  have io1 : ∀ i, C.io.contains i = false := fun i => by rw [hio]; rfl
  have iN : (i : Int).natAbs < 2 ^ 64 := by
    have : (2 : Nat) ^ 20 < 2 ^ 64 := by decide
    simp only [Int.natAbs_natCast]
    omega
  obtain ⟨cell, hcell⟩ : ∃ cell : Int, evE C 198 (.ite (.cmp (.loc 1) [(.lt, (.bi .len [(.loc 0)]))]) (.bi .int [(.idx (.loc 0) (.loc 1))]) (.bin .add (.bin .mul (.k (.int k0)) (.loc 1)) (.k (.int k1)))) [some (.fz (.scr ns)), some (.fz (.int i)), none, none, none] = .ok (.fz (.int cell)) [some (.fz (.scr ns)), some (.fz (.int i)), none, none, none] := by
    have hc : evC C 197 (.cmp (.loc 1) [(.lt, (.bi .len [(.loc 0)]))]) [some (.fz (.scr ns)), some (.fz (.int i)), none, none, none] = .ok (decide ((i : Int) < (ns.length : Int))) [some (.fz (.scr ns)), some (.fz (.int i)), none, none, none] :=
      c_of (n := 194) (e_cmp (n := 193) (q_loc_q (n := 192) rfl) (p_of (n := 192) (fun i z => by cases z) (q_bi (n := 190) (z := (ns.length : Int)) (p_loc (n := 189) (d := .scr ns) rfl) rfl)) (qd_fz rfl) rfl)
    by_cases hl : i < ns.length
    · refine ⟨ns[i], ?_⟩
      rw [decide_eq_true (by omega)] at hc
      refine e_ite (n := 197) hc (fun _ => ?_) fun z => by cases z
      refine q_bi (n := 195) (x := .int ns[i]) (p_of (n := 194) (fun i z => by cases z) ?_) rfl
      exact (q_of (n := 193) (e_idx (n := 192) (q_loc_q (n := 191) rfl) (q_loc (n := 190) rfl) (qd_fz (d := .scr ns) rfl) (scr_ix (List.getElem?_eq_getElem hl)))).trans (by unfold O.toD; rfl)
    · refine ⟨k0 * i + k1, ?_⟩
      rw [decide_eq_false (by omega)] at hc
      refine e_ite (n := 197) hc (fun z => by cases z) fun _ => ?_
      exact q_int (n := 195) (x := .int (k0 * i)) (y := .int k1) (q_int (n := 193) (x := .int k0) (y := .int i) (q_k (n := 191)) (q_loc (n := 191) rfl) (b_mul (N := 64) h0 iN (by omega) (by omega))) (q_k (n := 193)) rfl
  let A : Int := if cell < 0 then -cell else cell
  let T : Int := (10 : Int) ^ (54 : Int).toNat
  let P : Int := T ^ (6 : Int).toNat
  let Q : Int := (10 : Int) ^ (16 : Int).toNat
  let g : Int := A % P
  let sg : Int := if decide (cell < 0) then 1 else 0
  let seed : Int := g % 2305843009213693921 * k2 + k3 * i + k4 * sg + k5
  have hP : (0 : Int) < P := by decide +kernel
  have hm : (g % 2305843009213693921).natAbs < 2 ^ 64 := by
    have h1 : 0 ≤ g % 2305843009213693921 := Int.emod_nonneg _ (by omega)
    have h2 : g % 2305843009213693921 < 2305843009213693921 := Int.emod_lt_of_pos _ (by omega)
    omega
  have hsg : sg.natAbs < 2 ^ 64 := by
    show (if decide (cell < 0) = true then (1 : Int) else 0).natAbs < _
    split <;> decide
  have mulb : ∀ {x y : Int}, x.natAbs < 2 ^ 64 → y.natAbs < 2 ^ 64 → (x * y).natAbs ≤ 2 ^ 128 := fun {x y} hx hy => by
    rw [Int.natAbs_mul]
    have := Nat.mul_le_mul (Nat.le_of_lt hx) (Nat.le_of_lt hy)
    have e : (2 : Nat) ^ 64 * 2 ^ 64 = 2 ^ 128 := by decide
    omega
  have hseed : seed.natAbs < 2 ^ 1000 := by
    have a1 := mulb hm h2
    have a2 := mulb h3 iN
    have a3 := mulb h4 hsg
    have e : (2 : Nat) ^ 128 * 8 < 2 ^ 1000 := by decide +kernel
    refine Nat.lt_of_le_of_lt ?_ e
    have f : (2 : Nat) ^ 64 < 2 ^ 128 := by decide
    have b1 := Int.natAbs_add_le (g % 2305843009213693921 * k2 + k3 * i + k4 * sg) k5
    have b2 := Int.natAbs_add_le (g % 2305843009213693921 * k2 + k3 * i) (k4 * sg)
    have b3 := Int.natAbs_add_le (g % 2305843009213693921 * k2) (k3 * i)
    exact sum4 b1 b2 b3 a1 a2 a3 h5 f
  refine ⟨if g - Q > 0 then g - Q else 0, seed, hseed, [some (.fz (.scr ns)), some (.fz (.int i)), some (.fz (.int cell)), some (.fz (.int g)), some (.fz (.int seed))], ?_⟩
  refine (s_cons (n := 199) (s_asg (n := 198) hcell (io1 2) (by show 2 < 5; omega))).trans ?_
  have p1 : binO .pow (.int 10) (.int 54) = some (.fz (.int T)) := b_pow (by decide)
  have p2 : binO .pow (.int T) (.int 6) = some (.fz (.int P)) := b_pow (by decide +kernel)
  have p3 : binO .pow (.int 10) (.int 16) = some (.fz (.int Q)) := b_pow (by decide)
  refine (s_cons (n := 198) (s_asg (n := 197) (o := .fz (.int g)) (e_bin (n := 196) (x := .int A) (y := .int P) (q_bi (n := 194) (x := .int A) (p_of (n := 193) (fun i z => by cases z) (q_bi (n := 191) (x := .int cell) (p_loc (n := 190) rfl) rfl)) rfl) (q_int (n := 194) (x := .int T) (y := .int 6) (q_int (n := 192) (x := .int 10) (y := .int 54) (q_k (n := 190)) (q_k (n := 190)) p1) (q_k (n := 192)) p2) (b_mod hP)) (io1 3) (by show 3 < 5; omega))).trans ?_
  refine (s_cons (n := 197) (s_asg (n := 196) (o := .fz (.int seed)) (e_bin (n := 195) (x := .int (g % 2305843009213693921 * k2 + k3 * i + k4 * sg)) (y := .int k5) (q_int (n := 193) (x := .int (g % 2305843009213693921 * k2 + k3 * i)) (y := .int (k4 * sg)) (q_int (n := 191) (x := .int (g % 2305843009213693921 * k2)) (y := .int (k3 * i))
    (q_int (n := 189) (x := .int (g % 2305843009213693921)) (y := .int k2) (q_int (n := 187) (x := .int g) (y := .int 2305843009213693921) (q_loc (n := 185) rfl) (q_k (n := 185)) (b_mod (by omega))) (q_k (n := 187)) (b_mul (N := 64) hm h2 (by omega) (by omega)))
    (q_int (n := 189) (x := .int k3) (y := .int i) (q_k (n := 187)) (q_loc (n := 187) rfl) (b_mul (N := 64) h3 iN (by omega) (by omega))) rfl)
    (q_int (n := 191) (x := .int k4) (y := .int sg) (q_k (n := 189)) (q_bi (n := 189) (x := .bl (decide (cell < 0))) (p_of (n := 188) (fun i z => by cases z) ((q_of (n := 187) (e_cmp (n := 186) (q_loc_q (n := 185) rfl) (p_of (n := 185) (fun i z => by cases z) (q_k (n := 183))) (qd_fz rfl) rfl)).trans (by unfold O.toD; rfl))) rfl) (b_mul (N := 64) h4 hsg (by omega) (by omega))) rfl) (q_k (n := 193)) rfl) (io1 4) (by show 4 < 5; omega))).trans ?_
  refine s_ret (n := 196) (s_rete (n := 195) (fun i z => by cases z) ?_)
  have hm2 : evD C 194 (.bi .max2 [.k (.int 0), .bin .sub (.loc 3) (.bin .pow (.k (.int 10)) (.k (.int 16)))]) [some (.fz (.scr ns)), some (.fz (.int i)), some (.fz (.int cell)), some (.fz (.int g)), some (.fz (.int seed))] = .ok (.int (if g - Q > 0 then g - Q else 0)) [some (.fz (.scr ns)), some (.fz (.int i)), some (.fz (.int cell)), some (.fz (.int g)), some (.fz (.int seed))] :=
    q_bi2 (n := 192) (x := .int 0) (y := .int (g - Q)) (q_k (n := 190)) (q_int (n := 190) (x := .int g) (y := .int (Q)) (q_loc (n := 188) rfl) (q_int (n := 188) (x := .int 10) (y := .int 16) (q_k (n := 186)) (q_k (n := 186)) p3) rfl) rfl
  show (((evD C 194 (.bi .max2 [.k (.int 0), .bin .sub (.loc 3) (.bin .pow (.k (.int 10)) (.k (.int 16)))]) [some (.fz (.scr ns)), some (.fz (.int i)), some (.fz (.int cell)), some (.fz (.int g)), some (.fz (.int seed))]).bind fun d s => (evSpl (evD C 194) [(false, .loc 4), (false, .k (.int 0))] s).bind fun ds s => R.ok (d :: ds) s).bind fun ds s => if ds.length ≤ LIM then R.ok (O.lst (ds.map .fz)) s else .bad 23) = _
  rw [hm2]
  rfl
end VI.Kn
end

section
set_option Elab.async false
set_option linter.all false
set_option maxRecDepth 100000
set_option maxHeartbeats 400000
set_option exponentiation.threshold 2000
/-! VIx4: told rolls. -/
namespace VI.Kn
open PySem VI

def DLIM : Nat := 2 ^ 60
def DiceM (M : Nat) (x : O) : Prop := ∃ a b c : Int, x = diceO a b c ∧ b.natAbs < 2 ^ 1000 ∧ 0 ≤ c ∧ c ≤ (M : Int)
theorem DiceM.mono {M M' : Nat} {x : O} (h : DiceM M x) (l : M ≤ M') : DiceM M' x := by
  obtain ⟨a, b, c, e, h1, h2, h3⟩ := h
  exact ⟨a, b, c, e, h1, h2, by omega⟩
abbrev Tbl : Type := Nat → Option (Nat × Nat × List O × O)
def SCR : Nat := 1073741824
section
variable (glob : Nat → Option G) (rid : Nat) (tbl : Tbl)
/-- the dice's next rolls and calls are as told -/
def Fol (M : Nat) : List (Nat × Nat) → O → Prop
  | [], x => DiceM M x
  | (r, n) :: t, x => (0 < n ∧ r < n ∧ ∃ x', (∀ k, callK glob (k + 1) none rid [x, .fz (.int n)] = .ok (.fz (.int r)) [some x', none]) ∧ Fol M t x') ∨
    (n = 0 ∧ ∃ k f args res x' ps, tbl r = some (k, f, args, res) ∧ callK glob (k + 1) none f (x :: args) = .ok res (some x' :: ps) ∧ ps.length = args.length ∧ Fol M t x')
def FF (ns : List Int) (M : Nat) (t : List (Nat × Nat)) (x : O) : Prop := (t = [(SCR, 0)] ∧ x = .fz (.scr ns)) ∨ Fol glob rid tbl M t x
/-- a row of the table holds: W, what the counter may grow by -/
def Row (W : Nat) (k f : Nat) (args : List O) (res : O) : Prop := ∀ M x, M + W ≤ DLIM → DiceM M x → ∃ x' ps, DiceM (M + W) x' ∧ callK glob (k + 1) none f (x :: args) = .ok res (some x' :: ps) ∧ ps.length = args.length
end
section
variable {glob : Nat → Option G} {rid : Nat} {tbl : Tbl} {kc : Int}
theorem roll_ok (hg : glob rid = some (.fn (rollFn kc))) (hk : kc.natAbs < 2 ^ 64) {M : Nat} {x : O} {n : Nat} (h : DiceM M x) (hM : M + 1 ≤ DLIM) (hn : 0 < n) (hn2 : n < 2 ^ 64) :
    ∃ r : Nat, r < n ∧ ∃ x', DiceM (M + 1) x' ∧ ∀ k, callK glob (k + 1) none rid [x, .fz (.int n)] = .ok (.fz (.int r)) [some x', none] := by
  obtain ⟨a, b, c, rfl, hb, hc, hcM⟩ := h
  have hc1000 : c.natAbs < 2 ^ 1000 := by
    have h1 : c.natAbs ≤ M := by omega
    have h2 : M < 2 ^ 60 := by unfold DLIM at hM; omega
    exact Nat.lt_of_le_of_lt h1 (Nat.lt_trans h2 (by decide))
  obtain ⟨r, a', c', h0, hr, hac, run⟩ := roll_run (a := a) (b := b) (c := c) (k := kc) hn hn2 hb hc hc1000 hk
  refine ⟨r.toNat, by omega, diceO a' b c', ⟨a', b, c', rfl, hb, ?_, ?_⟩, fun k => ?_⟩
  · rcases hac with ⟨_, rfl⟩ | ⟨_, _, rfl⟩ <;> omega
  · rcases hac with ⟨_, rfl⟩ | ⟨_, _, rfl⟩ <;> omega
  · obtain ⟨call, _, e⟩ := callK_fn (k := k) (lr := none) (os := [diceO a b c, .fz (.int n)]) hg
    rw [e]
    obtain ⟨t, et⟩ := run { glob := glob, call := call, lamc := fun r g => callK glob k (some r) g [.fz .lam], lamr := none, io := [0] } rfl
    have er : ((r.toNat : Nat) : Int) = r := by omega
    show (match evSs { glob := glob, call := call, lamc := fun r g => callK glob k (some r) g [.fz .lam], lamr := none, io := [0] } DEPTH (rollFn kc).body [some (diceO a b c), some (.fz (.int n)), none, none, none] with
      | .ok (.ret o) s => CR.ok o (endCR [0] 2 s)
      | .ok .next s => .ok (.fz .non) (endCR [0] 2 s)
      | .ok _ _ => .bad 60
      | .ex c p s => .ex c p (endCR [0] 2 s)
      | .bad n => .bad n) = _
    rw [et, er]
    rfl
theorem Fol.mono {M M' : Nat} (l : M ≤ M') : ∀ {t : List (Nat × Nat)} {x : O}, Fol glob rid tbl M t x → Fol glob rid tbl M' t x
  | [], x, h => DiceM.mono h l
  | (r, n) :: t, x, h => by
    rcases h with ⟨h1, h2, x', h3, h4⟩ | ⟨h1, k, f, args, res, x', ps, h2, h3, h4, h5⟩
    · exact .inl ⟨h1, h2, x', h3, Fol.mono l h4⟩
    · exact .inr ⟨h1, k, f, args, res, x', ps, h2, h3, h4, Fol.mono l h5⟩
theorem ext_roll (hg : glob rid = some (.fn (rollFn kc))) (hk : kc.natAbs < 2 ^ 64) {M n : Nat} (hM : M + 1 ≤ DLIM) (hn : 0 < n) (hn2 : n < 2 ^ 64) : ∀ {t : List (Nat × Nat)} {x : O}, Fol glob rid tbl M t x → ∃ r, r < n ∧ Fol glob rid tbl (M + 1) (t ++ [(r, n)]) x
  | [], x, h => by
    obtain ⟨r, h1, x', h2, h3⟩ := roll_ok hg hk h hM hn hn2
    exact ⟨r, h1, .inl ⟨hn, h1, x', h3, h2⟩⟩
  | (r, m) :: t, x, h => by
    rcases h with ⟨h1, h2, x', h3, h4⟩ | ⟨h1, k, f, args, res, x', ps, h2, h3, h4, h5⟩
    · obtain ⟨r', a1, a2⟩ := ext_roll hg hk hM hn hn2 h4
      exact ⟨r', a1, .inl ⟨h1, h2, x', h3, a2⟩⟩
    · obtain ⟨r', a1, a2⟩ := ext_roll hg hk hM hn hn2 h5
      exact ⟨r', a1, .inr ⟨h1, k, f, args, res, x', ps, h2, h3, h4, a2⟩⟩
theorem ext_mark {W M i k f : Nat} {args : List O} {res : O} (hi : tbl i = some (k, f, args, res)) (R : Row glob W k f args res) (hM : M + W ≤ DLIM) : ∀ {t : List (Nat × Nat)} {x : O}, Fol glob rid tbl M t x → Fol glob rid tbl (M + W) (t ++ [(i, 0)]) x
  | [], x, h => by
    obtain ⟨x', ps, h1, h2, h3⟩ := R M x hM h
    exact .inr ⟨rfl, k, f, args, res, x', ps, hi, h2, h3, h1⟩
  | (r, m) :: t, x, h => by
    rcases h with ⟨h1, h2, x', h3, h4⟩ | ⟨h1, k, f, args, res, x', ps, h2, h3, h4, h5⟩
    · exact .inl ⟨h1, h2, x', h3, ext_mark hi R hM h4⟩
    · exact .inr ⟨h1, k, f, args, res, x', ps, h2, h3, h4, ext_mark hi R hM h5⟩
theorem FF.mono {ns : List Int} {M M' : Nat} (l : M ≤ M') {t : List (Nat × Nat)} {x : O} (h : FF glob rid tbl ns M t x) : FF glob rid tbl ns M' t x := h.imp id (Fol.mono l)
theorem SR.imp {F F' : List (Nat × Nat) → O → Prop} (h : ∀ t x, F t x → F' t x) {a : L} {b : Option O} (q : SR F a b) : SR F' a b := by
  cases q with
  | no => exact .no
  | o => exact .o
  | tk z => exact .tk (h _ _ z)
theorem SS.imp {F F' : List (Nat × Nat) → O → Prop} (h : ∀ t x, F t x → F' t x) {s : LS} {t : St} (q : SS F s t) : SS F' s t := by
  induction q with
  | nil => exact .nil
  | cons r _ ih => exact .cons (r.imp h) ih
/-! ### hooks -/
theorem sameOs_ok {F : List (Nat × Nat) → O → Prop} : ∀ {l : List O} {m : LS} {os : List O}, sameOs l m = true → SS F m (os.map some) → os = l
  | [], [], [], _, _ => rfl
  | [], [], _ :: _, _, q => by cases q
  | [], _ :: _, _, h, _ => by cases h
  | _ :: _, [], _, h, _ => by cases h
  | x :: l, y :: m, [], _, q => by cases q
  | x :: l, y :: m, o :: os, h, q => by
    cases q with
    | cons r q =>
      cases r with
      | no => cases h
      | tk _ => cases h
      | o =>
        obtain ⟨h1, h2⟩ := if_and (show (@Bool.rec (fun _ => Bool) false (sameOs l m) (sameO x o)) = true from h)
        rw [← sameO_ok h1, sameOs_ok h2 q]
theorem SS.noes {F : List (Nat × Nat) → O → Prop} {ps : List (Option O)} {n : Nat} (h : ps.length = n) : SS F (List.replicate n .no) ps := SS.no h
theorem sumRow_ok {ns : List Int} {M k f : Nat} {t : List (Nat × Nat)} {rest : LS} {x : O} {os : List O} {z : LCR} (hscr : tbl SCR = none) (ht : FF glob rid tbl ns M t x) (hr : SS (FF glob rid tbl ns M) rest (os.map some)) (hz : CS (FF glob rid tbl ns M) z (callK glob (k + 1) none f (x :: os))) :
    ∀ rows : List (Nat × List O × O), (∀ w ∈ rows, tbl w.1 = some (k, f, w.2.1, w.2.2)) → CS (FF glob rid tbl ns M) (sumRow t rest rows z) (callK glob (k + 1) none f (x :: os))
  | [], _ => hz
  | w :: rows, hw => by
    show CS _ (@Bool.rec (fun _ => LCR) (sumRow t rest rows z) (@List.rec (Nat × Nat) (fun _ => LCR) (.bad (Nat.add 1001 (Nat.add w.1 w.1))) (fun p r _ => @Bool.rec (fun _ => _) (.bad 912) (@Bool.rec (fun _ => _) (.bad 911) (.ok w.2.2 (.tk r :: List.replicate (len rest) .no)) (Nat.beq p.2 Nat.zero)) (Nat.beq p.1 w.1)) t) (sameOs w.2.1 rest)) _
    cases hs : sameOs w.2.1 rest with
    | false => exact sumRow_ok hscr ht hr hz rows fun w h => hw w (List.mem_cons_of_mem _ h)
    | true =>
      have ho := sameOs_ok hs hr
      have hi := hw w List.mem_cons_self
      cases t with
      | nil => exact trivial
      | cons p t =>
        obtain ⟨p1, p2⟩ := p
        show CS _ (@Bool.rec (fun _ => LCR) (.bad 912) (@Bool.rec (fun _ => LCR) (.bad 911) (.ok w.2.2 (.tk t :: List.replicate (len rest) .no)) (Nat.beq p2 Nat.zero)) (Nat.beq p1 w.1)) _
        cases h1 : Nat.beq p1 w.1 with
        | false => exact trivial
        | true =>
          cases h2 : Nat.beq p2 Nat.zero with
          | false => exact trivial
          | true =>
            have e1 := Nat.eq_of_beq_eq_true h1
            have e2 : p2 = 0 := Nat.eq_of_beq_eq_true h2
            subst e1 e2
            rcases ht with ⟨e, _⟩ | ht
            · injection e with e _
              injection e with e _
              rw [e, hscr] at hi
              cases hi
            · rcases ht with ⟨h, _⟩ | ⟨_, k', f', args, res, x', ps, h3, h4, h5, h6⟩
              · omega
              · rw [hi] at h3
                cases h3
                rw [ho, h4]
                refine ⟨_, rfl, .cons (.tk (.inr h6)) ?_⟩
                rw [len_eq]
                have hl : rest.length = os.length := by rw [hr.len, List.length_map]
                exact SS.noes (by rw [h5, hl, ho])
theorem hook_ok {ns : List Int} {M : Nat} {hook : Nat → Nat → Option Hok} (hh : ∀ k f h, hook k f = some h → (h = .roll ∧ f = rid) ∨ ∃ rows, h = .sum rows ∧ ∀ w ∈ rows, tbl w.1 = some (k, f, w.2.1, w.2.2)) (hscr : tbl SCR = none) : HookOk (FF glob rid tbl ns M) glob hook := by
  intro k f h e B hB lr lr' os os' hl q
  rcases hh k f h e with ⟨rfl, rfl⟩ | ⟨rows, rfl, hr⟩
  · cases lr with
    | some r => exact trivial
    | none =>
      cases hl
      match os, os', q with
      | [], _, _ => exact trivial
      | .no :: _, _, _ => exact trivial
      | .o _ :: _, _, _ => exact trivial
      | [.tk t], _, _ => exact trivial
      | .tk t :: _ :: _ :: _, _, _ => exact trivial
      | [.tk t, .no], _, _ => exact trivial
      | [.tk t, .tk _], _, _ => exact trivial
      | [.tk t, .o y], [], q => cases q
      | [.tk t, .o y], [_], q => cases q with | cons _ q => cases q
      | [.tk t, .o y], _ :: _ :: _ :: _, q => cases q with | cons _ q => cases q with | cons _ q => cases q
      | [.tk t, .o y], [x, y'], q =>
        have ht : FF glob f tbl ns M t x := by cases q with | cons h _ => cases h with | tk h => exact h
        have hy : y' = y := by cases q with | cons _ q => cases q with | cons h _ => cases h; rfl
        subst hy
        show CS _ (ocase y' (fun d => rollK t d) (fun _ => .bad 907) (.bad 907)) _
        cases y' with
        | fz d =>
          show CS _ (rollK t d) _
          cases d with
          | int i => cases i with
            | negSucc n => exact trivial
            | ofNat n => cases t with
              | nil => exact trivial
              | cons p t =>
                obtain ⟨r, m⟩ := p
                show CS _ (@Bool.rec (fun _ => LCR) (.bad 901) (@Bool.rec (fun _ => LCR) (.ok (.fz (.int (.ofNat r))) [.tk t, .no]) (.bad 900) (Nat.beq n Nat.zero)) (Nat.beq m n)) _
                cases h1 : Nat.beq m n with
                | false => exact trivial
                | true =>
                  cases h2 : Nat.beq n Nat.zero with
                  | true => exact trivial
                  | false =>
                    have e1 := Nat.eq_of_beq_eq_true h1
                    subst e1
                    rcases ht with ⟨z, _⟩ | ht
                    · injection z with z _
                      injection z with _ z
                      subst z
                      cases h2
                    · rcases ht with ⟨h3, h4, x', h5, h6⟩ | ⟨h3, _⟩
                      · have := h5 k
                        rw [show ((m : Nat) : Int) = Int.ofNat m from rfl] at this
                        rw [this]
                        exact ⟨_, rfl, .cons (.tk (.inr h6)) (.cons .no .nil)⟩
                      · subst h3
                        cases h2
          | _ => exact trivial
        | _ => exact trivial
  · cases lr with
    | some r => exact hB (some r) lr' os os' hl q
    | none =>
      cases hl
      have hb := hB none none os os' rfl q
      match os, os', q with
      | [], _, _ => exact hb
      | .no :: _, _, _ => exact hb
      | .o _ :: _, _, _ => exact hb
      | .tk t :: rest, [], q => cases q
      | .tk t :: rest, x :: os', q =>
        have ht : FF glob rid tbl ns M t x := by cases q with | cons h _ => cases h with | tk h => exact h
        have q' : SS (FF glob rid tbl ns M) rest (os'.map some) := by cases q with | cons _ q => exact q
        exact sumRow_ok hscr ht q' hb rows hr
end
end VI.Kn
end

section
set_option Elab.async false
set_option linter.all false
set_option maxRecDepth 100000
set_option maxHeartbeats 400000
/-! VIx5: all ways that the dice may fall. -/
namespace VI.Kn
open PySem VI

noncomputable section
def isT0 (j : Nat) (s : LS) : Bool := opt (nth j s) false fun x => @L.rec (fun _ => Bool) false (fun _ => false) (fun t => nilB t) x
def catR {β : Type} (g : Nat → Option (List β)) : Nat → Option (List β)
  | 0 => some []
  | n + 1 => match catR g n with
    | none => none
    | some a => match g n with
      | none => none
      | some b => some (b ++ a)
/-- more is to be told: a roll | the mark of a call -/
def askR {β : Type} (T m : Nat) (roll mark : Nat → Option β) : Option β := @Bool.rec (fun _ => _) (@Bool.rec (fun _ => _) (@Bool.rec (fun _ => _) none (mark (Nat.div (Nat.sub m 1000) 2)) (Nat.ble (Nat.succ (Nat.div (Nat.sub m 1000) 2)) T)) (@Bool.rec (fun _ => _) none (@Bool.rec (fun _ => _) none (roll (Nat.div (Nat.sub m 1000) 2)) (Nat.ble 1 (Nat.div (Nat.sub m 1000) 2))) (Nat.ble (Nat.div (Nat.sub m 1000) 2) 1000)) (Nat.beq (Nat.mod m 2) Nat.zero)) none (Nat.ble m 1000)
theorem askR_ok {β : Type} {T m : Nat} {roll mark : Nat → Option β} {r : β} (h : askR T m roll mark = some r) : (∃ n, 0 < n ∧ n ≤ 1000 ∧ roll n = some r) ∨ ∃ i, i < T ∧ mark i = some r := by
  unfold askR at h
  rw [ble_if] at h
  split at h
  · cases h
  · rw [ifb_eq] at h
    generalize Nat.div (Nat.sub m 1000) 2 = n at h
    split at h
    · rw [ble_if] at h
      split at h
      · rename_i h1
        rw [ble_if] at h
        split at h
        · rename_i h2
          exact .inl ⟨n, h2, h1, h⟩
        · cases h
      · cases h
    · rw [ble_if] at h
      split at h
      · rename_i h1
        exact .inr ⟨n, h1, h⟩
      · cases h
def runT (T : Nat) (A : Kx Fl) (j : Nat) : Nat → List (Nat × Nat) → LS → Option (List (Fl × LS))
  | 0, _, _ => none
  | fuel + 1, t, s => @KR.rec Fl (fun _ => Option (List (Fl × LS))) (fun f s' => @Bool.rec (fun _ => _) none (some [(f, s')]) (isT0 j s')) (fun _ _ _ => none) (fun m => askR T m (fun n => catR (fun r => runT T A j fuel (t ++ [(r, n)]) s) n) (fun i => runT T A j fuel (t ++ [(i, 0)]) s)) (setK j (.tk t) s fun s => A.run none s)
/-- only what is asked for later is kept -/
def fgt (live : List Nat) (s : LS) : Nat → LS := @List.rec L (fun _ => Nat → LS) (fun _ => []) (fun x _ ih i => (@Bool.rec (fun _ => _) .no x (memN i live)) :: ih (Nat.succ i)) s
def frLS {β : Type} (s : LS) : (LS → β) → β := @List.rec L (fun _ => (LS → β) → β) (fun k => k []) (fun x _ ih k => @L.rec (fun _ => β) (ih fun r => k (.no :: r)) (fun o => ih fun r => k (.o o :: r)) (fun t => ih fun r => k (.tk t :: r)) x) s
def sameL (a b : L) : Bool := @L.rec (fun _ => Bool) (@L.rec (fun _ => Bool) true (fun _ => false) (fun _ => false) b) (fun x => lcase b false fun y => sameO x y) (fun t => @L.rec (fun _ => Bool) false (fun _ => false) (fun u => @Bool.rec (fun _ => _) (decide (t = u)) (nilB u) (nilB t)) b) a
def sameS (a : LS) : LS → Bool := @List.rec L (fun _ => LS → Bool) (fun b => nilB b) (fun x _ ih b => @List.rec L (fun _ => Bool) false (fun y r _ => @Bool.rec (fun _ => _) false (ih r) (sameL x y)) b) a
def insS (s : LS) (acc : List LS) : List LS := @Bool.rec (fun _ => _) (s :: acc) acc (@List.rec LS (fun _ => Bool) false (fun x _ ih => @Bool.rec (fun _ => _) ih true (sameS s x)) acc)
def addR (j : Nat) (res : Option O) (live : List Nat) : List (Fl × LS) → List LS → Option (List LS)
  | [], acc => some acc
  | (f, s) :: l, acc => flc f (frLS (fgt live s Nat.zero) fun s => @Bool.rec (fun _ => _) none (addR j res live l (insS s acc)) (isT0 j s)) (fun o => opt res none fun r => @Bool.rec (fun _ => _) none (addR j res live l acc) (sameO r o)) none none
def stp (T : Nat) (A : Kx Fl) (j lim : Nat) (res : Option O) (live : List Nat) : List LS → List LS → Option (List LS)
  | [], acc => some acc
  | s :: S, acc => match runT T A j lim [] s with
    | none => none
    | some l => match addR j res live l acc with
      | none => none
      | some acc => stp T A j lim res live S acc
def fgtAll (j : Nat) (live : List Nat) : List LS → List LS → Option (List LS)
  | [], acc => some acc
  | s :: S, acc => frLS (fgt live s Nat.zero) fun s => @Bool.rec (fun _ => _) none (fgtAll j live S (insS s acc)) (isT0 j s)
def bindT (T : KT) (j : Nat) (d : D) : List LS → Option (List LS)
  | [] => some []
  | s :: S => @KR.rec Unit (fun _ => Option (List LS)) (fun _ s' => @Bool.rec (fun _ => _) none (match bindT T j d S with
    | some S => some (s' :: S)
    | none => none) (isT0 j s')) (fun _ _ _ => none) (fun _ => none) (T.run d s)
def itemsS (Xs : Kx (List D)) (I : FL (List D)) (j : Nat) (s : LS) : Option (List D × LS) := @KR.rec (List D) (fun _ => Option (List D × LS)) (fun xs s' => @Bool.rec (fun _ => _) none (match I.f xs with
  | some l => some (l, s')
  | none => none) (isT0 j s')) (fun _ _ _ => none) (fun _ => none) (Xs.run none s)
def loopIn (Xs : Kx (List D)) (I : FL (List D)) (j : Nat) : List LS → Option (List D × List LS)
  | [] => none
  | s :: S => match itemsS Xs I j s with
    | none => none
    | some (l, s') => match S with
      | [] => some (l, [s'])
      | _ :: _ => match loopIn Xs I j S with
        | none => none
        | some (l', S') => @Bool.rec (fun _ => _) none (some (l, s' :: S')) (eqvs (sameD 60) l l')
def loopX (f : List LS → Option (Nat × List LS)) (T : KT) (j : Nat) (live : List Nat) : List D → List LS → Option (Nat × List LS)
  | [], S => some (0, S)
  | d :: l, S => match bindT T j d S with
    | none => none
    | some S1 => match f S1 with
      | none => none
      | some (c, S2) => match fgtAll j live S2 [] with
        | none => none
        | some S3 => match loopX f T j live l S3 with
          | none => none
          | some (c', S4) => some (c + c', S4)
/-- how a body is gone through: one statement after the other, a loop item by item; the slots that are kept -/
inductive Pn where
  | stm (live : List Nat) | loop (live after : List Nat) (b : List Pn)
def exSs (R : Nat) (K : KC) (j lim : Nat) (res : Option O) : Nat → Nat → List S → List Pn → List LS → Option (Nat × List LS)
  | 0, _, _, _, _ => none
  | _ + 1, 0, _, _, _ => none
  | g + 1, n + 1, l, ps, S => match S with
    | [] => some (0, [])
    | s0 :: S0 => match l, ps with
      | [], _ => some (0, s0 :: S0)
      | _ :: _, [] => none
      | c :: l, .stm live :: ps => (match stp R ((ks K n).s c) j lim res live (s0 :: S0) [] with
        | none => none
        | some S' => match exSs R K j lim res g n l ps S' with
          | none => none
          | some (k, S'') => some (k + 1, S''))
      | c :: l, .loop live after b :: ps => (match n, c with
        | m + 1, .forr T it as body => (match loopIn (cDs (kf K m).d as) (itK it) j (s0 :: S0) with
          | none => none
          | some (items, S1) => match loopX (fun S => exSs R K j lim res g m body b S) (cT K.io T) j live items S1 with
            | none => none
            | some (k, S2) => match fgtAll j after S2 [] with
              | none => none
              | some S3 => match exSs R K j lim res g (m + 1) l ps S3 with
                | none => none
                | some (k', S4) => some (k + k', S4))
        | _, _ => none)
end

/-! ### it is so -/
section
variable {glob : Nat → Option G} {rid : Nat} {tbl : Tbl} {kc : Int} {ns : List Int} {W T j : Nat} {res : Option O}
abbrev SSm (glob : Nat → Option G) (rid : Nat) (tbl : Tbl) (ns : List Int) (M : Nat) (s : LS) (t : St) : Prop := SS (FF glob rid tbl ns M) s t
theorem SS.up {M M' : Nat} (l : M ≤ M') {s : LS} {t : St} (q : SSm glob rid tbl ns M s t) : SSm glob rid tbl ns M' s t := q.imp fun _ _ h => FF.mono l h
theorem isT0_ok {M : Nat} {s : LS} {t : St} (q : SSm glob rid tbl ns M s t) (h : isT0 j s = true) : s[j]? = some (.tk []) ∧ ∃ x, t[j]? = some (some x) ∧ DiceM M x := by
  unfold isT0 at h
  rw [nth_eq] at h
  cases e : s[j]? with
  | none => rw [e] at h; cases h
  | some y =>
    rw [e] at h
    cases y with
    | no => cases h
    | o _ => cases h
    | tk u =>
      cases u with
      | cons _ _ => cases h
      | nil =>
        obtain ⟨z, e2, r⟩ := q.get e
        cases r with
        | tk hf =>
          refine ⟨rfl, _, e2, ?_⟩
          rcases hf with ⟨z, _⟩ | hf
          · cases z
          · exact hf
theorem set_self {t : St} {x : Option O} {j : Nat} (h : t[j]? = some x) : t.set j x = t := by
  apply List.ext_getElem?
  intro i
  by_cases hi : j = i
  · subst hi
    have := (List.getElem?_eq_some_iff.mp h).1
    rw [List.getElem?_set_self this, h]
  · rw [List.getElem?_set_ne hi]
theorem catR_ok {β : Type} {g : Nat → Option (List β)} : ∀ {n : Nat} {l : List β}, catR g n = some l → ∀ r, r < n → ∃ m, g r = some m ∧ ∀ p ∈ m, p ∈ l
  | 0, _, _, r, h => by omega
  | n + 1, l, e, r, h => by
    unfold catR at e
    split at e
    · cases e
    · rename_i a ha
      split at e
      · cases e
      · rename_i b hb
        cases e
        by_cases hr : r = n
        · subst hr
          exact ⟨b, hb, fun p hp => List.mem_append_left _ hp⟩
        · obtain ⟨m, h1, h2⟩ := catR_ok ha r (by omega)
          exact ⟨m, h1, fun p hp => List.mem_append_right _ (h2 p hp)⟩
/-- what is asked of the table -/
structure Env (glob : Nat → Option G) (rid : Nat) (tbl : Tbl) (kc : Int) (W T : Nat) : Prop where
  hg : glob rid = some (.fn (rollFn kc))
  hk : kc.natAbs < 2 ^ 64
  hW : 1 ≤ W
  hT : ∀ i, i < T → (tbl i).isSome = true
  rows : ∀ i k f args res, tbl i = some (k, f, args, res) → Row glob W k f args res
theorem runT_ok (E : Env glob rid tbl kc W T) {A : Kx Fl} {a : St → R Fl} (hA : ∀ M, Sm (FF glob rid tbl ns M) none A a) : ∀ (fuel : Nat) (t : List (Nat × Nat)) (s : LS) (st : St) (x : O) (M : Nat) (L : List (Fl × LS)), runT T A j fuel t s = some L → SSm glob rid tbl ns M s st → st[j]? = some (some x) → Fol glob rid tbl M t x → M + W * fuel ≤ DLIM →
    ∃ p ∈ L, ∃ st', a st = .ok p.1 st' ∧ SSm glob rid tbl ns (M + W * fuel) p.2 st' ∧ isT0 j p.2 = true := by
  intro fuel
  induction fuel with
  | zero => intro t s st x M L h; cases h
  | succ fuel ih =>
    intro t s st x M L h q ex hf hM
    have hM' : M + W + W * fuel ≤ DLIM := by rw [Nat.mul_succ] at hM; omega
    have eM : M + W * (fuel + 1) = M + W + W * fuel := by rw [Nat.mul_succ]; omega
    have q2 : SSm glob rid tbl ns M (s.set j (.tk t)) st := by
      have := q.set (x := .tk t) (y := some x) (.tk (.inr hf)) j
      rw [set_self ex] at this
      exact this
    have sim := hA M _ _ q2
    unfold runT at h
    rw [setK_eq] at h
    cases e : A.run none (s.set j (.tk t)) with
    | ok f s' =>
      rw [e] at sim h
      obtain ⟨st', e1, q3⟩ := sim
      have h : (@Bool.rec (fun _ => Option (List (Fl × LS))) none (some [(f, s')]) (isT0 j s')) = some L := h
      rw [ifb_eq] at h
      split at h
      · rename_i ht
        cases h
        exact ⟨_, List.mem_cons_self, st', e1, q3.up (by omega), ht⟩
      · cases h
    | ex _ _ _ => rw [e] at h; cases h
    | bad m =>
      rw [e] at h
      rw [eM]
      have hW := E.hW
      rcases askR_ok (show askR T m (fun n => catR (fun r => runT T A j fuel (t ++ [(r, n)]) s) n) (fun i => runT T A j fuel (t ++ [(i, 0)]) s) = some L from h) with ⟨n, h1, h2, h3⟩ | ⟨i, h1, h3⟩
      · obtain ⟨r, a1, a2⟩ := ext_roll E.hg E.hk (M := M) (n := n) (by omega) h1 (by omega) hf
        obtain ⟨m', b1, b2⟩ := catR_ok h3 r a1
        obtain ⟨p, hp, st', e1, e2, e3⟩ := ih _ s st x (M + W) m' b1 (q.up (by omega)) ex (Fol.mono (by omega) a2) hM'
        exact ⟨p, b2 p hp, st', e1, e2, e3⟩
      · obtain ⟨⟨k, f, args, r⟩, hr⟩ := Option.isSome_iff_exists.mp (E.hT _ h1)
        exact ih _ s st x (M + W) L h3 (q.up (by omega)) ex (ext_mark hr (E.rows _ _ _ _ _ hr) (by omega) hf) hM'
theorem fgt_ok {F : List (Nat × Nat) → O → Prop} {live : List Nat} : ∀ {s : LS} {t : St}, SS F s t → ∀ i, SS F (fgt live s i) t
  | _, _, .nil, i => .nil
  | x :: s, y :: t, .cons r q, i => by
    show SS F ((@Bool.rec (fun _ => L) .no x (memN i live)) :: fgt live s (Nat.succ i)) (y :: t)
    refine .cons ?_ (fgt_ok q _)
    cases memN i live with
    | true => exact r
    | false => exact .no
theorem frLS_eq {β : Type} : ∀ (s : LS) (k : LS → β), frLS s k = k s
  | [], k => rfl
  | x :: s, k => by
    cases x with
    | no => exact frLS_eq s fun r => k (.no :: r)
    | o x => exact frLS_eq s fun r => k (.o x :: r)
    | tk t => exact frLS_eq s fun r => k (.tk t :: r)
theorem sameL_ok {a b : L} (h : sameL a b = true) : a = b := by
  cases a with
  | no => cases b <;> first | rfl | cases h
  | o x => cases b with
    | o y => exact congrArg L.o (sameO_ok h)
    | _ => cases h
  | tk t => cases b with
    | tk u =>
      cases t with
      | nil => cases u with
        | nil => rfl
        | cons _ _ => cases h
      | cons p t => exact congrArg L.tk (of_decide_eq_true h)
    | _ => cases h
theorem sameS_ok : ∀ {a b : LS}, sameS a b = true → a = b
  | [], [], _ => rfl
  | [], _ :: _, h => by cases h
  | _ :: _, [], h => by cases h
  | x :: a, y :: b, h => by
    obtain ⟨h1, h2⟩ := if_and (show (@Bool.rec (fun _ => Bool) false (sameS a b) (sameL x y)) = true from h)
    rw [sameL_ok h1, sameS_ok h2]
theorem insS_ok {s : LS} {acc : List LS} : s ∈ insS s acc ∧ ∀ u ∈ acc, u ∈ insS s acc := by
  unfold insS
  rw [ifb_eq]
  split
  · rename_i h
    refine ⟨?_, fun u hu => hu⟩
    revert h
    induction acc with
    | nil => intro h; cases h
    | cons x acc ih =>
      intro h
      have h : (@Bool.rec (fun _ => Bool) (@List.rec LS (fun _ => Bool) false (fun x _ ih => @Bool.rec (fun _ => _) ih true (sameS s x)) acc) true (sameS s x)) = true := h
      cases e : sameS s x with
      | true =>
        rw [sameS_ok e]
        exact List.mem_cons_self
      | false =>
        rw [e] at h
        exact List.mem_cons_of_mem _ (ih h)
  · exact ⟨List.mem_cons_self, fun u hu => List.mem_cons_of_mem _ hu⟩
/-- one of these states -/
def In (glob : Nat → Option G) (rid : Nat) (tbl : Tbl) (ns : List Int) (j M : Nat) (S : List LS) (st : St) : Prop := ∃ s ∈ S, SSm glob rid tbl ns M s st ∧ isT0 j s = true
/-- how a statement, a body ends -/
def Done (glob : Nat → Option G) (rid : Nat) (tbl : Tbl) (ns : List Int) (j : Nat) (res : Option O) (M : Nat) (S : List LS) (r : R Fl) : Prop :=
  (∃ st, r = .ok .next st ∧ In glob rid tbl ns j M S st) ∨ ∃ o st x, r = .ok (.ret o) st ∧ res = some o ∧ st[j]? = some (some x) ∧ DiceM M x
theorem In.up {M M' : Nat} (l : M ≤ M') {S : List LS} {st : St} (h : In glob rid tbl ns j M S st) : In glob rid tbl ns j M' S st := by
  obtain ⟨s, h1, h2, h3⟩ := h
  exact ⟨s, h1, h2.up l, h3⟩
theorem In.sub {M : Nat} {S S' : List LS} {st : St} (h : In glob rid tbl ns j M S st) (l : ∀ s ∈ S, s ∈ S') : In glob rid tbl ns j M S' st := by
  obtain ⟨s, h1, h2, h3⟩ := h
  exact ⟨s, l s h1, h2, h3⟩
theorem Done.up {M M' : Nat} (l : M ≤ M') {S : List LS} {r : R Fl} (h : Done glob rid tbl ns j res M S r) : Done glob rid tbl ns j res M' S r := by
  rcases h with ⟨st, e, h⟩ | ⟨o, st, x, e, h1, h2, h3⟩
  · exact .inl ⟨st, e, h.up l⟩
  · exact .inr ⟨o, st, x, e, h1, h2, h3.mono l⟩
theorem Done.sub {M : Nat} {S S' : List LS} {r : R Fl} (h : Done glob rid tbl ns j res M S r) (l : ∀ s ∈ S, s ∈ S') : Done glob rid tbl ns j res M S' r := by
  rcases h with ⟨st, e, h⟩ | h
  · exact .inl ⟨st, e, h.sub l⟩
  · exact .inr h
theorem addR_ok {live : List Nat} : ∀ {l : List (Fl × LS)} {acc S : List LS}, addR j res live l acc = some S → (∀ s ∈ acc, s ∈ S) ∧ ∀ p ∈ l, ∀ (M : Nat) (st' : St) (r : R Fl), r = .ok p.1 st' → SSm glob rid tbl ns M p.2 st' → isT0 j p.2 = true → Done glob rid tbl ns j res M S r
  | [], acc, S, h => by
    cases h
    exact ⟨fun s hs => hs, fun p hp => by cases hp⟩
  | (f, s) :: l, acc, S, h => by
    unfold addR at h
    cases f with
    | next =>
      have h : (frLS (fgt live s Nat.zero) fun s => @Bool.rec (fun _ => _) none (addR j res live l (insS s acc)) (isT0 j s)) = some S := h
      rw [frLS_eq, ifb_eq] at h
      split at h
      · rename_i ht
        obtain ⟨h1, h2⟩ := addR_ok h
        refine ⟨fun u hu => h1 u (insS_ok.2 u hu), fun p hp M st' r e q t0 => ?_⟩
        rcases List.mem_cons.mp hp with rfl | hp
        · exact .inl ⟨st', e, _, h1 _ insS_ok.1, fgt_ok q _, ht⟩
        · exact h2 p hp M st' r e q t0
      · cases h
    | ret o =>
      have h : (opt res none fun r => @Bool.rec (fun _ => _) none (addR j res live l acc) (sameO r o)) = some S := h
      obtain ⟨r0, e0, h⟩ := opt_some h
      rw [ifb_eq] at h
      split at h
      · rename_i hs
        obtain ⟨h1, h2⟩ := addR_ok h
        refine ⟨h1, fun p hp M st' r e q t0 => ?_⟩
        rcases List.mem_cons.mp hp with rfl | hp
        · obtain ⟨_, x, e2, e3⟩ := isT0_ok q t0
          exact .inr ⟨o, st', x, e, by rw [e0, sameO_ok hs], e2, e3⟩
        · exact h2 p hp M st' r e q t0
      · cases h
    | brk => cases h
    | cont => cases h
theorem stp_ok (E : Env glob rid tbl kc W T) {A : Kx Fl} {a : St → R Fl} (hA : ∀ M, Sm (FF glob rid tbl ns M) none A a) {lim : Nat} {live : List Nat} : ∀ {S acc S' : List LS}, stp T A j lim res live S acc = some S' → (∀ s ∈ acc, s ∈ S') ∧ ∀ M st, In glob rid tbl ns j M S st → M + W * lim ≤ DLIM → Done glob rid tbl ns j res (M + W * lim) S' (a st)
  | [], acc, S', h => by
    cases h
    exact ⟨fun s hs => hs, fun M st ⟨s, hs, _⟩ => by cases hs⟩
  | s :: S, acc, S', h => by
    unfold stp at h
    split at h
    · cases h
    · rename_i l hl
      split at h
      · cases h
      · rename_i acc' ha
        obtain ⟨h1, h2⟩ := stp_ok E hA h
        obtain ⟨h3, h4⟩ := addR_ok (glob := glob) (rid := rid) (tbl := tbl) (ns := ns) ha
        refine ⟨fun u hu => h1 u (h3 u hu), fun M st ⟨u, hu, q, t0⟩ hM => ?_⟩
        rcases List.mem_cons.mp hu with rfl | hu
        · obtain ⟨_, x, ex, hx⟩ := isT0_ok q t0
          obtain ⟨p, hp, st', e, q', t0'⟩ := runT_ok E hA lim [] u st x M l hl q ex hx hM
          exact (h4 p hp _ st' _ e q' t0').sub h1
        · exact h2 M st ⟨u, hu, q, t0⟩ hM
theorem fgtAll_ok {live : List Nat} : ∀ {S acc S' : List LS}, fgtAll j live S acc = some S' → (∀ s ∈ acc, s ∈ S') ∧ ∀ M st, In glob rid tbl ns j M S st → In glob rid tbl ns j M S' st
  | [], acc, S', h => by
    cases h
    exact ⟨fun s hs => hs, fun M st ⟨s, hs, _⟩ => by cases hs⟩
  | s :: S, acc, S', h => by
    unfold fgtAll at h
    rw [frLS_eq, ifb_eq] at h
    split at h
    · rename_i ht
      obtain ⟨h1, h2⟩ := fgtAll_ok h
      refine ⟨fun u hu => h1 u (insS_ok.2 u hu), fun M st ⟨u, hu, q, t0⟩ => ?_⟩
      rcases List.mem_cons.mp hu with rfl | hu
      · exact ⟨_, h1 _ insS_ok.1, fgt_ok q _, ht⟩
      · exact h2 M st ⟨u, hu, q, t0⟩
    · cases h
theorem bindT_ok {C : Cfg} {io : List Nat} (hio : C.io = io) {T' : VI.T} {d : D} : ∀ {S S' : List LS}, bindT (cT io T') j d S = some S' → ∀ M st, In glob rid tbl ns j M S st → ∃ st', asgT C T' d st = .ok () st' ∧ In glob rid tbl ns j M S' st'
  | [], S', h => fun M st ⟨s, hs, _⟩ => by cases hs
  | s :: S, S', h => by
    unfold bindT at h
    cases e : (cT io T').run d s with
    | bad _ => rw [e] at h; cases h
    | ex _ _ _ => rw [e] at h; cases h
    | ok a s' =>
      rw [e] at h
      have h : (@Bool.rec (fun _ => Option (List LS)) none (match bindT (cT io T') j d S with
        | some S => some (s' :: S)
        | none => none) (isT0 j s')) = some S' := h
      rw [ifb_eq] at h
      split at h
      · rename_i ht
        split at h
        · rename_i S2 h2
          cases h
          intro M st ⟨u, hu, q, t0⟩
          rcases List.mem_cons.mp hu with rfl | hu
          · have := cT_ok hio T' d _ _ q
            rw [e] at this
            obtain ⟨st', e1, q'⟩ := this
            exact ⟨st', e1, s', List.mem_cons_self, q', ht⟩
          · obtain ⟨st', e1, v, hv, q', t'⟩ := bindT_ok hio h2 M st ⟨u, hu, q, t0⟩
            exact ⟨st', e1, v, List.mem_cons_of_mem _ hv, q', t'⟩
        · cases h
      · cases h
theorem itemsS_ok {Xs : Kx (List D)} {xs : St → R (List D)} {it : It} (hX : ∀ M, Sm (FF glob rid tbl ns M) none Xs xs) {s s' : LS} {l : List D} (h : itemsS Xs (itK it) j s = some (l, s')) {M : Nat} {st : St} (q : SSm glob rid tbl ns M s st) : isT0 j s' = true ∧ ∃ ds st', xs st = .ok ds st' ∧ itD it ds = some l ∧ SSm glob rid tbl ns M s' st' := by
  unfold itemsS at h
  have sim := hX M s st q
  cases e : Xs.run none s with
  | bad _ => rw [e] at h; cases h
  | ex _ _ _ => rw [e] at h; cases h
  | ok ds u =>
    rw [e] at h sim
    obtain ⟨st', e1, q'⟩ := sim
    have h : (@Bool.rec (fun _ => Option (List D × LS)) none (match (itK it).f ds with
      | some l => some (l, u)
      | none => none) (isT0 j u)) = some (l, s') := h
    rw [ifb_eq] at h
    split at h
    · rename_i ht
      split at h
      · rename_i l' hl
        cases h
        exact ⟨ht, ds, st', e1, itK_ok hl, q'⟩
      · cases h
    · cases h
theorem sameDs {n : Nat} : ∀ {l m : List D}, eqvs (sameD n) l m = true → l = m
  | [], [], _ => rfl
  | [], _ :: _, h => by cases h
  | _ :: _, [], h => by cases h
  | x :: l, y :: m, h => by
    obtain ⟨h1, h2⟩ := if_and (show (@Bool.rec (fun _ => Bool) false (eqvs (sameD n) l m) (sameD n x y)) = true from h)
    rw [same_ok n x y h1, sameDs h2]
theorem loopIn_ok {Xs : Kx (List D)} {xs : St → R (List D)} {it : It} (hX : ∀ M, Sm (FF glob rid tbl ns M) none Xs xs) : ∀ {S S' : List LS} {l : List D}, loopIn Xs (itK it) j S = some (l, S') → ∀ M st, In glob rid tbl ns j M S st → ∃ ds st', xs st = .ok ds st' ∧ itD it ds = some l ∧ In glob rid tbl ns j M S' st'
  | [], S', l, h => by cases h
  | s :: S, S', l, h => by
    unfold loopIn at h
    split at h
    · cases h
    · rename_i l1 s1 h1
      cases S with
      | nil =>
        cases h
        intro M st ⟨u, hu, q, t0⟩
        rcases List.mem_cons.mp hu with rfl | hu
        · obtain ⟨ht, ds, st', e1, e2, q'⟩ := itemsS_ok hX h1 q
          exact ⟨ds, st', e1, e2, s1, List.mem_cons_self, q', ht⟩
        · cases hu
      | cons s2 S =>
        dsimp only at h
        split at h
        · cases h
        · rename_i l2 S2 h2
          rw [ifb_eq] at h
          split at h
          · rename_i he
            cases h
            have el := sameDs he
            subst el
            intro M st ⟨u, hu, q, t0⟩
            rcases List.mem_cons.mp hu with rfl | hu
            · obtain ⟨ht, ds, st', e1, e2, q'⟩ := itemsS_ok hX h1 q
              exact ⟨ds, st', e1, e2, s1, List.mem_cons_self, q', ht⟩
            · obtain ⟨ds, st', e1, e2, v, hv, q', t'⟩ := loopIn_ok hX h2 M st ⟨u, hu, q, t0⟩
              exact ⟨ds, st', e1, e2, v, List.mem_cons_of_mem _ hv, q', t'⟩
          · cases h
theorem loopX_ok {C : Cfg} {io : List Nat} (hio : C.io = io) {T' : VI.T} {live : List Nat} {f : List LS → Option (Nat × List LS)} {b : St → R Fl} {w : Nat} (hf : ∀ S k S', f S = some (k, S') → ∀ M st, In glob rid tbl ns j M S st → M + w * k ≤ DLIM → Done glob rid tbl ns j res (M + w * k) S' (b st)) :
    ∀ {l : List D} {S S' : List LS} {k : Nat}, loopX f (cT io T') j live l S = some (k, S') → ∀ M st, In glob rid tbl ns j M S st → M + w * k ≤ DLIM → Done glob rid tbl ns j res (M + w * k) S' (forLoop (fun d s => (asgT C T' d s).bind fun _ s => b s) l st)
  | [], S, S', k, h => by
    cases h
    intro M st hi hM
    exact .inl ⟨st, rfl, hi⟩
  | d :: l, S, S', k, h => by
    unfold loopX at h
    split at h
    · cases h
    · rename_i S1 h1
      split at h
      · cases h
      · rename_i c S2 h2
        split at h
        · cases h
        · rename_i S3 h3
          split at h
          · cases h
          · rename_i c' S4 h4
            cases h
            intro M st hi hM
            rw [Nat.mul_add] at hM
            obtain ⟨st', e1, hi1⟩ := bindT_ok hio h1 M st hi
            show Done glob rid tbl ns j res (M + w * (c + c')) S' (((asgT C T' d st).bind fun _ s => b s).bind fun r s => match r with
              | .next => forLoop (fun d s => (asgT C T' d s).bind fun _ s => b s) l s
              | .cont => forLoop (fun d s => (asgT C T' d s).bind fun _ s => b s) l s
              | .brk => .ok .next s
              | .ret o => .ok (.ret o) s)
            rw [e1]
            have e2 : M + w * (c + c') = M + w * c + w * c' := by rw [Nat.mul_add]; omega
            rcases hf S1 c S2 h2 M st' hi1 (by omega) with ⟨st2, e, hi2⟩ | ⟨o, st2, x, e, a1, a2, a3⟩
            · show Done glob rid tbl ns j res _ S' ((b st').bind _)
              rw [e, e2]
              exact loopX_ok hio hf h4 (M + w * c) st2 ((fgtAll_ok h3).2 _ _ hi2) (by omega)
            · show Done glob rid tbl ns j res _ S' ((b st').bind _)
              rw [e]
              exact .inr ⟨o, st2, x, rfl, a1, a2, a3.mono (by omega)⟩
theorem exSs_ok (E : Env glob rid tbl kc W T) {K : KC} {C : Cfg} (ck : ∀ M, Cok (FF glob rid tbl ns M) K C none) {lim : Nat} : ∀ (g n : Nat) (l : List S) (ps : List Pn) (S S' : List LS) (k : Nat), exSs T K j lim res g n l ps S = some (k, S') → ∀ M st, In glob rid tbl ns j M S st → M + W * lim * k ≤ DLIM → Done glob rid tbl ns j res (M + W * lim * k) S' (evSs C n l st) := by
  intro g
  induction g with
  | zero => intro n l ps S S' k h; cases h
  | succ g ih =>
    intro n l ps S S' k h M st hi hM
    cases n with
    | zero => cases h
    | succ n =>
      cases S with
      | nil =>
        obtain ⟨_, hs, _⟩ := hi
        cases hs
      | cons s0 S0 =>
        cases l with
        | nil =>
          cases h
          exact .inl ⟨st, rfl, hi⟩
        | cons c l =>
          cases ps with
          | nil => cases h
          | cons p ps =>
            have next : ∀ {M1 M2 : Nat} {S1 S' : List LS} {r : R Fl}, Done glob rid tbl ns j res M1 S1 r → M1 ≤ M2 → (∀ st1, In glob rid tbl ns j M1 S1 st1 → Done glob rid tbl ns j res M2 S' (evSs C n l st1)) → Done glob rid tbl ns j res M2 S' (r.bind fun f s => (match f with
                | .next => evSs C n l s
                | f => .ok f s)) := by
              intro M1 M2 S1 S' r hd hl hn
              rcases hd with ⟨st1, rfl, h1⟩ | ⟨o, st1, x, rfl, a1, a2, a3⟩
              · exact hn st1 h1
              · exact .inr ⟨o, st1, x, rfl, a1, a2, a3.mono hl⟩
            cases p with
            | stm live =>
              have h : (match stp T ((ks K n).s c) j lim res live (s0 :: S0) [] with
                | none => none
                | some S' => match exSs T K j lim res g n l ps S' with
                  | none => none
                  | some (k, S'') => some (k + 1, S'')) = some (k, S') := h
              split at h
              · cases h
              · rename_i S1 h1
                split at h
                · cases h
                · rename_i k2 S2 h2
                  cases h
                  have e2 : M + W * lim * (k2 + 1) = M + W * lim + W * lim * k2 := by rw [Nat.mul_add]; omega
                  rw [e2] at hM ⊢
                  refine next ((stp_ok E (fun M => (ks_ok (ck M) n).s c) h1).2 M st hi (by omega)) (by omega) fun st1 h3 => ?_
                  exact ih n l ps S1 S' k2 h2 (M + W * lim) st1 h3 hM
            | loop live after b =>
              cases n with
              | zero => cases c <;> cases h
              | succ m =>
                cases c with
                | forr T' it as body =>
                  have h : (match loopIn (cDs (kf K m).d as) (itK it) j (s0 :: S0) with
                    | none => none
                    | some (items, S1) => match loopX (fun S => exSs T K j lim res g m body b S) (cT K.io T') j live items S1 with
                      | none => none
                      | some (k, S2) => match fgtAll j after S2 [] with
                        | none => none
                        | some S3 => match exSs T K j lim res g (m + 1) l ps S3 with
                          | none => none
                          | some (k', S4) => some (k + k', S4)) = some (k, S') := h
                  split at h
                  · cases h
                  · rename_i items S1 h1
                    split at h
                    · cases h
                    · rename_i k1 S2 h2
                      split at h
                      · cases h
                      · rename_i S3 h3
                        split at h
                        · cases h
                        · rename_i k2 S4 h4
                          cases h
                          have e2 : M + W * lim * (k1 + k2) = M + W * lim * k1 + W * lim * k2 := by rw [Nat.mul_add]; omega
                          rw [e2] at hM ⊢
                          obtain ⟨ds, st', d1, d2, hi1⟩ := loopIn_ok (fun M => cDs_ok (kf_ok (ck M) m).d as) h1 M st hi
                          have key : Done glob rid tbl ns j res (M + W * lim * k1) S2 (evS C (m + 1) (.forr T' it as body) st) := by
                            show Done glob rid tbl ns j res _ S2 ((evDs (evD C m) as st).bind fun xs s => (ofO (itD it xs) 27 s).bind fun items s => forLoop (fun d s => (asgT C T' d s).bind fun _ s => evSs C m body s) items s)
                            rw [d1]
                            show Done glob rid tbl ns j res _ S2 ((ofO (itD it ds) 27 st').bind fun items s => forLoop (fun d s => (asgT C T' d s).bind fun _ s => evSs C m body s) items s)
                            rw [d2]
                            exact loopX_ok (w := W * lim) (ck 0).io (fun S k S' h M st hi hM => ih m body b S S' k h M st hi hM) h2 M st' hi1 (by omega)
                          refine next key (by omega) fun st1 h5 => ?_
                          exact ih (m + 1) l ps S3 S' k2 h4 (M + W * lim * k1) st1 ((fgtAll_ok h3).2 _ _ h5) hM
                | _ => cases h
end
end VI.Kn
end

section
set_option Elab.async false
set_option linter.all false
set_option maxRecDepth 100000
set_option maxHeartbeats 400000
/-! VIx6: a def by all ways, a law. -/
namespace VI.Kn
open PySem VI

section
variable {glob : Nat → Option G} {rid : Nat} {tbl : Tbl} {kc : Int} {W T : Nat} {hook : Nat → Nat → Option Hok}
/-- what is asked of the hooks -/
structure Hks (glob : Nat → Option G) (rid : Nat) (tbl : Tbl) (kc : Int) (W T : Nat) (hook : Nat → Nat → Option Hok) : Prop where
  env : Env glob rid tbl kc W T
  hh : ∀ k f h, hook k f = some h → (h = .roll ∧ f = rid) ∨ ∃ rows, h = .sum rows ∧ ∀ w ∈ rows, tbl w.1 = some (k, f, w.2.1, w.2.2)
  hscr : tbl SCR = none
theorem cok0 (H : Hks glob rid tbl kc W T hook) {ns : List Int} {k : Nat} {io : List Nat} (M : Nat) : Cok (FF glob rid tbl ns M) ⟨glob, fnK glob hook k, io⟩ ⟨glob, callK glob k none, fun r g => callK glob k (some r) g [.fz .lam], none, io⟩ none :=
  cok_of (lr := none) (lr' := none) (fun f => fnK_ok (hook_ok H.hh H.hscr) k f) rfl (.inl ⟨rfl, rfl⟩)
theorem callK_fn0 {k f : Nat} {os : List O} {fd : Fn} (h : glob f = some (.fn fd)) : callK glob (k + 1) none f os = runFn ⟨glob, callK glob k none, fun r g => callK glob k (some r) g [.fz .lam], none, []⟩ fd os := by
  show (match glob f with
    | some (.fn fd) => runFn ⟨glob, callK glob k none, fun r g => callK glob k (some r) g [.fz .lam], none, []⟩ fd os
    | _ => .bad 63) = _
  rw [h]
theorem runFn_eq {C : Cfg} {fd : Fn} {os : List O} (h : os.length = fd.np) : runFn C fd os = (match evSs { C with io := fd.io } DEPTH fd.body (os.map some ++ List.replicate (fd.nl - fd.np) none) with
    | .ok (.ret o) s => .ok o (endCR fd.io fd.np s)
    | .ok .next s => .ok (.fz .non) (endCR fd.io fd.np s)
    | .ok _ _ => .bad 60
    | .ex c p s => .ex c p (endCR fd.io fd.np s)
    | .bad n => .bad n) := if_pos h
theorem endCR0 {m : Nat} {st : St} {x : O} (h : st[0]? = some (some x)) : ∃ ps, endCR [0] (m + 1) st = some x :: ps ∧ ps.length = m := by
  refine ⟨((List.range m).map Nat.succ).map fun j => if [0].contains j then (st[j]?).join else none, ?_, by simp⟩
  unfold endCR
  rw [List.range_succ_eq_map, List.map_cons]
  rw [h]
  rfl
theorem SS.os {F : List (Nat × Nat) → O → Prop} : ∀ l : List O, SS F (l.map L.o) (l.map some)
  | [] => .nil
  | x :: l => .cons .o (SS.os l)
/-- a row of the table, by all ways -/
theorem row_ok (H : Hks glob rid tbl kc W T hook) {k f : Nat} {fd : Fn} {args : List O} {res : O} (hf : glob f = some (.fn fd)) (hio : fd.io = [0]) (hnp : fd.np = args.length + 1) {plan : List Pn} {lim g cnt : Nat} {S' : List LS}
    (h : exSs T ⟨glob, fnK glob hook k, [0]⟩ 0 lim (some res) g DEPTH fd.body plan [.tk [] :: (args.map L.o ++ List.replicate (fd.nl - fd.np) .no)] = some (cnt, S')) (hS : S' = [] ∨ res = .fz .non) : Row glob (W * lim * cnt) k f args res := by
  intro M x hM hx
  have hl : (x :: args).length = fd.np := by rw [hnp]; rfl
  rw [callK_fn0 hf, runFn_eq hl]
  have ck := fun M => cok0 (ns := []) (k := k) (io := [0]) H M
  have hi : In glob rid tbl [] 0 M [.tk [] :: (args.map L.o ++ List.replicate (fd.nl - fd.np) .no)] ((x :: args).map some ++ List.replicate (fd.nl - fd.np) none) :=
    ⟨_, List.mem_cons_self, .cons (.tk (.inr hx)) ((SS.os args).app (SS.no (by simp))), rfl⟩
  have d := exSs_ok H.env ck g DEPTH fd.body plan _ S' cnt h M _ hi hM
  rw [hio]
  rcases d with ⟨st, e, s, hs, q, t0⟩ | ⟨o, st, x', e, hr, ex, hx'⟩
  · rcases hS with rfl | rfl
    · cases hs
    · obtain ⟨_, x', ex, hx'⟩ := isT0_ok q t0
      obtain ⟨ps, e2, e3⟩ := endCR0 (m := args.length) ex
      refine ⟨x', ps, hx', ?_, e3⟩
      show (match evSs ⟨glob, callK glob k none, fun r g => callK glob k (some r) g [.fz .lam], none, [0]⟩ DEPTH fd.body ((x :: args).map some ++ List.replicate (fd.nl - fd.np) none) with
        | .ok (.ret o) s => CR.ok o (endCR [0] fd.np s)
        | .ok .next s => .ok (.fz .non) (endCR [0] fd.np s)
        | .ok _ _ => .bad 60
        | .ex c p s => .ex c p (endCR [0] fd.np s)
        | .bad n => .bad n) = _
      rw [e]
      show CR.ok (.fz .non) (endCR [0] fd.np st) = _
      rw [hnp, e2]
  · cases hr
    obtain ⟨ps, e2, e3⟩ := endCR0 (m := args.length) ex
    refine ⟨x', ps, hx', ?_, e3⟩
    show (match evSs ⟨glob, callK glob k none, fun r g => callK glob k (some r) g [.fz .lam], none, [0]⟩ DEPTH fd.body ((x :: args).map some ++ List.replicate (fd.nl - fd.np) none) with
      | .ok (.ret o) s => CR.ok o (endCR [0] fd.np s)
      | .ok .next s => .ok (.fz .non) (endCR [0] fd.np s)
      | .ok _ _ => .bad 60
      | .ex c p s => .ex c p (endCR [0] fd.np s)
      | .bad n => .bad n) = _
    rw [e]
    show CR.ok res (endCR [0] fd.np st) = _
    rw [hnp, e2]
/-! ### a law -/
theorem dice_ok {did : Nat} {k0 k1 k2 k3 k4 k5 : Int} (hd : glob did = some (.fn (diceFn k0 k1 k2 k3 k4 k5))) (h0 : k0.natAbs < 2 ^ 64) (h2 : k2.natAbs < 2 ^ 64) (h3 : k3.natAbs < 2 ^ 64) (h4 : k4.natAbs < 2 ^ 64) (h5 : k5.natAbs < 2 ^ 64) {k : Nat} {ns : List Int} {i : Nat} (hi : i < 2 ^ 20) :
    ∃ x, DiceM 0 x ∧ callK glob (k + 1) none did [.fz (.scr ns), .fz (.int i)] = .ok x [none, none] := by
  obtain ⟨a, b, hb, t, e⟩ := dice_run (C := ⟨glob, callK glob k none, fun r g => callK glob k (some r) g [.fz .lam], none, []⟩) (ns := ns) (k1 := k1) rfl hi h0 h2 h3 h4 h5
  refine ⟨diceO a b 0, ⟨a, b, 0, rfl, hb, by omega, by omega⟩, ?_⟩
  rw [callK_fn0 hd, runFn_eq rfl]
  show (match evSs ⟨glob, callK glob k none, fun r g => callK glob k (some r) g [.fz .lam], none, []⟩ DEPTH (diceFn k0 k1 k2 k3 k4 k5).body [some (.fz (.scr ns)), some (.fz (.int i)), none, none, none] with
    | .ok (.ret o) s => CR.ok o (endCR [] 2 s)
    | .ok .next s => .ok (.fz .non) (endCR [] 2 s)
    | .ok _ _ => .bad 60
    | .ex c p s => .ex c p (endCR [] 2 s)
    | .bad n => .bad n) = _
  rw [e]
  rfl
/-- at the head of the loop: the script, nothing else -/
def scr0 (nl : Nat) : LS := .tk [(SCR, 0)] :: List.replicate nl .no
theorem scr0_set {nl i : Nat} : (scr0 nl).set (i + 1) .no = scr0 nl := by
  unfold scr0
  rw [List.set_cons_succ]
  congr 1
  apply List.ext_getElem?
  intro j
  by_cases h : i = j
  · subst h
    by_cases hi : i < nl
    · rw [List.getElem?_set_self (by simpa using hi), List.getElem?_replicate, if_pos hi]
    · rw [List.getElem?_eq_none (by simp; omega), List.getElem?_eq_none (by simp; omega)]
  · rw [List.getElem?_set_ne h]
theorem scr0_SS {ns : List Int} {M M' nl : Nat} {st : St} (hs : tbl SCR = none) (h : SSm glob rid tbl ns M (scr0 nl) st) : SSm glob rid tbl ns M' (scr0 nl) st ∧ st[0]? = some (some (.fz (.scr ns))) := by
  unfold scr0 at h ⊢
  cases h with
  | cons r q =>
    cases r with
    | tk hf =>
      rcases hf with ⟨_, rfl⟩ | hf
      · exact ⟨.cons (.tk (.inl ⟨rfl, rfl⟩)) (SS.no (by have := q.len; simpa using this.symm)), rfl⟩
      · rcases hf with ⟨h, _⟩ | ⟨_, k, f, args, res, x', ps, h, _⟩
        · omega
        · rw [hs] at h
          cases h
noncomputable def isTrue (r : KR Fl) : Bool := @KR.rec Fl (fun _ => Bool) (fun f _ => flc f false (fun o => sameO o (.fz (.bl true))) false false) (fun _ _ _ => false) (fun _ => false) r
def lawFn (nl js jd did : Nat) (N : Int) (B rest : List S) : Fn := ⟨1, nl + 1, [], .forr (.name js) .range1 [.bi .max2 [.k (.int 1), .bi .min2 [.k (.int N), .bi .len [.loc 0]]]] (.asg (.name jd) (.call did [.loc 0, .loc js]) :: B) :: rest⟩
/-- a law that keeps at each number of the script -/
theorem law_ok (H : Hks glob rid tbl kc W T hook) {k lid nl js jd did : Nat} {N : Int} {B rest : List S} (hf : glob lid = some (.fn (lawFn nl (js + 1) (jd + 1) did N B rest))) (hN : N < 1000) (hj : js < nl) (hj2 : jd < nl) (hjj : js ≠ jd)
    {k0 k1 k2 k3 k4 k5 : Int} (hd : glob did = some (.fn (diceFn k0 k1 k2 k3 k4 k5))) (h0 : k0.natAbs < 2 ^ 64) (h2 : k2.natAbs < 2 ^ 64) (h3 : k3.natAbs < 2 ^ 64) (h4 : k4.natAbs < 2 ^ 64) (h5 : k5.natAbs < 2 ^ 64)
    {plan : List Pn} {lim g cnt : Nat} {S' : List LS} (hB : exSs T ⟨glob, fnK glob hook (k + 1), []⟩ (jd + 1) lim none g 197 B plan [(scr0 nl).set (jd + 1) (.tk [])] = some (cnt, S')) (hc : W * lim * cnt ≤ DLIM) (hS : S'.all (fun s => sameS (s.set (jd + 1) .no) (scr0 nl)) = true)
    (hr : isTrue (((ks ⟨glob, fnK glob hook (k + 1), []⟩ 199).ss rest).run none (scr0 nl)) = true) (ns : List Int) : ∃ ps, callK glob (k + 2) none lid [.fz (.scr ns)] = .ok (.fz (.bl true)) ps := by
  let C : Cfg := ⟨glob, callK glob (k + 1) none, fun r g => callK glob (k + 1) (some r) g [.fz .lam], none, []⟩
  have ck := fun M => cok0 (ns := ns) (k := k + 1) (io := []) H M
  have start : SSm glob rid tbl ns 0 (scr0 nl) ([some (.fz (.scr ns))] ++ List.replicate nl none) := .cons (.tk (.inl ⟨rfl, rfl⟩)) (SS.no (by simp))
  -- a turn
  have turn : ∀ (i : Nat) (st : St), i < 2 ^ 20 → SSm glob rid tbl ns 0 (scr0 nl) st → ∃ st', ((asgT C (.name (js + 1)) (.int i) st).bind fun _ s => evSs C 198 (.asg (.name (jd + 1)) (.call did [.loc 0, .loc (js + 1)]) :: B) s) = .ok .next st' ∧ SSm glob rid tbl ns 0 (scr0 nl) st' := by
    intro i st hi q
    have hlen : st.length = nl + 1 := by rw [← q.len]; simp [scr0]
    obtain ⟨_, e0⟩ := scr0_SS (M' := 0) H.hscr q
    have e1 : asgT C (.name (js + 1)) (.int i) st = .ok () (st.set (js + 1) (some (.fz (.int i)))) := by
      show stLoc C (js + 1) (.fz (.int i)) st = _
      unfold stLoc
      rw [if_neg (show ¬ C.io.contains (js + 1) = true from Bool.false_ne_true), if_pos (by omega)]
    let s1 := st.set (js + 1) (some (O.fz (.int i)))
    have q1 : SSm glob rid tbl ns 0 (scr0 nl) s1 := by
      have := q.set (x := .no) (y := some (.fz (.int i))) .no (js + 1)
      rw [scr0_set] at this
      exact this
    have a0 : s1[0]? = some (some (.fz (.scr ns))) := by
      show (st.set (js + 1) _)[0]? = _
      rw [List.getElem?_set_ne (by omega), e0]
    have a1 : s1[js + 1]? = some (some (.fz (.int i))) := List.getElem?_set_self (by omega)
    obtain ⟨x, hx, ed⟩ := dice_ok hd h0 h2 h3 h4 h5 (k := k) (ns := ns) hi
    have ecall : evE C 196 (.call did [.loc 0, .loc (js + 1)]) s1 = .ok x s1 := by
      show (match C.glob did with
        | some (.fn fd) => if [E.loc 0, E.loc (js + 1)].length = fd.np then (evArgs (evD C 195) fd.io 0 [.loc 0, .loc (js + 1)] s1).bind fun as s => doCall C did as s else .bad 31
        | _ => .bad 31) = _
      rw [show C.glob did = _ from hd]
      show (evArgs (evD C 195) [] 0 [.loc 0, .loc (js + 1)] s1).bind (fun as s => doCall C did as s) = _
      rw [evArgs_none]
      show (((evD C 195 (.loc 0) s1).bind fun d s => ((evD C 195 (.loc (js + 1)) s).bind fun d s => R.ok [d] s).bind fun ds s => R.ok (d :: ds) s).bind fun ds s => R.ok (ds.map fun d => ((none : Option Nat), d)) s).bind (fun as s => doCall C did as s) = _
      rw [q_loc (n := 193) a0]
      show ((((evD C 195 (.loc (js + 1)) s1).bind fun d s => R.ok [d] s).bind fun ds s => R.ok (D.scr ns :: ds) s).bind fun ds s => R.ok (ds.map fun d => ((none : Option Nat), d)) s).bind (fun as s => doCall C did as s) = _
      rw [q_loc (n := 193) a1]
      show doCall C did ([D.scr ns, .int i].map fun d => ((none : Option Nat), d)) s1 = _
      unfold doCall
      rw [argOs_none]
      show (match callK glob (k + 1) none did [.fz (.scr ns), .fz (.int i)] with
        | .ok o ps => (match argBack ([D.scr ns, .int i].map fun d => ((none : Option Nat), d)) ps s1 with
          | some s2 => R.ok o s2
          | none => .bad 9)
        | .ex c p ps => (match argBack ([D.scr ns, .int i].map fun d => ((none : Option Nat), d)) ps s1 with
          | some s2 => .ex c p s2
          | none => .bad 9)
        | .bad n => .bad n) = _
      rw [ed]
      show (match argBack ([D.scr ns, .int i].map fun d => ((none : Option Nat), d)) [none, none] s1 with
          | some s2 => R.ok x s2
          | none => .bad 9) = _
      rw [argBack_none _ _ _ rfl]
    have easg := s_asg (C := C) (n := 196) (i := jd + 1) ecall rfl (by show jd + 1 < (st.set _ _).length; rw [List.length_set]; omega)
    rw [e1]
    show ∃ st', evSs C 198 (.asg (.name (jd + 1)) (.call did [.loc 0, .loc (js + 1)]) :: B) s1 = .ok .next st' ∧ SSm glob rid tbl ns 0 (scr0 nl) st'
    rw [s_cons (n := 197) easg]
    have hi1 : In glob rid tbl ns (jd + 1) 0 [(scr0 nl).set (jd + 1) (.tk [])] (s1.set (jd + 1) (some x)) := by
      refine ⟨_, List.mem_cons_self, q1.set (.tk (t := []) (.inr (show Fol glob rid tbl 0 [] x from hx))) _, ?_⟩
      unfold isT0
      rw [nth_eq, List.getElem?_set_self (by simp [scr0]; omega)]
      rfl
    rcases exSs_ok H.env ck g 197 B plan _ S' cnt hB 0 _ hi1 (by omega) with ⟨st2, e, s, hs, q2, t0⟩ | ⟨o, st2, x', e, hn, _⟩
    · refine ⟨st2, e, ?_⟩
      have es := sameS_ok (List.all_eq_true.mp hS s hs)
      obtain ⟨_, x2, ex, _⟩ := isT0_ok q2 t0
      have := q2.set (x := .no) (y := some x2) .no (jd + 1)
      rw [set_self ex, es] at this
      exact (scr0_SS (M' := 0) H.hscr this).1
    · cases hn
  have loop : ∀ (n lo : Nat) (st : St), lo + n ≤ 2 ^ 20 → SSm glob rid tbl ns 0 (scr0 nl) st → ∃ st', forLoop (fun d s => (asgT C (.name (js + 1)) d s).bind fun _ s => evSs C 198 (.asg (.name (jd + 1)) (.call did [.loc 0, .loc (js + 1)]) :: B) s) (rangeL lo n) st = .ok .next st' ∧ SSm glob rid tbl ns 0 (scr0 nl) st' := by
    intro n
    induction n with
    | zero => exact fun lo st _ q => ⟨st, rfl, q⟩
    | succ n ih =>
      intro lo st hl q
      obtain ⟨st', e, q'⟩ := turn lo st (by omega) q
      obtain ⟨st2, e2, q2⟩ := ih (lo + 1) st' (by omega) q'
      refine ⟨st2, ?_, q2⟩
      show ((((asgT C (.name (js + 1)) (.int lo) st).bind fun _ s => evSs C 198 (.asg (.name (jd + 1)) (.call did [.loc 0, .loc (js + 1)]) :: B) s)).bind fun r s => match r with
        | .next => forLoop (fun d s => (asgT C (.name (js + 1)) d s).bind fun _ s => evSs C 198 (.asg (.name (jd + 1)) (.call did [.loc 0, .loc (js + 1)]) :: B) s) (rangeL ((lo : Int) + 1) n) s
        | .cont => forLoop (fun d s => (asgT C (.name (js + 1)) d s).bind fun _ s => evSs C 198 (.asg (.name (jd + 1)) (.call did [.loc 0, .loc (js + 1)]) :: B) s) (rangeL ((lo : Int) + 1) n) s
        | .brk => .ok .next s
        | .ret o => .ok (.ret o) s) = _
      rw [e]
      exact e2
  -- how many turns
  let m : Int := if (if (ns.length : Int) < N then (ns.length : Int) else N) > 1 then (if (ns.length : Int) < N then (ns.length : Int) else N) else 1
  have hm : 1 ≤ m ∧ m < 1000 := by
    show 1 ≤ (if (if (ns.length : Int) < N then (ns.length : Int) else N) > 1 then (if (ns.length : Int) < N then (ns.length : Int) else N) else 1) ∧ (if (if (ns.length : Int) < N then (ns.length : Int) else N) > 1 then (if (ns.length : Int) < N then (ns.length : Int) else N) else 1) < 1000
    split <;> split <;> omega
  let s0 : St := [some (.fz (.scr ns))] ++ List.replicate nl none
  have ebound : evD C 198 (.bi .max2 [.k (.int 1), .bi .min2 [.k (.int N), .bi .len [.loc 0]]]) s0 = .ok (.int m) s0 :=
    q_bi2 (n := 196) (x := .int 1) (y := .int (if (ns.length : Int) < N then (ns.length : Int) else N)) (q_k (n := 194)) (q_bi2 (n := 194) (x := .int N) (y := .int ns.length) (q_k (n := 192)) (q_bi (n := 192) (x := .scr ns) (p_loc (n := 191) rfl) rfl) rfl) rfl
  obtain ⟨st', el, ql⟩ := loop m.toNat 0 s0 (by omega) start
  have efor : evS C 199 (.forr (.name (js + 1)) .range1 [.bi .max2 [.k (.int 1), .bi .min2 [.k (.int N), .bi .len [.loc 0]]]] (.asg (.name (jd + 1)) (.call did [.loc 0, .loc (js + 1)]) :: B)) s0 = .ok .next st' := by
    show ((((evD C 198 (.bi .max2 [.k (.int 1), .bi .min2 [.k (.int N), .bi .len [.loc 0]]]) s0).bind fun d s => R.ok [d] s)).bind fun xs s => (ofO (itD .range1 xs) 27 s).bind fun items s => forLoop (fun d s => (asgT C (.name (js + 1)) d s).bind fun _ s => evSs C 198 (.asg (.name (jd + 1)) (.call did [.loc 0, .loc (js + 1)]) :: B) s) items s) = _
    rw [ebound]
    show ((ofO (if -1000000 < m ∧ m < 1000000 then some (rangeL 0 m.toNat) else none) 27 s0).bind fun items s => forLoop (fun d s => (asgT C (.name (js + 1)) d s).bind fun _ s => evSs C 198 (.asg (.name (jd + 1)) (.call did [.loc 0, .loc (js + 1)]) :: B) s) items s) = _
    rw [if_pos (by omega)]
    exact el
  have sim := (ks_ok (ck 0) 199).ss rest _ _ ql
  rw [callK_fn0 hf, runFn_eq rfl]
  show ∃ ps, (match evSs C DEPTH (.forr (.name (js + 1)) .range1 [.bi .max2 [.k (.int 1), .bi .min2 [.k (.int N), .bi .len [.loc 0]]]] (.asg (.name (jd + 1)) (.call did [.loc 0, .loc (js + 1)]) :: B) :: rest) s0 with
    | .ok (.ret o) s => CR.ok o (endCR [] 1 s)
    | .ok .next s => .ok (.fz .non) (endCR [] 1 s)
    | .ok _ _ => .bad 60
    | .ex c p s => .ex c p (endCR [] 1 s)
    | .bad n => .bad n) = _
  rw [show evSs C DEPTH (.forr (.name (js + 1)) .range1 [.bi .max2 [.k (.int 1), .bi .min2 [.k (.int N), .bi .len [.loc 0]]]] (.asg (.name (jd + 1)) (.call did [.loc 0, .loc (js + 1)]) :: B) :: rest) s0 = evSs C 199 rest st' from s_cons (n := 199) efor]
  cases er : ((ks ⟨glob, fnK glob hook (k + 1), []⟩ 199).ss rest).run none (scr0 nl) with
  | bad _ => rw [er] at hr; cases hr
  | ex _ _ _ => rw [er] at hr; cases hr
  | ok f s =>
    rw [er] at hr sim
    obtain ⟨st2, e2, _⟩ := sim
    cases f with
    | ret o =>
      have : o = .fz (.bl true) := sameO_ok hr
      subst this
      refine ⟨endCR [] 1 st2, ?_⟩
      rw [show evSs C 199 rest st' = _ from e2]
    | _ => cases hr
end
end VI.Kn
end

section
set_option Elab.async false
set_option linter.all false
set_option maxRecDepth 100000
set_option maxHeartbeats 400000
/-! VIx7: what the kernel looks at for a law. -/
namespace VI.Kn
open PySem VI

noncomputable section
def lookK (l : List (Nat × G)) (n : Nat) : Option G := @List.rec (Nat × G) (fun _ => Option G) none (fun p _ ih => @Prod.rec Nat G (fun _ => Option G) (fun m g => @Bool.rec (fun _ => _) ih (some g) (Nat.beq n m)) p) l
theorem lookK_eq (n : Nat) : ∀ l : List (Nat × G), lookK l n = l.lookup n
  | [] => rfl
  | (m, g) :: l => by
    show (@Bool.rec (fun _ => Option G) (lookK l n) (some g) (Nat.beq n m)) = _
    rw [ifb_eq, lookK_eq n l, List.lookup_cons, nbeq]
    by_cases h : n = m
    · subst h
      simp
    · have : (n == m) = false := by simpa using h
      rw [this]
      simp [h]
/-- rolls, and rows of the table -/
def hookT (rid : Nat) (rows : List (Nat × Nat × List O × O)) (k f : Nat) : Option Hok := @Bool.rec (fun _ => _) (@List.rec (Nat × List O × O) (fun _ => Option Hok) none (fun a l _ => some (.sum (a :: l))) (@List.rec (Nat × Nat × List O × O) (fun _ => Nat → List (Nat × List O × O)) (fun _ => []) (fun w _ ih i => @Bool.rec (fun _ => _) (ih (Nat.succ i)) (@Bool.rec (fun _ => _) (ih (Nat.succ i)) ((i, w.2.2.1, w.2.2.2) :: ih (Nat.succ i)) (Nat.beq w.2.1 f)) (Nat.beq w.1 k)) rows Nat.zero)) (some .roll) (Nat.beq f rid)
def rowsAt (rows : List (Nat × Nat × List O × O)) (k f : Nat) : Nat → List (Nat × List O × O) := @List.rec (Nat × Nat × List O × O) (fun _ => Nat → List (Nat × List O × O)) (fun _ => []) (fun w _ ih i => @Bool.rec (fun _ => _) (ih (Nat.succ i)) (@Bool.rec (fun _ => _) (ih (Nat.succ i)) ((i, w.2.2.1, w.2.2.2) :: ih (Nat.succ i)) (Nat.beq w.2.1 f)) (Nat.beq w.1 k)) rows
def tblT (rows : List (Nat × Nat × List O × O)) : Tbl := fun i => rows[i]?
end
theorem rowsAt_ok {k f : Nat} : ∀ {rows : List (Nat × Nat × List O × O)} {i : Nat} {w : Nat × List O × O}, w ∈ rowsAt rows k f i → ∃ n, w.1 = i + n ∧ rows[n]? = some (k, f, w.2.1, w.2.2)
  | [], i, w, h => by cases h
  | (k', f', a, r) :: rows, i, w, h => by
    have rest : ∀ {w : Nat × List O × O}, w ∈ rowsAt rows k f (Nat.succ i) → ∃ n, w.1 = i + n ∧ ((k', f', a, r) :: rows)[n]? = some (k, f, w.2.1, w.2.2) := fun {w} h => by
      obtain ⟨n, h1, h2⟩ := rowsAt_ok h
      exact ⟨n + 1, by omega, by simpa using h2⟩
    replace h : w ∈ (@Bool.rec (fun _ => List (Nat × List O × O)) (rowsAt rows k f (Nat.succ i)) (@Bool.rec (fun _ => List (Nat × List O × O)) (rowsAt rows k f (Nat.succ i)) ((i, a, r) :: rowsAt rows k f (Nat.succ i)) (Nat.beq f' f)) (Nat.beq k' k)) := h
    cases h1 : Nat.beq k' k with
    | false =>
      rw [h1] at h
      exact rest h
    | true =>
      cases h2 : Nat.beq f' f with
      | false =>
        rw [h1, h2] at h
        exact rest h
      | true =>
        rw [h1, h2] at h
        have e1 := Nat.eq_of_beq_eq_true h1
        have e2 := Nat.eq_of_beq_eq_true h2
        subst e1 e2
        rcases List.mem_cons.mp (show w ∈ (i, a, r) :: rowsAt rows k' f' (Nat.succ i) from h) with rfl | h
        · exact ⟨0, by simp, by simp⟩
        · exact rest h
theorem hks_of {glob : Nat → Option G} {rid : Nat} {kc : Int} {W : Nat} {rows : List (Nat × Nat × List O × O)} (hg : glob rid = some (.fn (rollFn kc))) (hk : kc.natAbs < 2 ^ 64) (hW : 1 ≤ W) (hlen : rows.length ≤ SCR) (hr : ∀ w ∈ rows, Row glob W w.1 w.2.1 w.2.2.1 w.2.2.2) : Hks glob rid (tblT rows) kc W rows.length (hookT rid rows) where
  env := ⟨hg, hk, hW, fun i hi => by unfold tblT; rw [List.getElem?_eq_getElem hi]; rfl, fun i k f args res e => hr (k, f, args, res) (List.mem_of_getElem? e)⟩
  hh := fun k f h e => by
    have e : (@Bool.rec (fun _ => Option Hok) (@List.rec (Nat × List O × O) (fun _ => Option Hok) none (fun a l _ => some (.sum (a :: l))) (rowsAt rows k f Nat.zero)) (some .roll) (Nat.beq f rid)) = some h := e
    cases hb : Nat.beq f rid with
    | true =>
      rw [hb] at e
      cases e
      exact .inl ⟨rfl, Nat.eq_of_beq_eq_true hb⟩
    | false =>
      rw [hb] at e
      have e : (@List.rec (Nat × List O × O) (fun _ => Option Hok) none (fun a l _ => some (.sum (a :: l))) (rowsAt rows k f Nat.zero)) = some h := e
      have key : ∀ l : List (Nat × List O × O), (@List.rec (Nat × List O × O) (fun _ => Option Hok) none (fun a l _ => some (.sum (a :: l))) l) = some h → h = .sum l := fun l e => by
        cases l with
        | nil => cases e
        | cons a l => cases e; rfl
      refine .inr ⟨_, key _ e, fun w hw => ?_⟩
      obtain ⟨n, h1, h2⟩ := rowsAt_ok hw
      unfold tblT
      rw [h1, Nat.zero_eq, Nat.zero_add]
      exact h2
  hscr := by unfold tblT; exact List.getElem?_eq_none hlen
theorem Row.mono {glob : Nat → Option G} {W W' k f : Nat} {args : List O} {res : O} (h : Row glob W k f args res) (l : W ≤ W') : Row glob W' k f args res := fun M x hM hx => by
  obtain ⟨x', ps, h1, h2, h3⟩ := h M x (by omega) hx
  exact ⟨x', ps, h1.mono (by omega), h2, h3⟩
noncomputable section
/-- ended, every way by its return, in few steps -/
def endB (b : Nat) (non : Bool) (r : Option (Nat × List LS)) : Bool := @Option.rec (Nat × List LS) (fun _ => Bool) false (fun p => @Bool.rec (fun _ => _) false (@Bool.rec (fun _ => _) (nilB p.2) true non) (Nat.ble p.1 b)) r
def isNon (o : O) : Bool := sameO o (.fz .non)
def fnIo0 (fd : Fn) (n : Nat) : Bool := decide (fd.io = [0] ∧ fd.np = n + 1)
/-- the look at a row -/
def rowB (glob : Nat → Option G) (rid : Nat) (rows : List (Nat × Nat × List O × O)) (k f : Nat) (args : List O) (res : O) (plan : List Pn) (lim g b : Nat) : Bool := match glob f with
  | some (.fn fd) => @Bool.rec (fun _ => _) false (endB b (isNon res) (exSs rows.length ⟨glob, fnK glob (hookT rid rows) k, [0]⟩ 0 lim (some res) g DEPTH fd.body plan [.tk [] :: (args.map L.o ++ List.replicate (fd.nl - fd.np) .no)])) (fnIo0 fd args.length)
  | _ => false
end
theorem rowB_ok {glob : Nat → Option G} {rid : Nat} {kc : Int} {W : Nat} {rows : List (Nat × Nat × List O × O)} (H : Hks glob rid (tblT rows) kc W rows.length (hookT rid rows)) {k f : Nat} {args : List O} {res : O} {plan : List Pn} {lim g b : Nat} (h : rowB glob rid rows k f args res plan lim g b = true) : Row glob (W * lim * b) k f args res := by
  unfold rowB at h
  split at h
  · rename_i fd hf
    obtain ⟨h1, h2⟩ := if_and h
    obtain ⟨hio, hnp⟩ := of_decide_eq_true h1
    unfold endB at h2
    cases e : exSs rows.length ⟨glob, fnK glob (hookT rid rows) k, [0]⟩ 0 lim (some res) g DEPTH fd.body plan [.tk [] :: (args.map L.o ++ List.replicate (fd.nl - fd.np) .no)] with
    | none => rw [e] at h2; cases h2
    | some p =>
      obtain ⟨cnt, S'⟩ := p
      rw [e] at h2
      obtain ⟨h3, h4⟩ := if_and (show (@Bool.rec (fun _ => Bool) false (@Bool.rec (fun _ => Bool) (nilB S') true (isNon res)) (Nat.ble cnt b)) = true from h2)
      refine (row_ok H hf hio hnp e ?_).mono (Nat.mul_le_mul_left _ (Nat.le_of_ble_eq_true h3))
      cases hn : isNon res with
      | true => exact .inr (sameO_ok hn)
      | false =>
        rw [hn] at h4
        cases S' with
        | nil => exact .inl rfl
        | cons _ _ => cases h4
  · cases h
noncomputable section
/-- the look at a law -/
def lawB (glob : Nat → Option G) (rid : Nat) (rows : List (Nat × Nat × List O × O)) (k nl jd : Nat) (B rest : List S) (plan : List Pn) (lim g b : Nat) : Bool := @Bool.rec (fun _ => _) false (isTrue (((ks ⟨glob, fnK glob (hookT rid rows) (k + 1), []⟩ 199).ss rest).run none (scr0 nl))) (@Option.rec (Nat × List LS) (fun _ => Bool) false (fun p => @Bool.rec (fun _ => _) false (p.2.all fun s => sameS (s.set (jd + 1) .no) (scr0 nl)) (Nat.ble p.1 b)) (exSs rows.length ⟨glob, fnK glob (hookT rid rows) (k + 1), []⟩ (jd + 1) lim none g 197 B plan [(scr0 nl).set (jd + 1) (.tk [])]))
end
theorem lawB_ok {glob : Nat → Option G} {rid : Nat} {kc : Int} {W : Nat} {rows : List (Nat × Nat × List O × O)} (H : Hks glob rid (tblT rows) kc W rows.length (hookT rid rows)) {k lid nl js jd did : Nat} {N : Int} {B rest : List S} (hf : glob lid = some (.fn (lawFn nl (js + 1) (jd + 1) did N B rest))) (hN : N < 1000) (hj : js < nl) (hj2 : jd < nl) (hjj : js ≠ jd)
    {k0 k1 k2 k3 k4 k5 : Int} (hd : glob did = some (.fn (diceFn k0 k1 k2 k3 k4 k5))) (h0 : k0.natAbs < 2 ^ 64) (h2 : k2.natAbs < 2 ^ 64) (h3 : k3.natAbs < 2 ^ 64) (h4 : k4.natAbs < 2 ^ 64) (h5 : k5.natAbs < 2 ^ 64)
    {plan : List Pn} {lim g b : Nat} (hb : W * lim * b ≤ DLIM) (h : lawB glob rid rows k nl jd B rest plan lim g b = true) (ns : List Int) : ∃ ps, callK glob (k + 2) none lid [.fz (.scr ns)] = .ok (.fz (.bl true)) ps := by
  obtain ⟨a1, a2⟩ := if_and h
  cases e : exSs rows.length ⟨glob, fnK glob (hookT rid rows) (k + 1), []⟩ (jd + 1) lim none g 197 B plan [(scr0 nl).set (jd + 1) (.tk [])] with
  | none => rw [e] at a1; cases a1
  | some p =>
    obtain ⟨cnt, S'⟩ := p
    rw [e] at a1
    obtain ⟨b1, b2⟩ := if_and (show (@Bool.rec (fun _ => Bool) false (S'.all fun s => sameS (s.set (jd + 1) .no) (scr0 nl)) (Nat.ble cnt b)) = true from a1)
    exact law_ok H hf hN hj hj2 hjj hd h0 h2 h3 h4 h5 e (Nat.le_trans (Nat.mul_le_mul_left _ (Nat.le_of_ble_eq_true b1)) hb) b2 a2 ns
end VI.Kn
end

section
set_option Elab.async false
set_option linter.all false
set_option maxRecDepth 100000
set_option maxHeartbeats 0
namespace VI.Hd
open PySem PySem.Spec PyProof.Rows L2 He
def top (i : Nat) : Stmt := PySem.Challenge.pw_heedcells_k31_errors_of_states.main.body.getD i (.Pass ⟨0, 0, 0, 0⟩)
def c_is_integer : Fn := ⟨1, 1, [], [(.ret (some (.and [(.isi (.loc 0) .int), (.not (.isi (.loc 0) .bool))])))]⟩
def c_is_within : Fn := ⟨3, 3, [], [(.ret (some (.and [(.call 497976731417541700183410 [(.loc 0)]), (.cmp (.loc 1) [(.le, (.loc 0)), (.le, (.loc 2))])])))]⟩
def c_are_bits : Fn := ⟨1, 2, [], [(.ret (some (.and [(.isi (.loc 0) .tuple), (.bi .all [(.lc (.call 1945221622471460415854 [(.loc 1), (.k (.int 0)), (.k (.int 1))]) [1] [((.name 1), .val, [(.loc 0)], [])])])])))]⟩
def c_are_cells_of : Fn := ⟨2, 5, [], [(.ife (.or [(.not (.isi (.loc 1) .tuple)), (.not (.bi .all [(.lc (.call 1945221622471460415854 [(.loc 2), (.k (.int 0)), (.bin .sub (.loc 0) (.k (.int 1)))]) [2] [((.name 2), .val, [(.loc 1)], [])])]))]) [(.ret (some (.k (.bl false))))] []), (.ret (some (.bi .all [(.lc (.cmp (.loc 3) [(.lt, (.loc 4))]) [3, 4] [((.tup [(.name 3), (.name 4)]), .zip, [(.loc 1), (.slc (.loc 1) (some (.k (.int 1))) none)], [])])])))]⟩
def c_count_of : Fn := ⟨1, 3, [], [(.asg (.name 1) (.k (.int 1))), (.forr (.name 2) .range1 [(.loc 0)] [(.asg (.name 1) (.bin .mul (.k (.int 2)) (.loc 1)))]), (.ret (some (.loc 1)))]⟩
def c_index_in : Fn := ⟨1, 3, [], [(.asg (.name 1) (.k (.int 0))), (.forr (.name 2) .val [(.loc 0)] [(.asg (.name 1) (.bin .add (.bin .mul (.k (.int 2)) (.loc 1)) (.loc 2)))]), (.ret (some (.loc 1)))]⟩
def c_at_index : Fn := ⟨2, 4, [], [(.asg (.name 2) (.lst [])), (.forr (.name 3) .range1 [(.loc 0)] [(.expr (.mut .append 2 [(.bin .mod (.loc 1) (.k (.int 2)))])), (.asg (.name 1) (.bin .fdiv (.loc 1) (.k (.int 2))))]), (.ret (some (.bi .tuple [(.rev (.loc 2))])))]⟩
def c_states_of : Fn := ⟨1, 5, [], [(.asg (.name 1) (.lst [(false, (.tup []))])), (.forr (.name 2) .range1 [(.loc 0)] [(.asg (.name 1) (.lc (.tup [(true, (.loc 3)), (false, (.loc 4))]) [3, 4] [((.name 3), .val, [(.loc 1)], []), ((.name 4), .val, [(.tup [(false, (.k (.int 0))), (false, (.k (.int 1)))])], [])]))]), (.ret (some (.loc 1)))]⟩
def c_turned_in : Fn := ⟨2, 4, [], [(.asg (.name 2) (.bi .list [(.loc 0)])), (.forr (.name 3) .val [(.loc 1)] [(.seti 2 (.loc 3) (.bin .sub (.k (.int 1)) (.idx (.loc 2) (.loc 3))))]), (.ret (some (.bi .tuple [(.loc 2)])))]⟩
def c_unlike_in : Fn := ⟨2, 5, [], [(.ret (some (.lc (.loc 2) [2, 3, 4] [((.tup [(.name 2), (.tup [(.name 3), (.name 4)])]), .enumzip, [(.loc 0), (.loc 1)], [(.cmp (.loc 3) [(.ne, (.loc 4))])])])))]⟩
def c_between_in : Fn := ⟨2, 8, [], [(.asg (.name 2) (.lst [(false, (.tup []))])), (.forr (.tup [(.name 3), (.name 4)]) .zip [(.loc 0), (.loc 1)] [(.asg (.name 5) (.ite (.cmp (.loc 3) [(.eq, (.loc 4))]) (.tup [(false, (.loc 3))]) (.tup [(false, (.k (.int 0))), (false, (.k (.int 1)))]))), (.asg (.name 2) (.lc (.tup [(true, (.loc 6)), (false, (.loc 7))]) [6, 7] [((.name 6), .val, [(.loc 2)], []), ((.name 7), .val, [(.loc 5)], [])]))]), (.ret (some (.loc 2)))]⟩
def c_require_count : Fn := ⟨3, 3, [], [(.ife (.not (.call 1945221622471460415854 [(.loc 0), (.loc 1), (.loc 2)])) [(.raise 22725946593506838263534808692 (some (.loc 0)))] [])]⟩
def c_is_state : Fn := ⟨1, 1, [], [(.ret (some (.and [(.call 7021786229371401331 [(.loc 0)]), (.cmp (.k (.int 1)) [(.le, (.bi .len [(.loc 0)])), (.le, (.glob 365085516491731457821779))])])))]⟩
def c_require_state : Fn := ⟨1, 1, [], [(.ife (.not (.call 7598521945782580325 [(.loc 0)])) [(.raise 22725946593506838332336862309 none)] [])]⟩
def c_require_two : Fn := ⟨2, 2, [], [(.expr (.call 9063405675697736513832397927525 [(.loc 0)])), (.expr (.call 9063405675697736513832397927525 [(.loc 1)])), (.ife (.cmp (.bi .len [(.loc 0)]) [(.ne, (.bi .len [(.loc 1)]))]) [(.raise 97607197389754476515671919887076913006 none)] [])]⟩
def c_index_of : Fn := ⟨1, 1, [], [(.expr (.call 9063405675697736513832397927525 [(.loc 0)])), (.ret (some (.call 7597120008394598766 [(.loc 0)])))]⟩
def c_state_at : Fn := ⟨2, 2, [], [(.expr (.call 9063405675697736513763595873908 [(.loc 0), (.k (.int 1)), (.glob 365085516491731457821779)])), (.ife (.or [(.not (.call 497976731417541700183410 [(.loc 1)])), (.cmp (.loc 1) [(.lt, (.k (.int 0)))]), (.cmp (.loc 1) [(.ge, (.call 7165074649429012326 [(.loc 0)]))])]) [(.raise 22725946593506838263534808692 (some (.loc 1)))] []), (.ret (some (.call 7022342625405724024 [(.loc 0), (.loc 1)])))]⟩
def c_all_states : Fn := ⟨1, 1, [], [(.expr (.call 9063405675697736513763595873908 [(.loc 0), (.k (.int 1)), (.glob 1425107911828581403731)])), (.ret (some (.bi .tuple [(.call 2129761680436815163238 [(.loc 0)])])))]⟩
def c_turned : Fn := ⟨2, 2, [], [(.expr (.call 9063405675697736513832397927525 [(.loc 0)])), (.ife (.not (.call 30158342214724246224244797286 [(.bi .len [(.loc 0)]), (.loc 1)])) [(.raise 97607197389754476515671919887076913006 none)] []), (.ret (some (.call 2148285260581845297518 [(.loc 0), (.loc 1)])))]⟩
def c_unlike_cells : Fn := ⟨2, 2, [], [(.expr (.call 138296595393337043973338991 [(.loc 0), (.loc 1)])), (.ret (some (.bi .tuple [(.call 2166225907175657531758 [(.loc 0), (.loc 1)])])))]⟩
def c_is_below : Fn := ⟨2, 4, [], [(.expr (.call 138296595393337043973338991 [(.loc 0), (.loc 1)])), (.ret (some (.bi .all [(.lc (.cmp (.loc 2) [(.le, (.loc 3))]) [2, 3] [((.tup [(.name 2), (.name 3)]), .zip, [(.loc 0), (.loc 1)], [])])])))]⟩
def c_meet : Fn := ⟨2, 4, [], [(.expr (.call 138296595393337043973338991 [(.loc 0), (.loc 1)])), (.ret (some (.bi .tuple [(.lc (.bi .min2 [(.loc 2), (.loc 3)]) [2, 3] [((.tup [(.name 2), (.name 3)]), .zip, [(.loc 0), (.loc 1)], [])])])))]⟩
def c_join : Fn := ⟨2, 4, [], [(.expr (.call 138296595393337043973338991 [(.loc 0), (.loc 1)])), (.ret (some (.bi .tuple [(.lc (.bi .max2 [(.loc 2), (.loc 3)]) [2, 3] [((.tup [(.name 2), (.name 3)]), .zip, [(.loc 0), (.loc 1)], [])])])))]⟩
def c_between : Fn := ⟨2, 2, [], [(.expr (.call 138296595393337043973338991 [(.loc 0), (.loc 1)])), (.ife (.cmp (.bi .len [(.call 2166225907175657531758 [(.loc 0), (.loc 1)])]) [(.gt, (.glob 1425107911828581403731))]) [(.raise 23766421873979001 (some (.glob 1425107911828581403731)))] []), (.ret (some (.bi .tuple [(.call 464663428760586841713006 [(.loc 0), (.loc 1)])])))]⟩
def c__law_dice : Fn := ⟨2, 5, [], [(.asg (.name 2) (.ite (.cmp (.loc 1) [(.lt, (.bi .len [(.loc 0)]))]) (.bi .int [(.idx (.loc 0) (.loc 1))]) (.bin .add (.bin .mul (.k (.int 167)) (.loc 1)) (.k (.int 71))))), (.asg (.name 3) (.bin .mod (.bi .int [(.bi .abs [(.loc 2)])]) (.bin .pow (.bin .pow (.k (.int 10)) (.k (.int 54))) (.k (.int 6))))), (.asg (.name 4) (.bin .add (.bin .add (.bin .add (.bin .mul (.bin .mod (.loc 3) (.k (.int 2305843009213693921))) (.k (.int 83))) (.bin .mul (.k (.int 769)) (.loc 1))) (.bin .mul (.k (.int 53)) (.bi .int [(.cmp (.loc 2) [(.lt, (.k (.int 0)))])]))) (.k (.int 43)))), (.ret (some (.lst [(false, (.bi .max2 [(.k (.int 0)), (.bin .sub (.loc 3) (.bin .pow (.k (.int 10)) (.k (.int 16))))])), (false, (.loc 4)), (false, (.k (.int 0)))])))]⟩
def c__law_roll : Fn := ⟨2, 5, [0], [(.ife (.cmp (.idx (.loc 0) (.k (.int 0))) [(.gt, (.k (.int 0)))]) [(.asg (.name 2) (.bin .mod (.idx (.loc 0) (.k (.int 0))) (.loc 1))), (.seti 0 (.k (.int 0)) (.bin .fdiv (.idx (.loc 0) (.k (.int 0))) (.loc 1))), (.ret (some (.bi .int [(.loc 2)])))] []), (.seti 0 (.k (.int 2)) (.bin .add (.idx (.loc 0) (.k (.int 2))) (.k (.int 1)))), (.asg (.name 3) (.bin .mod (.bin .add (.idx (.loc 0) (.k (.int 1))) (.bin .mul (.k (.int 86028157)) (.idx (.loc 0) (.k (.int 2))))) (.k (.int 2305843009213693951)))), (.asg (.name 4) (.bin .add (.bin .mul (.bin .mod (.bin .add (.bin .mul (.loc 3) (.loc 3)) (.bin .mul (.k (.int 197)) (.idx (.loc 0) (.k (.int 2))))) (.k (.int 2305843009213693907))) (.k (.int 15485867))) (.loc 3))), (.ret (some (.bin .mod (.bi .int [(.bin .fdiv (.loc 4) (.k (.int 65579)))]) (.loc 1))))]⟩
def c__law_pick : Fn := ⟨2, 2, [0], [(.ret (some (.idx (.loc 1) (.call 1760250341483070057580 [(.loc 0), (.bi .len [(.loc 1)])]))))]⟩
def c__law_one : Fn := ⟨3, 3, [0], [(.ife (.cmp (.call 1760250341483070057580 [(.loc 0), (.k (.int 3))]) [(.gt, (.k (.int 0)))]) [(.ret (some (.tup [(false, (.loc 1)), (false, (.k (.bl false)))])))] []), (.ret (some (.tup [(false, (.call 1760250341483036107627 [(.loc 0), (.loc 2)])), (false, (.k (.bl true)))])))]⟩
def c__law_first : Fn := ⟨1, 4, [], [(.asg (.name 1) (.lc (.loc 2) [2, 3] [((.tup [(.name 2), (.name 3)]), .val, [(.loc 0)], [(.loc 3)])])), (.ret (some (.ite (.cmp (.loc 1) [(.ne, (.lst []))]) (.idx (.loc 1) (.k (.int 0))) (.k (.str ⟨#[110, 111, 110, 101]⟩)))))]⟩
def c__law_met : Fn := ⟨1, 2, [], [(.trye [(.expr (.lcall 0 []))] [(22725946593506838332336862309, (.ret (.str ⟨#[115, 116, 97, 116, 101]⟩))), (346770425315961277932916, (.ret (.str ⟨#[110, 101, 116]⟩))), (97607197389754476515671919887076913006, (.ret (.str ⟨#[111, 112, 101, 114, 97, 116, 105, 111, 110]⟩))), (22725946593506838263534808692, (.rep 1 ⟨#[99, 111, 117, 110, 116, 32]⟩)), (23766421873979001, (.rep 1 ⟨#[109, 97, 110, 121, 32]⟩))]), (.ret (some (.k (.str ⟨#[110, 111, 110, 101]⟩))))]⟩
def c__law_is_int : Fn := ⟨1, 1, [], [(.ret (some (.and [(.isi (.loc 0) .int), (.not (.isi (.loc 0) .bool))])))]⟩
def c__law_is_lot : Fn := ⟨2, 3, [], [(.ife (.or [(.not (.isi (.loc 1) .tuple)), (.cmp (.lc (.loc 2) [2] [((.name 2), .val, [(.loc 1)], [(.or [(.not (.call 115359766379424600650509940 [(.loc 2)])), (.not (.cmp (.k (.int 0)) [(.le, (.loc 2)), (.lt, (.loc 0))]))])])]) [(.ne, (.lst []))])]) [(.ret (some (.k (.bl false))))] []), (.ret (some (.cmp (.bi .list [(.loc 1)]) [(.eq, (.bi .sortset [(.loc 1)]))])))]⟩
def c__law_right : Fn := ⟨1, 21, [0], [(.asg (.name 1) (.lst [(false, (.k .non)), (false, (.tup [])), (false, (.tup [(false, (.k (.int 0))), (false, (.k (.int 2)))])), (false, (.tup [(false, (.k (.bl true))), (false, (.k (.int 0)))])), (false, (.lst [(false, (.k (.int 0))), (false, (.k (.int 1)))])), (false, (.k (.str ⟨#[48, 49]⟩))), (false, (.k (.int 5))), (false, (.bin .mul (.tup [(false, (.k (.int 0)))]) (.k (.int 41)))), (false, (.tup [(false, (.k (.int 0))), (false, (.k (.str ⟨#[49]⟩)))]))])), (.asg (.tup [(.name 17), (.name 2)]) (.call 6875977896418045541 [(.loc 0), (.call 1760250341483036107627 [(.loc 0), (.lst [(false, (.tup [(false, (.k (.int 0))), (false, (.k (.int 1)))])), (false, (.tup [(false, (.k (.int 1))), (false, (.k (.int 1))), (false, (.k (.int 0)))])), (false, (.bin .mul (.tup [(false, (.k (.int 0)))]) (.k (.int 12)))), (false, (.bin .mul (.tup [(false, (.k (.int 1)))]) (.k (.int 12))))])]), (.loc 1)])), (.asg (.tup [(.name 18), (.name 3)]) (.call 6875977896418045541 [(.loc 0), (.call 1760250341483036107627 [(.loc 0), (.lst [(false, (.tup [(false, (.k (.int 1))), (false, (.k (.int 1)))])), (false, (.tup [(false, (.k (.int 0))), (false, (.k (.int 0))), (false, (.k (.int 1)))])), (false, (.bin .mul (.tup [(false, (.k (.int 1)))]) (.k (.int 12))))])]), (.loc 1)])), (.par (.name 4) (.name 5) (.tup [(false, (.k (.str ⟨#[115, 116, 97, 116, 101]⟩))), (false, (.loc 2))]) (.tup [(false, (.k (.str ⟨#[115, 116, 97, 116, 101]⟩))), (false, (.loc 3))])), (.asg (.name 6) (.tup [(false, (.k (.str ⟨#[111, 112, 101, 114, 97, 116, 105, 111, 110]⟩))), (false, (.and [(.not (.loc 2)), (.not (.loc 3)), (.cmp (.bi .len [(.loc 17)]) [(.ne, (.bi .len [(.loc 18)]))])]))])), (.forr (.name 12) .val [(.tup [(false, (.glob 36343239949481956326417132659)), (false, (.glob 7598521872517197687)), (false, (.glob 1835361652)), (false, (.glob 1785686382))])] [(.ife (.cmp (.lam 6875977896417912180 (.loc 12) [(.loc 17), (.loc 18)]) [(.ne, (.call 450624087419614294864756 [(.lst [(false, (.loc 4)), (false, (.loc 5)), (false, (.loc 6))])]))]) [(.ret (some (.k (.bl false))))] [])]), (.asg (.name 7) (.lst [(false, (.loc 4)), (false, (.loc 5)), (false, (.loc 6))])), (.ife (.and [(.not (.loc 2)), (.not (.loc 3)), (.cmp (.bi .len [(.loc 17)]) [(.eq, (.bi .len [(.loc 18)]))])]) [(.expr (.mut .append 7 [(.tup [(false, (.k (.str ⟨#[109, 97, 110, 121, 32, 49, 48]⟩))), (false, (.cmp (.bi .len [(.lc (.k (.int 1)) [19, 20] [((.tup [(.name 19), (.name 20)]), .zip, [(.loc 17), (.loc 18)], [(.cmp (.loc 19) [(.ne, (.loc 20))])])])]) [(.gt, (.k (.int 10)))]))])]))] []), (.ife (.cmp (.lam 6875977896417912180 (.glob 27696098611389806) [(.loc 17), (.loc 18)]) [(.ne, (.call 450624087419614294864756 [(.loc 7)]))]) [(.ret (some (.k (.bl false))))] []), (.ife (.cmp (.lam 6875977896417912180 (.glob 7597120008394600294) [(.loc 17)]) [(.ne, (.call 450624087419614294864756 [(.lst [(false, (.loc 4))])]))]) [(.ret (some (.k (.bl false))))] []), (.asg (.name 13) (.call 1760250341483036107627 [(.loc 0), (.lst [(false, (.tup [])), (false, (.tup [(false, (.k (.int 0)))])), (false, (.tup [(false, (.k (.int 0))), (false, (.k (.int 1)))])), (false, (.tup [(false, (.k (.int 1))), (false, (.k (.int 0)))])), (false, (.tup [(false, (.k (.int 0))), (false, (.k (.int 0)))])), (false, (.tup [(false, (.k (.int 2)))])), (false, (.tup [(false, (.k (.int 11)))])), (false, (.tup [(false, (.neg (.k (.int 1))))])), (false, (.lst [(false, (.k (.int 0)))])), (false, (.k .non)), (false, (.tup [(false, (.k (.bl true)))])), (false, (.k (.str ⟨#[48]⟩)))])])), (.asg (.name 8) (.tup [(false, (.k (.str ⟨#[111, 112, 101, 114, 97, 116, 105, 111, 110]⟩))), (false, (.and [(.not (.loc 2)), (.not (.call 115359766379424600650706804 [(.bi .len [(.loc 17)]), (.loc 13)]))]))])), (.ife (.cmp (.lam 6875977896417912180 (.glob 128047779833188) [(.loc 17), (.loc 13)]) [(.ne, (.call 450624087419614294864756 [(.lst [(false, (.loc 4)), (false, (.loc 8))])]))]) [(.ret (some (.k (.bl false))))] []), (.asg (.tup [(.name 16), (.name 9)]) (.call 6875977896418045541 [(.loc 0), (.call 1760250341483036107627 [(.loc 0), (.lst [(false, (.k (.int 1))), (false, (.k (.int 3))), (false, (.k (.int 40)))])]), (.lst [(false, (.k (.int 0))), (false, (.k (.int 41))), (false, (.neg (.k (.int 1)))), (false, (.k .non)), (false, (.k (.bl true))), (false, (.k (.str ⟨#[51]⟩)))])])), (.asg (.tup [(.name 15), (.name 10)]) (.call 6875977896418045541 [(.loc 0), (.call 1760250341483036107627 [(.loc 0), (.lst [(false, (.k (.int 0))), (false, (.k (.int 1)))])]), (.lst [(false, (.neg (.k (.int 1)))), (false, (.k .non)), (false, (.k (.bl false))), (false, (.k (.str ⟨#[48]⟩))), (false, (.bin .pow (.k (.int 2)) (.k (.int 40)))), (false, (.tup [(false, (.k (.int 1)))]))])])), (.asg (.name 7) (.lst [(false, (.tup [(false, (.bin .add (.k (.str ⟨#[99, 111, 117, 110, 116, 32]⟩)) (.bi .repr [(.loc 16)]))), (false, (.loc 9))])), (false, (.tup [(false, (.bin .add (.k (.str ⟨#[99, 111, 117, 110, 116, 32]⟩)) (.bi .repr [(.loc 15)]))), (false, (.loc 10))]))])), (.ife (.cmp (.lam 6875977896417912180 (.glob 8319381564204999028) [(.loc 16), (.loc 15)]) [(.ne, (.call 450624087419614294864756 [(.loc 7)]))]) [(.ret (some (.k (.bl false))))] []), (.asg (.tup [(.name 14), (.name 11)]) (.call 6875977896418045541 [(.loc 0), (.call 1760250341483036107627 [(.loc 0), (.lst [(false, (.k (.int 1))), (false, (.k (.int 2))), (false, (.k (.int 10)))])]), (.lst [(false, (.k (.int 0))), (false, (.k (.int 11))), (false, (.neg (.k (.int 1)))), (false, (.k .non)), (false, (.k (.bl true))), (false, (.k (.str ⟨#[51]⟩)))])])), (.ret (some (.cmp (.lam 6875977896417912180 (.glob 460069606285538789451123) [(.loc 14)]) [(.eq, (.call 450624087419614294864756 [(.lst [(false, (.tup [(false, (.bin .add (.k (.str ⟨#[99, 111, 117, 110, 116, 32]⟩)) (.bi .repr [(.loc 14)]))), (false, (.loc 11))]))])]))])))]⟩
def c_law : Fn := ⟨1, 4, [], [(.forr (.name 1) .range1 [(.bi .max2 [(.k (.int 1)), (.bi .min2 [(.k (.int 8)), (.bi .len [(.loc 0)])])])] [(.asg (.name 2) (.call 1760250341482834781029 [(.loc 0), (.loc 1)])), (.forr (.name 3) .range1 [(.k (.int 3))] [(.ife (.not (.call 450624087419665833748596 [(.loc 2)])) [(.ret (some (.k (.bl false))))] [])])]), (.ife (.cmp (.lam 6875977896417912180 (.glob 8319381564204999028) [(.k (.int 3)), (.k (.int 8))]) [(.ne, (.k (.str ⟨#[99, 111, 117, 110, 116, 32, 56]⟩)))]) [(.ret (some (.k (.bl false))))] []), (.ret (some (.cmp (.lam 6875977896417912180 (.glob 8319381564204999028) [(.k (.int 3)), (.k (.int 7))]) [(.eq, (.k (.str ⟨#[110, 111, 110, 101]⟩)))])))]⟩
def defs : List DRow := [⟨"is_integer", top 10, [], false, c_is_integer⟩,
  ⟨"is_within", top 11, [], false, c_is_within⟩,
  ⟨"are_bits", top 12, [], false, c_are_bits⟩,
  ⟨"are_cells_of", top 13, [], false, c_are_cells_of⟩,
  ⟨"count_of", top 14, [], false, c_count_of⟩,
  ⟨"index_in", top 15, [], false, c_index_in⟩,
  ⟨"at_index", top 16, [], false, c_at_index⟩,
  ⟨"states_of", top 17, [], false, c_states_of⟩,
  ⟨"turned_in", top 18, [], false, c_turned_in⟩,
  ⟨"unlike_in", top 19, [], false, c_unlike_in⟩,
  ⟨"between_in", top 20, [], false, c_between_in⟩,
  ⟨"require_count", top 21, [], false, c_require_count⟩,
  ⟨"is_state", top 22, [], false, c_is_state⟩,
  ⟨"require_state", top 23, [], false, c_require_state⟩,
  ⟨"require_two", top 24, [], false, c_require_two⟩,
  ⟨"index_of", top 25, [], false, c_index_of⟩,
  ⟨"state_at", top 26, [], false, c_state_at⟩,
  ⟨"all_states", top 27, [], false, c_all_states⟩,
  ⟨"turned", top 28, [], false, c_turned⟩,
  ⟨"unlike_cells", top 29, [], false, c_unlike_cells⟩,
  ⟨"is_below", top 30, [], false, c_is_below⟩,
  ⟨"meet", top 31, [], false, c_meet⟩,
  ⟨"join", top 32, [], false, c_join⟩,
  ⟨"between", top 33, [], false, c_between⟩,
  ⟨"_law_dice", top 35, [], false, c__law_dice⟩,
  ⟨"_law_roll", top 36, [0], false, c__law_roll⟩,
  ⟨"_law_pick", top 37, [0], false, c__law_pick⟩,
  ⟨"_law_one", top 38, [0], false, c__law_one⟩,
  ⟨"_law_first", top 39, [], false, c__law_first⟩,
  ⟨"_law_met", top 40, [], false, c__law_met⟩,
  ⟨"_law_is_int", top 41, [], false, c__law_is_int⟩,
  ⟨"_law_is_lot", top 42, [], false, c__law_is_lot⟩,
  ⟨"_law_right", top 43, [0], true, c__law_right⟩,
  ⟨"law", top 44, [], true, c_law⟩]
def inCls (i j : Nat) : Stmt := match top i with
  | .ClassDef _ _ _ b _ _ _ _ _ _ _ => b.getD j (.Pass ⟨0, 0, 0, 0⟩)
  | s => s
def txt : Txt where
  file := PySem.Challenge.pw_heedcells_k31_errors_of_states.main.file
  defs := defs
  vis := [("MAX_CELLS", 10), ("MOST_CELLS", 40)]
  vss := []
  ex0 := [("HeedError", .val, ["HeedError"]), ("InvalidState", .val, ["InvalidState", "HeedError"]), ("InvalidNet", .val, ["InvalidNet", "HeedError"]), ("InvalidOperation", .val, ["InvalidOperation", "HeedError"])]
  ex1 := [(⟨"InvalidCount", inCls 5 0, "given", "given", .idx⟩, ["InvalidCount"]), (⟨"TooMany", inCls 6 0, "limit", "limit", .ovf⟩, ["TooMany"])]
  bs := ["len", "int", "abs", "max", "min", "sum", "all", "any", "tuple", "list", "sorted", "set", "repr", "str", "bool", "dict", "range", "enumerate", "zip", "isinstance"]
  ls := ["_law_met"]
def names0 : List Str := ["HeedError", "InvalidState", "InvalidNet", "InvalidOperation", "InvalidCount", "TooMany", "MAX_CELLS", "MOST_CELLS", "is_integer", "is_within", "are_bits", "are_cells_of", "count_of", "index_in", "at_index", "states_of", "turned_in", "unlike_in", "between_in", "require_count", "is_state", "require_state", "require_two", "index_of", "state_at"]
def names1 : List Str := ["all_states", "turned", "unlike_cells", "is_below", "meet", "join", "between", "_law_dice", "_law_roll", "_law_pick", "_law_one", "_law_first", "_law_met", "_law_is_int", "_law_is_lot", "_law_right"]
def names : List Str := names0 ++ names1
abbrev LW : PySem.W.OpenLaw := PySem.Challenge.rw_heedcells_k31_errors_of_states
abbrev RW : PySem.W.OpenRow := PySem.W.OpenLaw.row LW
abbrev hk : PySem.W.Hook := hookV 6 txt
theorem txtOk : TxtOk txt LW.prog := ⟨by decide +kernel, by kernel_rfl, by kernel_rfl, by decide +kernel⟩
theorem run (w : World) : HandSHeadRun.RunEq RW (PySem.W.view RW.prog [44]) hk (obV 6 txt) 20000 names w := by
  intro os
  kernel_rfl
end VI.Hd
end

section
set_option Elab.async false
set_option linter.all false
set_option maxRecDepth 100000
set_option maxHeartbeats 0
namespace VI.Hd
open PySem VI VI.Kn
def tabL : List (Nat × G) := [(497976731417541700183410, .fn c_is_integer),
  (1945221622471460415854, .fn c_is_within),
  (7021786229371401331, .fn c_are_bits),
  (30158342214724246224244797286, .fn c_are_cells_of),
  (7165074649429012326, .fn c_count_of),
  (7597120008394598766, .fn c_index_in),
  (7022342625405724024, .fn c_at_index),
  (2129761680436815163238, .fn c_states_of),
  (2148285260581845297518, .fn c_turned_in),
  (2166225907175657531758, .fn c_unlike_in),
  (464663428760586841713006, .fn c_between_in),
  (9063405675697736513763595873908, .fn c_require_count),
  (7598521945782580325, .fn c_is_state),
  (9063405675697736513832397927525, .fn c_require_state),
  (138296595393337043973338991, .fn c_require_two),
  (7597120008394600294, .fn c_index_of),
  (8319381564204999028, .fn c_state_at),
  (460069606285538789451123, .fn c_all_states),
  (128047779833188, .fn c_turned),
  (36343239949481956326417132659, .fn c_unlike_cells),
  (7598521872517197687, .fn c_is_below),
  (1835361652, .fn c_meet),
  (1785686382, .fn c_join),
  (27696098611389806, .fn c_between),
  (1760250341482834781029, .fn c__law_dice),
  (1760250341483070057580, .fn c__law_roll),
  (1760250341483036107627, .fn c__law_pick),
  (6875977896418045541, .fn c__law_one),
  (450624087419614294864756, .fn c__law_first),
  (6875977896417912180, .fn c__law_met),
  (115359766379424600650509940, .fn c__law_is_int),
  (115359766379424600650706804, .fn c__law_is_lot),
  (450624087419665833748596, .fn c__law_right),
  (7102839, .fn c_law),
  (1425107911828581403731, .val (.int 10)),
  (365085516491731457821779, .val (.int 40)),
  (1335471929527001837426, .exc [1335471929527001837426] none),
  (22725946593506838332336862309, .exc [22725946593506838332336862309, 1335471929527001837426] none),
  (346770425315961277932916, .exc [346770425315961277932916, 1335471929527001837426] none),
  (97607197389754476515671919887076913006, .exc [97607197389754476515671919887076913006, 1335471929527001837426] none),
  (22725946593506838263534808692, .exc [22725946593506838263534808692] (some 444150998382)),
  (23766421873979001, .exc [23766421873979001] (some 465625246068))]
theorem tab_eq : txt.tab = tabL := by kernel_rfl
noncomputable abbrev gl : Nat → Option G := lookK tabL
theorem gl_eq : gl = fun n => txt.tab.lookup n := by
  funext n
  show lookK tabL n = _
  rw [lookK_eq, tab_eq]
abbrev rid : Nat := 1760250341483070057580
theorem hks1 : Hks gl rid (tblT []) 197 1 0 (hookT rid []) := hks_of (rows := []) (by kernel_rfl) (by decide) (by omega) (by decide) (fun w h => by cases h)
def plan__law_right : List Pn := [.stm [0, 1, 12, 19, 20], .stm [0, 1, 2, 12, 17, 19, 20], .stm [0, 2, 3, 12, 17, 18, 19, 20], .stm [0, 2, 3, 4, 5, 12, 17, 18, 19, 20], .stm [0, 2, 3, 4, 5, 6, 12, 17, 18, 19, 20], .stm [0, 2, 3, 4, 5, 6, 17, 18, 19, 20], .stm [0, 2, 3, 4, 7, 17, 18, 19, 20], .stm [0, 2, 4, 7, 17, 18], .stm [0, 2, 4, 17], .stm [0, 2, 4, 17], .stm [0, 2, 4, 13, 17], .stm [0, 4, 8, 13, 17], .stm [0], .stm [0, 9, 16], .stm [0, 9, 10, 15, 16], .stm [0, 7, 15, 16], .stm [0], .stm [0, 11, 14], .stm [0]]
theorem row__law_right : Row gl 2400 18 450624087419665833748596 [] (.fz (.bl true)) := rowB_ok hks1 (plan := plan__law_right) (lim := 12) (g := 60) (b := 200) (by decide +kernel)
def rws : List (Nat × Nat × List O × O) := [(18, 450624087419665833748596, [], .fz (.bl true))]
theorem hks2 : Hks gl rid (tblT rws) 197 2400 rws.length (hookT rid rws) := hks_of (by kernel_rfl) (by decide) (by omega) (by decide) (fun w h => by
  simp only [rws, List.mem_cons, List.not_mem_nil, or_false] at h
  subst h
  exact row__law_right)
def lawBody : List S × List S := match c_law.body with
  | .forr _ _ _ (_ :: B) :: rest => (B, rest)
  | _ => ([], [])
def planL : List Pn := [.loop [0, 2] [0, 2] [.stm [0, 2]]]
theorem lawOk (ns : List Int) : ∃ ps, callK gl 20 none 7102839 [.fz (.scr ns)] = .ok (.fz (.bl true)) ps :=
  lawB_ok hks2 (k := 18) (lid := 7102839) (nl := 3) (js := 0) (jd := 1) (did := 1760250341482834781029) (N := 8) (B := lawBody.1) (rest := lawBody.2) (k0 := 167) (k1 := 71) (k2 := 83) (k3 := 769) (k4 := 53) (k5 := 43) (by kernel_rfl) (by decide) (by decide) (by decide) (by decide) (by kernel_rfl) (by decide) (by decide) (by decide) (by decide) (by decide) (plan := planL) (lim := 20) (g := 40) (b := 20) (by decide) (by decide +kernel) ns
theorem ev (ns : List Int) : ∃ ps, callK (fun n => txt.tab.lookup n) 20 none 7102839 [.fz (.scr ns)] = .ok (.fz (.bl true)) ps := by
  rw [← gl_eq]
  exact lawOk ns
end VI.Hd
end

set_option maxHeartbeats 0
open PySem PySem.W PySem.Calls PyProof.Rows VI VI.Hd in
theorem PySem.Challenge.cw_heedcells_k31_errors_of_states_holds : PySem.Challenge.rw_heedcells_k31_errors_of_states.Holds := by
  w_on; o_law
  refine HandSHeadRun.head_any (r := OpenLaw.row PySem.Challenge.rw_heedcells_k31_errors_of_states) (q := view (OpenLaw.row PySem.Challenge.rw_heedcells_k31_errors_of_states).prog [44]) (H := hk) (ob := obV 6 txt) (M := 20000) (loose := names) (d := HandSHeadRun.topDef (OpenLaw.row PySem.Challenge.rw_heedcells_k31_errors_of_states).prog 44) (kwd := []) obV_eq
    (by kernel_rfl) (fun s => by kernel_rfl) VI.Hd.run (by kernel_rfl) (by kernel_rfl) (by kernel_rfl) (by rfl) (by first | assumption | decide +kernel) (by decide +kernel) ⟨rfl, rfl, rfl, rfl, rfl, by decide +kernel⟩ ?hw ?hc
  case hw => w_witness2
  case hc =>
    have en : (HandSHeadRun.topDef (OpenLaw.row PySem.Challenge.rw_heedcells_k31_errors_of_states).prog 44).name = ("law" : PySem.Str) := by kernel_rfl
    have el : enc ("law" : PySem.Str) = 7102839 := by decide +kernel
    refine walk_law (l := PySem.Challenge.rw_heedcells_k31_errors_of_states) (n := 63) (kk := 20) (t := txt) (fd := c_law) rfl (by decide) (by kernel_rfl) ⟨rfl, by decide, by decide⟩ txtOk (by rw [en]; decide +kernel) (by rw [en]; kernel_rfl) rfl (by rw [en, el]; exact fun ns _ => ev ns)
