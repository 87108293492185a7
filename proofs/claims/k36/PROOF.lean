import PyProof.Rows.All
import Wide.All
import OpenK.AllK
import Wide.FinOn
import KE.GoesEnumKw
import HandS.Zip
import HandS.SortKw
import KE.GoesMore
import HandS.ForMost
import HandS.SortRule
import HandS.SortOrd
import HandS.DictTup
import PyProof.Rows.SortKeyStr
import HandS.Style
import KE.KUnpackStar
import PyProof.CallFns
import HandS.Deep
import HandS.Slots
import KE.KEqDict
import HandS.Flow
import HandS.IsInst
import HandS.TupAny
import HandS.TupLe
import HandS.StrMore
import HandS.Star
import HandS.SetFor
import HandS.ListItems
import HandS.More
import HandS.DictComp
import HandS.SlotsOwn
import HandS.RaiseMore
import HandS.NoneIn
import HandS.ClsMeth
import PySem.Challenge.RW_keymoves_k36_contradictory_premises
set_option Elab.async false
set_option linter.all false
set_option maxRecDepth 100000
set_option maxHeartbeats 4000000
namespace ZK
open PySem
open PySem.Sem (wp)
def ItAt (t : Bool) (h : Heap) (it l : Addr) (i : Nat) : Prop := if t = true then h.IsTupleIter it l i else h.IsListIter it l i
def SqAt (t : Bool) (h : Heap) (l : Addr) (xs : Array Value) : Prop := if t = true then h.IsTuple l xs else h.IsList l xs
theorem ItAt.ext {t : Bool} {h h' : Heap} {it l c : Addr} {i : Nat} (x : ItAt t h it l i) (e : Heap.ExtBut c h h') (n : it ≠ c) : ItAt t h' it l i := by
  cases t
  · exact Heap.IsListIter.extBut x e n
  · exact Heap.IsTupleIter.extBut x e n
theorem SqAt.ext {t : Bool} {h h' : Heap} {l c : Addr} {xs : Array Value} (x : SqAt t h l xs) (e : Heap.ExtBut c h h') (n : l ≠ c) : SqAt t h' l xs := by
  cases t
  · exact Heap.IsList.extBut x e n
  · exact Heap.IsTuple.extBut x e n
theorem ItAt.got {t : Bool} {h : Heap} {it l : Addr} {i : Nat} (x : ItAt t h it l i) : ∃ o, h.get? it = some o ∧ ∀ h', h'.get? it = some o → ItAt t h' it l i := by
  cases t
  · obtain ⟨o, a, b, c⟩ := id x
    exact ⟨o, a, fun h' e => ⟨o, e, b, c⟩⟩
  · obtain ⟨o, a, b, c⟩ := id x
    exact ⟨o, a, fun h' e => ⟨o, e, b, c⟩⟩
theorem ItAt.kept {t : Bool} {h h' : Heap} {it l : Addr} {i : Nat} (x : ItAt t h it l i) (k : ∀ o, h.get? it = some o → h'.get? it = some o) : ItAt t h' it l i := by
  obtain ⟨o, e, f⟩ := x.got
  exact f _ (k o e)
abbrev IsZipS (h : Heap) (z TI TO : Addr) (f0 : Value) : Prop :=
  h.get? z = some { cls := .type "zip", dict := none, data := .fields #[f0, .bool false, .bool true, .ref TI, .ref TO], slots := #[] }
section
variable {prog : Program} {w : World} {A : Around} {E : Value → Shared → Prop} {s : Shared}
theorem nextOf_item {t : Bool} {it l : Addr} {i : Nat} {items : Array Value} {x : Value} {Q : Value → Shared → Prop} (hit : ItAt t s.heap it l i) (hl : SqAt t s.heap l items) (hx : items[i]? = some x)
    (hQ : ∀ h', ItAt t h' it l (i + 1) → Heap.SameBut it s.heap h' → Q x { s with heap := h' }) : wpAny (model prog w) A (Builtin.SmallTypes.nextOf (.ref it)) Q E s := by
  cases t
  · exact wpAny_nextOf_list_item (show s.heap.IsListIter it l i from hit) (show s.heap.IsList l items from hl) hx hQ
  · exact RZ.nextOf_tuple_item (show s.heap.IsTupleIter it l i from hit) (show s.heap.IsTuple l items from hl) hx hQ
theorem nextOf_end {t : Bool} {it l : Addr} {i : Nat} {items : Array Value} {Q : Value → Shared → Prop} (hh : A.handled = none) (hit : ItAt t s.heap it l i) (hl : SqAt t s.heap l items) (hx : items[i]? = none)
    (hE : ∀ h' e, Heap.ExtBut it s.heap h' → (∃ o, h'.get? e = some o ∧ o.cls = .type "StopIteration") → E (.ref e) { s with heap := h' }) : wpAny (model prog w) A (Builtin.SmallTypes.nextOf (.ref it)) Q E s := by
  cases t
  · exact wpAny_nextOf_list_end hh (show s.heap.IsListIter it l i from hit) (show s.heap.IsList l items from hl) hx hE
  · exact RZ.nextOf_tuple_end hh (show s.heap.IsTupleIter it l i from hit) (show s.heap.IsTuple l items from hl) hx hE
theorem nextOrEnd_item {t : Bool} {it l : Addr} {i : Nat} {items : Array Value} {x : Value} {Q : Option Value → Shared → Prop} (hit : ItAt t s.heap it l i) (hl : SqAt t s.heap l items) (hx : items[i]? = some x)
    (hQ : ∀ h', ItAt t h' it l (i + 1) → Heap.SameBut it s.heap h' → Q (some x) { s with heap := h' }) : wpAny (model prog w) A (Builtin.SmallTypes.nextOrEnd (.ref it)) Q E s := by
  unfold Builtin.SmallTypes.nextOrEnd
  exact wpAny_bind (wpAny_attempt (nextOf_item hit hl hx fun h' a b => wpAny_pure (hQ h' a b)))
theorem nextOrEnd_end {t : Bool} {it l : Addr} {i : Nat} {items : Array Value} {Q : Option Value → Shared → Prop} (hh : A.handled = none) (hit : ItAt t s.heap it l i) (hl : SqAt t s.heap l items) (hx : items[i]? = none)
    (hQ : ∀ h', Heap.ExtBut it s.heap h' → Q none { s with heap := h' }) : wpAny (model prog w) A (Builtin.SmallTypes.nextOrEnd (.ref it)) Q E s := by
  unfold Builtin.SmallTypes.nextOrEnd
  refine wpAny_bind (wpAny_attempt (nextOf_end hh hit hl hx fun h' e k he => ?_))
  obtain ⟨o, ho, hc⟩ := he
  refine wpAny_bind (wpAny_isInstance (T := "StopIteration") (b := true) ⟨o, ho, hc⟩ isSubtype_stop ?_)
  exact wpAny_pure (hQ _ k)
theorem zipS_next_item {t1 t2 : Bool} {z TI TO i1 i2 l1 l2 : Addr} {k1 k2 : Nat} {xs ys : Array Value} {x y a b : Value} {Q : Value → Shared → Prop} (D : ZipApart z TI TO i1 i2 l1 l2)
    (hz : IsZipS s.heap z TI TO .none) (hTI : IsPair s.heap TI (.ref i1) (.ref i2)) (hTO : IsPair s.heap TO a b)
    (h1 : ItAt t1 s.heap i1 l1 k1) (h2 : ItAt t2 s.heap i2 l2 k2) (hl1 : SqAt t1 s.heap l1 xs) (hl2 : SqAt t2 s.heap l2 ys) (hx : xs[k1]? = some x) (hy : ys[k2]? = some y)
    (hQ : ∀ h', IsZipS h' z TI TO (rawInt s.heap.objs.size) → IsPair h' TO x y → ItAt t1 h' i1 l1 (k1 + 1) → ItAt t2 h' i2 l2 (k2 + 1) → IsPair h' s.heap.objs.size x y → h'.objs.size = s.heap.objs.size + 1 →
      (∀ c o, c ≠ z → c ≠ TO → c ≠ i1 → c ≠ i2 → s.heap.get? c = some o → h'.get? c = some o) → Q (.ref s.heap.objs.size) { s with heap := h' }) :
    wpAny (model prog w) A (Builtin.«zip.__next__» ⟨[.ref z], []⟩) (fun fin s' => ∃ v, fin = .done (.ret v) ∧ Q v s') E s := by
  show wpAny _ _ (field (.ref z) 2 >>= _) _ _ _
  refine wpAny_bind (wpAny_field hz rfl (x := .bool true) rfl ?_)
  show wpAny _ _ (field (.ref z) 3 >>= _) _ _ _
  refine wpAny_bind (wpAny_field hz rfl (x := .ref TI) rfl ?_)
  refine wpAny_bind (wpAny_seqItems hTI rfl ?_)
  show wpAny _ _ (Builtin.SmallTypes.ownedTupleIsFree (.ref z) >>= _) _ _ _
  refine wpAny_bind ?_
  unfold Builtin.SmallTypes.ownedTupleIsFree
  refine wpAny_bind (wpAny_field hz rfl (x := .none) rfl (wpAny_pure ?_))
  simp only [if_true]
  refine wpAny_bind (wpAny_rule ?_)
  refine wpAny_bind (wpAny_field hz rfl (x := .ref TO) rfl ?_)
  refine wpAny_bind (wpAny_setField_rec hz (by simp) fun h₁ hz₁ hs₁ => ?_)
  replace hz₁ : IsZipS h₁ z TI TO .ellipsis := hz₁
  refine wpAny_bind ?_
  simp only [List.zipIdx_cons, List.zipIdx_nil, List.forIn_cons, List.forIn_nil]

  refine wpAny_bind (wpAny_bind (wpAny_onRaise ?_))
  show wpAny _ _ (Builtin.SmallTypes.nextOrEnd (.ref i1)) _ _ _
  refine nextOrEnd_item (h1.ext hs₁.extBut D.i1z) (hl1.ext hs₁.extBut D.l1z) hx fun h₂ h1₂ hs₂ => ?_
  have hTO₂ : IsPair h₂ TO a b := hs₂.extBut _ _ D.TOi1 (hs₁.extBut _ _ D.TOz hTO)
  refine wpAny_bind (wpAny_seqItems hTO₂ rfl ?_)
  refine wpAny_bind (wpAny_updateSeq_pair hTO₂ fun h₃ hTO₃ hs₃ => ?_)
  replace hTO₃ : IsPair h₃ TO x b := hTO₃
  refine wpAny_bind (wpAny_letGo (wpAny_pure ?_))

  refine wpAny_bind (wpAny_bind (wpAny_onRaise ?_))
  show wpAny _ _ (Builtin.SmallTypes.nextOrEnd (.ref i2)) _ _ _
  refine nextOrEnd_item (((h2.ext hs₁.extBut D.i2z).ext hs₂.extBut D.i12.symm).ext hs₃.extBut D.TOi2.symm)
    (((hl2.ext hs₁.extBut D.l2z).ext hs₂.extBut D.l2i1).ext hs₃.extBut D.l2TO) hy fun h₄ h2₄ hs₄ => ?_
  have hTO₄ : IsPair h₄ TO x b := hs₄.extBut _ _ D.TOi2 hTO₃
  refine wpAny_bind (wpAny_seqItems hTO₄ rfl ?_)
  refine wpAny_bind (wpAny_updateSeq_pair hTO₄ fun h₅ hTO₅ hs₅ => ?_)
  replace hTO₅ : IsPair h₅ TO x y := hTO₅
  refine wpAny_bind (wpAny_letGo (wpAny_pure (wpAny_pure ?_)))

  refine wpAny_bind (wpAny_seqItems hTO₅ rfl ?_)
  refine wpAny_bind (wpAny_newTuple ?_)
  have hsz : h₅.objs.size = s.heap.objs.size := by rw [hs₅.1, hs₄.1, hs₃.1, hs₂.1, hs₁.1]
  have hz₅ : IsZipS h₅ z TI TO .ellipsis := hs₅.extBut _ _ D.TOz.symm (hs₄.extBut _ _ D.i2z.symm (hs₃.extBut _ _ D.TOz.symm (hs₂.extBut _ _ D.i1z.symm hz₁)))
  have hk₅ : ∀ c o, c ≠ z → c ≠ TO → c ≠ i1 → c ≠ i2 → s.heap.get? c = some o → h₅.get? c = some o := fun c o c1 c2 c3 c4 e =>
    hs₅.extBut _ _ c2 (hs₄.extBut _ _ c4 (hs₃.extBut _ _ c2 (hs₂.extBut _ _ c3 (hs₁.extBut _ _ c1 e))))
  have h1₅ : ItAt t1 h₅ i1 l1 (k1 + 1) := ((h1₂.ext hs₃.extBut D.TOi1.symm).ext hs₄.extBut D.i12).ext hs₅.extBut D.TOi1.symm
  have h2₅ : ItAt t2 h₅ i2 l2 (k2 + 1) := h2₄.ext hs₅.extBut D.TOi2.symm
  have hzlt : z < h₅.objs.size := Heap.lt_size hz₅
  have hTOlt : TO < h₅.objs.size := Heap.lt_size hTO₅
  show wpAny _ _ (Builtin.SmallTypes.ownedTupleHandOut (.ref z) (.ref h₅.objs.size) >>= _) _ _ _
  refine wpAny_bind ?_
  unfold Builtin.SmallTypes.ownedTupleHandOut
  have hz₆ : IsZipS (h₅.push { cls := .type "tuple", data := .seq #[x, y] }) z TI TO .ellipsis := Heap.get?_push_of_some _ hz₅
  refine wpAny_bind (wpAny_setField_rec hz₆ (by simp) fun h₇ hz₇ hs₇ => ?_)
  replace hz₇ : IsZipS h₇ z TI TO (rawInt h₅.objs.size) := hz₇
  refine wpAny_setField_rec hz₇ (by simp) fun h₈ hz₈ hs₈ => ?_
  replace hz₈ : IsZipS h₈ z TI TO (rawInt h₅.objs.size) := hz₈
  have up : ∀ c o, c ≠ z → h₅.get? c = some o → h₈.get? c = some o := fun c o c1 e => hs₈.extBut _ _ c1 (hs₇.extBut _ _ c1 (Heap.get?_push_of_some _ e))
  have hT₈ : IsPair h₈ h₅.objs.size x y := hs₈.extBut _ _ (Nat.ne_of_gt hzlt) (hs₇.extBut _ _ (Nat.ne_of_gt hzlt) (Heap.get?_push_size _ rfl))
  have hz8 : h₈.objs.size = h₅.objs.size + 1 := by rw [hs₈.1, hs₇.1, Heap.size_push]
  rw [hsz] at hz₈ hT₈ hz8
  refine wpAny_pure ⟨_, rfl, ?_⟩
  show Q (.ref h₅.objs.size) _
  rw [hsz]
  exact hQ h₈ hz₈ (up _ _ D.TOz hTO₅) (h1₅.kept fun o e => up _ o D.i1z e) (h2₅.kept fun o e => up _ o D.i2z e) hT₈ hz8 fun c o c1 c2 c3 c4 e => up c o c1 (hk₅ c o c1 c2 c3 c4 e)
theorem zipS_next_end {t1 t2 : Bool} {z TI TO i1 i2 l1 l2 : Addr} {k1 k2 : Nat} {xs ys : Array Value} {a b : Value} {Q : Fin → Shared → Prop} (hh : A.handled = none) (D : ZipApart z TI TO i1 i2 l1 l2)
    (hz : IsZipS s.heap z TI TO .none) (hTI : IsPair s.heap TI (.ref i1) (.ref i2)) (hTO : IsPair s.heap TO a b)
    (h1 : ItAt t1 s.heap i1 l1 k1) (h2 : ItAt t2 s.heap i2 l2 k2) (hl1 : SqAt t1 s.heap l1 xs) (hl2 : SqAt t2 s.heap l2 ys) (hx : xs[k1]? = none) (hy : ys[k2]? = none)
    (hE : ∀ h' e, (∀ c o, c ≠ z → c ≠ TO → c ≠ i1 → c ≠ i2 → s.heap.get? c = some o → h'.get? c = some o) → (∃ o, h'.get? e = some o ∧ o.cls = .type "StopIteration") → E (.ref e) { s with heap := h' }) :
    wpAny (model prog w) A (Builtin.«zip.__next__» ⟨[.ref z], []⟩) Q E s := by
  show wpAny _ _ (field (.ref z) 2 >>= _) _ _ _
  refine wpAny_bind (wpAny_field hz rfl (x := .bool true) rfl ?_)
  show wpAny _ _ (field (.ref z) 3 >>= _) _ _ _
  refine wpAny_bind (wpAny_field hz rfl (x := .ref TI) rfl ?_)
  refine wpAny_bind (wpAny_seqItems hTI rfl ?_)
  show wpAny _ _ (Builtin.SmallTypes.ownedTupleIsFree (.ref z) >>= _) _ _ _
  refine wpAny_bind ?_
  unfold Builtin.SmallTypes.ownedTupleIsFree
  refine wpAny_bind (wpAny_field hz rfl (x := .none) rfl (wpAny_pure ?_))
  simp only [if_true]
  refine wpAny_bind (wpAny_rule ?_)
  refine wpAny_bind (wpAny_field hz rfl (x := .ref TO) rfl ?_)
  refine wpAny_bind (wpAny_setField_rec hz (by simp) fun h₁ hz₁ hs₁ => ?_)
  replace hz₁ : IsZipS h₁ z TI TO .ellipsis := hz₁
  refine wpAny_bind ?_
  simp only [List.zipIdx_cons, List.zipIdx_nil, List.forIn_cons, List.forIn_nil]
  refine wpAny_bind (wpAny_bind (wpAny_onRaise ?_))
  show wpAny _ _ (Builtin.SmallTypes.nextOrEnd (.ref i1)) _ _ _
  refine nextOrEnd_end hh (h1.ext hs₁.extBut D.i1z) (hl1.ext hs₁.extBut D.l1z) hx fun h₂ hs₂ => ?_
  have hz₂ : IsZipS h₂ z TI TO .ellipsis := hs₂ _ _ D.i1z.symm hz₁
  refine wpAny_bind (wpAny_setField_rec hz₂ (by simp) fun h₃ hz₃ hs₃ => ?_)
  have i2t : ItAt t2 h₃ i2 l2 k2 := ((h2.ext hs₁.extBut D.i2z).ext hs₂ D.i12.symm).ext hs₃.extBut D.i2z
  have l2t : SqAt t2 h₃ l2 ys := ((hl2.ext hs₁.extBut D.l2z).ext hs₂ D.l2i1).ext hs₃.extBut D.l2z
  refine wpAny_bind ?_
  show wpAny _ _ (forIn [(Value.ref i2, 1)] _ _ >>= _) _ _ _
  refine wpAny_bind ?_
  simp only [List.forIn_cons, List.forIn_nil]
  refine wpAny_bind ?_
  show wpAny _ _ (Builtin.SmallTypes.nextOrEnd (.ref i2) >>= _) _ _ _
  refine wpAny_bind (nextOrEnd_end hh i2t l2t hy fun h₄ hs₄ => ?_)
  refine wpAny_pure (wpAny_pure (wpAny_bind (wpAny_rule ?_)))
  show wpAny _ _ (newExc (.type "StopIteration") [] >>= _) _ _ _
  refine wpAny_bind ?_
  simp only [newExc, newTuple]
  refine wpAny_bind (wpAny_newObj_type ?_ (by size_fits))
  refine wpAny_bind (m := firstArgMember _ _) (wpAny_of_eq (a := Value.none) (by first | rfl | (simp only [firstArgMember]; rfl)) ?_)
  refine wpAny_newObj_type ?_ (by size_fits)
  simp only [raiseNew]
  refine wpAny_bind (wpAny_handled ?_)
  first | rw [show A.in1.handled = none from hh] | rw [hh]
  refine wpAny_bind (wpAny_pure (wpAny_throw ?_))
  refine hE _ _ (fun c o c1 c2 c3 c4 e => ?_) ⟨_, Heap.get?_push_size _ rfl, rfl⟩
  exact Heap.get?_push_of_some _ (Heap.get?_push_of_some _ (hs₄ _ _ c4 (hs₃.extBut _ _ c1 (hs₂ _ _ c3 (hs₁.extBut _ _ c1 e)))))
end
end ZK

namespace ZK
open PySem
open PySem.Sem (wp)
section
variable {prog : Program} {w : World} {A : Around} {E : Value → Shared → Prop} {s : Shared}
theorem pyNext_item {t1 t2 : Bool} {z TI TO i1 i2 l1 l2 : Addr} {k1 k2 : Nat} {xs ys : Array Value} {x y a b : Value} {Q : Option Value → Shared → Prop} (D : ZipApart z TI TO i1 i2 l1 l2)
    (hz : IsZipS s.heap z TI TO .none) (hTI : IsPair s.heap TI (.ref i1) (.ref i2)) (hTO : IsPair s.heap TO a b)
    (h1 : ItAt t1 s.heap i1 l1 k1) (h2 : ItAt t2 s.heap i2 l2 k2) (hl1 : SqAt t1 s.heap l1 xs) (hl2 : SqAt t2 s.heap l2 ys) (hx : xs[k1]? = some x) (hy : ys[k2]? = some y)
    (hQ : ∀ h', IsZipS h' z TI TO (rawInt s.heap.objs.size) → IsPair h' TO x y → ItAt t1 h' i1 l1 (k1 + 1) → ItAt t2 h' i2 l2 (k2 + 1) → IsPair h' s.heap.objs.size x y → h'.objs.size = s.heap.objs.size + 1 →
      (∀ c o, c ≠ z → c ≠ TO → c ≠ i1 → c ≠ i2 → s.heap.get? c = some o → h'.get? c = some o) → Q (some (.ref s.heap.objs.size)) { s with heap := h' }) :
    wpAny (model prog w) A (pyNext (.ref z)) Q E s := by
  have hT : s.TypeIs (.ref z) "zip" := ⟨_, hz, rfl⟩
  unfold pyNext
  exact wpAny_bind (wpAny_attempt (wpAny_callSpecial?_slot (name := Str.ofString "__next__") hT F.slot_zip_next
    (wpAny_call_entry F.slot_zip_next hT F.entry_zip_next
      (zipS_next_item D hz hTI hTO h1 h2 hl1 hl2 hx hy fun h' a1 a2 a3 a4 a5 a6 a7 => wpAny_pure (hQ h' a1 a2 a3 a4 a5 a6 a7)) (F.args_zip_next_1 _))))
theorem pyNext_end {t1 t2 : Bool} {z TI TO i1 i2 l1 l2 : Addr} {k1 k2 : Nat} {xs ys : Array Value} {a b : Value} {Q : Option Value → Shared → Prop} (hh : A.handled = none) (D : ZipApart z TI TO i1 i2 l1 l2)
    (hz : IsZipS s.heap z TI TO .none) (hTI : IsPair s.heap TI (.ref i1) (.ref i2)) (hTO : IsPair s.heap TO a b)
    (h1 : ItAt t1 s.heap i1 l1 k1) (h2 : ItAt t2 s.heap i2 l2 k2) (hl1 : SqAt t1 s.heap l1 xs) (hl2 : SqAt t2 s.heap l2 ys) (hx : xs[k1]? = none) (hy : ys[k2]? = none)
    (hQ : ∀ h', (∀ c o, c ≠ z → c ≠ TO → c ≠ i1 → c ≠ i2 → s.heap.get? c = some o → h'.get? c = some o) → Q none { s with heap := h' }) : wpAny (model prog w) A (pyNext (.ref z)) Q E s := by
  have hT : s.TypeIs (.ref z) "zip" := ⟨_, hz, rfl⟩
  unfold pyNext
  refine wpAny_bind (wpAny_attempt (wpAny_callSpecial?_slot (name := Str.ofString "__next__") hT F.slot_zip_next
    (wpAny_call_entry F.slot_zip_next hT F.entry_zip_next (zipS_next_end hh D hz hTI hTO h1 h2 hl1 hl2 hx hy fun h' e hk he => ?_) (F.args_zip_next_1 _))))
  obtain ⟨o, ho, hc⟩ := he
  refine wpAny_bind (wpAny_isInstance (T := "StopIteration") (b := true) ⟨o, ho, hc⟩ isSubtype_stop ?_)
  exact wpAny_pure (hQ _ hk)
theorem letGo {elts : List Expr} {x1} {pos : Pos} {z TI TO T : Addr} {Q : Unit → Shared → Prop} (hz : IsZipS s.heap z TI TO (rawInt T))
    (hQ : ∀ h', IsZipS h' z TI TO .none → Heap.SameBut z s.heap h' → Q () { s with heap := h' }) :
    wpAny (model prog w) A (letOwnedTupleGo (.Tuple elts x1 pos) (.ref z) (.ref T)) Q E s := by
  unfold letOwnedTupleGo
  refine wpAny_bind (wpAny_load hz ?_)
  show wpAny _ _ (if (["enumerate", "zip", "dict_itemiterator", "dict_reverseitemiterator", "odict_iterator", "itertools.zip_longest", "itertools.pairwise"].contains "zip" &&
      (#[rawInt T, .bool false, .bool true, .ref TI, .ref TO] : Array Value)[0]? == some (rawInt T)) = true then _ else _) Q E s
  rw [if_pos (by simp)]
  refine wpAny_bind (wpAny_rule ?_)
  show wpAny _ _ (setField (.ref z) 0 .none) Q E s
  exact wpAny_setField_rec hz (by simp) fun h' hz' hs' => hQ h' hz' hs'
theorem pyIter {z TI TO : Addr} {f0 : Value} {Q : Value → Shared → Prop} (hz : IsZipS s.heap z TI TO f0) (h : Q (.ref z) s) : wpAny (model prog w) A (pyIter (.ref z)) Q E s := by
  have hT : s.TypeIs (.ref z) "zip" := ⟨_, hz, rfl⟩
  refine wpAny_pyIter_slot hT F.slot_zip_iter (wpAny_call_entry F.slot_zip_iter hT F.entry_zip_iter ?_ (F.args_zip_iter_1 _))
  show wpAny _ _ (ret (.ref z)) _ _ s
  exact wpAny_pure ⟨_, rfl, "zip", _, hT, F.slot_zip_next.lookup, h⟩
end
theorem typeCall_kw (a b : Value) (c : Bool) : checkTypeCall "zip" ⟨[a, b], [(Str.ofString "strict", .bool c)]⟩ = pure () := by kernel_rfl
theorem newCall_kw (a b : Value) (c : Bool) : checkBuiltinCall "zip.__new__" ⟨[.type "zip", a, b], [(Str.ofString "strict", .bool c)]⟩ = pure () := by kernel_rfl
theorem args_kw (obj a b : Value) (c : Bool) : argsOk "object.__init__" ⟨[obj, a, b], [(Str.ofString "strict", .bool c)]⟩ := by unfold argsOk; kernel_rfl
def itObj (t : Bool) (l : Addr) : Obj := { cls := .type (if t = true then "tuple_iterator" else "list_iterator"), data := .fields #[.ref l, .int 0 0] }
theorem itObj_at {t : Bool} {l it : Addr} {h : Heap} (e : h.get? it = some (itObj t l)) : ItAt t h it l 0 := by
  cases t
  · exact ⟨_, e, rfl, rfl⟩
  · exact ⟨_, e, rfl, rfl⟩
theorem SqAt.iter {t : Bool} {prog : Program} {w : World} {A : Around} {E : Value → Shared → Prop} {s : Shared} {l : Addr} {xs : Array Value} {Q : Value → Shared → Prop} (x : SqAt t s.heap l xs)
    (h : Q (.ref s.heap.objs.size) { s with heap := s.heap.push (itObj t l) }) : wpAny (model prog w) A (PySem.pyIter (.ref l)) Q E s := by
  cases t
  · exact wpAny_pyIter_list (show s.heap.IsList l xs from x) h
  · exact wpAny_pyIter_tuple (show s.heap.IsTuple l xs from x) h
theorem SqAt.push {t : Bool} {h : Heap} {l : Addr} {xs : Array Value} (x : SqAt t h l xs) (o : Obj) : SqAt t (h.push o) l xs := by
  cases t
  · exact Heap.IsList.push x o
  · exact Heap.IsTuple.push x o
abbrev zH1 (t1 t2 : Bool) (h : Heap) (l1 : Addr) : Heap := h.push (itObj t1 l1)
abbrev zH2 (t1 t2 : Bool) (h : Heap) (l1 l2 : Addr) : Heap := (zH1 t1 t2 h l1).push (itObj t2 l2)
abbrev zH3 (t1 t2 : Bool) (h : Heap) (l1 l2 : Addr) : Heap := (zH2 t1 t2 h l1 l2).push { cls := .type "tuple", data := .seq #[.ref h.objs.size, .ref (zH1 t1 t2 h l1).objs.size] }
abbrev zH4 (t1 t2 : Bool) (h : Heap) (l1 l2 : Addr) : Heap := (zH3 t1 t2 h l1 l2).push { cls := .type "tuple", data := .seq #[.none, .none] }
abbrev zH5 (t1 t2 c : Bool) (h : Heap) (l1 l2 : Addr) : Heap := (zH4 t1 t2 h l1 l2).push { cls := .type "zip", data := .fields #[.none, .bool false, .bool c, .ref (zH2 t1 t2 h l1 l2).objs.size, .ref (zH3 t1 t2 h l1 l2).objs.size] }
theorem meets_kw (t1 t2 c : Bool) (l1 l2 : Addr) (xs ys : Array Value) :
    Meets (Builtin.«zip.__new__» ⟨[.type "zip", .ref l1, .ref l2], [(Str.ofString "strict", .bool c)]⟩) (fun _ R s => SqAt t1 s.heap l1 xs ∧ SqAt t2 s.heap l2 ys ∧
      R (.ok (.ret (.ref (zH4 t1 t2 s.heap l1 l2).objs.size))) { s with heap := zH5 t1 t2 c s.heap l1 l2 }) :=
  .of_wp fun prog w A R s h => by
    obtain ⟨hp, g, d, tk, os⟩ := s; obtain ⟨hl1, hl2, h⟩ := h
    have hsub := sub_zip
    have e1 : (Str.ofString "strict" == ("strict" : Str)) = true := by decide +kernel
    have e2 : (Str.ofString "strict" != ("strict" : Str)) = false := by decide +kernel
    have hL1 : ∀ {A' : Around} {E : Value → Shared → Prop} {Q : Value → Shared → Prop}, Q (.ref hp.objs.size) ⟨hp.push (itObj t1 l1), g, d, tk, os⟩ → wpAny (model prog w) A' (PySem.pyIter (.ref l1)) Q E ⟨hp, g, d, tk, os⟩ :=
      fun q => SqAt.iter (show SqAt t1 (Shared.heap ⟨hp, g, d, tk, os⟩) l1 xs from hl1) q
    have hL2 : ∀ {A' : Around} {E : Value → Shared → Prop} {Q : Value → Shared → Prop}, Q (.ref (hp.push (itObj t1 l1)).objs.size) ⟨(hp.push (itObj t1 l1)).push (itObj t2 l2), g, d, tk, os⟩ → wpAny (model prog w) A' (PySem.pyIter (.ref l2)) Q E ⟨hp.push (itObj t1 l1), g, d, tk, os⟩ :=
      fun q => SqAt.iter (show SqAt t2 (Shared.heap ⟨hp.push (itObj t1 l1), g, d, tk, os⟩) l2 ys from SqAt.push hl2 _) q
    wp_walk using hL1, hL2
    exact ⟨_, rfl, h⟩
end ZK

namespace ZK
open PySem PySem.Spec PyProof.Rows L2
open PySem.Sem (wp)
section
variable {prog : Program} {w : World} {A : Around} {E : Value → Shared → Prop} {s : Shared} {M : Model}
theorem call_kw {t1 t2 c : Bool} {l1 l2 : Addr} {xs ys : Array Value} {Q : Value → Shared → Prop} (hl1 : SqAt t1 s.heap l1 xs) (hl2 : SqAt t2 s.heap l2 ys)
    (h : ∀ h', h'.get? (s.heap.objs.size + 4) = some { cls := .type "zip", dict := none, data := .fields #[.none, .bool false, .bool c, .ref (s.heap.objs.size + 2), .ref (s.heap.objs.size + 3)], slots := #[] } → IsPair h' (s.heap.objs.size + 2) (.ref s.heap.objs.size) (.ref (s.heap.objs.size + 1)) →
      IsPair h' (s.heap.objs.size + 3) .none .none → ItAt t1 h' s.heap.objs.size l1 0 → ItAt t2 h' (s.heap.objs.size + 1) l2 0 → h'.objs.size = s.heap.objs.size + 5 →
      (∀ c o, s.heap.get? c = some o → h'.get? c = some o) → Q (.ref (s.heap.objs.size + 4)) { s with heap := h' }) :
    wpAny (model prog w) A (call (.type "zip") [.ref l1, .ref l2] [(Str.ofString "strict", .bool c)]) Q E s := by
  refine callType_newKw F.called_zip (by decide) (typeCall_kw _ _ _) (newCall_kw _ _ _) (fun obj => args_kw obj _ _ _) F.entry_zip_new
    (meets_kw t1 t2 c l1 l2 xs ys) ⟨hl1, hl2, ?_⟩
  have z1 : (zH1 t1 t2 s.heap l1).objs.size = s.heap.objs.size + 1 := Heap.size_push ..
  have z2 : (zH2 t1 t2 s.heap l1 l2).objs.size = s.heap.objs.size + 2 := by rw [Heap.size_push, z1]
  have z3 : (zH3 t1 t2 s.heap l1 l2).objs.size = s.heap.objs.size + 3 := by rw [Heap.size_push, z2]
  have z4 : (zH4 t1 t2 s.heap l1 l2).objs.size = s.heap.objs.size + 4 := by rw [Heap.size_push, z3]
  have z5 : (zH5 t1 t2 c s.heap l1 l2).objs.size = s.heap.objs.size + 5 := by rw [Heap.size_push, z4]
  have g5 : (zH5 t1 t2 c s.heap l1 l2).get? (zH4 t1 t2 s.heap l1 l2).objs.size = some _ := Heap.get?_push_size _ rfl
  have g4 : (zH5 t1 t2 c s.heap l1 l2).get? (zH3 t1 t2 s.heap l1 l2).objs.size = some _ := Heap.get?_push_of_some _ (Heap.get?_push_size _ rfl)
  have g3 : (zH5 t1 t2 c s.heap l1 l2).get? (zH2 t1 t2 s.heap l1 l2).objs.size = some _ := Heap.get?_push_of_some _ (Heap.get?_push_of_some _ (Heap.get?_push_size _ rfl))
  have g2 : (zH5 t1 t2 c s.heap l1 l2).get? (zH1 t1 t2 s.heap l1).objs.size = some (itObj t2 l2) := Heap.get?_push_of_some _ (Heap.get?_push_of_some _ (Heap.get?_push_of_some _ (Heap.get?_push_size _ (by cases t2 <;> rfl))))
  have g1 : (zH5 t1 t2 c s.heap l1 l2).get? s.heap.objs.size = some (itObj t1 l1) := Heap.get?_push_of_some _ (Heap.get?_push_of_some _ (Heap.get?_push_of_some _ (Heap.get?_push_of_some _ (Heap.get?_push_size _ (by cases t1 <;> rfl)))))
  show _ ∧ _
  rw [z2, z3, z4] at g5
  rw [z1, z2] at g3
  rw [z3] at g4
  rw [z1] at g2
  rw [z4]
  exact ⟨⟨_, g5, rfl⟩, h _ g5 g3 g4 (itObj_at g1) (itObj_at g2) z5 fun c o x =>
    Heap.get?_push_of_some _ (Heap.get?_push_of_some _ (Heap.get?_push_of_some _ (Heap.get?_push_of_some _ (Heap.get?_push_of_some _ x))))⟩
theorem callWith_type_kw {env : Env} {pos : Pos} {id : String} {e : Expr} {rest : List Expr} {kws : List Keyword} {Q : Value → Shared → Prop}
    (h : wpAny M A (spliced (backTo pos (starEach (e :: rest) env))) (fun vs s₁ => wpAny M A (evalAll ((backToKw pos (keywordEach kws env)).map (·.2)))
      (fun kvs s₂ => wpAny M A (call (.type id) vs (((backToKw pos (keywordEach kws env)).filterMap (·.1)).zip kvs)) Q E s₂) E s₁) E s)
    (he : backTo pos (starEach (e :: rest) env) = (false, eval e env) :: backTo pos (starEach rest env) := by rfl)
    (hplain : (backTo pos (starEach (e :: rest) env)).any (·.1) = false := by rfl)
    (hall : (backToKw pos (keywordEach kws env)).all (·.1.isSome) = true := by rfl)
    (hkw : (backToKw pos (keywordEach kws env)).any (·.1.isNone) = false := by rfl) :
    wpAny M A (callWith pos (.type id) [] (backTo pos (starEach (e :: rest) env)) (backToKw pos (keywordEach kws env))) Q E s := by
  have h2 : wpAny M A (evalArgs (.type id) true (backTo pos (starEach (e :: rest) env)) (backToKw pos (keywordEach kws env))) (fun a s₁ => wpAny M A (call (.type id) ([] ++ a.pos) a.kw) Q E s₁) E s := by
    rw [he] at h ⊢
    exact evalArgs_kwB hall h
  unfold callWith
  refine wpAny_bind (wpAny_holding (wpAny_mono h2 (fun a s₁ h₁ => wpAny_bind (wpAny_standAt ?_)) fun _ _ x => x))
  simp only [hplain, hkw, Bool.or_false]
  refine wpAny_bind (wpAny_pure ?_)
  exact wpAny_bind (wpAny_mono h₁ (fun r s₂ hr => wpAny_bind (wpAny_holding (wpAny_point (wpAny_pure hr)))) fun _ _ x => x)
end
def Sq2 (t : Bool) (K : PySem.W.Frag) (H : Hp) (a : Addr) (xs : List V) : Prop := if t = true then SqT K H a xs else SqL K H a xs
section
variable {X : Cx} {pins : List (Addr × Obj)} {σ : L2.St} {H : Hp} {s : Shared}
theorem sq2_at (I : Inv X pins σ H s) {t : Bool} {a : Addr} {xs : List V} (h : Sq2 t X.K H a xs) : ∃ its : List Value, Vals xs its ∧ SqAt t s.heap a its.toArray ∧ a < s.heap.objs.size := by
  cases t
  · obtain ⟨its, rv, p, _⟩ := I.list (show SqL X.K H a xs from h)
    exact ⟨its, rv, p.isList, p.lt⟩
  · obtain ⟨its, rv, p, _⟩ := I.tuple (show SqT X.K H a xs from h)
    obtain ⟨o, ho, _⟩ := id p
    exact ⟨its, rv, p, Heap.lt_size ho⟩
theorem sq2_inj (I : Inv X pins σ H s) {t : Bool} {a : Addr} {xs ys : List V} (h : Sq2 t X.K H a xs) (h' : Sq2 t X.K H a ys) : xs = ys := by
  cases t
  · exact I.list_inj (show SqL X.K H a xs from h) h'
  · exact I.tuple_inj (show SqT X.K H a xs from h) h'
end
def ItS (K : PySem.W.Frag) (t1 t2 : Bool) (a b : Addr) : It :=
  ⟨fun i H => ∃ (xs ys : List V) (x y : V), Sq2 t1 K H a xs ∧ Sq2 t2 K H b ys ∧ xs[i]? = some x ∧ ys[i]? = some y,
    fun i H v H' => ∃ T x y, v = .ref T ∧ H T = none ∧ H' = upd H T (.tup [x, y]) ∧ (∀ xs, Sq2 t1 K H a xs → xs[i]? = some x) ∧ ∀ ys, Sq2 t2 K H b ys → ys[i]? = some y,
    fun i H => ∃ xs ys : List V, Sq2 t1 K H a xs ∧ Sq2 t2 K H b ys ∧ xs.length ≤ i ∧ ys.length ≤ i⟩
theorem turn_zipS {P : Program} {w : World} {K : PySem.W.Frag} {t1 t2 : Bool} {elts : List Expr} {kk : Nat} {tpos : Pos} {a b z TI TO i1 i2 : Addr} (D : ZipApart z TI TO i1 i2 a b) :
    Turn P w K (.Tuple elts kk tpos) (ItS K t1 t2 a b) [z, TI, TO, i1, i2] z (fun i h => IsZipS h z TI TO .none ∧ IsPair h TI (.ref i1) (.ref i2) ∧ (∃ x y, IsPair h TO x y) ∧ ItAt t1 h i1 a i ∧ ItAt t2 h i2 b i) where
  mem := by simp
  obj := fun i h st c hc => by
    obtain ⟨hz, hTI, ⟨x, y, hTO⟩, h1, h2⟩ := st
    have dat : ∀ {t : Bool} {it l : Addr}, ItAt t h it l i → ∃ o, h.get? it = some o ∧ ∀ v, o.data ≠ .cell v := fun {t it l} q => by
      cases t
      · obtain ⟨o, e, _, d⟩ := (show h.IsListIter it l i from q)
        exact ⟨o, e, fun v q => by rw [d] at q; cases q⟩
      · obtain ⟨o, e, _, d⟩ := (show h.IsTupleIter it l i from q)
        exact ⟨o, e, fun v q => by rw [d] at q; cases q⟩
    have e' : c = z ∨ c = TI ∨ c = TO ∨ c = i1 ∨ c = i2 := by simpa using hc
    rcases e' with q | q | q | q | q
    · rw [q]; exact ⟨_, hz, fun v q => nomatch q⟩
    · rw [q]; exact ⟨_, hTI, fun v q => nomatch q⟩
    · rw [q]; exact ⟨_, hTO, fun v q => nomatch q⟩
    · rw [q]; exact dat h1
    · rw [q]; exact dat h2
  keep := fun i h h' st k => by
    obtain ⟨hz, hTI, ⟨x, y, hTO⟩, h1, h2⟩ := st
    exact ⟨k z (by simp) _ hz, k TI (by simp) _ hTI, ⟨x, y, k TO (by simp) _ hTO⟩, h1.kept fun o q => k i1 (by simp) o q, h2.kept fun o q => k i2 (by simp) o q⟩
  item := by
    intro X hP hw hK hc i pins s σ H E I hf st hg
    subst hP hw hK
    obtain ⟨hz, hTI, ⟨x0, y0, hTO⟩, h1, h2⟩ := st
    obtain ⟨xs, ys, x, y, hqx, hqy, hx, hy⟩ := hg
    obtain ⟨its, rv, p, _⟩ := sq2_at I hqx
    obtain ⟨its2, rv2, p2, _⟩ := sq2_at I hqy
    obtain ⟨u, hu, ru⟩ := rv.get hx
    obtain ⟨u2, hu2, ru2⟩ := rv2.get hy
    have hzl : z < s.heap.objs.size := Heap.lt_size hz
    refine pyNext_item D hz hTI hTO h1 h2 p p2 (x := u) (y := u2) (by simpa using hu) (by simpa using hu2) fun h' z' TO' h1' h2' hT hsz hk => ?_
    refine ⟨_, rfl, letGo (s := { s with heap := h' }) z' fun h'' z'' sb => ?_⟩
    have hT2 : h''.get? s.heap.objs.size = some { cls := .type "tuple", data := .seq #[u, u2] } := (sb.2 _ (Nat.ne_of_gt hzl)).trans hT
    have new : ObjOk X.prog X.w (upd H s.heap.objs.size (.tup [x, y])) h'' s.heap.objs.size (.tup [x, y]) :=
      ⟨by show 2 ≤ sizeLine; decide, [u, u2], .cons ru (.cons ru2 .nil), ⟨_, hT2, rfl, _, rfl⟩⟩
    have I1 : Inv X pins σ (upd H s.heap.objs.size (.tup [x, y])) { s with heap := h'' } :=
      I.turnedNew (t' := s.toks) (ch := [z, TI, TO, i1, i2]) (fun c o hb q => (sb.2 c (fun q' => hb (by simp [q']))).trans (hk c o (fun q' => hb (by simp [q'])) (fun q' => hb (by simp [q'])) (fun q' => hb (by simp [q'])) (fun q' => hb (by simp [q'])) q)) hf (Nat.le_refl _) new
    refine ⟨.ref s.heap.objs.size, _, I1, rfl, ⟨_, x, y, rfl, I.hok.fresh (Nat.le_refl _), rfl, fun l hl => by rw [sq2_inj I hl hqx]; exact hx, fun l hl => by rw [sq2_inj I hl hqy]; exact hy⟩, ⟨z'', ?_, ⟨u, u2, ?_⟩, ?_, ?_⟩, fun c hcm => ?_⟩
    · exact (sb.2 _ D.TIz).trans (hk _ _ D.TIz D.TITO D.TIi1 D.TIi2 hTI)
    · exact (sb.2 _ D.TOz).trans TO'
    · exact h1'.kept fun o q => (sb.2 _ D.i1z).trans q
    · exact h2'.kept fun o q => (sb.2 _ D.i2z).trans q
    · have hlt : c < s.heap.objs.size := by
        have e' : c = z ∨ c = TI ∨ c = TO ∨ c = i1 ∨ c = i2 := by simpa using hcm
        rcases e' with q | q | q | q | q
        · rw [q]; exact hzl
        · rw [q]; exact Heap.lt_size hTI
        · rw [q]; exact Heap.lt_size hTO
        · rw [q]; obtain ⟨_, e1, _⟩ := h1.got; exact Heap.lt_size e1
        · rw [q]; obtain ⟨_, e2, _⟩ := h2.got; exact Heap.lt_size e2
      rw [upd_ne (Nat.ne_of_lt hlt)]
      exact (hf c hcm).1
  done := by
    intro X hP hw hK hc i pins s σ H E I hf st hg
    subst hP hw hK
    obtain ⟨hz, hTI, ⟨x0, y0, hTO⟩, h1, h2⟩ := st
    obtain ⟨xs, ys, hqx, hqy, hend1, hend2⟩ := hg
    obtain ⟨its, rv, p, _⟩ := sq2_at I hqx
    obtain ⟨its2, rv2, p2, _⟩ := sq2_at I hqy
    have l1 := rv.length
    have l2 := rv2.length
    exact pyNext_end (I.ok.hd hc) D hz hTI hTO h1 h2 p p2 (by simp; omega) (by simp; omega) fun h' hk => ⟨rfl, I.turnedL (t' := s.toks) (ch := [z, TI, TO, i1, i2]) (fun c o hb q =>
      hk c o (fun q' => hb (by simp [q'])) (fun q' => hb (by simp [q'])) (fun q' => hb (by simp [q'])) (fun q' => hb (by simp [q'])) q) hf⟩
  self := fun A i s Q E st h => ZK.pyIter st.1 h
def iZipK (K : PySem.W.Frag) (c : Bool) (ta : TA) : TI := fun σ H R => ta σ H fun vs H1 => ∃ t1 t2 a b xs ys, vs = [.ref a, .ref b] ∧ Sq2 t1 K H1 a xs ∧ Sq2 t2 K H1 b ys ∧
  ((c = true ∧ R (ItS K t1 t2 a b) H1) ∨ (c = false ∧ t1 = true ∧ t2 = true ∧ R (RZ.ItzT K a b) H1) ∨ (c = false ∧ t1 = false ∧ t2 = false ∧ R (Itz K a b) H1))
theorem pi_zipK {X : Cx} {c : Bool} {kn : Nat} {e e2 : Expr} {ta : TA} {p pos tpos kp kp2 : Pos} {elts : List Expr} {kk : Nat} (hg : Gl X "zip") (hm : X.mg "zip" = none) (ha : PA X [e, e2] ta)
    (hs : backTo pos (starEach [e, e2] X.env) = (false, eval e X.env) :: backTo pos (starEach [e2] X.env) := by rfl) (hpl : (backTo pos (starEach [e, e2] X.env)).any (·.1) = false := by rfl) :
    PI X (.Tuple elts kk tpos) (.Call (.Name "zip" p) [e, e2] [⟨some "strict", .Constant (.bool c) kn kp, kp2⟩] pos) (iZipK X.K c ta) := by
  refine ⟨fun pins s σ H R I h => ?_⟩
  have hk : PK X [⟨some "strict", .Constant (.bool c) kn kp, kp2⟩] (tCons (tC (.bl c)) tNil) := pk_cons pe_bl pk_nil
  refine wpAny_Call_Name_kw (ld_blt I hg hm PyProof.Rows.boot_zip (callWith_type_kw (thn (ha.run pos pins s σ H _ I h) fun us s1 ⟨vs, H1, I1, r1, q1⟩ => ?_) hs hpl))
  refine thn (hk.run pos pins s1 σ H1 (fun zs H2 => zs = [.bl c] ∧ H2 = H1) I1 ⟨rfl, rfl⟩) fun ws s2 ⟨zs, H2, I2, r2, q2⟩ => ?_
  obtain ⟨rfl, rfl⟩ := q2
  have ew : ws = [Value.bool c] := by
    cases r2 with
    | cons a b => cases b; cases a; rfl
  subst ew
  obtain ⟨t1, t2, a, b, xs, ys, ex, hqx, hqy, q1⟩ := q1
  subst ex
  cases r1 with
  | cons r rr =>
    cases rr with
    | cons r' rr =>
      cases rr
      cases r
      cases r'
      have fresh5 : ∀ c, c ∈ [s2.heap.objs.size + 4, s2.heap.objs.size + 2, s2.heap.objs.size + 3, s2.heap.objs.size, s2.heap.objs.size + 1] → FpOk X pins H2 c := fun c hcm => by
        have e' : c = s2.heap.objs.size + 4 ∨ c = s2.heap.objs.size + 2 ∨ c = s2.heap.objs.size + 3 ∨ c = s2.heap.objs.size ∨ c = s2.heap.objs.size + 1 := by simpa using hcm
        have hle : s2.heap.objs.size ≤ c := by
          rcases e' with z | z | z | z | z
          · rw [z]; exact Nat.le_add_right _ _
          · rw [z]; exact Nat.le_add_right _ _
          · rw [z]; exact Nat.le_add_right _ _
          · rw [z]; exact Nat.le_refl _
          · rw [z]; exact Nat.le_add_right _ _
        exact I2.fpOk hle (I2.hok.fresh hle)
      obtain ⟨its, rv, p1, l1⟩ := sq2_at I2 hqx
      obtain ⟨its2, rv2, p2, l2⟩ := sq2_at I2 hqy
      show wpAny _ _ (call (.type "zip") [.ref a, .ref b] [(Str.ofString "strict", .bool c)]) _ _ _
      refine call_kw p1 p2 fun h' hz hTI hTO h1 h2 hsz hk => ?_
      have I3 : Inv X pins σ H2 { s2 with heap := h' } := I2.kept (t' := s2.toks) hk
      rcases q1 with ⟨rfl, q⟩ | ⟨rfl, rfl, rfl, q⟩ | ⟨rfl, rfl, rfl, q⟩
      · exact ZK.pyIter hz ⟨s2.heap.objs.size + 4, [s2.heap.objs.size + 4, s2.heap.objs.size + 2, s2.heap.objs.size + 3, s2.heap.objs.size, s2.heap.objs.size + 1], _, _, H2, rfl, I3, turn_zipS (PySem.W.ktu_apart s2.heap.objs.size a b l1 l2), ⟨hz, hTI, ⟨_, _, hTO⟩, h1, h2⟩, fresh5, q⟩
      · exact wpAny_pyIter_zip hz ⟨s2.heap.objs.size + 4, [s2.heap.objs.size + 4, s2.heap.objs.size + 2, s2.heap.objs.size + 3, s2.heap.objs.size, s2.heap.objs.size + 1], _, _, H2, rfl, I3, RZ.turn_zipT (PySem.W.ktu_apart s2.heap.objs.size a b l1 l2), ⟨hz, hTI, ⟨_, _, hTO⟩, h1, h2⟩, fresh5, q⟩
      · exact wpAny_pyIter_zip hz ⟨s2.heap.objs.size + 4, [s2.heap.objs.size + 4, s2.heap.objs.size + 2, s2.heap.objs.size + 3, s2.heap.objs.size, s2.heap.objs.size + 1], _, _, H2, rfl, I3, turn_zip (PySem.W.ktu_apart s2.heap.objs.size a b l1 l2), ⟨hz, hTI, ⟨_, _, hTO⟩, h1, h2⟩, fresh5, q⟩
end ZK

namespace ZK
open PySem PySem.Spec PyProof.Rows L2
open PySem.Sem (wp)
theorem meets_enum1 {v : Value} {o : Obj} {H : Heap → Prop} (B : Begins v o H) :
    Meets (Builtin.«enumerate.__new__» ⟨[.type "enumerate", v], []⟩) (fun _ R s => H s.heap ∧
      R (.ok (.ret (.ref (s.heap.push o).objs.size))) { s with heap := (s.heap.push o).push { cls := .type "enumerate", data := .fields #[.none, .bool false, .ref s.heap.objs.size, rawInt 0, .none, .none] } }) :=
  .of_wp fun prog w A R s h => by
    obtain ⟨hp, g, d, tk, os⟩ := s; obtain ⟨h1, h⟩ := h
    have hsub := sub_enumerate
    have q1 : ∀ {A' : Around} {E : Value → Shared → Prop} {Q : Value → Shared → Prop}, Q (.ref hp.objs.size) ⟨hp.push o, g, d, tk, os⟩ → wpAny (model prog w) A' (PySem.pyIter v) Q E ⟨hp, g, d, tk, os⟩ :=
      fun q => B.iter prog w _ _ ⟨hp, g, d, tk, os⟩ _ h1 q
    wp_walk using q1
    refine wpAny_stack_any fun st => wpAny_pure ?_
    split
    · rename_i c _ _ _ _ _
      cases (c == Value.type "enumerate")
      · wp_walk using q1
        exact ⟨_, rfl, h⟩
      · wp_walk using q1
        exact ⟨_, rfl, h⟩
    · wp_walk using q1
      exact ⟨_, rfl, h⟩
section
variable {prog : Program} {w : World} {A : Around} {E : Value → Shared → Prop} {s : Shared}
theorem call_enum1 {v : Value} {o : Obj} {H : Heap → Prop} {Q : Value → Shared → Prop} (B : Begins v o H) (h1 : H s.heap)
    (h : ∀ h', IsEnum h' (s.heap.objs.size + 1) s.heap.objs.size 0 .none → h'.get? s.heap.objs.size = some o → h'.objs.size = s.heap.objs.size + 2 →
      (∀ b o, s.heap.get? b = some o → h'.get? b = some o) → Q (.ref (s.heap.objs.size + 1)) { s with heap := h' }) :
    wpAny (model prog w) A (call (.type "enumerate") [v]) Q E s := by
  refine callType_new F.called_enumerate (by decide) (F.typeCall_enumerate_1 _) (F.newCall_enumerate_1 _) (fun obj => F.args_object_init_2 obj _) F.entry_enumerate_new
    (meets_enum1 B) ⟨h1, ?_⟩
  have hz : (s.heap.push o).objs.size = s.heap.objs.size + 1 := Heap.size_push ..
  show _ ∧ _
  rw [hz]
  have he : IsEnum ((s.heap.push o).push { cls := .type "enumerate", data := .fields #[.none, .bool false, .ref s.heap.objs.size, rawInt 0, .none, .none] }) (s.heap.objs.size + 1) s.heap.objs.size 0 .none := by
    have := Heap.get?_push_size (s.heap.push o) (o := { cls := .type "enumerate", data := .fields #[.none, .bool false, .ref s.heap.objs.size, rawInt 0, .none, .none] }) rfl
    rw [hz] at this; exact this
  refine ⟨⟨_, he, rfl⟩, h _ he (Heap.get?_push_of_some _ (Heap.get?_push_size _ B.free)) (by rw [Heap.size_push, hz]) fun b o x => Heap.get?_push_of_some _ (Heap.get?_push_of_some _ x)⟩
theorem enum_end {e it l : Addr} {i : Nat} {c : Int} {items : Array Value} {old : Value} {Q : Option Value → Shared → Prop} (hh : A.handled = none)
    (he : IsEnum s.heap e it c old) (hit : s.heap.IsTupleIter it l i) (hl : s.heap.IsTuple l items) (hx : items[i]? = none)
    (hQ : ∀ h', Heap.ExtBut it s.heap h' → Q none { s with heap := h' }) : wpAny (model prog w) A (pyNext (.ref e)) Q E s := by
  have hT : s.TypeIs (.ref e) "enumerate" := ⟨_, he, rfl⟩
  unfold pyNext
  refine wpAny_bind (wpAny_attempt (wpAny_callSpecial?_slot (name := Str.ofString "__next__") hT F.slot_enumerate_next
    (wpAny_call_entry F.slot_enumerate_next hT F.entry_enumerate_next ?_ (F.args_enumerate_next_1 _))))
  show wpAny _ _ (field (.ref e) 2 >>= _) _ _ _
  refine wpAny_bind (wpAny_field he rfl (x := .ref it) rfl ?_)
  refine wpAny_bind (RZ.nextOf_tuple_end hh hit hl hx fun h' x he' hx' => ?_)
  obtain ⟨o, ho, hc⟩ := hx'
  refine wpAny_bind (wpAny_isInstance (T := "StopIteration") (b := true) ⟨o, ho, hc⟩ isSubtype_stop ?_)
  exact wpAny_pure (hQ _ he')
end
/-- enumerate(tuple) -/
def IteT (K : PySem.W.Frag) (a : Addr) : It :=
  ⟨fun i H => ∃ (xs : List V) (x : V), SqT K H a xs ∧ xs[i]? = some x, fun i H v H' => ∃ T x, v = .ref T ∧ H T = none ∧ H' = upd H T (.tup [.int (i : Nat), x]) ∧ ∀ xs, SqT K H a xs → xs[i]? = some x, fun i H => ∃ xs : List V, SqT K H a xs ∧ xs.length ≤ i⟩
theorem turn_enumT {P : Program} {w : World} {K : PySem.W.Frag} {elts : List Expr} {kk : Nat} {tpos : Pos} (a e it : Addr) (hae : a ≠ it) (hea : e ≠ a) :
    Turn P w K (.Tuple elts kk tpos) (IteT K a) [e, it] e (fun i h => (∃ old, IsEnum h e it ((i : Nat) : Int) old) ∧ h.IsTupleIter it a i ∧ e ≠ it) where
  mem := by simp
  obj := fun i h st b hb => by
    obtain ⟨⟨old, he⟩, ⟨o, ho, hc, hd⟩, _⟩ := st
    have e' : b = e ∨ b = it := by simpa using hb
    rcases e' with z | z
    · rw [z]; exact ⟨_, he, fun v q => nomatch q⟩
    · rw [z]; exact ⟨o, ho, fun v q => by rw [hd] at q; cases q⟩
  keep := fun i h h' st k => let ⟨⟨old, he⟩, hi, hne⟩ := st; ⟨⟨old, k e (by simp) _ he⟩, hi.at fun o q => k it (by simp) o q, hne⟩
  item := by
    intro X hP hw hK hc i pins s σ H E I hf st hg
    subst hP hw hK
    obtain ⟨⟨old, he⟩, hit, hne⟩ := st
    obtain ⟨xs, x, hq, hx⟩ := hg
    obtain ⟨its, rv, p, hz⟩ := I.tuple hq
    obtain ⟨u, hu, ru⟩ := rv.get hx
    have hel : e < s.heap.objs.size := Heap.lt_size he
    have hil : it < s.heap.objs.size := by obtain ⟨_, q, _⟩ := hit; exact Heap.lt_size q
    have hlt : i < its.toArray.size := by
      have := (List.getElem?_eq_some_iff.mp hu).1
      simpa using this
    have D : Draws X.prog X.w X.A.in1 it [it, a] its.toArray.size (fun i v => its.toArray[i]? = some v) (fun i h => h.IsTupleIter it a i ∧ h.IsTuple a its.toArray) := Draws.tuple (A := X.A.in1) (show X.A.in1.handled = none from I.ok.hd hc) it a hae its.toArray
    refine wpAny_pyNext_enum_itemC D he ⟨hit, p⟩ hlt hne (by simpa using ⟨hne, hea⟩) fun x' h' tk hx' ho hit' hT hsz hk => ?_
    have eu : x' = u := by
      have h2 : its.toArray[i]? = some u := by simpa using hu
      exact Option.some.inj (hx'.symm.trans h2)
    subst eu
    refine ⟨_, rfl, wpAny_letOwnedTupleGo_enum (s := { s with heap := h', toks := tk + 1 }) ho fun h'' he' sb => ?_⟩
    have hT2 : h''.get? s.heap.objs.size = some { cls := .type "tuple", data := .seq #[.int i tk, x'] } := (sb.2 _ (Nat.ne_of_gt hel)).trans hT
    have new : ObjOk X.prog X.w (upd H s.heap.objs.size (.tup [.int (i : Nat), x])) h'' s.heap.objs.size (.tup [.int (i : Nat), x]) :=
      ⟨by show 2 ≤ sizeLine; decide, [.int i tk, x'], .cons ⟨_, rfl⟩ (.cons ru .nil), ⟨_, hT2, rfl, _, rfl⟩⟩
    have I1 : Inv X pins σ (upd H s.heap.objs.size (.tup [.int (i : Nat), x])) { s with heap := h'', toks := tk + 1 } :=
      I.turnedNew (ch := [e, it]) (fun b ob hb q => (sb.2 b (fun z => hb (by simp [z]))).trans (hk b ob (fun z => hb (by simp [z])) (fun z => hb (by simp [z])) q)) hf (Nat.le_refl _) new
    refine ⟨.ref s.heap.objs.size, _, I1, rfl, ⟨_, x, rfl, I.hok.fresh (Nat.le_refl _), rfl, fun ys hy => by rw [I.tuple_inj hy hq]; exact hx⟩, ⟨⟨x', ?_⟩, hit'.1.at fun o q => (sb.2 it (Ne.symm hne)).trans q, hne⟩, fun b hb => ?_⟩
    · have e1 : ((i + 1 : Nat) : Int) = (i : Int) + 1 := by omega
      rw [e1]; exact he'
    · have hb' : b < s.heap.objs.size := by
        have e' : b = e ∨ b = it := by simpa using hb
        rcases e' with z | z
        · rw [z]; exact hel
        · rw [z]; exact hil
      rw [upd_ne (Nat.ne_of_lt hb')]
      exact (hf b hb).1
  done := by
    intro X hP hw hK hc i pins s σ H E I hf st hg
    subst hP hw hK
    obtain ⟨⟨old, he⟩, hit, hne⟩ := st
    obtain ⟨xs, hq, hx⟩ := hg
    obtain ⟨its, rv, p, hz⟩ := I.tuple hq
    obtain ⟨f0, f1, f2, f3, f4, f5⟩ := hf it (by simp)
    have hl := rv.length
    have hT : s.TypeIs (.ref e) "enumerate" := ⟨_, he, rfl⟩
    have fin : ∀ h' : Heap, Heap.ExtBut it s.heap h' → (none : Option Value) = none ∧ Inv X pins σ H { s with heap := h' } := fun h' eb => ⟨rfl, I.turned (t' := s.toks) (fun b o hb q => eb b o hb q) f0 f1 f3 f4 f5⟩
    exact enum_end (I.ok.hd hc) he hit p (by simp; omega) fin
  self := fun A i s Q E st h => let ⟨⟨_, he⟩, _⟩ := st; wpAny_pyIter_enum he h
def iEnumT (K : PySem.W.Frag) (ta : TA) : TI := fun σ H R => ta σ H fun vs H1 => ∃ a xs, vs = [.ref a] ∧ SqT K H1 a xs ∧ R (IteT K a) H1
theorem pi_enumT {X : Cx} {e : Expr} {ta : TA} {p pos tpos : Pos} {elts : List Expr} {kk : Nat} (hg : Gl X "enumerate") (hm : X.mg "enumerate" = none) (ha : PA X [e] ta) (hs : starEach [e] X.env = [(false, eval e X.env)] := by rfl) :
    PI X (.Tuple elts kk tpos) (.Call (.Name "enumerate" p) [e] [] pos) (iEnumT X.K ta) := by
  refine ⟨fun pins s σ H R I h => ?_⟩
  refine Call_ (ld_blt I hg hm boot_enumerate (PyProof.Rows.callWith_type1 (thn (ha.run pos pins s σ H _ I h) fun us s1 ⟨vs, H1, I1, r1, q1⟩ => ?_) hs rfl))
  obtain ⟨a, xs, ex, hq, q⟩ := q1
  subst ex
  cases r1 with
  | cons r rr =>
    cases rr
    cases r
    obtain ⟨its, rv, p', hz⟩ := I1.tuple hq
    have hal : a < s1.heap.objs.size := by obtain ⟨o, ho, _⟩ := id p'; exact Heap.lt_size ho
    refine call_enum1 (begins_tuple a its.toArray) p' fun h' he hit hsz hk => wpAny_pyIter_enum he ?_
    have I2 : Inv X pins σ H1 { s1 with heap := h' } := I1.kept (t' := s1.toks) hk
    refine ⟨s1.heap.objs.size + 1, [s1.heap.objs.size + 1, s1.heap.objs.size], _, _, H1, rfl, I2, turn_enumT a (s1.heap.objs.size + 1) s1.heap.objs.size (Nat.ne_of_lt hal) (Nat.ne_of_gt (Nat.lt_succ_of_lt hal)), ⟨⟨.none, he⟩, ⟨_, hit, rfl, rfl⟩, Nat.succ_ne_self _⟩, fun b hb => ?_, q⟩
    have e' : b = s1.heap.objs.size + 1 ∨ b = s1.heap.objs.size := by simpa using hb
    have hle : s1.heap.objs.size ≤ b := by
      rcases e' with z | z
      · rw [z]; exact Nat.le_add_right _ _
      · rw [z]; exact Nat.le_refl _
    exact I1.fpOk hle (I1.hok.fresh hle)
end ZK

/-! sorted of pairs of a text and an int, any number of them -/
namespace SrtS
open PySem PySem.Spec PyProof.Rows L2
open SrtO hiding Str
def sltB (a b : Str) : Bool := decide (a.cps.toList < b.cps.toList)
theorem str_ext {a b : Str} (h : a.cps.toList = b.cps.toList) : a = b := by
  cases a
  cases b
  exact congrArg PySem.Str.mk (Array.toList_inj.mp h)
def lexS (p q : Str × Int) : Bool := if p.1 = q.1 then decide (p.2 < q.2) else sltB p.1 q.1
theorem lexS_le (a b : Str) : sltB a b = false ↔ b.cps.toList ≤ a.cps.toList := by
  unfold sltB
  rw [decide_eq_false_iff_not, List.not_lt]
theorem swo_lexS (k : Value → Str × Int) : Swo fun v u => lexS (k v) (k u) := by
  constructor
  · intro x y h
    unfold lexS at *
    by_cases e : (k x).1 = (k y).1
    · rw [if_pos e] at h
      rw [if_pos e.symm]
      have := of_decide_eq_true h
      exact decide_eq_false (by omega)
    · rw [if_neg e] at h
      rw [if_neg fun z => e z.symm, lexS_le]
      exact List.le_of_lt (of_decide_eq_true h)
  · intro x y z h1 h2
    unfold lexS at *
    by_cases e1 : (k y).1 = (k x).1
    · rw [if_pos e1] at h1
      by_cases e2 : (k z).1 = (k y).1
      · rw [if_pos e2] at h2
        rw [if_pos (e2.trans e1)]
        have a1 := of_decide_eq_false h1
        have a2 := of_decide_eq_false h2
        exact decide_eq_false (by omega)
      · rw [if_neg e2] at h2
        rw [if_neg fun q => e2 (q.trans e1.symm), ← e1]
        exact h2
    · rw [if_neg e1] at h1
      by_cases e2 : (k z).1 = (k y).1
      · rw [if_neg fun q => e1 (e2.symm.trans q), e2]
        exact h1
      · rw [if_neg e2] at h2
        rw [lexS_le] at h1 h2
        have h3 : (k x).1.cps.toList ≤ (k z).1.cps.toList := List.le_trans h1 h2
        by_cases e3 : (k z).1 = (k x).1
        · exfalso
          rw [e3] at h2
          exact e1 (str_ext (List.le_antisymm h2 h1))
        · rw [if_neg e3, lexS_le]
          exact h3
section
variable {prog : Program} {w : World} {A : Around} {E : Value → Shared → Prop} {s : Shared}
def IsPairS (h : Heap) (v : Value) (x : Str) (y : Int) : Prop := ∃ a o t u n, v = .ref a ∧ h.get? a = some o ∧ o.cls = .type "tuple" ∧ o.data = .seq #[.str x t, .int y u] n
theorem IsPairS.keeps {h h' : Heap} {v : Value} {x : Str} {y : Int} (p : IsPairS h v x y) (k : ∀ b o, h.get? b = some o → o.cls = .type "tuple" → h'.get? b = some o) : IsPairS h' v x y := by
  obtain ⟨a, o, t, u, n, e, ho, hc, hd⟩ := p
  exact ⟨a, o, t, u, n, e, k _ _ ho hc, hc, hd⟩
theorem firstsS_of {h : Heap} : ∀ {vs : List Value}, (∀ v ∈ vs, ∃ x y, IsPairS h v x y) → ∃ fs : List Value, PySem.W.KatTups h vs fs ∧ fs.length = vs.length ∧ ∀ f ∈ fs, ∃ x t, f = Value.str x t
  | [], _ => ⟨[], PySem.W.KatTups.nil, rfl, fun _ hm => by simp at hm⟩
  | v :: vs, hp => by
    obtain ⟨fs, h1, h2, h3⟩ := firstsS_of (vs := vs) fun v' hm => hp v' (List.mem_cons_of_mem _ hm)
    obtain ⟨x, y, a, o, t, u, n, e, ho, hc, hd⟩ := hp v (List.mem_cons_self ..)
    subst e
    refine ⟨.str x t :: fs, PySem.W.KatTups.cons ho hc hd rfl h1, by rw [List.length_cons, List.length_cons, h2], fun f hm => ?_⟩
    rcases List.mem_cons.mp hm with rfl | hm
    · exact ⟨x, t, rfl⟩
    · exact h3 f hm
theorem pairS_cmp {vs : List Value} {k : Value → Str × Int} (hp : ∀ v ∈ vs, IsPairS s.heap v (k v).1 (k v).2) : Cmp prog w A s (tuples' true) (fun p => p.1 ∈ vs) (lt2 fun v u => lexS (k v) (k u)) := by
  intro p q hm hm'
  have h1 := hp _ hm
  have h2 := hp _ hm'
  show wpAny (model prog w) A (keyLt' (tuples' true) p.1 q.1) (fun r s' => s' = s ∧ r = lexS (k p.1) (k q.1)) (fun _ _ => False) s
  unfold lexS sltB
  generalize (k p.1).1 = x at h1 ⊢
  generalize (k p.1).2 = y at h1 ⊢
  generalize (k q.1).1 = x' at h2 ⊢
  generalize (k q.1).2 = y' at h2 ⊢
  obtain ⟨a, o, t, u, n, e, ho, hc, hd⟩ := h1
  obtain ⟨a', o', t', u', n', e', ho', hc', hd'⟩ := h2
  rw [e, e']
  refine PySem.W.kat_lt ho hd ho' hd' ?_
  show PySem.W.KatLex prog w A true (decide (2 < 2)) _ [(.str x t, .str x' t'), (.int y u, .int y' u')] 0 s
  refine PySem.W.kat_cons (SeqAt.EqAt.str_str x t x' t' prog w _ _ ?_)
  refine PySem.W.kat_go (fun e1 => ?_) (fun e1 => ?_)
  · have ex : x = x' := by simpa using e1
    refine PySem.W.kat_yes (PySem.W.kat_cons (SeqAt.EqAt.int_int y u y' u' prog w _ _ ?_))
    refine PySem.W.kat_go (fun e2 => ?_) (fun e2 => ?_)
    · have ey : y = y' := by simpa using e2
      have e3 : (if x = x' then decide (y < y') else decide (x.cps.toList < x'.cps.toList)) = false := by
        rw [if_pos ex, ey]
        exact decide_eq_false (Int.lt_irrefl _)
      exact PySem.W.kat_yes (PySem.W.kat_nil ⟨rfl, e3.symm⟩)
    · have e3 : (if x = x' then decide (y < y') else decide (x.cps.toList < x'.cps.toList)) = decide (y < y') := if_pos ex
      refine PySem.W.kat_no (PySem.W.kat_one _ _ (PyProof.Rows.lt_int ?_))
      exact (show s = s ∧ decide (y < y') = (if x = x' then decide (y < y') else decide (x.cps.toList < x'.cps.toList)) from ⟨rfl, e3.symm⟩)
  · have ex : ¬ x = x' := by simpa using e1
    have e3 : (if x = x' then decide (y < y') else decide (x.cps.toList < x'.cps.toList)) = decide (x.cps.toList < x'.cps.toList) := if_neg ex
    exact PySem.W.kat_no (oneLt_str ⟨rfl, e3.symm⟩)
theorem pairsS_sortableO {a : Addr} {vs : List Value} {k : Value → Str × Int} (h0 : 0 < vs.length) (hp : ∀ v ∈ vs, IsPairS s.heap v (k v).1 (k v).2) (ha : ∀ o, s.heap.get? a = some o → o.cls ≠ .type "tuple") : SortableO prog w A s a vs fun v u => lexS (k v) (k u) := by
  intro h' keep
  have hp' : ∀ v ∈ vs, IsPairS h' v (k v).1 (k v).2 := fun v hm => (hp v hm).keeps fun b o e c => keep b o (fun z => by subst z; exact ha o e c) e
  obtain ⟨fs, h1, h2, h3⟩ := firstsS_of fun v hm => ⟨_, _, hp' v hm⟩
  refine ⟨tuples' true, fun Q E hq => ?_, pairS_cmp hp'⟩
  refine PySem.W.kat_kind (T := .type "str") h1 (by omega) (fun f hm => ?_) (by rfl) ?_
  · obtain ⟨x, t, rfl⟩ := h3 f hm
    exact PySem.W.Looks.now
  · have e : (Value.type "str" != Value.type "tuple") = true := by first | decide +kernel | rfl | decide
    rw [e]
    exact hq
theorem sorted_pairsS {l : Addr} {vs : List Value} {k : Value → Str × Int} {Q : Value → Shared → Prop} (hl : s.heap.IsList l vs.toArray) (hz : vs.length ≤ sizeLine) (hp : ∀ v ∈ vs, IsPairS s.heap v (k v).1 (k v).2)
    (h : ∀ (h' : Heap) (d : Addr) (out : List Value), Srtd (fun v u => lexS (k v) (k u)) out → Stb (fun v u => lexS (k v) (k u)) out vs → (∀ b o, s.heap.get? b = some o → h'.get? b = some o) → s.heap.objs.size ≤ d → (∃ n, h'.get? d = some (seqObj "list" out.toArray n)) → Q (.ref d) { s with heap := h' }) :
    wpAny (model prog w) A (call (.builtin "sorted") [.ref l]) Q E s := by
  refine sorted_ord (swo_lexS k) hl hz (fun h2 h₁ a ha kk => ?_) fun out hs hb => ?_
  · refine pairsS_sortableO (s := { s with heap := h₁ }) (by omega) (fun v hm => (hp v hm).keeps fun b o e _ => (kk b o e).2) fun o e => ?_
    have e' : some o = some (seqObj "list" vs.toArray 0) := e.symm.trans ha
    cases e'
    intro c
    exact absurd (Value.type.inj c) (by decide)
  · exact h _ _ out hs hb (fun b o e => sortedAll_old e) (Nat.le_succ _) (sortedAll_at s.heap vs out.toArray)
end
end SrtS
namespace L2
open PySem PySem.Spec PyProof.Rows
abbrev ltPS (k : V → Str × Int) : V → V → Bool := fun x y => SrtS.lexS (k x) (k y)
def rSortedPS (K : PySem.W.Frag) : List V → Hp → VK → Prop := fun vs H Q => ∃ (a : Addr) (xs : List V) (k : V → Str × Int), vs = [V.ref a] ∧ SqL K H a xs ∧ (∀ x ∈ xs, ∃ t, x = V.ref t ∧ SqT K H t [.str (k x).1, .int (k x).2]) ∧
  ∀ ys p, SrtO.Srtd (ltPS k) ys → ys.Perm xs → H p = none → Q (.ref p) (upd H p (.lst ys))
section
variable {X : Cx}
theorem cr_sortedPS : CallR X (.builtin "sorted") (rSortedPS X.K) := by
  intro pins s σ H vs us Q I r h
  obtain ⟨a, xs, k, rfl, hs, hx, q⟩ := h
  obtain ⟨its, rv, hl, hz⟩ := I.list hs
  obtain ⟨u, rfl, ru⟩ := vals1 r
  obtain rfl : u = Value.ref a := ru
  obtain ⟨e1, e2⟩ := refs_back rv fun x m => by
    obtain ⟨t, e, _⟩ := hx x m
    exact ⟨t, e⟩
  refine SrtS.sorted_pairsS (k := fun u => k (backV u)) hl.isList (by rw [← rv.length]; exact hz) (fun v hv => ?_) fun h' d out h1 h2 kp hd hn => ?_
  · obtain ⟨t, rfl⟩ := e2 v hv
    have hm : V.ref t ∈ xs := by rw [e1]; exact List.mem_map.mpr ⟨_, hv, rfl⟩
    obtain ⟨t', e, ht⟩ := hx _ hm
    cases e
    obtain ⟨its2, r2, ⟨o, ho, hc, n, hd⟩, _⟩ := I.tuple ht
    obtain ⟨u1, u2, rfl, ri, rj⟩ := vals2 r2
    obtain ⟨t1, rfl⟩ := ri
    obtain ⟨t2, rfl⟩ := rj
    exact ⟨t, o, t1, t2, _, rfl, ho, hc, hd⟩
  · have h3 : ∀ u ∈ out, ∃ a, u = Value.ref a := fun u hu => e2 u (h2.perm.mem_iff.mp hu)
    obtain ⟨n, hn⟩ := hn
    have hb : (out.map backV).Perm xs := by
      rw [e1]
      exact h2.perm.map backV
    refine ⟨.ref d, upd H d (.lst (out.map backV)), I.laid (t' := s.toks) kp hd ⟨?_, out, n, vals_back h3, hn⟩, rfl, q _ d (SrtO.srtd_map h1) hb (I.hok.fresh hd)⟩
    rw [hb.length_eq]
    exact hz
end
end L2

/-! d.items() of a dict with keys that are ints and texts; sorted of them (keys texts, values ints) -/
namespace L2
open PySem PySem.Spec PyProof.Rows L2.DX
theorem pairs_at {P : Program} {w : World} : ∀ {es : List DictEntry} {kvs : List (Key × Value)}, Pairs (mixKind P w) es kvs → ∀ {j : Nat} {k : Key} {v : Value}, kvs[j]? = some (k, v) → ∃ e, es[j]? = some e ∧ (mixKind P w).is k e.key = true ∧ e.val = v
  | _, _, .nil, j, k, v, h => by simp at h
  | _, _, .cons h1 h2 t, 0, k, v, h => by
    have e := Option.some.inj h
    exact ⟨_, rfl, by rw [e] at h1; exact h1, by rw [e] at h2; exact h2⟩
  | _, _, .cons h1 h2 t, j + 1, k, v, h => pairs_at t (by simpa using h)
theorem pairs_len {P : Program} {w : World} : ∀ {es : List DictEntry} {kvs : List (Key × Value)}, Pairs (mixKind P w) es kvs → es.length = kvs.length
  | _, _, .nil => rfl
  | _, _, .cons _ _ t => by rw [List.length_cons, List.length_cons, pairs_len t]
section
variable {X : Cx}
def rItemsK : V → List V → Hp → VK → Prop := fun x xs H Q => ∃ (a : Addr) (kvs : List (Key × V)), x = .ref a ∧ xs = [] ∧ Rd H a (.dK kvs) ∧ ∀ p, H p = none → Q (.ref p) (upd H p (itemsO p a))
theorem mt_itemsK : MtR X "dict.items" rItemsK := by
  intro pins s σ H x xs v us Q I rx rxs h
  obtain ⟨a, kvs, rfl, rfl, ha, q⟩ := h
  cases rx
  cases rxs
  obtain ⟨z, hd, vs, rel, o, es, ep, ho, hx, hdat, _⟩ := dk_rd I.hok ha
  refine DT.callItems (es := es) (ep := ep) hd ⟨o, ho, hx, hdat⟩ ?_
  have hf : H s.heap.objs.size = none := I.hok.fresh (Nat.le_refl _)
  exact ⟨.ref s.heap.objs.size, upd H s.heap.objs.size (itemsO s.heap.objs.size a), I.laid (t' := s.toks) (fun b u e => Heap.get?_push_of_some _ e) (Nat.le_refl _) (itemsO_ok (Heap.get?_push_size _ rfl)), rfl, q _ hf⟩
def keyPS (h : Heap) (v : Value) : Str × Int := match v with
  | .ref b => match h.get? b with
    | some o => match o.data with
      | .seq xs _ => match xs.toList with
        | [.str x _, .int y _] => (x, y)
        | _ => (Str.empty, 0)
      | _ => (Str.empty, 0)
    | none => (Str.empty, 0)
  | _ => (Str.empty, 0)
def rSortItK : List V → Hp → VK → Prop := fun vs H Q => ∃ (p a : Addr) (ks : List (Str × Int)), vs = [.ref p] ∧ H p = some (itemsO p a) ∧ Rd H a (.dK (ks.map fun e => ((Sum.inr e.1 : Key), V.int e.2))) ∧
  ∀ (H' : Hp) (l : Addr) (ps : List (Addr × (Str × Int))), Same H H' → (ps.map (·.2)).Perm ks → (ps.map (·.2)).Pairwise (fun x y => SrtS.lexS y x = false) → H' l = some (.lst (ps.map fun z => V.ref z.1)) → (∀ z ∈ ps, H z.1 = none ∧ H' z.1 = some (.tup [.str z.2.1, .int z.2.2])) → H l = none → Q (.ref l) H'
theorem cr_sortedItemsK (hc : X.calm = true) : CallR X (.builtin "sorted") rSortItK := by
  intro pins s σ H xs us Q I r h
  obtain ⟨p, a, ks, rfl, hp, ha, q⟩ := h
  obtain rfl := Vals.ref1 r
  have view : s.heap.IsItemsView p a := (show ObjOk X.prog X.w H s.heap p (itemsO p a) from I.hok p _ hp).1
  obtain ⟨z, hd, vs, rel, o, es, ep, ho, hx, hdat, _, hpr, hn⟩ := dk_rd I.hok ha
  rw [List.length_map] at z
  have l1 := Paired.length rel
  rw [List.length_map] at l1
  have l2 : es.size = vs.length := by rw [← pairs_len hpr, Array.length_toList]
  have hh : X.A.handled = none := I.ok.hd hc
  refine DT.sortedI (es := es) (ep := ep) hh view ⟨o, ho, hx, hdat⟩ (by omega) fun h' tk as hk hlt hl hG => ?_
  have lak : as.length = ks.length := by omega
  have nd : as.Nodup := List.Pairwise.imp (fun h => Nat.ne_of_lt h) hG.rise
  have pr : ∀ (j : Nat) (b : Addr), as[j]? = some b → ∃ (e : Str × Int) (t u : Tok), ks[j]? = some e ∧ h'.get? b = some { cls := .type "tuple", data := .seq #[.str e.1 t, .int e.2 u] } := by
    intro j b hj
    obtain ⟨en, he, hg⟩ := hG.pairs j b hj
    obtain ⟨hjl, _⟩ := List.getElem?_eq_some_iff.mp hj
    have hjk : j < ks.length := by omega
    have e1 : (ks.map fun e => ((Sum.inr e.1 : Key), V.int e.2))[j]? = some (Sum.inr (ks[j]).1, V.int (ks[j]).2) := by rw [List.getElem?_map, List.getElem?_eq_getElem hjk]; rfl
    obtain ⟨u, hu, ru⟩ := kv_get rel e1
    obtain ⟨en', he', hk1, hk2⟩ := pairs_at hpr hu
    rw [Array.getElem?_toList, he] at he'
    have ee : en = en' := Option.some.inj he'
    subst ee
    have r1 : RelV (kV (Sum.inr (ks[j]).1)) en.key := relV_key hk1
    obtain ⟨t, ht⟩ : ∃ t, en.key = Value.str (ks[j]).1 t := r1
    obtain ⟨t2, ht2⟩ : ∃ t, u = Value.int (ks[j]).2 t := ru
    refine ⟨ks[j], t, t2, List.getElem?_eq_getElem hjk, ?_⟩
    rw [hg, ht, hk2, ht2]
  have hob : (h'.push { cls := .type "list", data := .seq (as.map Value.ref).toArray }).get? h'.objs.size = some (seqObj "list" (as.map Value.ref).toArray 0) := Heap.get?_push_size _ rfl
  have kb : ∀ b o, s.heap.get? b = some o → (h'.push { cls := .type "list", data := .seq (as.map Value.ref).toArray }).get? b = some o := fun b o e => Heap.get?_push_of_some _ (hk b o e)
  have ne0 : ∀ b o, h'.get? b = some o → b ≠ h'.objs.size := fun b o e => Nat.ne_of_lt (Heap.lt_size e)
  generalize hh2 : h'.push { cls := .type "list", data := .seq (as.map Value.ref).toArray } = h2 at hob kb ⊢
  have ka : ∀ b o, h'.get? b = some o → h2.get? b = some o := fun b o e => by rw [← hh2]; exact Heap.get?_push_of_some _ e
  have kp : ∀ (j : Nat) (b : Addr) (e : Str × Int), as[j]? = some b → ks[j]? = some e → keyPS h2 (.ref b) = e := by
    intro j b e hj he
    obtain ⟨e', t, u, he', hg⟩ := pr j b hj
    have ee : e' = e := Option.some.inj (he'.symm.trans he)
    subst ee
    unfold keyPS
    simp only [ka _ _ hg]
  have at_ : ∀ v ∈ as.map Value.ref, ∃ (j : Nat) (b : Addr) (e : Str × Int), v = .ref b ∧ as[j]? = some b ∧ ks[j]? = some e := by
    intro v hv'
    obtain ⟨b, hb, rfl⟩ := List.mem_map.mp hv'
    obtain ⟨j, hj⟩ := List.mem_iff_getElem?.mp hb
    obtain ⟨e, _, _, he, _⟩ := pr j b hj
    exact ⟨j, b, e, rfl, hj, he⟩
  have hps : ∀ v ∈ as.map Value.ref, SrtS.IsPairS h2 v (keyPS h2 v).1 (keyPS h2 v).2 := by
    intro v hv'
    obtain ⟨j, b, e, rfl, hj, he⟩ := at_ v hv'
    obtain ⟨e', t, u, he', hg⟩ := pr j b hj
    have ee : e' = e := Option.some.inj (he'.symm.trans he)
    rw [kp j b e hj he, ← ee]
    exact ⟨b, _, t, u, 0, rfl, ka _ _ hg, rfl, rfl⟩
  refine wpAny_call_entry PyProof.Rows.slot_list_sort ⟨_, hob, rfl⟩ PyProof.Rows.entry_list_sort
    (SrtO.list_sort_ord (s := { s with heap := h2, toks := tk }) (SrtS.swo_lexS (keyPS h2)) hob (by rw [List.length_map]; omega) (fun h2l => ?_) fun out o1 o2 => ⟨.none, rfl, ?_⟩) (PyProof.Rows.args_list_sort _)
  · refine SrtS.pairsS_sortableO (s := { s with heap := h2, toks := tk }) (by omega) hps fun o e => ?_
    have e' : some o = some (seqObj "list" (as.map Value.ref).toArray 0) := e.symm.trans hob
    cases e'
    intro c
    exact absurd (Value.type.inj c) (by decide)
  · show EP X pins σ Q (.ref h'.objs.size) { s with heap := sortedHeap h2 h'.objs.size (as.map Value.ref) out.toArray, toks := tk }
    obtain ⟨zs, pz, ez⟩ := perm_lift (fun z : Addr × (Str × Int) => Value.ref z.1) (m := out) (n := as.map Value.ref) o2.perm (as.zip ks) (by
      have m1 : (as.zip ks).map (·.1) = as := List.map_fst_zip (by omega)
      have m2 : (as.zip ks).map (fun z : Addr × (Str × Int) => Value.ref z.1) = ((as.zip ks).map (·.1)).map Value.ref := by rw [List.map_map]; rfl
      rw [m2, m1])
    have idx : ∀ z ∈ zs, ∃ j : Nat, as[j]? = some z.1 ∧ ks[j]? = some z.2 := by
      intro z' hz'
      obtain ⟨j, hj⟩ := List.mem_iff_getElem?.mp (pz.mem_iff.mp hz')
      exact ⟨j, List.getElem?_zip_eq_some.mp hj⟩
    have hout : out = zs.map fun z => Value.ref z.1 := ez.symm
    have hperm : (zs.map (·.2)).Perm ks := by
      have e := pz.map (·.2)
      have m2 : (as.zip ks).map (·.2) = ks := List.map_snd_zip (by omega)
      rw [m2] at e
      exact e
    have hsort : (zs.map (·.2)).Pairwise (fun x y => SrtS.lexS y x = false) := by
      have o3 : out.Pairwise fun x y => SrtS.lexS (keyPS h2 y) (keyPS h2 x) = false := o1
      rw [hout, List.pairwise_map] at o3
      rw [List.pairwise_map]
      refine List.Pairwise.imp_of_mem (fun {x y} hx hy h => ?_) o3
      obtain ⟨j, j1, j2⟩ := idx x hx
      obtain ⟨i, i1, i2⟩ := idx y hy
      rw [kp j _ _ j1 j2, kp i _ _ i1 i2] at h
      exact h
    have kF : ∀ b o, b ≠ h'.objs.size → h2.get? b = some o → (sortedHeap h2 h'.objs.size (as.map Value.ref) out.toArray).get? b = some o := fun b o hb e => (PyProof.Rows.sortedHeap_old hb (Heap.lt_size e)).trans e
    have kS : ∀ b o, s.heap.get? b = some o → (sortedHeap h2 h'.objs.size (as.map Value.ref) out.toArray).get? b = some o := fun b o e => kF b o (ne0 _ _ (hk b o e)) (kb b o e)
    obtain ⟨eF, heF⟩ := PyProof.Rows.sortedHeap_at (vs := as.map Value.ref) (out := out.toArray) hob
    have I1 : Inv X pins σ H { s with heap := sortedHeap h2 h'.objs.size (as.map Value.ref) out.toArray, toks := tk } := I.kept (t' := tk) kS
    have hn0 : H h'.objs.size = none := I.hok.fresh (Nat.le_of_lt hlt)
    have hlen : (zs.map fun z => V.ref z.1).length ≤ sizeLine := by
      have e := hperm.length_eq
      rw [List.length_map] at e
      rw [List.length_map]
      omega
    have rv : Vals (zs.map fun z => V.ref z.1) out := by
      rw [hout]
      exact vals_maps (fun z : Addr × (Str × Int) => V.ref z.1) (fun z => Value.ref z.1) zs fun _ _ => rfl
    have I2 : Inv X pins σ (upd H h'.objs.size (.lst (zs.map fun z => V.ref z.1))) { s with heap := sortedHeap h2 h'.objs.size (as.map Value.ref) out.toArray, toks := tk } :=
      I1.take (h' := sortedHeap h2 h'.objs.size (as.map Value.ref) out.toArray) (t' := tk) (fun b ob _ e => e) (I.fpOk (Nat.le_of_lt hlt) hn0) ⟨hlen, out, eF, rv, heF⟩
    obtain ⟨H2, I3, g, qt⟩ := takeT (P := fun b vs => ∃ (j : Nat) (e : Str × Int), as[j]? = some b ∧ ks[j]? = some e ∧ vs = [.str e.1, .int e.2]) I as _ I2 nd fun b hb => by
      obtain ⟨j, hj⟩ := List.mem_iff_getElem?.mp hb
      obtain ⟨e, t, u, he, hg⟩ := pr j b hj
      have hbl : s.heap.objs.size ≤ b := Nat.le_of_lt (hG.above b hb)
      refine ⟨hbl, ?_, [.str e.1, .int e.2], ⟨j, e, hj, he, rfl⟩, fun H3 => ⟨(by rw [sizeLine_eq]; show 2 ≤ 16777216; omega), [Value.str e.1 t, Value.int e.2 u], .cons ⟨t, rfl⟩ (.cons ⟨u, rfl⟩ .nil), ⟨_, kF _ _ (ne0 _ _ hg) (ka _ _ hg), rfl, 0, rfl⟩⟩⟩
      rw [upd_ne (ne0 _ _ hg)]
      exact I.hok.fresh hbl
    have gr : Same H H2 := fun b o e => g b o (by rw [upd_ne (ne_of_none e hn0)]; exact e)
    refine ⟨.ref h'.objs.size, H2, I3, rfl, q H2 h'.objs.size zs gr hperm hsort (g _ _ upd_same) (fun z' hz' => ?_) hn0⟩
    obtain ⟨i, i1, i2⟩ := idx z' hz'
    refine ⟨I.hok.fresh (Nat.le_of_lt (hG.above _ (List.mem_of_getElem? i1))), ?_⟩
    obtain ⟨vs, ⟨j, e, j1, j2, ev⟩, hH⟩ := qt z'.1 (List.mem_of_getElem? i1)
    have eij : i = j := (List.getElem?_inj (List.getElem?_eq_some_iff.mp i1).1 nd).mp (i1.trans j1.symm)
    subst eij
    have ee : e = z'.2 := Option.some.inj (j2.symm.trans i2)
    rw [ev, ee] at hH
    exact hH
end
end L2

/-! t[::-1] of a tuple; x, *y = t -/
namespace HT
open PySem PySem.Spec PyProof.Rows PySem.W
section
variable {prog : Program} {w : World} {A : Around} {E : Value → Shared → Prop} {s : Shared}
theorem adjust_rev (n : Nat) : Builtin.Slice.sliceAdjust none none (-1) (n : Int) = ((n : Int) - 1, -1) := rfl
theorem places_rev (n : Nat) : Builtin.Slice.slicePlaces ((n : Int) - 1) (-1) (-1) = n := by
  unfold Builtin.Slice.slicePlaces
  have h1 : ¬ ((-1 : Int) > 0) := by omega
  simp only [h1, if_false]
  have e : (-(-1) : Int) = 1 := by decide
  split
  · rw [e, Int.ediv_one]
    omega
  · omega
theorem fm_congr {α β : Type} {f g : α → Option β} : ∀ {l : List α}, (∀ x ∈ l, f x = g x) → l.filterMap f = l.filterMap g
  | [], _ => rfl
  | x :: l, h => by
    rw [List.filterMap_cons, List.filterMap_cons, h x List.mem_cons_self, fm_congr fun y hy => h y (List.mem_cons_of_mem _ hy)]
theorem pick_rev (xs : Array Value) : ((List.range xs.size).filterMap fun (m : Nat) => xs[(((xs.size : Nat) : Int) - 1 + (m : Int) * (-1)).toNat]?).toArray = xs.toList.reverse.toArray := by
  congr 1
  have e : (fun (m : Nat) => xs[(((xs.size : Nat) : Int) - 1 + (m : Int) * (-1)).toNat]?) = fun m => xs.toList[xs.size - 1 - m]? := by
    funext m
    have : (((xs.size : Nat) : Int) - 1 + (m : Int) * (-1)).toNat = xs.size - 1 - m := by omega
    rw [this, Array.getElem?_toList]
  rw [e]
  have h := pick_gen xs.toList.reverse.toArray 0 xs.size
  have h2 := List.toArray_inj h
  have e2 : (List.range xs.size).filterMap (fun m => xs.toList[xs.size - 1 - m]?) = (List.range xs.size).filterMap fun (m : Nat) => xs.toList.reverse.toArray[(((0 : Nat) : Int) + (m : Int) * 1).toNat]? := by
    refine fm_congr fun m hm => ?_
    have hm : m < xs.size := List.mem_range.mp hm
    have h3 : (((0 : Nat) : Int) + (m : Int) * 1).toNat = m := by omega
    rw [h3, List.getElem?_toArray, List.getElem?_reverse (by rw [Array.length_toList]; exact hm), Array.length_toList]
  rw [e2, h2, List.drop_zero]
  show (xs.toList.reverse.take xs.size) = xs.toList.reverse
  rw [List.take_of_length_le (by rw [List.length_reverse, Array.length_toList]; exact Nat.le_refl _)]
theorem sliceApplied_rev {sl : Addr} {vs : Value} {n : Nat} {Q : Int × Int × Nat → Shared → Prop} (hs : s.heap.IsSliceOf sl .none .none vs) (ps : IsPart vs (some (-1)))
    (h : Q ((n : Int) - 1, -1, n) s) : wpAny (model prog w) A (Builtin.Slice.sliceApplied (.ref sl) (pure (n : Int))) Q E s := by
  obtain ⟨os, hos, hcs, hds⟩ := id hs
  unfold Builtin.Slice.sliceApplied Builtin.Slice.sliceFields
  refine wpAny_bind (wpAny_bind (wpAny_field hos hds (x := .none) rfl (wpAny_bind (wpAny_field hos hds (x := .none) rfl (wpAny_bind (wpAny_field hos hds (x := vs) rfl (wpAny_pure ?_)))))))
  refine wpAny_bind (slicePart_ ps ?_)
  show wpAny _ _ (if ((-1 : Int) == 0) = true then _ else _) _ _ s
  rw [if_neg (by decide)]
  refine wpAny_bind (slicePart_none (wpAny_bind (slicePart_none (wpAny_bind (wpAny_pure ?_)))))
  show wpAny _ _ (pure ((n : Int) - 1, (-1 : Int), Builtin.Slice.slicePlaces ((n : Int) - 1) (-1) (-1))) _ _ s
  rw [places_rev]
  exact wpAny_pure h
theorem getItem_tuple_rev {t sl : Addr} {items : Array Value} {vs : Value} {Q : Value → Shared → Prop} (ht : IsTup s.heap t items) (hs : s.heap.IsSliceOf sl .none .none vs) (ps : IsPart vs (some (-1)))
    (h : Q (.ref s.heap.objs.size) { s with heap := s.heap.push { cls := .type "tuple", data := .seq items.toList.reverse.toArray } })
    (hsz : items.size ≤ sizeLine) : wpAny (model prog w) A (getItem (.ref t) (.ref sl)) Q E s := by
  have htake : sizeOk (.seq items.toList.reverse.toArray) := by
    show items.toList.reverse.toArray.size ≤ sizeLine
    rw [List.size_toArray, List.length_reverse, Array.length_toList]
    exact hsz
  obtain ⟨os, hos, hcs, hds⟩ := id hs
  have hTs : s.TypeIs (.ref sl) "slice" := ⟨os, hos, hcs⟩
  unfold getItem
  try with_reducible refine wpAny_holding ?_
  first | refine wpAny_bind (wpAny_pure ?_) | skip
  refine wpAny_bind (wpAny_sequenceKey ht.typeIs (by decide) ?_)
  refine wpAny_bind (wpAny_callSpecial?_slot (name := Str.ofString "__getitem__") ht.typeIs PyProof.Rows.slot_tuple_getitem
    (wpAny_call_entry PyProof.Rows.slot_tuple_getitem ht.typeIs entry_tuple_getitem ?_ (args_tuple_getitem _ _)))
  show wpAny _ _ (Builtin.Tuple.tupleItemsOf (.ref t) >>= _) _ _ s
  refine wpAny_bind (tupleItemsOf_ ht ?_)
  refine wpAny_bind (wpAny_typeOf hTs ?_)
  rw [if_pos (by decide)]
  refine wpAny_bind (sliceApplied_rev hs ps ?_)
  have hno : ¬ ((((items.size : Nat) : Int) - 1 == 0 && (-1 : Int) == 1 && items.size == items.size) = true) := by simp
  show wpAny _ _ (if (((items.size : Nat) : Int) - 1 == 0 && (-1 : Int) == 1 && items.size == items.size) = true then _ else _) _ _ s
  rw [if_neg hno, pick_rev]
  first
    | exact wpAny_bind (m := Builtin.Tuple.tupleExact _) (wpAny_newObj_type (wpAny_pure ⟨_, rfl, wpAny_pure h⟩) htake)
    | exact wpAny_bind (m := Builtin.Tuple.tupleExact _) (wpAny_newObj_type (wpAny_bind (wpAny_pure (wpAny_pure ⟨_, rfl, wpAny_pure h⟩))) htake)
    | exact wpAny_bind (wpAny_bind (m := Builtin.Tuple.tupleExact _) (wpAny_newObj_type (wpAny_pure (wpAny_pure ⟨_, rfl, wpAny_pure h⟩)) htake))
    | exact wpAny_bind (wpAny_bind (m := Builtin.Tuple.tupleExact _) (wpAny_newObj_type (wpAny_pure ⟨_, rfl, wpAny_pure h⟩) htake))
theorem starT {l : Addr} {items : Array Value} {n i : Nat} {Q : List Value → Shared → Prop} (hl : IsTup s.heap l items) (hh : A.handled = none) (hi : i < n) (hn : n ≤ items.size + 1) (hz : items.size ≤ sizeLine)
    (h : ∀ (h₂ : Heap) (tk : Nat), (∀ b o, s.heap.get? b = some o → h₂.get? b = some o) → Q (items.toList.take i ++ [.ref h₂.objs.size] ++ (items.toList.drop i).drop (items.size + 1 - n)) { s with heap := h₂.push { cls := .type "list", data := .seq ((items.toList.drop i).take (items.size + 1 - n)).toArray }, toks := tk }) : wpAny (model prog w) A (unpackItems (.ref l) n (some i)) Q E s := by
  have hlt : l ≠ s.heap.objs.size := by obtain ⟨o, ho, _⟩ := hl; exact Nat.ne_of_lt (Heap.lt_size ho)
  unfold unpackItems
  refine wpAny_bind ?_
  unfold notIterableAtAll
  refine wpAny_bind (wpAny_specialOf hl.typeIs slot_tuple_iter.lookup ?_)
  refine wpAny_pure ?_
  simp only [Bool.false_eq_true, if_false]
  refine wpAny_bind (wpAny_holding (iter_tuple hl ?_))
  refine wpAny_bind (wpAny_holding (draw_tuple hlt i 0 _ _ ⟨_, Heap.get?_push_size _ rfl, rfl, rfl⟩ (hl.push _) (by omega) fun h₁ hit₁ hs₁ => ?_))
  have hl₁ : IsTup h₁ l items := (hl.push _).extBut hs₁.extBut hlt
  rw [Nat.zero_add] at hit₁
  have hit₁' := hit₁
  obtain ⟨oi, hoi, _⟩ := hit₁'
  have hl₁' := hl₁
  obtain ⟨ol, hol, _⟩ := hl₁'
  rw [List.drop_zero]
  have hfl : (items.toList.take i).length = i := by rw [List.length_take, Array.length_toList]; omega
  rw [if_neg (show ¬ ((items.toList.take i).length < i) by rw [hfl]; omega)]
  refine wpAny_bind (wpAny_holding (kun_collect (s := { s with heap := h₁ }) (T := "tuple_iterator") (.inr (.inr (.inr rfl))) (Walks.tuple (A := A.in1) hh s.heap.objs.size l hlt items) (fun j u st => st.1.typeIs) (k := i) (by omega) ⟨hit₁, hl₁⟩ (Heap.lt_size hoi) (Heap.lt_size hol) (fun h₂ tk hk => ?_) hz))
  have hrl : (items.toList.drop i).length = items.size - i := by rw [List.length_drop, Array.length_toList]
  have hmid : (items.toList.drop i).length - (n - 1 - i) = items.size + 1 - n := by rw [hrl]; omega
  show wpAny _ _ (if (items.toList.drop i).length < n - 1 - i then _ else _) _ _ _
  rw [if_neg (by rw [hrl]; omega)]
  show wpAny _ _ (newList ((items.toList.drop i).take ((items.toList.drop i).length - (n - 1 - i))) >>= fun d => pure (items.toList.take i ++ [d] ++ (items.toList.drop i).drop ((items.toList.drop i).length - (n - 1 - i)))) _ _ _
  rw [hmid]
  exact wpAny_bind (wpAny_newList (wpAny_pure (h h₂ tk fun b o e => hk b o (Nat.ne_of_lt (Heap.lt_size e)) (hs₁.extBut b o (Nat.ne_of_lt (Heap.lt_size e)) (Heap.get?_push_of_some _ e)))) (by rw [List.length_take, hrl]; omega))
theorem starL {l : Addr} {items : Array Value} {n i : Nat} {Q : List Value → Shared → Prop} (hl : s.heap.IsList l items) (hh : A.handled = none) (hi : i < n) (hn : n ≤ items.size + 1) (hz : items.size ≤ sizeLine)
    (h : ∀ (h₂ : Heap) (tk : Nat), (∀ b o, s.heap.get? b = some o → h₂.get? b = some o) → Q (items.toList.take i ++ [.ref h₂.objs.size] ++ (items.toList.drop i).drop (items.size + 1 - n)) { s with heap := h₂.push { cls := .type "list", data := .seq ((items.toList.drop i).take (items.size + 1 - n)).toArray }, toks := tk }) : wpAny (model prog w) A (unpackItems (.ref l) n (some i)) Q E s := by
  have hlt : l ≠ s.heap.objs.size := by obtain ⟨o, ho, _⟩ := hl; exact Nat.ne_of_lt (Heap.lt_size ho)
  unfold unpackItems
  refine wpAny_bind ?_
  unfold notIterableAtAll
  refine wpAny_bind (wpAny_specialOf hl.typeIs slot_list_iter.lookup ?_)
  refine wpAny_pure ?_
  simp only [Bool.false_eq_true, if_false]
  refine wpAny_bind (wpAny_holding (wpAny_pyIter_list hl ?_))
  refine wpAny_bind (wpAny_holding (kun_draw hlt i 0 _ _ ⟨_, Heap.get?_push_size _ rfl, rfl, rfl⟩ (hl.push _) (by omega) fun h₁ hit₁ hs₁ => ?_))
  have hl₁ : h₁.IsList l items := (hl.push _).extBut hs₁.extBut hlt
  rw [Nat.zero_add] at hit₁
  have hit₁' := hit₁
  obtain ⟨oi, hoi, _⟩ := hit₁'
  have hl₁' := hl₁
  obtain ⟨ol, hol, _⟩ := hl₁'
  rw [List.drop_zero]
  have hfl : (items.toList.take i).length = i := by rw [List.length_take, Array.length_toList]; omega
  rw [if_neg (show ¬ ((items.toList.take i).length < i) by rw [hfl]; omega)]
  refine wpAny_bind (wpAny_holding (kun_collect (s := { s with heap := h₁ }) (T := "list_iterator") (.inr (.inr (.inl rfl))) (Walks.list (A := A.in1) hh s.heap.objs.size l hlt items) (fun j u st => st.1.typeIs) (k := i) (by omega) ⟨hit₁, hl₁⟩ (Heap.lt_size hoi) (Heap.lt_size hol) (fun h₂ tk hk => ?_) hz))
  have hrl : (items.toList.drop i).length = items.size - i := by rw [List.length_drop, Array.length_toList]
  have hmid : (items.toList.drop i).length - (n - 1 - i) = items.size + 1 - n := by rw [hrl]; omega
  show wpAny _ _ (if (items.toList.drop i).length < n - 1 - i then _ else _) _ _ _
  rw [if_neg (by rw [hrl]; omega)]
  show wpAny _ _ (newList ((items.toList.drop i).take ((items.toList.drop i).length - (n - 1 - i))) >>= fun d => pure (items.toList.take i ++ [d] ++ (items.toList.drop i).drop ((items.toList.drop i).length - (n - 1 - i)))) _ _ _
  rw [hmid]
  exact wpAny_bind (wpAny_newList (wpAny_pure (h h₂ tk fun b o e => hk b o (Nat.ne_of_lt (Heap.lt_size e)) (hs₁.extBut b o (Nat.ne_of_lt (Heap.lt_size e)) (Heap.get?_push_of_some _ e)))) (by rw [List.length_take, hrl]; omega))
end
end HT

namespace Dt
open PySem PySem.Spec PyProof.Rows L2
open PySem.SeqAt (EqAt RcAt)

/-! # Data -/
inductive D where
  | non | bl (b : Bool) | int (i : Int) | str (x : Str) | lst (xs : List D) | tup (xs : List D) | pool | scr (ns : List Int)
  /-- a dict by ints and texts; one by tuples; an instance by its attributes; one by its slots; a def or class of the module -/
  | dk (ks : List Key) (vs : List D) | dt (ks : List (List Key)) (vs : List D) | ins (c : Str) (ns : List Str) (vs : List D) | slt (c : Str) (vs : List D) | fn (x : Str) | adr (a : Addr)

/-- the longest text -/
def lim : Nat := 16000000
theorem lim_lt : lim + 2 ≤ sizeLine := by decide +kernel
def kOk : Key → Prop
  | .inl _ => True
  | .inr x => x.length ≤ lim
mutual
inductive Rp (K : PySem.W.Frag) (pa : Option Addr) (H : Hp) : V → D → Prop
  | non : Rp K pa H .non .non
  | bl (b : Bool) : Rp K pa H (.bl b) (.bl b)
  | int (i : Int) : Rp K pa H (.int i) (.int i)
  | str (x : Str) : x.length ≤ lim → Rp K pa H (.str x) (.str x)
  | lst {a : Addr} {xs : List V} {ds : List D} : H a = some (.lst xs) → RpL K pa H xs ds → Rp K pa H (.ref a) (.lst ds)
  | tup {a : Addr} {xs : List V} {ds : List D} : SqT K H a xs → RpL K pa H xs ds → Rp K pa H (.ref a) (.tup ds)
  | pool {a : Addr} : pa = some a → Rp K pa H (.ref a) .pool
  | scr {a : Addr} {ns : List Int} : SqL K H a (ns.map V.int) → Rp K pa H (.ref a) (.scr ns)
  | dk {a : Addr} {ks : List Key} {xs : List V} {ds : List D} : Rd H a (.dK (ks.zip xs)) → xs.length = ks.length → (∀ k ∈ ks, kOk k) → RpL K pa H xs ds → Rp K pa H (.ref a) (.dk ks ds)
  | dt {a : Addr} {ks : List (List Key)} {xs : List V} {ds : List D} : Rd H a (.dT (ks.zip xs)) → xs.length = ks.length → (∀ k ∈ ks, ∀ c ∈ k, kOk c) → RpL K pa H xs ds → Rp K pa H (.ref a) (.dt ks ds)
  | ins {a C dx : Addr} {c : Str} {ns : List Str} {xs : List V} {ds : List D} : PySem.W.nsIn K mainGlobals c = some (some (.ref C)) → H a = some (.ins C dx (ns.zip xs)) → xs.length = ns.length → RpL K pa H xs ds → Rp K pa H (.ref a) (.ins c ns ds)
  | slt {a C dx : Addr} {c : Str} {xs : List V} {ds : List D} : PySem.W.nsIn K mainGlobals c = some (some (.ref C)) → SlX.Slt H a C dx (xs.map some) → RpL K pa H xs ds → Rp K pa H (.ref a) (.slt c ds)
  | fn {a : Addr} {x : Str} : PySem.W.nsIn K mainGlobals x = some (some (.ref a)) → Rp K pa H (.ref a) (.fn x)
  | adr (a : Addr) : Rp K pa H (.ref a) (.adr a)
inductive RpL (K : PySem.W.Frag) (pa : Option Addr) (H : Hp) : List V → List D → Prop
  | nil : RpL K pa H [] []
  | cons {v : V} {vs : List V} {d : D} {ds : List D} : Rp K pa H v d → RpL K pa H vs ds → RpL K pa H (v :: vs) (d :: ds)
end

theorem sameL {K : PySem.W.Frag} {H H' : Hp} {a : Addr} {xs : List V} (e : Same H H') (h : SqL K H a xs) : SqL K H' a xs := e.seq h
theorem sameT {K : PySem.W.Frag} {H H' : Hp} {a : Addr} {xs : List V} (e : Same H H') (h : SqT K H a xs) : SqT K H' a xs := by
  rcases h with (h | ⟨o, h⟩) | h
  · exact .inl (.inl (e _ _ h))
  · exact .inl (.inr ⟨o, e _ _ h⟩)
  · exact .inr h

/-- what a reading of data needs of a change -/
structure Keep (K : PySem.W.Frag) (H H' : Hp) : Prop where
  l : ∀ a xs, H a = some (.lst xs) → H' a = some (.lst xs)
  sl : ∀ a xs, SqL K H a xs → SqL K H' a xs
  st : ∀ a xs, SqT K H a xs → SqT K H' a xs
  dk : ∀ a kvs, Rd H a (.dK kvs) → Rd H' a (.dK kvs)
  dt : ∀ a kvs, Rd H a (.dT kvs) → Rd H' a (.dT kvs)
  i : ∀ a C dx fs, H a = some (.ins C dx fs) → H' a = some (.ins C dx fs)
  s : ∀ a C dx vs, SlX.Slt H a C dx vs → SlX.Slt H' a C dx vs
theorem sameR {H H' : Hp} {a : Addr} {u : HO} (e : Same H H') (h : Rd H a u) : Rd H' a u := by
  rcases h with h | ⟨o, h⟩
  · exact .inl (e _ _ h)
  · exact .inr ⟨o, e _ _ h⟩
theorem sameS {H H' : Hp} {a C dx : Addr} {vs : List (Option V)} (e : Same H H') (h : SlX.Slt H a C dx vs) : SlX.Slt H' a C dx vs := by
  rcases h with ⟨h1, h2⟩ | ⟨h1, h2⟩
  · exact .inl ⟨e _ _ h1, h2⟩
  · exact .inr ⟨e _ _ h1, e _ _ h2⟩
theorem _root_.L2.Same.keep {K : PySem.W.Frag} {H H' : Hp} (e : Same H H') : Keep K H H' :=
  ⟨fun _ _ h => e _ _ h, fun _ _ h => sameL e h, fun _ _ h => sameT e h, fun _ _ h => sameR e h, fun _ _ h => sameR e h, fun _ _ _ _ h => e _ _ h, fun _ _ _ _ h => sameS e h⟩
/-- a dict is locked, or set free -/
theorem keep_frz {K : PySem.W.Frag} {H : Hp} {d : Addr} {o : Obj} {u : HO} (h : H d = some u) (hu : (∃ kvs, u = .dK kvs) ∨ ∃ kvs, u = .dT kvs) : Keep K H (upd H d (.frz o u)) := by
  have ne : ∀ {b : Addr} {w : HO}, H b = some w → w ≠ u → (upd H d (.frz o u)) b = some w := fun {b w} hb n => by
    rw [upd_ne fun z => n (by rw [z, h] at hb; exact (Option.some.inj hb).symm)]
    exact hb
  have nu : ∀ {w : HO}, (∀ kvs, w ≠ .dK kvs) → (∀ kvs, w ≠ .dT kvs) → w ≠ u := fun n1 n2 z => by
    rcases hu with ⟨k, hk⟩ | ⟨k, hk⟩
    · exact n1 k (z.trans hk)
    · exact n2 k (z.trans hk)
  have rd : ∀ {b : Addr} {w : HO}, Rd H b w → Rd (upd H d (.frz o u)) b w := fun {b w} hb => by
    by_cases hbd : b = d
    · subst hbd
      rcases hb with hb | ⟨q, hb⟩
      · rw [h] at hb; cases hb; exact .inr ⟨o, upd_same⟩
      · rw [h] at hb; cases hb
        rcases hu with ⟨k, hk⟩ | ⟨k, hk⟩ <;> cases hk
    · rcases hb with hb | ⟨q, hb⟩
      · exact .inl (by rw [upd_ne hbd]; exact hb)
      · exact .inr ⟨q, by rw [upd_ne hbd]; exact hb⟩
  refine ⟨fun a xs q => ne q (nu (fun _ z => nomatch z) fun _ z => nomatch z), fun a xs q => ?_, fun a xs q => ?_, fun a k q => rd q, fun a k q => rd q, fun a C dx fs q => ne q (nu (fun _ z => nomatch z) fun _ z => nomatch z), fun a C dx vs q => ?_⟩
  · rcases q with q | q
    · exact .inl (rd q)
    · exact .inr q
  · rcases q with q | q
    · exact .inl (rd q)
    · exact .inr q
  · rcases q with ⟨q1, q2⟩ | ⟨q1, q2⟩
    · exact .inl ⟨ne q1 (nu (fun _ z => nomatch z) fun _ z => nomatch z), q2⟩
    · exact .inr ⟨ne q1 (nu (fun _ z => (by unfold SlX.SlO at z; cases z)) fun _ z => (by unfold SlX.SlO at z; cases z)), ne q2 (nu (fun _ z => nomatch z) fun _ z => nomatch z)⟩
theorem keep_unfrz {K : PySem.W.Frag} {H : Hp} {d : Addr} {o : Obj} {u : HO} (h : H d = some (.frz o u)) (hu : (∃ kvs, u = .dK kvs) ∨ ∃ kvs, u = .dT kvs) : Keep K H (upd H d u) := by
  have ne : ∀ {b : Addr} {w : HO}, H b = some w → w ≠ .frz o u → (upd H d u) b = some w := fun {b w} hb n => by
    rw [upd_ne fun z => n (by rw [z, h] at hb; exact (Option.some.inj hb).symm)]
    exact hb
  have rd : ∀ {b : Addr} {w : HO}, Rd H b w → (∀ q k, w ≠ .frz q k) → Rd (upd H d u) b w := fun {b w} hb nf => by
    by_cases hbd : b = d
    · subst hbd
      rcases hb with hb | ⟨q, hb⟩
      · rw [h] at hb; cases hb; exact absurd rfl (nf _ _)
      · rw [h] at hb; cases hb; exact .inl upd_same
    · rcases hb with hb | ⟨q, hb⟩
      · exact .inl (by rw [upd_ne hbd]; exact hb)
      · exact .inr ⟨q, by rw [upd_ne hbd]; exact hb⟩
  refine ⟨fun a xs q => ne q (fun z => nomatch z), fun a xs q => ?_, fun a xs q => ?_, fun a k q => rd q (fun _ _ z => nomatch z), fun a k q => rd q (fun _ _ z => nomatch z), fun a C dx fs q => ne q (fun z => nomatch z), fun a C dx vs q => ?_⟩
  · rcases q with q | q
    · exact .inl (rd q (fun _ _ z => nomatch z))
    · exact .inr q
  · rcases q with q | q
    · exact .inl (rd q (fun _ _ z => nomatch z))
    · exact .inr q
  · rcases q with ⟨q1, q2⟩ | ⟨q1, q2⟩
    · exact .inl ⟨ne q1 (fun z => nomatch z), q2⟩
    · exact .inr ⟨ne q1 (fun z => (by unfold SlX.SlO at z; cases z)), ne q2 (fun z => nomatch z)⟩
theorem Keep.trans {K : PySem.W.Frag} {H H1 H2 : Hp} (a : Keep K H H1) (b : Keep K H1 H2) : Keep K H H2 :=
  ⟨fun _ _ h => b.l _ _ (a.l _ _ h), fun _ _ h => b.sl _ _ (a.sl _ _ h), fun _ _ h => b.st _ _ (a.st _ _ h), fun _ _ h => b.dk _ _ (a.dk _ _ h), fun _ _ h => b.dt _ _ (a.dt _ _ h), fun _ _ _ _ h => b.i _ _ _ _ (a.i _ _ _ _ h), fun _ _ _ _ h => b.s _ _ _ _ (a.s _ _ _ _ h)⟩
section
variable {K : PySem.W.Frag} {pa : Option Addr} {H H' : Hp}
mutual
theorem Rp.keep (e : Keep K H H') : ∀ (d : D) (v : V), Rp K pa H v d → Rp K pa H' v d
  | .non, _, h => by cases h; exact .non
  | .bl b, _, h => by cases h; exact .bl b
  | .int i, _, h => by cases h; exact .int i
  | .str x, _, h => by
    cases h with
    | str _ z => exact .str x z
  | .lst ds, _, h => by
    cases h with
    | lst h1 h2 => exact .lst (e.l _ _ h1) (RpL.keep e ds _ h2)
  | .tup ds, _, h => by
    cases h with
    | tup h1 h2 => exact .tup (e.st _ _ h1) (RpL.keep e ds _ h2)
  | .pool, _, h => by
    cases h with
    | pool h1 => exact .pool h1
  | .scr ns, _, h => by
    cases h with
    | scr h1 => exact .scr (e.sl _ _ h1)
  | .dk ks ds, _, h => by
    cases h with
    | dk h1 h2 h4 h3 => exact .dk (e.dk _ _ h1) h2 h4 (RpL.keep e ds _ h3)
  | .dt ks ds, _, h => by
    cases h with
    | dt h1 h2 h4 h3 => exact .dt (e.dt _ _ h1) h2 h4 (RpL.keep e ds _ h3)
  | .ins c ns ds, _, h => by
    cases h with
    | ins h0 h1 h2 h3 => exact .ins h0 (e.i _ _ _ _ h1) h2 (RpL.keep e ds _ h3)
  | .slt c ds, _, h => by
    cases h with
    | slt h0 h1 h2 => exact .slt h0 (e.s _ _ _ _ h1) (RpL.keep e ds _ h2)
  | .fn x, _, h => by
    cases h with
    | fn h1 => exact .fn h1
  | .adr a, _, h => by
    cases h
    exact .adr a
theorem RpL.keep (e : Keep K H H') : ∀ (ds : List D) (vs : List V), RpL K pa H vs ds → RpL K pa H' vs ds
  | [], _, h => by cases h; exact .nil
  | d :: ds, _, h => by
    cases h with
    | cons h1 h2 => exact .cons (Rp.keep e d _ h1) (RpL.keep e ds _ h2)
end
theorem Rp.mono (e : Same H H') (d : D) (v : V) (h : Rp K pa H v d) : Rp K pa H' v d := Rp.keep e.keep d v h
theorem RpL.mono (e : Same H H') (ds : List D) (vs : List V) (h : RpL K pa H vs ds) : RpL K pa H' vs ds := RpL.keep e.keep ds vs h
theorem RpL.length : ∀ {vs : List V} {ds : List D}, RpL K pa H vs ds → vs.length = ds.length
  | _, _, .nil => rfl
  | _, _, .cons _ t => by rw [List.length_cons, List.length_cons, RpL.length t]
theorem RpL.get : ∀ {vs : List V} {ds : List D} {i : Nat} {d : D}, RpL K pa H vs ds → ds[i]? = some d → ∃ v, vs[i]? = some v ∧ Rp K pa H v d
  | _, _, _, _, .nil, e => by simp at e
  | _, _, 0, _, .cons r _, e => by simp at e; subst e; exact ⟨_, rfl, r⟩
  | _, _, i + 1, d, .cons _ t, e => by
    obtain ⟨v, h1, h2⟩ := RpL.get (i := i) (d := d) t (by simpa using e)
    exact ⟨v, by simpa using h1, h2⟩
theorem RpL.getV : ∀ {vs : List V} {ds : List D} {i : Nat} {v : V}, RpL K pa H vs ds → vs[i]? = some v → ∃ d, ds[i]? = some d ∧ Rp K pa H v d
  | _, _, _, _, .nil, e => by simp at e
  | _, _, 0, _, .cons r _, e => by simp at e; subst e; exact ⟨_, rfl, r⟩
  | _, _, i + 1, d, .cons _ t, e => by
    obtain ⟨v, h1, h2⟩ := RpL.getV (i := i) (v := d) t (by simpa using e)
    exact ⟨v, by simpa using h1, h2⟩
theorem RpL.append : ∀ {vs ws : List V} {ds es : List D}, RpL K pa H vs ds → RpL K pa H ws es → RpL K pa H (vs ++ ws) (ds ++ es)
  | _, _, _, _, .nil, h => h
  | _, _, _, _, .cons r t, h => .cons r (RpL.append t h)
theorem RpL.take : ∀ {vs : List V} {ds : List D} (n : Nat), RpL K pa H vs ds → RpL K pa H (vs.take n) (ds.take n)
  | _, _, 0, _ => .nil
  | _, _, _ + 1, .nil => .nil
  | _, _, n + 1, .cons r t => .cons r (RpL.take n t)
theorem RpL.drop : ∀ {vs : List V} {ds : List D} (n : Nat), RpL K pa H vs ds → RpL K pa H (vs.drop n) (ds.drop n)
  | _, _, 0, h => h
  | _, _, _ + 1, .nil => .nil
  | _, _, n + 1, .cons r t => RpL.drop n t
theorem RpL.set {v : V} {d : D} (r : Rp K pa H v d) : ∀ {vs : List V} {ds : List D} (n : Nat), RpL K pa H vs ds → RpL K pa H (vs.set n v) (ds.set n d)
  | _, _, _, .nil => .nil
  | _, _, 0, .cons _ t => .cons r t
  | _, _, n + 1, .cons q t => .cons q (RpL.set r n t)
theorem RpL.rev : ∀ {vs : List V} {ds : List D}, RpL K pa H vs ds → RpL K pa H vs.reverse ds.reverse
  | _, _, .nil => .nil
  | _, _, .cons r t => by
    rw [List.reverse_cons, List.reverse_cons]
    exact RpL.append (RpL.rev t) (.cons r .nil)
theorem RpL.ints : ∀ (ns : List Int), RpL K pa H (ns.map V.int) (ns.map D.int)
  | [] => .nil
  | n :: ns => .cons (.int n) (RpL.ints ns)
theorem RpL.strs : ∀ (ns : List Str), (∀ x ∈ ns, x.length ≤ lim) → RpL K pa H (ns.map V.str) (ns.map D.str)
  | [], _ => .nil
  | n :: ns, h => .cons (.str n (h n List.mem_cons_self)) (RpL.strs ns fun x hx => h x (List.mem_cons_of_mem _ hx))
theorem RpL.bls : ∀ (ns : List Bool), RpL K pa H (ns.map V.bl) (ns.map D.bl)
  | [] => .nil
  | n :: ns => .cons (.bl n) (RpL.bls ns)
theorem RpL.strs_of : ∀ {ns : List Str} {vs : List V}, RpL K pa H vs (ns.map D.str) → vs = ns.map V.str
  | [], _, h => by cases h; rfl
  | n :: ns, _, h => by
    cases h with
    | cons h1 h2 => cases h1; rw [RpL.strs_of h2]; rfl
theorem RpL.bls_of : ∀ {ns : List Bool} {vs : List V}, RpL K pa H vs (ns.map D.bl) → vs = ns.map V.bl
  | [], _, h => by cases h; rfl
  | n :: ns, _, h => by
    cases h with
    | cons h1 h2 => cases h1; rw [RpL.bls_of h2]; rfl
theorem RpL.ints_of : ∀ {ns : List Int} {vs : List V}, RpL K pa H vs (ns.map D.int) → vs = ns.map V.int
  | [], _, h => by cases h; rfl
  | n :: ns, _, h => by
    cases h with
    | cons h1 h2 => cases h1; rw [RpL.ints_of h2]; rfl
end

/-! # Hiding -/
open Classical in
noncomputable def hid (S : Addr → Prop) (H : Hp) : Hp := fun b => if S b then none else H b
theorem hid_of {S : Addr → Prop} {H : Hp} {b : Addr} {o : HO} (n : ¬ S b) (h : H b = some o) : hid S H b = some o := by
  unfold hid; rw [if_neg n]; exact h
theorem of_hid {S : Addr → Prop} {H : Hp} {b : Addr} {o : HO} (h : hid S H b = some o) : ¬ S b ∧ H b = some o := by
  unfold hid at h
  by_cases n : S b
  · rw [if_pos n] at h; cases h
  · rw [if_neg n] at h; exact ⟨n, h⟩
theorem hid_sub {S : Addr → Prop} {H : Hp} : Same (hid S H) H := fun b o h => (of_hid h).2
theorem hid_mono {S T : Addr → Prop} {H H' : Hp} (e : ∀ b o, ¬ S b → H b = some o → H' b = some o) (st : ∀ b, T b → ∀ o, H b = some o → S b) : Same (hid S H) (hid T H') := fun b o h => by
  obtain ⟨n, h⟩ := of_hid h
  exact hid_of (fun t => n (st b t o h)) (e b o n h)

/-- a change that keeps all but the pool -/
def Ext (pa : Option Addr) (H H' : Hp) : Prop := ∀ b o, pa ≠ some b → H b = some o → H' b = some o
theorem Ext.refl {pa : Option Addr} {H : Hp} : Ext pa H H := fun _ _ _ h => h
theorem Ext.trans {pa : Option Addr} {H H1 H2 : Hp} (a : Ext pa H H1) (b : Ext pa H1 H2) : Ext pa H H2 := fun x o n h => b x o n (a x o n h)
theorem Ext.of {pa : Option Addr} {H H' : Hp} (e : Same H H') : Ext pa H H' := fun x o _ h => e x o h
theorem Ext.free {pa : Option Addr} {H H' : Hp} {p : Addr} (e : Ext pa H H') (n : pa ≠ some p) (h : H' p = none) : H p = none := by
  cases q : H p with
  | none => rfl
  | some o => rw [e p o n q] at h; cases h

/-- the state: the pool's list, what is hidden is there -/
structure Sta (pa : Option Addr) (S : Addr → Prop) (H : Hp) (p : List Int) : Prop where
  pool : ∀ a, pa = some a → H a = some (.lst (p.map V.int)) ∧ S a
  trk : ∀ a, S a → ∃ o, H a = some o
theorem Sta.same {pa : Option Addr} {S : Addr → Prop} {H H' : Hp} {p : List Int} (s : Sta pa S H p) (e : Same H H') : Sta pa S H' p :=
  ⟨fun a h => ⟨e _ _ (s.pool a h).1, (s.pool a h).2⟩, fun a h => let ⟨o, q⟩ := s.trk a h; ⟨o, e _ _ q⟩⟩
theorem Sta.new {pa : Option Addr} {S : Addr → Prop} {H : Hp} {p : List Int} (s : Sta pa S H p) {a : Addr} (h : H a = none) : ¬ S a := fun z => by
  obtain ⟨o, q⟩ := s.trk a z
  rw [h] at q; cases q
theorem Sta.notpool {pa : Option Addr} {S : Addr → Prop} {H : Hp} {p : List Int} (s : Sta pa S H p) {a : Addr} (h : H a = none) : pa ≠ some a := fun z => by
  rw [(s.pool a z).1] at h; cases h
theorem Ext.hid {pa : Option Addr} {S : Addr → Prop} {H H' : Hp} {p : List Int} (s : Sta pa S H p) (e : Ext pa H H') : Same (hid S H) (hid S H') := fun b o h => by
  obtain ⟨n, h⟩ := of_hid h
  exact hid_of n (e b o (fun z => n (s.pool b z).2) h)
theorem Same.hid {S : Addr → Prop} {H H' : Hp} (e : Same H H') : Same (hid S H) (hid S H') := fun b o h => by
  obtain ⟨n, h⟩ := of_hid h
  exact hid_of n (e b o h)
theorem same_upd {H : Hp} {p : Addr} {o : HO} (h : H p = none) : Same H (upd H p o) := fun b u e => by
  rw [upd_ne (ne_of_none e h)]; exact e

/-! # Equality of data -/
mutual
def deqv : D → D → Bool
  | .non, .non => true
  | .bl a, .bl b => a == b
  | .bl a, .int j => (if a then 1 else 0) == j
  | .int i, .bl b => i == (if b then 1 else 0)
  | .int i, .int j => i == j
  | .str x, .str y => x == y
  | .lst xs, .lst ys => deqvs xs ys
  | .tup xs, .tup ys => deqvs xs ys
  | _, _ => false
def deqvs : List D → List D → Bool
  | [], [] => true
  | x :: xs, y :: ys => deqv x y && deqvs xs ys
  | _, _ => false
end
mutual
/-- no pool within; nested at most n deep -/
def flat : Nat → D → Bool
  | _, .non => true | _, .bl _ => true | _, .int _ => true | _, .str _ => true
  | n + 1, .lst xs => flats n xs
  | n + 1, .tup xs => flats n xs
  | _, _ => false
def flats : Nat → List D → Bool
  | _, [] => true
  | n, x :: xs => flat n x && flats n xs
end
theorem flats_get {n : Nat} : ∀ {xs : List D} {i : Nat} {d : D}, flats n xs = true → xs[i]? = some d → flat n d = true
  | [], _, _, _, e => by simp at e
  | x :: xs, 0, d, h, e => by
    simp at e; subst e
    rw [flats, Bool.and_eq_true] at h; exact h.1
  | x :: xs, i + 1, d, h, e => by
    rw [flats, Bool.and_eq_true] at h
    exact flats_get h.2 (by simpa using e)
theorem deqvs_iff : ∀ (xs ys : List D), deqvs xs ys = (((List.range (min xs.length ys.length)).all fun j => match xs[j]?, ys[j]? with | some a, some b => deqv a b | _, _ => false) && xs.length == ys.length)
  | [], [] => by simp [deqvs]
  | [], y :: ys => by simp [deqvs]
  | x :: xs, [] => by simp [deqvs]
  | x :: xs, y :: ys => by
    rw [deqvs, deqvs_iff xs ys]
    simp only [List.length_cons, Nat.succ_min_succ, List.range_succ_eq_map, List.all_cons, List.all_map, Nat.succ_eq_add_one]
    simp only [List.getElem?_cons_zero, Function.comp_def, List.getElem?_cons_succ]
    rw [Bool.and_assoc]
    congr 1
    congr 1
    exact Bool.eq_iff_iff.mpr (by simp)
mutual
theorem deqv_self : ∀ (n : Nat) (d : D), flat n d = true → deqv d d = true
  | _, .non, _ => rfl
  | _, .bl _, _ => by simp [deqv]
  | _, .int _, _ => by simp [deqv]
  | _, .str _, _ => by simp [deqv]
  | 0, .lst _, h => by simp [flat] at h
  | n + 1, .lst xs, h => by rw [flat] at h; rw [deqv]; exact deqvs_self n xs h
  | 0, .tup _, h => by simp [flat] at h
  | n + 1, .tup xs, h => by rw [flat] at h; rw [deqv]; exact deqvs_self n xs h
  | 0, .pool, h => by simp [flat] at h
  | n + 1, .pool, h => by simp [flat] at h
  | 0, .scr _, h => by simp [flat] at h
  | n + 1, .scr _, h => by simp [flat] at h
  | 0, .dk _ _, h => by simp [flat] at h
  | n + 1, .dk _ _, h => by simp [flat] at h
  | 0, .dt _ _, h => by simp [flat] at h
  | n + 1, .dt _ _, h => by simp [flat] at h
  | 0, .ins _ _ _, h => by simp [flat] at h
  | n + 1, .ins _ _ _, h => by simp [flat] at h
  | 0, .slt _ _, h => by simp [flat] at h
  | n + 1, .slt _ _, h => by simp [flat] at h
  | 0, .fn _, h => by simp [flat] at h
  | n + 1, .fn _, h => by simp [flat] at h
  | 0, .adr _, h => by simp [flat] at h
  | n + 1, .adr _, h => by simp [flat] at h
theorem deqvs_self : ∀ (n : Nat) (ds : List D), flats n ds = true → deqvs ds ds = true
  | _, [], _ => rfl
  | n, d :: ds, h => by
    rw [flats, Bool.and_eq_true] at h
    rw [deqvs, deqv_self n d h.1, deqvs_self n ds h.2]; rfl
end
end Dt

namespace Dt
open PySem PySem.Spec PyProof.Rows L2
/-! # Pairs of keys and values -/
section
variable {κ α β : Type} [DecidableEq κ]
def getG (m : List (κ × α)) (k : κ) : Option α := (m.find? fun q => decide (q.1 = k)).map (·.2)
def hasG (m : List (κ × α)) (k : κ) : Bool := m.any fun q => decide (q.1 = k)
def putG (m : List (κ × α)) (k : κ) (v : α) : List (κ × α) := if (m.any fun q => decide (q.1 = k)) = true then m.map (fun q => if q.1 = k then (q.1, v) else q) else m ++ [(k, v)]
def mergeG (m more : List (κ × α)) : List (κ × α) := more.foldl (fun acc q => putG acc q.1 q.2) m
def memK (ks : List κ) (k : κ) : Bool := ks.any fun c => decide (c = k)
theorem memK_iff {ks : List κ} {k : κ} : memK ks k = true ↔ k ∈ ks := by
  unfold memK
  rw [List.any_eq_true]
  exact ⟨fun ⟨c, hc, e⟩ => (of_decide_eq_true e) ▸ hc, fun h => ⟨k, h, decide_eq_true rfl⟩⟩
theorem zip_pairs : ∀ m : List (κ × α), (m.map (·.1)).zip (m.map (·.2)) = m
  | [] => rfl
  | (k, v) :: m => by rw [List.map_cons, List.map_cons, List.zip_cons_cons, zip_pairs m]
theorem zip_fst : ∀ {ks : List κ} {xs : List α}, xs.length = ks.length → (ks.zip xs).map (·.1) = ks
  | [], _, _ => by simp
  | k :: ks, [], h => by simp at h
  | k :: ks, x :: xs, h => by rw [List.zip_cons_cons, List.map_cons, zip_fst (by simpa using h)]
theorem zip_snd : ∀ {ks : List κ} {xs : List α}, xs.length = ks.length → (ks.zip xs).map (·.2) = xs
  | [], [], _ => rfl
  | [], x :: xs, h => by simp at h
  | k :: ks, [], h => by simp at h
  | k :: ks, x :: xs, h => by rw [List.zip_cons_cons, List.map_cons, zip_snd (by simpa using h)]
theorem valV_getG (m : List (κ × V)) (k : κ) : valV m k = getG m k := rfl
theorem putK_putG (m : List (κ × V)) (k : κ) (v : V) : putK m k v = putG m k v := rfl
end
abbrev dkv (m : List (Key × D)) : D := .dk (m.map (·.1)) (m.map (·.2))
abbrev dtv (m : List (List Key × D)) : D := .dt (m.map (·.1)) (m.map (·.2))
def KRp {κ : Type} (K : PySem.W.Frag) (pa : Option Addr) (H : Hp) : List (κ × V) → List (κ × D) → Prop := Paired fun (p : κ × V) (q : κ × D) => p.1 = q.1 ∧ Rp K pa H p.2 q.2
section
variable {κ : Type} [DecidableEq κ] {K : PySem.W.Frag} {pa : Option Addr} {H H' : Hp}
theorem KRp.of : ∀ {ks : List κ} {xs : List V} {ds : List D}, xs.length = ks.length → RpL K pa H xs ds → KRp K pa H (ks.zip xs) (ks.zip ds)
  | [], _, _, _, _ => by simp; exact .nil
  | k :: ks, _, _, h, .nil => by simp at h
  | k :: ks, _, _, h, .cons r t => .cons ⟨rfl, r⟩ (KRp.of (by simpa using h) t)
theorem KRp.fst : ∀ {kv : List (κ × V)} {m : List (κ × D)}, KRp K pa H kv m → kv.map (·.1) = m.map (·.1)
  | _, _, .nil => rfl
  | _, _, .cons ⟨h, _⟩ t => by rw [List.map_cons, List.map_cons, h, KRp.fst t]
theorem KRp.snd : ∀ {kv : List (κ × V)} {m : List (κ × D)}, KRp K pa H kv m → RpL K pa H (kv.map (·.2)) (m.map (·.2))
  | _, _, .nil => .nil
  | _, _, .cons ⟨_, h⟩ t => .cons h (KRp.snd t)
theorem KRp.length : ∀ {kv : List (κ × V)} {m : List (κ × D)}, KRp K pa H kv m → kv.length = m.length
  | _, _, .nil => rfl
  | _, _, .cons _ t => by rw [List.length_cons, List.length_cons, KRp.length t]
theorem KRp.keep (e : Keep K H H') : ∀ {kv : List (κ × V)} {m : List (κ × D)}, KRp K pa H kv m → KRp K pa H' kv m
  | _, _, .nil => .nil
  | _, _, .cons ⟨h1, h2⟩ t => .cons ⟨h1, Rp.keep e _ _ h2⟩ (KRp.keep e t)
theorem KRp.mono (e : Same H H') {kv : List (κ × V)} {m : List (κ × D)} (h : KRp K pa H kv m) : KRp K pa H' kv m := KRp.keep e.keep h
theorem KRp.get (k : κ) : ∀ {kv : List (κ × V)} {m : List (κ × D)}, KRp K pa H kv m → (getG m k = none ∧ valV kv k = none) ∨ ∃ v d, getG m k = some d ∧ valV kv k = some v ∧ Rp K pa H v d
  | _, _, .nil => .inl ⟨rfl, rfl⟩
  | _, _, .cons (a := (k1, v1)) (b := (k2, d1)) ⟨h1, h2⟩ t => by
    have h1 : k1 = k2 := h1
    subst h1
    unfold getG valV
    rw [List.find?_cons, List.find?_cons]
    by_cases e : k1 = k
    · simp only [e, decide_true]
      exact .inr ⟨v1, d1, rfl, rfl, h2⟩
    · simp only [e, decide_false]
      exact KRp.get k t
theorem KRp.any (k : κ) : ∀ {kv : List (κ × V)} {m : List (κ × D)}, KRp K pa H kv m → (kv.any fun q => decide (q.1 = k)) = m.any fun q => decide (q.1 = k)
  | _, _, .nil => rfl
  | _, _, .cons ⟨h1, _⟩ t => by rw [List.any_cons, List.any_cons, h1, KRp.any k t]
theorem KRp.repl (k : κ) {v : V} {d : D} (r : Rp K pa H v d) : ∀ {kv : List (κ × V)} {m : List (κ × D)}, KRp K pa H kv m → KRp K pa H (kv.map fun q => if q.1 = k then (q.1, v) else q) (m.map fun q => if q.1 = k then (q.1, d) else q)
  | _, _, .nil => .nil
  | _, _, .cons (a := (k1, v1)) (b := (k2, d1)) ⟨h1, h2⟩ t => by
    have h1 : k1 = k2 := h1
    subst h1
    rw [List.map_cons, List.map_cons]
    refine .cons ?_ (KRp.repl k r t)
    by_cases e : k1 = k
    · simp only [e, if_true]; exact ⟨trivial, r⟩
    · simp only [e, if_false]; exact ⟨trivial, h2⟩
theorem KRp.snoc {k : κ} {v : V} {d : D} (r : Rp K pa H v d) : ∀ {kv : List (κ × V)} {m : List (κ × D)}, KRp K pa H kv m → KRp K pa H (kv ++ [(k, v)]) (m ++ [(k, d)])
  | _, _, .nil => .cons ⟨rfl, r⟩ .nil
  | _, _, .cons h t => .cons h (KRp.snoc r t)
theorem KRp.put {kv : List (κ × V)} {m : List (κ × D)} (h : KRp K pa H kv m) (k : κ) {v : V} {d : D} (r : Rp K pa H v d) : KRp K pa H (putK kv k v) (putG m k d) := by
  unfold putK putG
  rw [h.any k]
  split
  · exact h.repl k r
  · exact h.snoc r
theorem hasG_iff {m : List (κ × D)} {k : κ} : (getG m k).isSome = memK (m.map (·.1)) k := by
  induction m with
  | nil => simp [getG, memK]
  | cons q m ih =>
    obtain ⟨k1, d1⟩ := q
    unfold getG at ih ⊢
    rw [List.find?_cons, List.map_cons]
    by_cases e : k1 = k
    · simp [e, memK]
    · simp only [e, decide_false, memK, List.any_cons, Bool.false_or]
      exact ih
end
section
variable {K : PySem.W.Frag} {pa : Option Addr} {H : Hp}
theorem Rp.dkv {a : Addr} {kv : List (Key × V)} {m : List (Key × D)} (h : Rd H a (.dK kv)) (r : KRp K pa H kv m) (ok : ∀ q ∈ m, kOk q.1) : Rp K pa H (.ref a) (dkv m) := by
  refine .dk (xs := kv.map (·.2)) ?_ (by rw [List.length_map, List.length_map, r.length]) (fun k hk => ?_) r.snd
  · rw [← r.fst, zip_pairs]; exact h
  · obtain ⟨q, hq, rfl⟩ := List.mem_map.mp hk
    exact ok q hq
theorem Rp.dk_inv {v : V} {ks : List Key} {ds : List D} (h : Rp K pa H v (.dk ks ds)) : ∃ a kv, v = .ref a ∧ Rd H a (.dK kv) ∧ KRp K pa H kv (ks.zip ds) ∧ ds.length = ks.length ∧ ∀ k ∈ ks, kOk k := by
  cases h with
  | dk h1 h2 h4 h3 => exact ⟨_, _, rfl, h1, KRp.of h2 h3, by rw [← h3.length]; exact h2, h4⟩
theorem Rp.dtv {a : Addr} {kv : List (List Key × V)} {m : List (List Key × D)} (h : Rd H a (.dT kv)) (r : KRp K pa H kv m) (ok : ∀ q ∈ m, ∀ c ∈ q.1, kOk c) : Rp K pa H (.ref a) (dtv m) := by
  refine .dt (xs := kv.map (·.2)) ?_ (by rw [List.length_map, List.length_map, r.length]) (fun k hk => ?_) r.snd
  · rw [← r.fst, zip_pairs]; exact h
  · obtain ⟨q, hq, rfl⟩ := List.mem_map.mp hk
    exact ok q hq
theorem Rp.dt_inv {v : V} {ks : List (List Key)} {ds : List D} (h : Rp K pa H v (.dt ks ds)) : ∃ a kv, v = .ref a ∧ Rd H a (.dT kv) ∧ KRp K pa H kv (ks.zip ds) ∧ ds.length = ks.length ∧ ∀ k ∈ ks, ∀ c ∈ k, kOk c := by
  cases h with
  | dt h1 h2 h4 h3 => exact ⟨_, _, rfl, h1, KRp.of h2 h3, by rw [← h3.length]; exact h2, h4⟩
end
def keyOf : D → Option Key
  | .int i => some (.inl i)
  | .str x => some (.inr x)
  | _ => none
def dKey : Key → D
  | .inl i => .int i
  | .inr x => .str x
theorem keyOf_dKey (k : Key) : keyOf (dKey k) = some k := by cases k <;> rfl
section
variable {K : PySem.W.Frag} {pa : Option Addr} {H : Hp}
theorem Rp.key {v : V} {d : D} {k : Key} (r : Rp K pa H v d) (h : keyOf d = some k) : v = kV k ∧ kOk k ∧ d = dKey k := by
  cases r with
  | int i => cases h; exact ⟨rfl, trivial, rfl⟩
  | str x z => cases h; exact ⟨rfl, z, rfl⟩
  | _ => cases h
theorem Rp.ofKey {k : Key} (h : kOk k) : Rp K pa H (kV k) (dKey k) := by
  cases k with
  | inl i => exact .int i
  | inr x => exact .str x h
end
def keysOf : List D → Option (List Key)
  | [] => some []
  | d :: ds => match keyOf d, keysOf ds with
    | some k, some ks => some (k :: ks)
    | _, _ => none
theorem keysOf_map (ks : List Key) : keysOf (ks.map dKey) = some ks := by
  induction ks with
  | nil => rfl
  | cons k ks ih => rw [List.map_cons, keysOf, keyOf_dKey, ih]
theorem RpL.keys {K : PySem.W.Frag} {pa : Option Addr} {H : Hp} : ∀ {vs : List V} {ds : List D} {ks : List Key}, RpL K pa H vs ds → keysOf ds = some ks → vs = ks.map kV ∧ (∀ k ∈ ks, kOk k) ∧ ds = ks.map dKey
  | _, _, _, .nil, h => by cases h; exact ⟨rfl, fun _ z => (by cases z), rfl⟩
  | _, _, _, .cons (d := d) (ds := ds) r t, h => by
    simp only [keysOf] at h
    split at h
    · rename_i k ks e1 e2
      cases h
      obtain ⟨h1, h2, h3⟩ := r.key e1
      obtain ⟨h4, h5, h6⟩ := RpL.keys t e2
      refine ⟨by rw [h1, h4]; rfl, fun c hc => ?_, by rw [h3, h6]; rfl⟩
      rcases List.mem_cons.mp hc with rfl | hc
      · exact h2
      · exact h5 c hc
    · cases h
end Dt

namespace Dt
open PySem PySem.Spec PyProof.Rows L2
open PySem.SeqAt (EqAt RcAt)

/-! # Equality, on the machine -/
section
variable {X : Cx} {pins : List (Addr × Obj)} {σ : L2.St} {H : Hp} {s : Shared} {pa : Option Addr}
theorem Rp.isList (I : Inv X pins σ H s) {a : Addr} {xs : List V} (h : SqL X.K H a xs) : ∃ its : List Value, Vals xs its ∧ s.heap.IsList a its.toArray ∧ its.length = xs.length ∧ xs.length ≤ sizeLine := by
  obtain ⟨its, r, ⟨o, n, e1, e2, _, e4⟩, z⟩ := I.list h
  exact ⟨its, r, ⟨o, e1, e2, n, e4⟩, r.length.symm, z⟩
theorem Rp.isTup (I : Inv X pins σ H s) {a : Addr} {xs : List V} (h : SqT X.K H a xs) : ∃ its : List Value, Vals xs its ∧ s.heap.IsTuple a its.toArray ∧ its.length = xs.length ∧ xs.length ≤ sizeLine := by
  obtain ⟨its, r, ⟨o, e1, e2, n, e4⟩, z⟩ := I.tuple h
  exact ⟨its, r, ⟨o, e1, e2, n, e4⟩, r.length.symm, z⟩
theorem list_tuple_ne (I : Inv X pins σ H s) {a b : Addr} {xs ys : List V} (h : SqL X.K H a xs) (h' : SqT X.K H b ys) : a ≠ b := by
  obtain ⟨_, _, l, _⟩ := Rp.isList I h
  obtain ⟨_, _, t, _⟩ := Rp.isTup I h'
  exact SeqAt.ne_of_list_tuple l t
mutual
theorem Rp.inj (I : Inv X pins σ H s) : ∀ (n : Nat) (d e : D) (v : V), flat n d = true → flat n e = true → Rp X.K pa H v d → Rp X.K pa H v e → d = e
  | n, .non, e, _, _, fe, h, h' => by cases h; cases h'; rfl
  | n, .bl b, e, _, _, fe, h, h' => by cases h; cases h'; rfl
  | n, .int b, e, _, _, fe, h, h' => by cases h; cases h'; rfl
  | n, .str b, e, _, _, fe, h, h' => by cases h; cases h'; rfl
  | 0, .lst _, _, _, f, _, _, _ => by simp [flat] at f
  | 0, .tup _, _, _, f, _, _, _ => by simp [flat] at f
  | 0, .pool, _, _, f, _, _, _ => by simp [flat] at f
  | n + 1, .pool, _, _, f, _, _, _ => by simp [flat] at f
  | 0, .scr _, _, _, f, _, _, _ => by simp [flat] at f
  | n + 1, .scr _, _, _, f, _, _, _ => by simp [flat] at f
  | 0, .dk _ _, _, _, f, _, _, _ => by simp [flat] at f
  | n + 1, .dk _ _, _, _, f, _, _, _ => by simp [flat] at f
  | 0, .dt _ _, _, _, f, _, _, _ => by simp [flat] at f
  | n + 1, .dt _ _, _, _, f, _, _, _ => by simp [flat] at f
  | 0, .ins _ _ _, _, _, f, _, _, _ => by simp [flat] at f
  | n + 1, .ins _ _ _, _, _, f, _, _, _ => by simp [flat] at f
  | 0, .slt _ _, _, _, f, _, _, _ => by simp [flat] at f
  | n + 1, .slt _ _, _, _, f, _, _, _ => by simp [flat] at f
  | 0, .fn _, _, _, f, _, _, _ => by simp [flat] at f
  | 0, .adr _, _, _, f, _, _, _ => by simp [flat] at f
  | n + 1, .fn _, _, _, f, _, _, _ => by simp [flat] at f
  | n + 1, .adr _, _, _, f, _, _, _ => by simp [flat] at f
  | n + 1, .lst ds, e, _, fd, fe, h, h' => by
    cases h with
    | lst h1 h2 =>
      cases h' with
      | lst k1 k2 =>
        have q := I.list_inj (SqL.of h1) (SqL.of k1)
        subst q
        rw [RpL.inj I n ds _ _ (by simpa [flat] using fd) (by simpa [flat] using fe) h2 k2]
      | tup k1 k2 => exact absurd rfl (list_tuple_ne I (SqL.of h1) k1)
      | pool _ => simp [flat] at fe
      | scr _ => simp [flat] at fe
      | dk _ _ _ _ => simp [flat] at fe
      | dt _ _ _ _ => simp [flat] at fe
      | ins _ _ _ _ => simp [flat] at fe
      | slt _ _ _ => simp [flat] at fe
      | fn _ => simp [flat] at fe
      | adr _ => simp [flat] at fe
  | n + 1, .tup ds, e, _, fd, fe, h, h' => by
    cases h with
    | tup h1 h2 =>
      cases h' with
      | tup k1 k2 =>
        have q := I.tuple_inj h1 k1
        subst q
        rw [RpL.inj I n ds _ _ (by simpa [flat] using fd) (by simpa [flat] using fe) h2 k2]
      | lst k1 k2 => exact absurd rfl (list_tuple_ne I (SqL.of k1) h1)
      | pool _ => simp [flat] at fe
      | scr _ => simp [flat] at fe
      | dk _ _ _ _ => simp [flat] at fe
      | dt _ _ _ _ => simp [flat] at fe
      | ins _ _ _ _ => simp [flat] at fe
      | slt _ _ _ => simp [flat] at fe
      | fn _ => simp [flat] at fe
      | adr _ => simp [flat] at fe
theorem RpL.inj (I : Inv X pins σ H s) : ∀ (n : Nat) (ds es : List D) (vs : List V), flats n ds = true → flats n es = true → RpL X.K pa H vs ds → RpL X.K pa H vs es → ds = es
  | _, [], _, _, _, _, h, h' => by cases h; cases h'; rfl
  | n, d :: ds, _, _, f, f', h, h' => by
    cases h with
    | cons h1 h2 =>
      cases h' with
      | cons k1 k2 =>
        rw [flats, Bool.and_eq_true] at f f'
        rw [Rp.inj I n d _ _ f.1 f'.1 h1 k1, RpL.inj I n ds _ _ f.2 f'.2 h2 k2]
end
theorem room_in {A : Around} {n : Nat} (h : A.units + (n + 1) < cLine) : A.in1.units + n < cLine := by
  show A.units + 1 + n < cLine
  omega
theorem room_lo {A : Around} {n : Nat} (h : A.units + n < cLine) : A.units < cLine := by omega
mutual
theorem eqAt_D (I : Inv X pins σ H s) : ∀ (n : Nat) (d e : D) (A : Around) (x y : V) (u v : Value), flat n d = true → flat n e = true → Rp X.K pa H x d → Rp X.K pa H y e → RelV x u → RelV y v →
    A.units + n < cLine → EqAt A s u v (deqv d e)
  | n, .non, e, A, _, _, _, _, _, fe, h, h', r, r', hu => by
    cases h; cases r
    cases h' with
    | non => cases r'; exact EqAt.same _
    | bl b => cases r'; exact EqAt.none_bool _
    | int i => obtain ⟨t, rfl⟩ := r'; exact EqAt.none_int _ _
    | str i _ => obtain ⟨t, rfl⟩ := r'; exact EqAt.none_str _ _
    | lst k1 k2 => cases r'; obtain ⟨its, _, l, _⟩ := Rp.isList I (SqL.of k1); exact EqAt.none_list l (room_lo hu)
    | tup k1 k2 => cases r'; obtain ⟨its, _, l, _⟩ := Rp.isTup I k1; exact EqAt.none_tuple l (room_lo hu)
    | _ => cases n <;> simp [flat] at fe
  | n, .bl x, e, A, _, _, _, _, _, fe, h, h', r, r', hu => by
    cases h; cases r
    cases h' with
    | non => cases r'; exact EqAt.bool_none _
    | bl b => cases r'; exact EqAt.bool_bool _ _
    | int i => obtain ⟨t, rfl⟩ := r'; exact EqAt.bool_int _ _ _
    | str i _ => obtain ⟨t, rfl⟩ := r'; exact EqAt.bool_str _ _ _
    | lst k1 k2 => cases r'; obtain ⟨its, _, l, _⟩ := Rp.isList I (SqL.of k1); exact EqAt.bool_list _ l (room_lo hu)
    | tup k1 k2 => cases r'; obtain ⟨its, _, l, _⟩ := Rp.isTup I k1; exact EqAt.bool_tuple _ l (room_lo hu)
    | _ => cases n <;> simp [flat] at fe
  | n, .int x, e, A, _, _, _, _, _, fe, h, h', r, r', hu => by
    cases h; obtain ⟨t0, rfl⟩ := r
    cases h' with
    | non => cases r'; exact EqAt.int_none _ _
    | bl b => cases r'; exact EqAt.int_bool _ _ _
    | int i => obtain ⟨t, rfl⟩ := r'; exact EqAt.int_int _ _ _ _
    | str i _ => obtain ⟨t, rfl⟩ := r'; exact EqAt.int_str _ _ _ _
    | lst k1 k2 => cases r'; obtain ⟨its, _, l, _⟩ := Rp.isList I (SqL.of k1); exact EqAt.int_list _ _ l (room_lo hu)
    | tup k1 k2 => cases r'; obtain ⟨its, _, l, _⟩ := Rp.isTup I k1; exact EqAt.int_tuple _ _ l (room_lo hu)
    | _ => cases n <;> simp [flat] at fe
  | n, .str x, e, A, _, _, _, _, _, fe, h, h', r, r', hu => by
    cases h; obtain ⟨t0, rfl⟩ := r
    cases h' with
    | non => cases r'; exact EqAt.str_none _ _
    | bl b => cases r'; exact EqAt.str_bool _ _ _
    | int i => obtain ⟨t, rfl⟩ := r'; exact EqAt.str_int _ _ _ _
    | str i _ => obtain ⟨t, rfl⟩ := r'; exact EqAt.str_str _ _ _ _
    | lst k1 k2 => cases r'; obtain ⟨its, _, l, _⟩ := Rp.isList I (SqL.of k1); exact EqAt.str_list _ _ l (room_lo hu)
    | tup k1 k2 => cases r'; obtain ⟨its, _, l, _⟩ := Rp.isTup I k1; exact EqAt.str_tuple _ _ l (room_lo hu)
    | _ => cases n <;> simp [flat] at fe
  | 0, .lst _, _, _, _, _, _, _, f, _, _, _, _, _, _ => by simp [flat] at f
  | 0, .tup _, _, _, _, _, _, _, f, _, _, _, _, _, _ => by simp [flat] at f
  | 0, .pool, _, _, _, _, _, _, f, _, _, _, _, _, _ => by simp [flat] at f
  | n + 1, .pool, _, _, _, _, _, _, f, _, _, _, _, _, _ => by simp [flat] at f
  | 0, .scr _, _, _, _, _, _, _, f, _, _, _, _, _, _ => by simp [flat] at f
  | n + 1, .scr _, _, _, _, _, _, _, f, _, _, _, _, _, _ => by simp [flat] at f
  | 0, .dk _ _, _, _, _, _, _, _, f, _, _, _, _, _, _ => by simp [flat] at f
  | n + 1, .dk _ _, _, _, _, _, _, _, f, _, _, _, _, _, _ => by simp [flat] at f
  | 0, .dt _ _, _, _, _, _, _, _, f, _, _, _, _, _, _ => by simp [flat] at f
  | n + 1, .dt _ _, _, _, _, _, _, _, f, _, _, _, _, _, _ => by simp [flat] at f
  | 0, .ins _ _ _, _, _, _, _, _, _, f, _, _, _, _, _, _ => by simp [flat] at f
  | n + 1, .ins _ _ _, _, _, _, _, _, _, f, _, _, _, _, _, _ => by simp [flat] at f
  | 0, .slt _ _, _, _, _, _, _, _, f, _, _, _, _, _, _ => by simp [flat] at f
  | n + 1, .slt _ _, _, _, _, _, _, _, f, _, _, _, _, _, _ => by simp [flat] at f
  | 0, .fn _, _, _, _, _, _, _, f, _, _, _, _, _, _ => by simp [flat] at f
  | 0, .adr _, _, _, _, _, _, _, f, _, _, _, _, _, _ => by simp [flat] at f
  | n + 1, .fn _, _, _, _, _, _, _, f, _, _, _, _, _, _ => by simp [flat] at f
  | n + 1, .adr _, _, _, _, _, _, _, f, _, _, _, _, _, _ => by simp [flat] at f
  | n + 1, .lst ds, e, A, _, _, _, _, fd, fe, h, h', r, r', hu => by
    cases h with
    | @lst a xs _ h1 h2 =>
      cases r
      obtain ⟨its, rv, hl, len1, _⟩ := Rp.isList I (SqL.of h1)
      cases h' with
      | non => cases r'; exact EqAt.list_none hl (room_lo hu)
      | bl b => cases r'; exact EqAt.list_bool _ hl (room_lo hu)
      | int i => obtain ⟨t, rfl⟩ := r'; exact EqAt.list_int _ _ hl (room_lo hu)
      | str i _ => obtain ⟨t, rfl⟩ := r'; exact EqAt.list_str _ _ hl (room_lo hu)
      | tup k1 k2 => cases r'; obtain ⟨_, _, l, _⟩ := Rp.isTup I k1; exact EqAt.list_tuple hl l (room_lo hu)
      | pool _ => simp [flat] at fe
      | scr _ => simp [flat] at fe
      | dk _ _ _ _ => simp [flat] at fe
      | dt _ _ _ _ => simp [flat] at fe
      | ins _ _ _ _ => simp [flat] at fe
      | slt _ _ _ => simp [flat] at fe
      | fn _ => simp [flat] at fe
      | adr _ => simp [flat] at fe
      | @lst b ys es k1 k2 =>
        cases r'
        by_cases hab : a = b
        · subst hab
          have q := I.list_inj (SqL.of h1) (SqL.of k1)
          subst q
          have q2 : ds = es := RpL.inj I n ds es _ (by simpa [flat] using fd) (by simpa [flat] using fe) h2 k2
          subst q2
          have q3 : deqv (.lst ds) (.lst ds) = true := deqv_self (n + 1) _ fd
          rw [q3]
          exact EqAt.same _
        · obtain ⟨its2, rv2, hl2, len2, _⟩ := Rp.isList I (SqL.of k1)
          have e1 : its.length = ds.length := len1.trans h2.length
          have e2 : its2.length = es.length := len2.trans k2.length
          have key := eqAt_Ds I n ds es A.in1 xs ys its its2 (by simpa [flat] using fd) (by simpa [flat] using fe) h2 k2 rv rv2 (room_in hu)
          refine EqAt.of_refs hab ?_
          rw [deqv, deqvs_iff]
          by_cases hsz : its.length = its2.length
          · have hz : ds.length = es.length := by omega
            have hm : min ds.length es.length = its.toArray.size := by rw [← hz, Nat.min_self, ← e1, List.size_toArray]
            have hz' : (ds.length == es.length) = true := by rw [hz]; simp
            rw [hz', Bool.and_true, hm]
            refine RcAt.lists hl hl2 (by simpa using hsz) (room_lo hu) fun j j1 j2 => ?_
            exact key j (by simpa using j1) (by simpa using j2)
          · have hz' : (ds.length == es.length) = false := by
              rw [beq_eq_false_iff_ne]; omega
            rw [hz', Bool.and_false]
            exact RcAt.lists_lengths hl hl2 (by simpa using hsz) (room_lo hu)
  | n + 1, .tup ds, e, A, _, _, _, _, fd, fe, h, h', r, r', hu => by
    cases h with
    | @tup a xs _ h1 h2 =>
      cases r
      obtain ⟨its, rv, hl, len1, _⟩ := Rp.isTup I h1
      cases h' with
      | non => cases r'; exact EqAt.tuple_none hl (room_lo hu)
      | bl b => cases r'; exact EqAt.tuple_bool _ hl (room_lo hu)
      | int i => obtain ⟨t, rfl⟩ := r'; exact EqAt.tuple_int _ _ hl (room_lo hu)
      | str i _ => obtain ⟨t, rfl⟩ := r'; exact EqAt.tuple_str _ _ hl (room_lo hu)
      | lst k1 k2 => cases r'; obtain ⟨_, _, l, _⟩ := Rp.isList I (SqL.of k1); exact EqAt.tuple_list hl l (room_lo hu)
      | pool _ => simp [flat] at fe
      | scr _ => simp [flat] at fe
      | dk _ _ _ _ => simp [flat] at fe
      | dt _ _ _ _ => simp [flat] at fe
      | ins _ _ _ _ => simp [flat] at fe
      | slt _ _ _ => simp [flat] at fe
      | fn _ => simp [flat] at fe
      | adr _ => simp [flat] at fe
      | @tup b ys es k1 k2 =>
        cases r'
        by_cases hab : a = b
        · subst hab
          have q := I.tuple_inj h1 k1
          subst q
          have q2 : ds = es := RpL.inj I n ds es _ (by simpa [flat] using fd) (by simpa [flat] using fe) h2 k2
          subst q2
          have q3 : deqv (.tup ds) (.tup ds) = true := deqv_self (n + 1) _ fd
          rw [q3]
          exact EqAt.same _
        · obtain ⟨its2, rv2, hl2, len2, _⟩ := Rp.isTup I k1
          have e1 : its.length = ds.length := len1.trans h2.length
          have e2 : its2.length = es.length := len2.trans k2.length
          have key := eqAt_Ds I n ds es A.in1 xs ys its its2 (by simpa [flat] using fd) (by simpa [flat] using fe) h2 k2 rv rv2 (room_in hu)
          refine EqAt.of_refs hab ?_
          rw [deqv, deqvs_iff]
          have hm : min ds.length es.length = min its.toArray.size its2.toArray.size := by rw [List.size_toArray, List.size_toArray, e1, e2]
          have hq : (ds.length == es.length) = (its.toArray.size == its2.toArray.size) := by rw [List.size_toArray, List.size_toArray, e1, e2]
          rw [hm, hq]
          refine RcAt.tuples hl hl2 (room_lo hu) fun j j1 j2 => ?_
          exact key j (by simpa using j1) (by simpa using j2)
theorem eqAt_Ds (I : Inv X pins σ H s) : ∀ (n : Nat) (ds es : List D) (A : Around) (xs ys : List V) (us vs : List Value), flats n ds = true → flats n es = true → RpL X.K pa H xs ds → RpL X.K pa H ys es → Vals xs us → Vals ys vs →
    A.units + n < cLine → ∀ j (h1 : j < us.length) (h2 : j < vs.length), EqAt A s us[j] vs[j] (match ds[j]?, es[j]? with | some a, some b => deqv a b | _, _ => false)
  | n, [], _, _, _, _, _, _, _, _, h, _, r, _, _, j, h1, _ => by cases h; cases r; exact absurd h1 (Nat.not_lt_zero _)
  | n, _ :: _, [], _, _, _, _, _, _, _, _, h', _, r', _, j, _, h2 => by cases h'; cases r'; exact absurd h2 (Nat.not_lt_zero _)
  | n, d :: ds, e :: es, A, _, _, _, _, f, f', h, h', r, r', hu, j, h1, h2 => by
    rw [flats, Bool.and_eq_true] at f f'
    cases h with
    | cons a1 a2 =>
      cases h' with
      | cons b1 b2 =>
        cases r with
        | cons c1 c2 =>
          cases r' with
          | cons d1 d2 =>
            cases j with
            | zero => exact eqAt_D I n d e A _ _ _ _ f.1 f'.1 a1 b1 c1 d1 hu
            | succ j => exact eqAt_Ds I n ds es A _ _ _ _ f.2 f'.2 a2 b2 c2 d2 hu j (Nat.lt_of_succ_lt_succ h1) (Nat.lt_of_succ_lt_succ h2)
end
end
end Dt

namespace Dt
open PySem PySem.Spec PyProof.Rows L2
open PySem.SeqAt (EqAt RcAt)

/-! # Readings -/
abbrev Ev := List (Option D)
abbrev MR (α : Type) := Option (α × List Int)
abbrev M := Ev → List Int → MR D
abbrev MB := Ev → List Int → MR Bool
abbrev ML := Ev → List Int → MR (List D)
def bnd {α β : Type} (x : MR α) (f : α → List Int → MR β) : MR β := match x with | none => none | some (a, p) => f a p
theorem bnd_some {α β : Type} {x : MR α} {f : α → List Int → MR β} {b : β × List Int} (h : bnd x f = some b) : ∃ a p, x = some (a, p) ∧ f a p = some b := by
  cases x with
  | none => simp [bnd] at h
  | some q => obtain ⟨a, p⟩ := q; exact ⟨a, p, rfl, h⟩
@[simp] theorem bnd_eq {α β : Type} {a : α} {p : List Int} {f : α → List Int → MR β} : bnd (some (a, p)) f = f a p := rfl
@[simp] theorem bnd_none {α β : Type} {f : α → List Int → MR β} : bnd (none : MR α) f = none := rfl
def lft {α : Type} (x : Option α) (p : List Int) : MR α := match x with | none => none | some a => some (a, p)
@[simp] theorem lft_some {α : Type} {a : α} {p : List Int} : lft (some a) p = some (a, p) := rfl
@[simp] theorem lft_none {α : Type} {p : List Int} : lft (none : Option α) p = none := rfl
theorem lft_eq {α : Type} {x : Option α} {p q : List Int} {b : α} (h : lft x p = some (b, q)) : ∃ a, x = some a ∧ a = b ∧ p = q := by
  cases x with
  | none => simp at h
  | some a => simp at h; exact ⟨a, rfl, h.1, h.2⟩
theorem pr {α : Type} {a b : α} {p q : List Int} (h : some (a, p) = some (b, q)) : a = b ∧ p = q := by
  cases h; exact ⟨rfl, rfl⟩

structure EnvE (K : PySem.W.Frag) (pa : Option Addr) (H : Hp) (σ : L2.St) (r : Ev) : Prop where
  len : σ.length = r.length
  at_ : ∀ (i : Nat) (d : D), r[i]? = some (some d) → ∃ v, σ[i]? = some (some v) ∧ Rp K pa H v d
theorem EnvE.mono {K : PySem.W.Frag} {pa : Option Addr} {H H' : Hp} {σ : L2.St} {r : Ev} (e : EnvE K pa H σ r) (s : Same H H') : EnvE K pa H' σ r :=
  ⟨e.len, fun i d h => let ⟨v, a, b⟩ := e.at_ i d h; ⟨v, a, Rp.mono s d v b⟩⟩
/-- where a reading stands -/
structure Cn (K : PySem.W.Frag) (pa : Option Addr) (S : Addr → Prop) (σ : L2.St) (H : Hp) (r : Ev) (p : List Int) : Prop where
  sta : Sta pa S H p
  env : EnvE K pa (hid S H) σ r
section
variable {K : PySem.W.Frag} {pa : Option Addr} {S : Addr → Prop} {σ : L2.St} {H H' : Hp} {r : Ev} {p p' : List Int}
theorem Cn.go (c : Cn K pa S σ H r p) (e : Ext pa H H') (s : Sta pa S H' p') : Cn K pa S σ H' r p' := ⟨s, c.env.mono (e.hid c.sta)⟩
theorem Cn.same (c : Cn K pa S σ H r p) (e : Same H H') : Cn K pa S σ H' r p := ⟨c.sta.same e, c.env.mono (Same.hid e)⟩
end
def PostE (K : PySem.W.Frag) (pa : Option Addr) (S : Addr → Prop) (H : Hp) (p' : List Int) (d : D) (Q : VK) : Prop := ∀ v H', Ext pa H H' → Sta pa S H' p' → Rp K pa (hid S H') v d → Q v H'
def tM (K : PySem.W.Frag) (m : M) : TE := fun σ H Q => ∃ pa S r p d p', Cn K pa S σ H r p ∧ m r p = some (d, p') ∧ PostE K pa S H p' d Q
def tMB (K : PySem.W.Frag) (m : MB) : TT := fun σ H Q => ∃ pa S r p b p', Cn K pa S σ H r p ∧ m r p = some (b, p') ∧ ∀ H', Ext pa H H' → Sta pa S H' p' → Q b H'
def tML (K : PySem.W.Frag) (m : ML) : TA := fun σ H Q => ∃ pa S r p ds p', Cn K pa S σ H r p ∧ m r p = some (ds, p') ∧ ∀ vs H', Ext pa H H' → Sta pa S H' p' → RpL K pa (hid S H') vs ds → Q vs H'

structure JE (X : Cx) (e : Expr) (m : M) : Prop where pe : PE X e (tM X.K m)
structure JT (X : Cx) (e : Expr) (m : MB) : Prop where pt : PT X e (tMB X.K m)
structure JW (X : Cx) (e : Expr) (m : MB) : Prop where pw : PW X e (tMB X.K m)
structure JA (X : Cx) (es : List Expr) (m : ML) : Prop where pa : PA X es (tML X.K m)

theorem _root_.L2.PE.weak {X : Cx} {e : Expr} {t t' : TE} (h : PE X e t) (w : ∀ σ H Q, t' σ H Q → t σ H Q) : PE X e t' := ⟨fun pins s σ H Q I q => h.run pins s σ H Q I (w σ H Q q)⟩
theorem _root_.L2.PT.weak {X : Cx} {e : Expr} {t t' : TT} (h : PT X e t) (w : ∀ σ H Q, t' σ H Q → t σ H Q) : PT X e t' := ⟨fun pins s σ H Q I q => h.run pins s σ H Q I (w σ H Q q)⟩
theorem _root_.L2.PW.weak {X : Cx} {e : Expr} {t t' : TT} (h : PW X e t) (w : ∀ σ H Q, t' σ H Q → t σ H Q) : PW X e t' := ⟨fun wh pins s σ H Q I q => h.run wh pins s σ H Q I (w σ H Q q)⟩
theorem _root_.L2.PA.weak {X : Cx} {e : List Expr} {t t' : TA} (h : PA X e t) (w : ∀ σ H Q, t' σ H Q → t σ H Q) : PA X e t' := ⟨fun pos pins s σ H Q I q => h.run pos pins s σ H Q I (w σ H Q q)⟩

/-! ## names, constants -/
def mVar (i : Nat) : M := fun r p => match r[i]? with | some (some d) => some (d, p) | _ => none
def mC (d : D) : M := fun _ p => some (d, p)
theorem je_var {X : Cx} (i : Nat) {x : Str} {pos : Pos} (hN : X.N[i]? = some x := by rfl) (hv : Vis X.env.scope x := by first | exact Or.inl rfl | exact Or.inr (Or.inl rfl) | exact Or.inr (Or.inr rfl)) (hd : (x == ("__debug__" : Str)) = false := by decide) (hcd : (x == ("__classdict__" : Str)) = false := by decide) :
    JE X (.Name x pos) (mVar i) := ⟨(pe_var hN hv hd hcd).weak fun σ H Q ⟨pa, S, r, p, d, p', c, e, q⟩ => by
  unfold mVar at e
  split at e
  · rename_i d' hd'
    cases e
    obtain ⟨v, h1, h2⟩ := c.env.at_ i _ hd'
    exact ⟨v, h1, q v H Ext.refl c.sta h2⟩
  · cases e⟩
theorem je_of {X : Cx} {e : Expr} {v : V} {d : D} (h : PE X e (tC v)) (r : ∀ pa H, Rp X.K pa H v d) : JE X e (mC d) := ⟨h.weak fun σ H Q ⟨pa, S, r', p, d', p', c, e, q⟩ => by
  cases e
  exact q v H Ext.refl c.sta (r _ _)⟩
theorem je_int {X : Cx} {i j pos} : JE X (.Constant (.int i) j pos) (mC (.int i)) := je_of pe_int fun _ _ => .int i
theorem je_bl {X : Cx} {b j pos} : JE X (.Constant (.bool b) j pos) (mC (.bl b)) := je_of pe_bl fun _ _ => .bl b
theorem je_non {X : Cx} {j pos} : JE X (.Constant .none j pos) (mC .non) := je_of pe_non fun _ _ => .non
theorem je_str {X : Cx} {x : Str} {j pos} (h : x.length ≤ lim := by decide +kernel) : JE X (.Constant (.str x) j pos) (mC (.str x)) := je_of pe_str fun _ _ => .str x h
theorem je_glob {X : Cx} {x : Str} {v : V} {d : D} {u : Value} {pos : Pos} (hm : X.mg x = some u) (r : RelV v u) (rp : ∀ pa H, Rp X.K pa H v d) (hg : Gl X x := by rfl) (hd : (x == ("__debug__" : Str)) = false := by decide) : JE X (.Name x pos) (mC d) :=
  je_of (pe_glob hg hm r hd) rp

/-! ## operators -/
def OpD (K : PySem.W.Frag) (r2 : R2) (f : D → D → Option D) : Prop := ∀ (pa : Option Addr) (S : Addr → Prop) (H : Hp) (p : List Int) (x y : V) (d e z : D) (Q : VK), Sta pa S H p → Rp K pa (hid S H) x d → Rp K pa (hid S H) y e → f d e = some z →
  (∀ v H', Same H H' → Rp K pa (hid S H') v z → Q v H') → r2 x y H Q
def UnD (K : PySem.W.Frag) (r1 : V → Hp → VK → Prop) (f : D → Option D) : Prop := ∀ (pa : Option Addr) (S : Addr → Prop) (H : Hp) (p : List Int) (x : V) (d z : D) (Q : VK), Sta pa S H p → Rp K pa (hid S H) x d → f d = some z →
  (∀ v H', Same H H' → Rp K pa (hid S H') v z → Q v H') → r1 x H Q
def CallD (K : PySem.W.Frag) (rc : List V → Hp → VK → Prop) (f : List D → Option D) : Prop := ∀ (pa : Option Addr) (S : Addr → Prop) (H : Hp) (p : List Int) (xs : List V) (ds : List D) (z : D) (Q : VK), Sta pa S H p → RpL K pa (hid S H) xs ds → f ds = some z →
  (∀ v H', Same H H' → Rp K pa (hid S H') v z → Q v H') → rc xs H Q
def MtD (K : PySem.W.Frag) (T : String) (rm : V → List V → Hp → VK → Prop) (f : D → List D → Option D) : Prop := ∀ (pa : Option Addr) (S : Addr → Prop) (H : Hp) (p : List Int) (x : V) (xs : List V) (d : D) (ds : List D) (z : D) (Q : VK), Sta pa S H p → Rp K pa (hid S H) x d → RpL K pa (hid S H) xs ds → f d ds = some z →
  (∀ v H', Same H H' → Rp K pa (hid S H') v z → Q v H') → rm x xs H Q
def mOp (f : D → D → Option D) (a b : M) : M := fun r p => bnd (a r p) fun x p => bnd (b r p) fun y p => lft (f x y) p
def mUn (f : D → Option D) (a : M) : M := fun r p => bnd (a r p) fun x p => lft (f x) p
def mNil : ML := fun _ p => some ([], p)
def mCons (a : M) (b : ML) : ML := fun r p => bnd (a r p) fun x p => bnd (b r p) fun xs p => some (x :: xs, p)
def mCB (f : List D → Option D) (a : ML) : M := fun r p => bnd (a r p) fun xs p => lft (f xs) p
def mMt (f : D → List D → Option D) (o : M) (a : ML) : M := fun r p => bnd (o r p) fun x p => bnd (a r p) fun xs p => lft (f x xs) p

section
variable {K : PySem.W.Frag} {pa : Option Addr} {S : Addr → Prop} {σ : L2.St} {H H' : Hp} {r : Ev} {p p' : List Int} {Q : VK} {d : D}
theorem PostE.after (c : Cn K pa S σ H r p) (q : PostE K pa S H p' d Q) (e : Ext pa H H') : PostE K pa S H' p' d Q := fun v H2 e2 s r => q v H2 (e.trans e2) s r
theorem PostE.val (c : Sta pa S H p) (q : PostE K pa S H p d Q) : ∀ v H', Same H H' → Rp K pa (hid S H') v d → Q v H' := fun v H' e r => q v H' (Ext.of e) (c.same e) r
end

theorem red_op {K : PySem.W.Frag} {r2 : R2} {f : D → D → Option D} (hf : OpD K r2 f) {a b : M} {σ : L2.St} {H : Hp} {Q : VK} (h : tM K (mOp f a b) σ H Q) : tOp r2 (tM K a) (tM K b) σ H Q := by
  obtain ⟨pa, S, r, p, d, p', c, e, q⟩ := h
  obtain ⟨x, p1, e1, e⟩ := bnd_some e
  obtain ⟨y, p2, e2, e⟩ := bnd_some e
  obtain ⟨z, e3, rfl, rfl⟩ := lft_eq e
  refine ⟨pa, S, r, p, x, p1, c, e1, fun v1 H1 x1 s1 r1 => ?_⟩
  have c1 := c.go x1 s1
  refine ⟨pa, S, r, p1, y, p2, c1, e2, fun v2 H2 x2 s2 r2' => ?_⟩
  exact hf pa S H2 p2 v1 v2 x y z Q s2 (Rp.mono (x2.hid s1) _ _ r1) r2' e3 ((q.after c (x1.trans x2)).val s2)
theorem red_un {K : PySem.W.Frag} {r1 : V → Hp → VK → Prop} {f : D → Option D} (hf : UnD K r1 f) {a : M} {σ : L2.St} {H : Hp} {Q : VK} (h : tM K (mUn f a) σ H Q) : tUn r1 (tM K a) σ H Q := by
  obtain ⟨pa, S, r, p, d, p', c, e, q⟩ := h
  obtain ⟨x, p1, e1, e⟩ := bnd_some e
  obtain ⟨z, e3, rfl, rfl⟩ := lft_eq e
  exact ⟨pa, S, r, p, x, p1, c, e1, fun v1 H1 x1 s1 r1' => hf pa S H1 p1 v1 x z Q s1 r1' e3 ((q.after c x1).val s1)⟩
theorem red_cb {K : PySem.W.Frag} {rc : List V → Hp → VK → Prop} {f : List D → Option D} (hf : CallD K rc f) {a : ML} {σ : L2.St} {H : Hp} {Q : VK} (h : tM K (mCB f a) σ H Q) : tCB rc (tML K a) σ H Q := by
  obtain ⟨pa, S, r, p, d, p', c, e, q⟩ := h
  obtain ⟨x, p1, e1, e⟩ := bnd_some e
  obtain ⟨z, e3, rfl, rfl⟩ := lft_eq e
  exact ⟨pa, S, r, p, x, p1, c, e1, fun v1 H1 x1 s1 r1' => hf pa S H1 p1 v1 x z Q s1 r1' e3 ((q.after c x1).val s1)⟩
theorem red_cons {K : PySem.W.Frag} {a : M} {b : ML} {σ : L2.St} {H : Hp} {Q : List V → Hp → Prop} (h : tML K (mCons a b) σ H Q) : tCons (tM K a) (tML K b) σ H Q := by
  obtain ⟨pa, S, r, p, d, p', c, e, q⟩ := h
  obtain ⟨x, p1, e1, e⟩ := bnd_some e
  obtain ⟨y, p2, e2, e⟩ := bnd_some e
  obtain ⟨rfl, rfl⟩ := pr e
  refine ⟨pa, S, r, p, x, p1, c, e1, fun v1 H1 x1 s1 r1 => ?_⟩
  exact ⟨pa, S, r, p1, y, p2, c.go x1 s1, e2, fun v2 H2 x2 s2 r2' => q _ H2 (x1.trans x2) s2 (.cons (Rp.mono (x2.hid s1) _ _ r1) r2')⟩
theorem red_mt1 {K : PySem.W.Frag} {T : String} {rm : V → List V → Hp → VK → Prop} {f : D → List D → Option D} (hf : MtD K T rm f) (ht : ∀ pa S H x d ds z, Rp K pa (hid S H) x d → f d ds = some z → tyV K T x H)
    {o : M} {a : ML} {σ : L2.St} {H : Hp} {Q : VK} (h : tM K (mMt f o a) σ H Q) : tBM K T rm (tM K o) (tML K a) σ H Q := by
  obtain ⟨pa, S, r, p, d, p', c, e, q⟩ := h
  obtain ⟨x, p1, e1, e⟩ := bnd_some e
  obtain ⟨y, p2, e2, e⟩ := bnd_some e
  obtain ⟨z, e3, rfl, rfl⟩ := lft_eq e
  refine ⟨pa, S, r, p, x, p1, c, e1, fun v1 H1 x1 s1 r1 => ⟨ht pa S H1 v1 x y z r1 e3, ?_⟩⟩
  exact ⟨pa, S, r, p1, y, p2, c.go x1 s1, e2, fun v2 H2 x2 s2 r2' => hf pa S H2 p2 v1 v2 x y z Q s2 (Rp.mono (x2.hid s1) _ _ r1) r2' e3 ((q.after c (x1.trans x2)).val s2)⟩
theorem red_mt0 {K : PySem.W.Frag} {T : String} {rm : V → List V → Hp → VK → Prop} {f : D → List D → Option D} (hf : MtD K T rm f) (ht : ∀ pa S H x d ds z, Rp K pa (hid S H) x d → f d ds = some z → tyV K T x H)
    {o : M} {σ : L2.St} {H : Hp} {Q : VK} (h : tM K (mMt f o mNil) σ H Q) : tBM0 K T rm (tM K o) σ H Q := by
  obtain ⟨pa, S, r, p, d, p', c, e, q⟩ := h
  obtain ⟨x, p1, e1, e⟩ := bnd_some e
  obtain ⟨y, p2, e2, e⟩ := bnd_some e
  obtain ⟨z, e3, rfl, rfl⟩ := lft_eq e
  cases e2
  exact ⟨pa, S, r, p, x, p1, c, e1, fun v1 H1 x1 s1 r1 => ⟨ht pa S H1 v1 x [] z r1 e3, hf pa S H1 p1 v1 [] x [] z Q s1 r1 .nil e3 ((q.after c x1).val s1)⟩⟩

section
variable {X : Cx} {a b : Expr} {ma mb : M} {pos : Pos}
theorem je_op {op : Operator} {r2 : R2} {f : D → D → Option D} (ho : OpR X (binaryOp op) r2) (hf : OpD X.K r2 f) (ha : JE X a ma) (hb : JE X b mb) : JE X (.BinOp a op b pos) (mOp f ma mb) :=
  ⟨(pe_op ho ha.pe hb.pe).weak fun σ H Q => red_op hf⟩
theorem je_un {op : UnaryOp} {r1 : V → Hp → VK → Prop} {f : D → Option D} (ho : UnR X (unaryOp op) r1) (hf : UnD X.K r1 f) (ha : JE X a ma) : JE X (.UnaryOp op a pos) (mUn f ma) :=
  ⟨(pe_un ho ha.pe).weak fun σ H Q => red_un hf⟩
theorem je_cmp {op : CmpOp} {r2 : R2} {f : D → D → Option D} (ho : OpR X (compareOp op) r2) (hf : OpD X.K r2 f) (ha : JE X a ma) (hb : JE X b mb) (hm : behindInMarks op b = false) : JE X (.Compare a [op] [b] pos) (mOp f ma mb) :=
  ⟨(pe_cmpR ho ha.pe hb.pe hm).weak fun σ H Q => red_op hf⟩
/-- a value that is a bool, as a test -/
def mTst (a : M) : MB := fun r p => bnd (a r p) fun x p => match x with | .bl b => some (b, p) | _ => none
theorem red_tst {K : PySem.W.Frag} {t : TE} {m : M} (h : ∀ σ H Q, tM K m σ H Q → t σ H Q) {σ : L2.St} {H : Hp} {Q : Bool → Hp → Prop} (q : tMB K (mTst m) σ H Q) : tTest t σ H Q := by
  obtain ⟨pa, S, r, p, d, p', c, e, q⟩ := q
  obtain ⟨x, p1, e1, e⟩ := bnd_some e
  refine h _ _ _ ⟨pa, S, r, p, x, p1, c, e1, fun v H' x1 s1 r1 => ?_⟩
  cases x with
  | bl b =>
    obtain ⟨rfl, rfl⟩ := pr e
    cases r1
    exact ⟨b, rfl, q H' x1 s1⟩
  | _ => cases e
theorem jt_cmp {op : CmpOp} {r2 : R2} {f : D → D → Option D} (ho : OpR X (compareOp op) r2) (hf : OpD X.K r2 f) (ha : JE X a ma) (hb : JE X b mb) (hm : behindInMarks op b = false) : JT X (.Compare a [op] [b] pos) (mTst (mOp f ma mb)) :=
  ⟨(pt_cmpR ho ha.pe hb.pe hm).weak fun σ H Q => red_tst (fun σ H Q => red_op hf)⟩
/-- two comparisons -/
def mChain (f g : D → D → Option D) (a b c : M) : M := fun r p => bnd (a r p) fun x p => bnd (b r p) fun y p => bnd (lft (f x y) p) fun z p => match z with | .bl true => bnd (c r p) fun w p => lft (g y w) p | .bl false => some (.bl false, p) | _ => none
theorem red_chain {K : PySem.W.Frag} {r2 r2' : R2} {f g : D → D → Option D} (hf : OpD K r2 f) (hg : OpD K r2' g) {a b cc : M} {σ : L2.St} {H : Hp} {Q : VK} (h : tM K (mChain f g a b cc) σ H Q) : tChain r2 r2' (tM K a) (tM K b) (tM K cc) σ H Q := by
  obtain ⟨pa, S, r, p, d, p', c, e, q⟩ := h
  obtain ⟨x, p1, e1, e⟩ := bnd_some e
  obtain ⟨y, p2, e2, e⟩ := bnd_some e
  obtain ⟨zz, p3, e3, e⟩ := bnd_some e
  obtain ⟨z, e4, rfl, rfl⟩ := lft_eq e3
  refine ⟨pa, S, r, p, x, p1, c, e1, fun v1 H1 x1 s1 r1 => ?_⟩
  have c1 := c.go x1 s1
  refine ⟨pa, S, r, p1, y, p2, c1, e2, fun v2 H2 x2 s2 r2' => ?_⟩
  have c2 := c1.go x2 s2
  refine hf pa S H2 p2 v1 v2 x y z _ s2 (Rp.mono (x2.hid s1) _ _ r1) r2' e4 fun v3 H3 x3 r3 => ?_
  have c3 := c2.same x3
  cases z with
  | bl k =>
    cases r3
    refine ⟨k, rfl, ?_⟩
    cases k with
    | true =>
      obtain ⟨w, p4, e6, e⟩ := bnd_some e
      obtain ⟨w', e7, rfl, rfl⟩ := lft_eq e
      show tM K cc σ H3 _
      refine ⟨pa, S, r, p2, w, p4, c3, e6, fun v4 H4 x4 s4 r4 => ?_⟩
      exact hg pa S H4 p4 v2 v4 y w _ Q s4 (Rp.mono (x4.hid c3.sta) _ _ (Rp.mono (Same.hid x3) _ _ r2')) r4 e7 ((q.after c (((x1.trans x2).trans (Ext.of x3)).trans x4)).val s4)
    | false =>
      cases e
      exact q _ H3 ((x1.trans x2).trans (Ext.of x3)) c3.sta (.bl false)
  | _ => cases e
variable {cx : Expr} {mc : M}
theorem je_chain {op op' : CmpOp} {r2 r2' : R2} {f g : D → D → Option D} (ho : OpR X (compareOp op) r2) (hf : OpD X.K r2 f) (ho' : OpR X (compareOp op') r2') (hg : OpD X.K r2' g) (ha : JE X a ma) (hb : JE X b mb) (hc : JE X cx mc)
    (hm : lastMarks [op, op'] [b, cx] = false := by with_unfolding_all rfl) : JE X (.Compare a [op, op'] [b, cx] pos) (mChain f g ma mb mc) := ⟨(pe_chain ho ho' ha.pe hb.pe hc.pe hm).weak fun σ H Q => red_chain hf hg⟩
theorem jt_chain {op op' : CmpOp} {r2 r2' : R2} {f g : D → D → Option D} (ho : OpR X (compareOp op) r2) (hf : OpD X.K r2 f) (ho' : OpR X (compareOp op') r2') (hg : OpD X.K r2' g) (ha : JE X a ma) (hb : JE X b mb) (hc : JE X cx mc)
    (hm : lastMarks [op, op'] [b, cx] = false := by with_unfolding_all rfl) : JT X (.Compare a [op, op'] [b, cx] pos) (mTst (mChain f g ma mb mc)) := ⟨(pt_chain ho ho' ha.pe hb.pe hc.pe hm).weak fun σ H Q => red_tst fun σ H Q => red_chain hf hg⟩
end

/-! ## truth, and, or, not -/
def dTru : D → Option Bool
  | .non => some false | .bl b => some b | .int i => some (i != 0) | .str x => some (x.length != 0) | .lst xs => some (!xs.isEmpty) | .tup xs => some (!xs.isEmpty) | _ => none
theorem RpL.empty {K : PySem.W.Frag} {pa : Option Addr} {H : Hp} {vs : List V} {ds : List D} (h : RpL K pa H vs ds) : ds.isEmpty = vs.isEmpty := by
  cases h <;> rfl
theorem tru_D {K : PySem.W.Frag} {pa : Option Addr} {S : Addr → Prop} {H : Hp} {v : V} {d : D} {b : Bool} (r : Rp K pa (hid S H) v d) (h : dTru d = some b) : TruV K v H b := by
  cases r with
  | non => cases h; rfl
  | bl b => cases h; rfl
  | int i => cases h; rfl
  | str x z =>
    cases h
    refine ⟨Nat.le_trans z (by have := lim_lt; omega), ?_⟩
    by_cases q : x.length = 0
    · rw [q]; rfl
    · have q2 : (x.length : Int) ≠ 0 := by omega
      have e1 : (x.length != 0) = true := bne_iff_ne.mpr q
      have e2 : ((x.length : Int) != 0) = true := bne_iff_ne.mpr q2
      rw [e1, e2]
  | lst h1 h2 => cases h; exact .inl ⟨_, SqL.of (hid_sub _ _ h1), by rw [h2.empty]⟩
  | tup h1 h2 => cases h; exact .inr (.inl ⟨_, sameT hid_sub h1, by rw [h2.empty]⟩)
  | pool _ => cases h
  | scr _ => cases h
  | dk _ _ _ _ => cases h
  | dt _ _ _ _ => cases h
  | ins _ _ _ _ => cases h
  | slt _ _ _ => cases h
  | fn _ => cases h
  | adr _ => cases h
def mTru (a : M) : MB := fun r p => bnd (a r p) fun x p => lft (dTru x) p
section
variable {X : Cx} {a b : Expr} {ma mb : M} {mA mB : MB} {pos : Pos} {rest : List Expr}
theorem jt_tru (ha : JE X a ma) (he : ∀ whole, isTrue a X.env whole = (do let v ← whole; standAt a.pos; holding [v] (truthy v)) := by intro _; rfl) : JT X a (mTru ma) := ⟨(pt_truth ha.pe he).weak fun σ H Q ⟨pa, S, r, p, d, p', c, e, q⟩ => by
  obtain ⟨x, p1, e1, e⟩ := bnd_some e
  obtain ⟨z, e3, rfl, rfl⟩ := lft_eq e
  exact ⟨pa, S, r, p, x, p1, c, e1, fun v1 H1 x1 s1 r1 => ⟨z, tru_D r1 e3, q H1 x1 s1⟩⟩⟩
def mAnd (a b : MB) : MB := fun r p => bnd (a r p) fun x p => if x = true then b r p else some (false, p)
def mOr (a b : MB) : MB := fun r p => bnd (a r p) fun x p => if x = true then some (true, p) else b r p
def mNot (a : MB) : MB := fun r p => bnd (a r p) fun x p => some (!x, p)
def mIf (t : MB) (a b : M) : M := fun r p => bnd (t r p) fun x p => if x = true then a r p else b r p
theorem jw_and1 (h : JT X a mA) : JW X (.BoolOp .And [a] pos) mA := ⟨pw_and1 h.pt⟩
theorem jw_or1 (h : JT X a mA) : JW X (.BoolOp .Or [a] pos) mA := ⟨pw_or1 h.pt⟩
theorem jw_and (h : JT X a mA) (h' : JW X (.BoolOp .And (b :: rest) pos) mB) : JW X (.BoolOp .And (a :: b :: rest) pos) (mAnd mA mB) := ⟨(pw_and h.pt h'.pw).weak fun σ H Q ⟨pa, S, r, p, d, p', c, e, q⟩ => by
  obtain ⟨x, p1, e1, e⟩ := bnd_some e
  refine ⟨pa, S, r, p, x, p1, c, e1, fun H1 x1 s1 => ?_⟩
  cases x with
  | true => exact ⟨pa, S, r, p1, d, p', c.go x1 s1, e, fun H2 x2 s2 => q H2 (x1.trans x2) s2⟩
  | false =>
    obtain ⟨rfl, rfl⟩ := pr e
    exact q H1 x1 s1⟩
theorem jw_or (h : JT X a mA) (h' : JW X (.BoolOp .Or (b :: rest) pos) mB) : JW X (.BoolOp .Or (a :: b :: rest) pos) (mOr mA mB) := ⟨(pw_or h.pt h'.pw).weak fun σ H Q ⟨pa, S, r, p, d, p', c, e, q⟩ => by
  obtain ⟨x, p1, e1, e⟩ := bnd_some e
  refine ⟨pa, S, r, p, x, p1, c, e1, fun H1 x1 s1 => ?_⟩
  cases x with
  | false => exact ⟨pa, S, r, p1, d, p', c.go x1 s1, e, fun H2 x2 s2 => q H2 (x1.trans x2) s2⟩
  | true =>
    obtain ⟨rfl, rfl⟩ := pr e
    exact q H1 x1 s1⟩
theorem JW.jt {e : Expr} (h : JW X e mA) : JT X e mA := ⟨h.pw.pt⟩
theorem jt_not (h : JT X a mA) : JT X (.UnaryOp .Not a pos) (mNot mA) := ⟨(pt_not h.pt).weak fun σ H Q ⟨pa, S, r, p, d, p', c, e, q⟩ => by
  obtain ⟨x, p1, e1, e⟩ := bnd_some e
  obtain ⟨rfl, rfl⟩ := pr e
  exact ⟨pa, S, r, p, x, p1, c, e1, q⟩⟩
theorem je_if {t : Expr} {mT : MB} (h : JT X t mT) (ha : JE X a ma) (hb : JE X b mb) : JE X (.IfExp t a b pos) (mIf mT ma mb) := ⟨(pe_ifExp h.pt ha.pe hb.pe).weak fun σ H Q ⟨pa, S, r, p, d, p', c, e, q⟩ => by
  obtain ⟨x, p1, e1, e⟩ := bnd_some e
  refine ⟨pa, S, r, p, x, p1, c, e1, fun H1 x1 s1 => ?_⟩
  cases x with
  | true => exact ⟨pa, S, r, p1, d, p', c.go x1 s1, e, q.after c x1⟩
  | false => exact ⟨pa, S, r, p1, d, p', c.go x1 s1, e, q.after c x1⟩⟩
/-- and, or as values -/
def mAndV (a b : M) : M := fun r p => bnd (a r p) fun x p => bnd (lft (dTru x) p) fun k p => if k = true then b r p else some (x, p)
def mOrV (a b : M) : M := fun r p => bnd (a r p) fun x p => bnd (lft (dTru x) p) fun k p => if k = true then some (x, p) else b r p
def mNotV (a : M) : M := fun r p => bnd (a r p) fun x p => bnd (lft (dTru x) p) fun k p => some (.bl (!k), p)
theorem je_one {op} (h : JE X a ma) : JE X (.BoolOp op [a] pos) ma := ⟨pe_one h.pe⟩
theorem je_and (h : JE X a ma) (h' : JE X (.BoolOp .And (b :: rest) pos) mb) : JE X (.BoolOp .And (a :: b :: rest) pos) (mAndV ma mb) := ⟨(pe_andT h.pe h'.pe).weak fun σ H Q ⟨pa, S, r, p, d, p', c, e, q⟩ => by
  obtain ⟨x, p1, e1, e⟩ := bnd_some e
  obtain ⟨kk, p2, e2, e⟩ := bnd_some e
  obtain ⟨k, e3, rfl, rfl⟩ := lft_eq e2
  refine ⟨pa, S, r, p, x, p1, c, e1, fun v1 H1 x1 s1 r1 => ⟨k, tru_D r1 e3, ?_⟩⟩
  cases k with
  | true => exact ⟨pa, S, r, p1, d, p', c.go x1 s1, e, q.after c x1⟩
  | false =>
    obtain ⟨rfl, rfl⟩ := pr e
    exact q v1 H1 x1 s1 r1⟩
theorem je_or (h : JE X a ma) (h' : JE X (.BoolOp .Or (b :: rest) pos) mb) : JE X (.BoolOp .Or (a :: b :: rest) pos) (mOrV ma mb) := ⟨(pe_orT h.pe h'.pe).weak fun σ H Q ⟨pa, S, r, p, d, p', c, e, q⟩ => by
  obtain ⟨x, p1, e1, e⟩ := bnd_some e
  obtain ⟨kk, p2, e2, e⟩ := bnd_some e
  obtain ⟨k, e3, rfl, rfl⟩ := lft_eq e2
  refine ⟨pa, S, r, p, x, p1, c, e1, fun v1 H1 x1 s1 r1 => ⟨k, tru_D r1 e3, ?_⟩⟩
  cases k with
  | false => exact ⟨pa, S, r, p1, d, p', c.go x1 s1, e, q.after c x1⟩
  | true =>
    obtain ⟨rfl, rfl⟩ := pr e
    exact q v1 H1 x1 s1 r1⟩
theorem je_not (h : JE X a ma) : JE X (.UnaryOp .Not a pos) (mNotV ma) := ⟨(pe_notT h.pe).weak fun σ H Q ⟨pa, S, r, p, d, p', c, e, q⟩ => by
  obtain ⟨x, p1, e1, e⟩ := bnd_some e
  obtain ⟨kk, p2, e2, e⟩ := bnd_some e
  obtain ⟨k, e3, rfl, rfl⟩ := lft_eq e2
  obtain ⟨rfl, rfl⟩ := pr e
  exact ⟨pa, S, r, p, x, p1, c, e1, fun v1 H1 x1 s1 r1 => ⟨k, tru_D r1 e3, q _ H1 x1 s1 (.bl _)⟩⟩⟩
end

/-! ## arguments, displays -/
section
variable {X : Cx} {e : Expr} {es : List Expr} {me : M} {ms : ML} {pos : Pos}
theorem ja_nil : JA X [] mNil := ⟨pa_nil.weak fun σ H Q ⟨pa, S, r, p, d, p', c, e, q⟩ => by
  cases e
  exact q [] H Ext.refl c.sta .nil⟩
theorem ja_cons (h : JE X e me) (h' : JA X es ms) (hs : starEach (e :: es) X.env = (false, eval e X.env) :: starEach es X.env := by rfl) : JA X (e :: es) (mCons me ms) := ⟨(pa_cons h.pe h'.pa hs).weak fun σ H Q => red_cons⟩
def mTup (a : ML) : M := fun r p => bnd (a r p) fun xs p => if xs.length ≤ lim then some (.tup xs, p) else none
def mLst (a : ML) : M := fun r p => bnd (a r p) fun xs p => if xs.length ≤ lim then some (.lst xs, p) else none
theorem Rp.newT {K : PySem.W.Frag} {pa : Option Addr} {S : Addr → Prop} {H : Hp} {p : List Int} {a : Addr} {vs : List V} {ds : List D} (s : Sta pa S H p) (r : RpL K pa (hid S H) vs ds) (n : H a = none) : Rp K pa (hid S (upd H a (.tup vs))) (.ref a) (.tup ds) :=
  .tup (SqT.of (hid_of (s.new n) upd_same)) (RpL.mono (Same.hid (same_upd n)) _ _ r)
theorem Rp.newL {K : PySem.W.Frag} {pa : Option Addr} {S : Addr → Prop} {H : Hp} {p : List Int} {a : Addr} {vs : List V} {ds : List D} (s : Sta pa S H p) (r : RpL K pa (hid S H) vs ds) (n : H a = none) : Rp K pa (hid S (upd H a (.lst vs))) (.ref a) (.lst ds) :=
  .lst (hid_of (s.new n) upd_same) (RpL.mono (Same.hid (same_upd n)) _ _ r)
theorem lim_sz {n : Nat} (h : n ≤ lim) : n ≤ sizeLine := by have := lim_lt; omega
theorem je_tup {k} (h : JA X es ms) : JE X (.Tuple es k pos) (mTup ms) := ⟨(pe_tup h.pa).weak fun σ H Q ⟨pa, S, r, p, d, p', c, e, q⟩ => by
  obtain ⟨xs, p1, e1, e⟩ := bnd_some e
  split at e
  · rename_i hl
    obtain ⟨rfl, rfl⟩ := pr e
    refine ⟨pa, S, r, p, xs, p1, c, e1, fun v1 H1 x1 s1 r1 => ⟨by rw [r1.length]; exact lim_sz hl, fun a n => ?_⟩⟩
    exact q _ _ (x1.trans (Ext.of (same_upd n))) (s1.same (same_upd n)) (Rp.newT s1 r1 n)
  · cases e⟩
theorem je_lst (h : JA X es ms) : JE X (.List es pos) (mLst ms) := ⟨(pe_lst h.pa).weak fun σ H Q ⟨pa, S, r, p, d, p', c, e, q⟩ => by
  obtain ⟨xs, p1, e1, e⟩ := bnd_some e
  split at e
  · rename_i hl
    obtain ⟨rfl, rfl⟩ := pr e
    refine ⟨pa, S, r, p, xs, p1, c, e1, fun v1 H1 x1 s1 r1 => ⟨by rw [r1.length]; exact lim_sz hl, fun a n => ?_⟩⟩
    exact q _ _ (x1.trans (Ext.of (same_upd n))) (s1.same (same_upd n)) (Rp.newL s1 r1 n)
  · cases e⟩
end
end Dt

namespace Dt
open PySem PySem.Spec PyProof.Rows L2
open PySem.SeqAt (EqAt RcAt RcNeAt)

/-! # The operators on data -/
section
variable {X : Cx} {K : PySem.W.Frag}
def dAdd : D → D → Option D
  | .int i, .int j => some (.int (i + j))
  | .str a, .str b => if a.length + b.length ≤ lim then some (.str (a ++ b)) else none
  | .lst a, .lst b => if a.length + b.length ≤ lim then some (.lst (a ++ b)) else none
  | .tup a, .tup b => if a.length + b.length ≤ lim then some (.tup (a ++ b)) else none
  | _, _ => none
def rAddD (K : PySem.W.Frag) : R2 := fun x y H Q => rI0 (fun i j => .int (i + j)) x y H Q ∨ (∃ i j, x = .str i ∧ y = .str j ∧ i.length + j.length ≤ sizeLine ∧ Q (.str (i ++ j)) H) ∨ rCat x y H Q ∨ rCatA K x y H Q
theorem op_addD : OpR X (binaryOp .Add) (rAddD X.K) := op_add.or (op_add_str.or (op_cat.or op_catA))
theorem str_app_len (a b : Str) : (a ++ b).length = a.length + b.length := by
  show (a.cps ++ b.cps).size = _
  rw [Array.size_append]; rfl
theorem od_add : OpD K (rAddD K) dAdd := by
  intro pa S H p x y d e z Q s rx ry h q
  cases rx with
  | int i =>
    cases ry with
    | int j => cases h; exact .inl ⟨i, j, rfl, rfl, q _ H (fun _ _ h => h) (.int _)⟩
    | _ => cases h
  | str a ha =>
    cases ry with
    | str b hb =>
      simp only [dAdd] at h
      split at h
      · rename_i hl
        cases h
        exact .inr (.inl ⟨a, b, rfl, rfl, lim_sz hl, q _ H (fun _ _ h => h) (.str _ (by rw [str_app_len]; exact hl))⟩)
      · cases h
    | _ => cases h
  | lst h1 h2 =>
    cases ry with
    | lst k1 k2 =>
      simp only [dAdd] at h
      split at h
      · rename_i hl
        cases h
        exact .inr (.inr (.inl ⟨_, _, _, _, rfl, rfl, hid_sub _ _ h1, hid_sub _ _ k1, by rw [h2.length, k2.length]; exact lim_sz hl, fun a n => q _ _ (same_upd n) (Rp.newL s (h2.append k2) n)⟩))
      · cases h
    | _ => cases h
  | tup h1 h2 =>
    cases ry with
    | tup k1 k2 =>
      simp only [dAdd] at h
      split at h
      · rename_i hl
        cases h
        refine .inr (.inr (.inr ⟨_, _, _, _, rfl, rfl, sameT hid_sub h1, sameT hid_sub k1, by rw [h2.length, k2.length]; exact lim_sz hl, fun e => ?_, fun e e2 => ?_, fun _ _ a n => q _ _ (same_upd n) (Rp.newT s (h2.append k2) n)⟩))
        · subst e
          cases h2
          exact q _ H (fun _ _ h => h) (.tup k1 k2)
        · subst e2
          cases k2
          rw [List.append_nil] at q
          exact q _ H (fun _ _ h => h) (.tup h1 h2)
      · cases h
    | _ => cases h
  | _ => cases h
/-- two ints, a condition that is decided -/
def dII (c : Int → Int → Bool) (g : Int → Int → D) : D → D → Option D
  | .int i, .int j => if c i j = true then some (g i j) else none
  | _, _ => none
theorem od_ii {C : Int → Int → Prop} {c : Int → Int → Bool} {g : Int → Int → V} {g' : Int → Int → D} (hc : ∀ i j, c i j = true → C i j) (hg : ∀ i j pa H, Rp K pa H (g i j) (g' i j)) : OpD K (rI C g) (dII c g') := by
  intro pa S H p x y d e z Q s rx ry h q
  cases rx with
  | int i =>
    cases ry with
    | int j =>
      simp only [dII] at h
      split at h
      · rename_i hl
        cases h
        exact ⟨i, j, rfl, rfl, hc i j hl, q _ H (fun _ _ h => h) (hg i j _ _)⟩
      · cases h
    | _ => cases h
  | _ => cases h
def dI0 (g : Int → Int → D) : D → D → Option D
  | .int i, .int j => some (g i j)
  | _, _ => none
theorem od_i0 {g : Int → Int → V} {g' : Int → Int → D} (hg : ∀ i j pa H, Rp K pa H (g i j) (g' i j)) : OpD K (rI0 g) (dI0 g') := by
  intro pa S H p x y d e z Q s rx ry h q
  cases rx with
  | int i =>
    cases ry with
    | int j => cases h; exact ⟨i, j, rfl, rfl, q _ H (fun _ _ h => h) (hg i j _ _)⟩
    | _ => cases h
  | _ => cases h
def dSub : D → D → Option D := dI0 fun i j => .int (i - j)
def dMul : D → D → Option D := dII (fun i j => (decide (-(2 ^ 64) < i) && decide (i < 2 ^ 64)) || (decide (-(2 ^ 64) < j) && decide (j < 2 ^ 64))) fun i j => .int (i * j)
def dMod : D → D → Option D := dII (fun _ j => decide (0 < j)) fun i j => .int (i % j)
def dDiv : D → D → Option D := dII (fun _ j => decide (0 < j) && decide (j < 1073741824)) fun i j => .int (i / j)
def dPow : D → D → Option D := dII (fun i j => decide (0 ≤ j) && decide (j ≤ 1000000) && decide (i.natAbs < 2 ^ 64)) fun i j => .int (i ^ j.toNat)
theorem od_sub : OpD K (rI0 fun i j => .int (i - j)) dSub := od_i0 fun _ _ _ _ => .int _
theorem od_mul : OpD K (rI CMul fun i j => .int (i * j)) dMul := od_ii (fun i j h => by
  rw [Bool.or_eq_true, Bool.and_eq_true, Bool.and_eq_true] at h
  rcases h with ⟨a, b⟩ | ⟨a, b⟩
  · exact .inl ⟨of_decide_eq_true a, of_decide_eq_true b⟩
  · exact .inr ⟨of_decide_eq_true a, of_decide_eq_true b⟩) fun _ _ _ _ => .int _
theorem od_mod : OpD K (rI (fun _ j => 0 < j) fun i j => .int (i % j)) dMod := od_ii (fun i j h => of_decide_eq_true h) fun _ _ _ _ => .int _
theorem od_div : OpD K (rI CDiv fun i j => .int (i / j)) dDiv := od_ii (fun i j h => by
  rw [Bool.and_eq_true] at h
  exact ⟨of_decide_eq_true h.1, of_decide_eq_true h.2⟩) fun _ _ _ _ => .int _
theorem od_pow : OpD K (rI CPow fun i j => .int (i ^ j.toNat)) dPow := od_ii (fun i j h => by
  rw [Bool.and_eq_true, Bool.and_eq_true] at h
  exact ⟨of_decide_eq_true h.1.1, of_decide_eq_true h.1.2, of_decide_eq_true h.2⟩) fun _ _ _ _ => .int _
/-- <, <=, >, >= of ints and of texts -/
def sLt (a b : Str) : Bool := decide (a.cps.toList < b.cps.toList)
def dCmp (f : Int → Int → Bool) (g : Str → Str → Bool) : D → D → Option D
  | .int i, .int j => some (.bl (f i j))
  | .str a, .str b => some (.bl (g a b))
  | _, _ => none
theorem od_cmp {f : Int → Int → Bool} {g : Str → Str → Bool} : OpD K (fun x y H Q => rI0 (fun i j => .bl (f i j)) x y H Q ∨ (∃ i j, x = .str i ∧ y = .str j ∧ Q (.bl (g i j)) H)) (dCmp f g) := by
  intro pa S H p x y d e z Q s rx ry h q
  cases rx with
  | int i =>
    cases ry with
    | int j => cases h; exact .inl ⟨i, j, rfl, rfl, q _ H (fun _ _ h => h) (.bl _)⟩
    | _ => cases h
  | str i hi =>
    cases ry with
    | str j hj => cases h; exact .inr ⟨i, j, rfl, rfl, q _ H (fun _ _ h => h) (.bl _)⟩
    | _ => cases h
  | _ => cases h
def dLt : D → D → Option D := dCmp (fun i j => decide (i < j)) sLt
def dLe : D → D → Option D := dCmp (fun i j => decide (i ≤ j)) fun a b => !sLt b a
def dGt : D → D → Option D := dCmp (fun i j => decide (j < i)) fun a b => sLt b a
def dGe : D → D → Option D := dCmp (fun i j => decide (j ≤ i)) fun a b => !sLt a b
def rCmpD (f : Int → Int → Bool) (g : Str → Str → Bool) : R2 := fun x y H Q => rI0 (fun i j => .bl (f i j)) x y H Q ∨ (∃ i j, x = .str i ∧ y = .str j ∧ Q (.bl (g i j)) H)
theorem op_ltD : OpR X (compareOp .Lt) (rCmpD (fun i j => decide (i < j)) sLt) := op_lt.or op_lt_str
theorem op_leD : OpR X (compareOp .LtE) (rCmpD (fun i j => decide (i ≤ j)) fun a b => !sLt b a) := op_le.or op_le_str
theorem op_gtD : OpR X (compareOp .Gt) (rCmpD (fun i j => decide (j < i)) fun a b => sLt b a) := op_gt.or op_gt_str
theorem op_geD : OpR X (compareOp .GtE) (rCmpD (fun i j => decide (j ≤ i)) fun a b => !sLt a b) := op_ge.or op_ge_str
theorem od_lt : OpD K (rCmpD (fun i j => decide (i < j)) sLt) dLt := od_cmp
theorem od_le : OpD K (rCmpD (fun i j => decide (i ≤ j)) fun a b => !sLt b a) dLe := od_cmp
theorem od_gt : OpD K (rCmpD (fun i j => decide (j < i)) fun a b => sLt b a) dGt := od_cmp
theorem od_ge : OpD K (rCmpD (fun i j => decide (j ≤ i)) fun a b => !sLt a b) dGe := od_cmp

/-! ## == -/
def deep : Nat := 60
/-- dicts with flat values -/
def deqK (m1 m2 : List (Key × D)) : Bool := m1.length == m2.length && m1.all fun q => match getG m2 q.1 with | some d => deqv q.2 d | none => false
def dEqK : D → D → Option Bool
  | .dk ks ds, .dk ls es => if (flats 59 ds && flats 59 es) = true then some (deqK (ks.zip ds) (ls.zip es)) else none
  | _, _ => none
def dEq (d e : D) : Option D := if (flat deep d && flat deep e) = true then some (.bl (deqv d e)) else (dEqK d e).map .bl
def dNe (d e : D) : Option D := if (flat deep d && flat deep e) = true then some (.bl (!deqv d e)) else (dEqK d e).map fun b => .bl (!b)
end
theorem rcAt_D {X : Cx} {pins : List (Addr × Obj)} {σ : L2.St} {H : Hp} {s : Shared} {pa : Option Addr} (I : Inv X pins σ H s) {d e : D} {x y : V} {u v : Value} (fd : flat deep d = true) (fe : flat deep e = true) (rd : Rp X.K pa H x d) (re : Rp X.K pa H y e) (rx : RelV x u) (ry : RelV y v)
    (hu : X.A.units + (59 + 1) < cLine) : RcAt X.A s u v (deqv d e) := by
  cases rd with
  | non =>
    cases rx
    cases re with
    | non => cases ry; exact RcAt.none_none
    | bl y => cases ry; exact RcAt.none_bool _
    | int y => obtain ⟨t2, rfl⟩ := ry; exact RcAt.none_int _ _
    | str y _ => obtain ⟨t2, rfl⟩ := ry; exact RcAt.none_str _ _
    | lst k1 k2 => cases ry; obtain ⟨_, _, l, _⟩ := Rp.isList I (SqL.of k1); exact RcAt.none_list l (room_lo hu)
    | tup k1 k2 => cases ry; obtain ⟨_, _, l, _⟩ := Rp.isTup I k1; exact RcAt.none_tuple l (room_lo hu)
    | pool _ => simp [flat, deep] at fe
    | scr _ => simp [flat, deep] at fe
    | dk _ _ _ _ => simp [flat, deep] at fe
    | dt _ _ _ _ => simp [flat, deep] at fe
    | ins _ _ _ _ => simp [flat, deep] at fe
    | slt _ _ _ => simp [flat, deep] at fe
    | fn _ => simp [flat, deep] at fe
    | adr _ => simp [flat, deep] at fe
  | bl x =>
    cases rx
    cases re with
    | non => cases ry; exact RcAt.bool_none _
    | bl y => cases ry; exact RcAt.bool_bool _ _
    | int y => obtain ⟨t2, rfl⟩ := ry; exact RcAt.bool_int _ _ _
    | str y _ => obtain ⟨t2, rfl⟩ := ry; exact RcAt.bool_str _ _ _
    | lst k1 k2 => cases ry; obtain ⟨_, _, l, _⟩ := Rp.isList I (SqL.of k1); exact RcAt.bool_list _ l (room_lo hu)
    | tup k1 k2 => cases ry; obtain ⟨_, _, l, _⟩ := Rp.isTup I k1; exact RcAt.bool_tuple _ l (room_lo hu)
    | pool _ => simp [flat, deep] at fe
    | scr _ => simp [flat, deep] at fe
    | dk _ _ _ _ => simp [flat, deep] at fe
    | dt _ _ _ _ => simp [flat, deep] at fe
    | ins _ _ _ _ => simp [flat, deep] at fe
    | slt _ _ _ => simp [flat, deep] at fe
    | fn _ => simp [flat, deep] at fe
    | adr _ => simp [flat, deep] at fe
  | int x =>
    obtain ⟨t, rfl⟩ := rx
    cases re with
    | non => cases ry; exact RcAt.int_none _ _
    | bl y => cases ry; exact RcAt.int_bool _ _ _
    | int y => obtain ⟨t2, rfl⟩ := ry; exact RcAt.int_int _ _ _ _
    | str y _ => obtain ⟨t2, rfl⟩ := ry; exact RcAt.int_str _ _ _ _
    | lst k1 k2 => cases ry; obtain ⟨_, _, l, _⟩ := Rp.isList I (SqL.of k1); exact RcAt.int_list _ _ l (room_lo hu)
    | tup k1 k2 => cases ry; obtain ⟨_, _, l, _⟩ := Rp.isTup I k1; exact RcAt.int_tuple _ _ l (room_lo hu)
    | pool _ => simp [flat, deep] at fe
    | scr _ => simp [flat, deep] at fe
    | dk _ _ _ _ => simp [flat, deep] at fe
    | dt _ _ _ _ => simp [flat, deep] at fe
    | ins _ _ _ _ => simp [flat, deep] at fe
    | slt _ _ _ => simp [flat, deep] at fe
    | fn _ => simp [flat, deep] at fe
    | adr _ => simp [flat, deep] at fe
  | str x _ =>
    obtain ⟨t, rfl⟩ := rx
    cases re with
    | non => cases ry; exact RcAt.str_none _ _
    | bl y => cases ry; exact RcAt.str_bool _ _ _
    | int y => obtain ⟨t2, rfl⟩ := ry; exact RcAt.str_int _ _ _ _
    | str y _ => obtain ⟨t2, rfl⟩ := ry; exact RcAt.str_str _ _ _ _
    | lst k1 k2 => cases ry; obtain ⟨_, _, l, _⟩ := Rp.isList I (SqL.of k1); exact RcAt.str_list _ _ l (room_lo hu)
    | tup k1 k2 => cases ry; obtain ⟨_, _, l, _⟩ := Rp.isTup I k1; exact RcAt.str_tuple _ _ l (room_lo hu)
    | pool _ => simp [flat, deep] at fe
    | scr _ => simp [flat, deep] at fe
    | dk _ _ _ _ => simp [flat, deep] at fe
    | dt _ _ _ _ => simp [flat, deep] at fe
    | ins _ _ _ _ => simp [flat, deep] at fe
    | slt _ _ _ => simp [flat, deep] at fe
    | fn _ => simp [flat, deep] at fe
    | adr _ => simp [flat, deep] at fe
  | @lst a xs ds h1 h2 =>
    cases rx
    obtain ⟨its, rv, hl, len1, _⟩ := Rp.isList I (SqL.of h1)
    cases re with
    | non => cases ry; exact RcAt.list_none hl (room_lo hu)
    | bl y => cases ry; exact RcAt.list_bool _ hl (room_lo hu)
    | int y => obtain ⟨t2, rfl⟩ := ry; exact RcAt.list_int _ _ hl (room_lo hu)
    | str y _ => obtain ⟨t2, rfl⟩ := ry; exact RcAt.list_str _ _ hl (room_lo hu)
    | @lst b ys es k1 k2 =>
      cases ry
      obtain ⟨its2, rv2, hl2, len2, _⟩ := Rp.isList I (SqL.of k1)
      have e1 : its.length = ds.length := len1.trans h2.length
      have e2 : its2.length = es.length := len2.trans k2.length
      have key := eqAt_Ds I 59 ds es X.A.in1 xs ys its its2 (by simpa [flat, deep] using fd) (by simpa [flat, deep] using fe) h2 k2 rv rv2 (room_in hu)
      rw [deqv, deqvs_iff]
      by_cases hsz : its.length = its2.length
      · have hz : ds.length = es.length := by omega
        have hm : min ds.length es.length = its.toArray.size := by rw [← hz, Nat.min_self, ← e1, List.size_toArray]
        have hz' : (ds.length == es.length) = true := by rw [hz]; simp
        rw [hz', Bool.and_true, hm]
        exact RcAt.lists hl hl2 (by simpa using hsz) (room_lo hu) fun j j1 j2 => key j (by simpa using j1) (by simpa using j2)
      · have hz' : (ds.length == es.length) = false := by
          rw [beq_eq_false_iff_ne]; omega
        rw [hz', Bool.and_false]
        exact RcAt.lists_lengths hl hl2 (by simpa using hsz) (room_lo hu)
    | tup k1 k2 => cases ry; obtain ⟨_, _, l, _⟩ := Rp.isTup I k1; exact RcAt.list_tuple hl l (room_lo hu)
    | pool _ => simp [flat, deep] at fe
    | scr _ => simp [flat, deep] at fe
    | dk _ _ _ _ => simp [flat, deep] at fe
    | dt _ _ _ _ => simp [flat, deep] at fe
    | ins _ _ _ _ => simp [flat, deep] at fe
    | slt _ _ _ => simp [flat, deep] at fe
    | fn _ => simp [flat, deep] at fe
    | adr _ => simp [flat, deep] at fe
  | @tup a xs ds h1 h2 =>
    cases rx
    obtain ⟨its, rv, hl, len1, _⟩ := Rp.isTup I h1
    cases re with
    | non => cases ry; exact RcAt.tuple_none hl (room_lo hu)
    | bl y => cases ry; exact RcAt.tuple_bool _ hl (room_lo hu)
    | int y => obtain ⟨t2, rfl⟩ := ry; exact RcAt.tuple_int _ _ hl (room_lo hu)
    | str y _ => obtain ⟨t2, rfl⟩ := ry; exact RcAt.tuple_str _ _ hl (room_lo hu)
    | lst k1 k2 => cases ry; obtain ⟨_, _, l, _⟩ := Rp.isList I (SqL.of k1); exact RcAt.tuple_list hl l (room_lo hu)
    | @tup b ys es k1 k2 =>
      cases ry
      obtain ⟨its2, rv2, hl2, len2, _⟩ := Rp.isTup I k1
      have e1 : its.length = ds.length := len1.trans h2.length
      have e2 : its2.length = es.length := len2.trans k2.length
      have key := eqAt_Ds I 59 ds es X.A.in1 xs ys its its2 (by simpa [flat, deep] using fd) (by simpa [flat, deep] using fe) h2 k2 rv rv2 (room_in hu)
      rw [deqv, deqvs_iff]
      have hm : min ds.length es.length = min its.toArray.size its2.toArray.size := by rw [List.size_toArray, List.size_toArray, e1, e2]
      have hq : (ds.length == es.length) = (its.toArray.size == its2.toArray.size) := by rw [List.size_toArray, List.size_toArray, e1, e2]
      rw [hm, hq]
      exact RcAt.tuples hl hl2 (room_lo hu) fun j j1 j2 => key j (by simpa using j1) (by simpa using j2)
    | pool _ => simp [flat, deep] at fe
    | scr _ => simp [flat, deep] at fe
    | dk _ _ _ _ => simp [flat, deep] at fe
    | dt _ _ _ _ => simp [flat, deep] at fe
    | ins _ _ _ _ => simp [flat, deep] at fe
    | slt _ _ _ => simp [flat, deep] at fe
    | fn _ => simp [flat, deep] at fe
    | adr _ => simp [flat, deep] at fe
  | pool _ => simp [flat, deep] at fd
  | scr _ => simp [flat, deep] at fd
  | dk _ _ _ _ => simp [flat, deep] at fd
  | dt _ _ _ _ => simp [flat, deep] at fd
  | ins _ _ _ _ => simp [flat, deep] at fd
  | slt _ _ _ => simp [flat, deep] at fd
  | fn _ => simp [flat, deep] at fd
  | adr _ => simp [flat, deep] at fd
theorem rcNeAt_D {X : Cx} {pins : List (Addr × Obj)} {σ : L2.St} {H : Hp} {s : Shared} {pa : Option Addr} (I : Inv X pins σ H s) {d e : D} {x y : V} {u v : Value} (fd : flat deep d = true) (fe : flat deep e = true) (rd : Rp X.K pa H x d) (re : Rp X.K pa H y e) (rx : RelV x u) (ry : RelV y v)
    (hu : X.A.units + (59 + 1) < cLine) : RcNeAt X.A s u v (!deqv d e) := by
  cases rd with
  | non =>
    cases rx
    cases re with
    | non => cases ry; exact RcNeAt.none_none
    | bl y => cases ry; exact RcNeAt.none_bool _
    | int y => obtain ⟨t2, rfl⟩ := ry; exact RcNeAt.none_int _ _
    | str y _ => obtain ⟨t2, rfl⟩ := ry; exact RcNeAt.none_str _ _
    | lst k1 k2 => cases ry; obtain ⟨_, _, l, _⟩ := Rp.isList I (SqL.of k1); exact RcNeAt.none_list l (room_lo hu)
    | tup k1 k2 => cases ry; obtain ⟨_, _, l, _⟩ := Rp.isTup I k1; exact RcNeAt.none_tuple l (room_lo hu)
    | pool _ => simp [flat, deep] at fe
    | scr _ => simp [flat, deep] at fe
    | dk _ _ _ _ => simp [flat, deep] at fe
    | dt _ _ _ _ => simp [flat, deep] at fe
    | ins _ _ _ _ => simp [flat, deep] at fe
    | slt _ _ _ => simp [flat, deep] at fe
    | fn _ => simp [flat, deep] at fe
    | adr _ => simp [flat, deep] at fe
  | bl x =>
    cases rx
    cases re with
    | non => cases ry; exact RcNeAt.bool_none _
    | bl y => cases ry; exact RcNeAt.bool_bool _ _
    | int y => obtain ⟨t2, rfl⟩ := ry; exact RcNeAt.bool_int _ _ _
    | str y _ => obtain ⟨t2, rfl⟩ := ry; exact RcNeAt.bool_str _ _ _
    | lst k1 k2 => cases ry; obtain ⟨_, _, l, _⟩ := Rp.isList I (SqL.of k1); exact RcNeAt.bool_list _ l (room_lo hu)
    | tup k1 k2 => cases ry; obtain ⟨_, _, l, _⟩ := Rp.isTup I k1; exact RcNeAt.bool_tuple _ l (room_lo hu)
    | pool _ => simp [flat, deep] at fe
    | scr _ => simp [flat, deep] at fe
    | dk _ _ _ _ => simp [flat, deep] at fe
    | dt _ _ _ _ => simp [flat, deep] at fe
    | ins _ _ _ _ => simp [flat, deep] at fe
    | slt _ _ _ => simp [flat, deep] at fe
    | fn _ => simp [flat, deep] at fe
    | adr _ => simp [flat, deep] at fe
  | int x =>
    obtain ⟨t, rfl⟩ := rx
    cases re with
    | non => cases ry; exact RcNeAt.int_none _ _
    | bl y => cases ry; exact RcNeAt.int_bool _ _ _
    | int y => obtain ⟨t2, rfl⟩ := ry; exact RcNeAt.int_int _ _ _ _
    | str y _ => obtain ⟨t2, rfl⟩ := ry; exact RcNeAt.int_str _ _ _ _
    | lst k1 k2 => cases ry; obtain ⟨_, _, l, _⟩ := Rp.isList I (SqL.of k1); exact RcNeAt.int_list _ _ l (room_lo hu)
    | tup k1 k2 => cases ry; obtain ⟨_, _, l, _⟩ := Rp.isTup I k1; exact RcNeAt.int_tuple _ _ l (room_lo hu)
    | pool _ => simp [flat, deep] at fe
    | scr _ => simp [flat, deep] at fe
    | dk _ _ _ _ => simp [flat, deep] at fe
    | dt _ _ _ _ => simp [flat, deep] at fe
    | ins _ _ _ _ => simp [flat, deep] at fe
    | slt _ _ _ => simp [flat, deep] at fe
    | fn _ => simp [flat, deep] at fe
    | adr _ => simp [flat, deep] at fe
  | str x _ =>
    obtain ⟨t, rfl⟩ := rx
    cases re with
    | non => cases ry; exact RcNeAt.str_none _ _
    | bl y => cases ry; exact RcNeAt.str_bool _ _ _
    | int y => obtain ⟨t2, rfl⟩ := ry; exact RcNeAt.str_int _ _ _ _
    | str y _ => obtain ⟨t2, rfl⟩ := ry; exact RcNeAt.str_str _ _ _ _
    | lst k1 k2 => cases ry; obtain ⟨_, _, l, _⟩ := Rp.isList I (SqL.of k1); exact RcNeAt.str_list _ _ l (room_lo hu)
    | tup k1 k2 => cases ry; obtain ⟨_, _, l, _⟩ := Rp.isTup I k1; exact RcNeAt.str_tuple _ _ l (room_lo hu)
    | pool _ => simp [flat, deep] at fe
    | scr _ => simp [flat, deep] at fe
    | dk _ _ _ _ => simp [flat, deep] at fe
    | dt _ _ _ _ => simp [flat, deep] at fe
    | ins _ _ _ _ => simp [flat, deep] at fe
    | slt _ _ _ => simp [flat, deep] at fe
    | fn _ => simp [flat, deep] at fe
    | adr _ => simp [flat, deep] at fe
  | @lst a xs ds h1 h2 =>
    cases rx
    obtain ⟨its, rv, hl, len1, _⟩ := Rp.isList I (SqL.of h1)
    cases re with
    | non => cases ry; exact RcNeAt.list_none hl (room_lo hu)
    | bl y => cases ry; exact RcNeAt.list_bool _ hl (room_lo hu)
    | int y => obtain ⟨t2, rfl⟩ := ry; exact RcNeAt.list_int _ _ hl (room_lo hu)
    | str y _ => obtain ⟨t2, rfl⟩ := ry; exact RcNeAt.list_str _ _ hl (room_lo hu)
    | @lst b ys es k1 k2 =>
      cases ry
      obtain ⟨its2, rv2, hl2, len2, _⟩ := Rp.isList I (SqL.of k1)
      have e1 : its.length = ds.length := len1.trans h2.length
      have e2 : its2.length = es.length := len2.trans k2.length
      have key := eqAt_Ds I 59 ds es X.A.in1 xs ys its its2 (by simpa [flat, deep] using fd) (by simpa [flat, deep] using fe) h2 k2 rv rv2 (room_in hu)
      rw [deqv, deqvs_iff]
      by_cases hsz : its.length = its2.length
      · have hz : ds.length = es.length := by omega
        have hm : min ds.length es.length = its.toArray.size := by rw [← hz, Nat.min_self, ← e1, List.size_toArray]
        have hz' : (ds.length == es.length) = true := by rw [hz]; simp
        rw [hz', Bool.and_true, hm]
        exact RcNeAt.lists hl hl2 (by simpa using hsz) (room_lo hu) fun j j1 j2 => key j (by simpa using j1) (by simpa using j2)
      · have hz' : (ds.length == es.length) = false := by
          rw [beq_eq_false_iff_ne]; omega
        rw [hz', Bool.and_false]
        exact RcNeAt.lists_lengths hl hl2 (by simpa using hsz) (room_lo hu)
    | tup k1 k2 => cases ry; obtain ⟨_, _, l, _⟩ := Rp.isTup I k1; exact RcNeAt.list_tuple hl l (room_lo hu)
    | pool _ => simp [flat, deep] at fe
    | scr _ => simp [flat, deep] at fe
    | dk _ _ _ _ => simp [flat, deep] at fe
    | dt _ _ _ _ => simp [flat, deep] at fe
    | ins _ _ _ _ => simp [flat, deep] at fe
    | slt _ _ _ => simp [flat, deep] at fe
    | fn _ => simp [flat, deep] at fe
    | adr _ => simp [flat, deep] at fe
  | @tup a xs ds h1 h2 =>
    cases rx
    obtain ⟨its, rv, hl, len1, _⟩ := Rp.isTup I h1
    cases re with
    | non => cases ry; exact RcNeAt.tuple_none hl (room_lo hu)
    | bl y => cases ry; exact RcNeAt.tuple_bool _ hl (room_lo hu)
    | int y => obtain ⟨t2, rfl⟩ := ry; exact RcNeAt.tuple_int _ _ hl (room_lo hu)
    | str y _ => obtain ⟨t2, rfl⟩ := ry; exact RcNeAt.tuple_str _ _ hl (room_lo hu)
    | lst k1 k2 => cases ry; obtain ⟨_, _, l, _⟩ := Rp.isList I (SqL.of k1); exact RcNeAt.tuple_list hl l (room_lo hu)
    | @tup b ys es k1 k2 =>
      cases ry
      obtain ⟨its2, rv2, hl2, len2, _⟩ := Rp.isTup I k1
      have e1 : its.length = ds.length := len1.trans h2.length
      have e2 : its2.length = es.length := len2.trans k2.length
      have key := eqAt_Ds I 59 ds es X.A.in1 xs ys its its2 (by simpa [flat, deep] using fd) (by simpa [flat, deep] using fe) h2 k2 rv rv2 (room_in hu)
      rw [deqv, deqvs_iff]
      have hm : min ds.length es.length = min its.toArray.size its2.toArray.size := by rw [List.size_toArray, List.size_toArray, e1, e2]
      have hq : (ds.length == es.length) = (its.toArray.size == its2.toArray.size) := by rw [List.size_toArray, List.size_toArray, e1, e2]
      rw [hm, hq]
      exact RcNeAt.tuples hl hl2 (room_lo hu) fun j j1 j2 => key j (by simpa using j1) (by simpa using j2)
    | pool _ => simp [flat, deep] at fe
    | scr _ => simp [flat, deep] at fe
    | dk _ _ _ _ => simp [flat, deep] at fe
    | dt _ _ _ _ => simp [flat, deep] at fe
    | ins _ _ _ _ => simp [flat, deep] at fe
    | slt _ _ _ => simp [flat, deep] at fe
    | fn _ => simp [flat, deep] at fe
    | adr _ => simp [flat, deep] at fe
  | pool _ => simp [flat, deep] at fd
  | scr _ => simp [flat, deep] at fd
  | dk _ _ _ _ => simp [flat, deep] at fd
  | dt _ _ _ _ => simp [flat, deep] at fd
  | ins _ _ _ _ => simp [flat, deep] at fd
  | slt _ _ _ => simp [flat, deep] at fd
  | fn _ => simp [flat, deep] at fd
  | adr _ => simp [flat, deep] at fd
theorem hits_D {X : Cx} {pins : List (Addr × Obj)} {σ : L2.St} {H : Hp} {s : Shared} {pa : Option Addr} (I : Inv X pins σ H s) (hu : X.A.units + 64 < cLine) {lv : List (Key × V)} {vb : List (Key × Value)} {m2 : List (Key × D)} (kb : KV lv vb) (rb : KRp X.K pa H lv m2) (f2 : ∀ k d, getG m2 k = some d → flat 59 d = true) :
    ∀ {kv : List (Key × V)} {va : List (Key × Value)} {m1 : List (Key × D)}, KV kv va → KRp X.K pa H kv m1 → (∀ q ∈ m1, flat 59 q.2 = true) → PySem.W.KeqHits X.A.in1 s vb va (m1.all fun q => match getG m2 q.1 with | some d => deqv q.2 d | none => false)
  | _, _, _, .nil, .nil, _ => .nil
  | _, _, _, .cons (a := (k0, v0)) (b := (k1, u1)) ⟨h1, h2⟩ t, .cons (b := (k2, d2)) ⟨h3, h4⟩ t', f => by
    have h1 : k0 = k1 := h1
    have h3 : k0 = k2 := h3
    subst h1
    subst h3
    rw [List.all_cons]
    have kv := kb.val k0
    rcases rb.get k0 with ⟨g1, g2⟩ | ⟨v, d, g1, g2, g3⟩
    · rw [g1]
      rw [g2] at kv
      simp only [Bool.false_and]
      refine .miss ?_
      cases e : valueAt vb k0 with
      | none => rfl
      | some y => rw [e] at kv; exact absurd kv id
    · rw [g1]
      rw [g2] at kv
      cases e : valueAt vb k0 with
      | none => rw [e] at kv; exact absurd kv id
      | some y =>
        rw [e] at kv
        refine .hit e (eqAt_D I 59 d2 d X.A.in1 v0 v u1 y (f _ List.mem_cons_self) (f2 _ _ g1) h4 g3 h2 kv ?_) (hits_D I hu kb rb f2 t t' fun q hq => f q (List.mem_cons_of_mem _ hq))
        show X.A.units + 1 + 59 < cLine
        omega
def rEqK (K : PySem.W.Frag) (neg : Bool) : R2 := fun x y H Q => ∃ pa a b kv lv m1 m2, x = .ref a ∧ y = .ref b ∧ Rd H a (.dK kv) ∧ Rd H b (.dK lv) ∧ KRp K pa H kv m1 ∧ KRp K pa H lv m2 ∧ (∀ q ∈ m1, flat 59 q.2 = true) ∧ (∀ k d, getG m2 k = some d → flat 59 d = true) ∧ Q (.bl (if neg = true then !deqK m1 m2 else deqK m1 m2)) H
theorem op_eqK {X : Cx} (hu : X.A.units + 64 < cLine) : OpR X (compareOp .Eq) (rEqK X.K false) := by
  intro pins s σ H x y v u Q I rx ry h
  obtain ⟨pa, a, b, kv, lv, m1, m2, rfl, rfl, h1, h2, r1, r2, f1, f2, q⟩ := h
  obtain rfl : v = Value.ref a := rx
  obtain rfl : u = Value.ref b := ry
  obtain ⟨_, ya, va, ra, da⟩ := dk_rd I.hok h1
  obtain ⟨_, yb, vb, rb, db⟩ := dk_rd I.hok h2
  refine PySem.W.keq_eq (knd := mixKind X.prog X.w) ya yb da db (by omega) (fun _ => hits_D I hu rb r2 f2 ra r1 f1) ?_
  rw [← ra.length, ← rb.length, r1.length, r2.length]
  exact ⟨.bl _, H, I, rfl, q⟩
theorem op_neK {X : Cx} (hu : X.A.units + 64 < cLine) : OpR X (compareOp .NotEq) (rEqK X.K true) := by
  intro pins s σ H x y v u Q I rx ry h
  obtain ⟨pa, a, b, kv, lv, m1, m2, rfl, rfl, h1, h2, r1, r2, f1, f2, q⟩ := h
  obtain rfl : v = Value.ref a := rx
  obtain rfl : u = Value.ref b := ry
  obtain ⟨_, ya, va, ra, da⟩ := dk_rd I.hok h1
  obtain ⟨_, yb, vb, rb, db⟩ := dk_rd I.hok h2
  refine PySem.W.keq_ne (knd := mixKind X.prog X.w) ya yb da db (by omega) (fun _ => hits_D I hu rb r2 f2 ra r1 f1) ?_
  rw [← ra.length, ← rb.length, r1.length, r2.length]
  exact ⟨.bl _, H, I, rfl, q⟩
def rEqX (K : PySem.W.Frag) : R2 := fun x y H Q => (∃ pa d e, Rp K pa H x d ∧ Rp K pa H y e ∧ flat deep d = true ∧ flat deep e = true ∧ Q (.bl (deqv d e)) H) ∨ rEqK K false x y H Q
def rNeX (K : PySem.W.Frag) : R2 := fun x y H Q => (∃ pa d e, Rp K pa H x d ∧ Rp K pa H y e ∧ flat deep d = true ∧ flat deep e = true ∧ Q (.bl (!deqv d e)) H) ∨ rEqK K true x y H Q
section
variable {X : Cx} {K : PySem.W.Frag}
theorem op_eqX (hu : X.A.units + 64 < cLine) : OpR X (compareOp .Eq) (rEqX X.K) := by
  intro pins s σ H x y v u Q I rx ry h
  rcases h with ⟨pa, d, e, r1, r2, f1, f2, q⟩ | h
  · exact rcAt_D I f1 f2 r1 r2 rx ry (by omega) _ _ _ _ ⟨.bl _, H, I, rfl, q⟩
  · exact op_eqK hu pins s σ H x y v u Q I rx ry h
theorem op_neX (hu : X.A.units + 64 < cLine) : OpR X (compareOp .NotEq) (rNeX X.K) := by
  intro pins s σ H x y v u Q I rx ry h
  rcases h with ⟨pa, d, e, r1, r2, f1, f2, q⟩ | h
  · exact rcNeAt_D I f1 f2 r1 r2 rx ry (by omega) _ _ _ _ ⟨.bl _, H, I, rfl, q⟩
  · exact op_neK hu pins s σ H x y v u Q I rx ry h
theorem flats_mem {n : Nat} : ∀ {ds : List D}, flats n ds = true → ∀ d ∈ ds, flat n d = true
  | [], _, d, h => by cases h
  | x :: xs, f, d, h => by
    rw [flats, Bool.and_eq_true] at f
    rcases List.mem_cons.mp h with rfl | h
    · exact f.1
    · exact flats_mem f.2 d h
theorem getG_mem {κ α : Type} [DecidableEq κ] {m : List (κ × α)} {k : κ} {d : α} (h : getG m k = some d) : (k, d) ∈ m := by
  obtain ⟨q, h1, h2⟩ := Option.map_eq_some_iff.mp h
  have h3 := List.find?_some h1
  have h4 := List.mem_of_find?_eq_some h1
  obtain ⟨k2, d2⟩ := q
  have e1 : k2 = k := of_decide_eq_true h3
  have e2 : d2 = d := h2
  rw [← e1, ← e2]
  exact h4
theorem eqK_of {pa : Option Addr} {S : Addr → Prop} {H : Hp} {x y : V} {d e : D} {b neg : Bool} {Q : VK} (rx : Rp K pa (hid S H) x d) (ry : Rp K pa (hid S H) y e) (h : dEqK d e = some b) (q : Q (.bl (if neg = true then !b else b)) H) : rEqK K neg x y H Q := by
  unfold dEqK at h
  split at h
  · rename_i ks ds ls es
    split at h
    · rename_i hf
      rw [Bool.and_eq_true] at hf
      cases h
      obtain ⟨a, kv, rfl, g1, g2, g3, _⟩ := Rp.dk_inv rx
      obtain ⟨a', kv', rfl, g1', g2', g3', _⟩ := Rp.dk_inv ry
      refine ⟨pa, a, a', kv, kv', _, _, rfl, rfl, sameR hid_sub g1, sameR hid_sub g1', KRp.mono hid_sub g2, KRp.mono hid_sub g2', fun z hz => flats_mem hf.1 _ ?_, fun k d hd => flats_mem hf.2 _ ?_, q⟩
      · exact (List.of_mem_zip hz).2
      · exact (List.of_mem_zip (getG_mem hd)).2
    · cases h
  · cases h
theorem od_eq : OpD K (rEqX K) dEq := by
  intro pa S H p x y d e z Q s rx ry h q
  simp only [dEq, Bool.and_eq_true] at h
  split at h
  · rename_i hf
    cases h
    exact .inl ⟨pa, d, e, Rp.mono hid_sub _ _ rx, Rp.mono hid_sub _ _ ry, hf.1, hf.2, q _ H (fun _ _ h => h) (.bl _)⟩
  · obtain ⟨b, hb, rfl⟩ := Option.map_eq_some_iff.mp h
    exact .inr (eqK_of rx ry hb (q _ H (fun _ _ h => h) (.bl _)))
theorem od_ne : OpD K (rNeX K) dNe := by
  intro pa S H p x y d e z Q s rx ry h q
  simp only [dNe, Bool.and_eq_true] at h
  split at h
  · rename_i hf
    cases h
    exact .inl ⟨pa, d, e, Rp.mono hid_sub _ _ rx, Rp.mono hid_sub _ _ ry, hf.1, hf.2, q _ H (fun _ _ h => h) (.bl _)⟩
  · obtain ⟨b, hb, rfl⟩ := Option.map_eq_some_iff.mp h
    exact .inr (eqK_of rx ry hb (q _ H (fun _ _ h => h) (.bl _)))
end
end Dt

namespace Dt
open PySem PySem.Spec PyProof.Rows L2
open PySem.SeqAt (EqAt RcAt RcNeAt)

/-! # in, index, count by equality -/
open Classical in
noncomputable def eqTo (K : PySem.W.Frag) (pa : Option Addr) (H : Hp) (d : D) (u : Value) : Bool := decide (∃ v d', RelV v u ∧ Rp K pa H v d' ∧ flat 59 d' = true ∧ deqv d' d = true)
section
variable {X : Cx} {pins : List (Addr × Obj)} {σ : L2.St} {H : Hp} {s : Shared} {pa : Option Addr}
open Classical in
theorem eqTo_at (I : Inv X pins σ H s) {d d' : D} {v : V} {u : Value} (f : flat 59 d' = true) (r : RelV v u) (rp : Rp X.K pa H v d') : eqTo X.K pa H d u = deqv d' d := by
  unfold eqTo
  by_cases h : deqv d' d = true
  · rw [h]; exact decide_eq_true ⟨v, d', r, rp, f, h⟩
  · have h' : deqv d' d = false := by simpa using h
    rw [h']
    refine decide_eq_false fun ⟨v2, d2, r2, rp2, f2, e2⟩ => h ?_
    have q := r.inj r2
    subst q
    rw [Rp.inj I 59 d' d2 v f f2 rp rp2]
    exact e2
theorem eqTo_any (I : Inv X pins σ H s) {d : D} : ∀ {ds : List D} {vs : List V} {us : List Value}, flats 59 ds = true → RpL X.K pa H vs ds → Vals vs us → us.any (eqTo X.K pa H d) = ds.any fun e => deqv e d
  | [], _, _, _, h, r => by cases h; cases r; rfl
  | e :: ds, _, _, f, h, r => by
    rw [flats, Bool.and_eq_true] at f
    cases h with
    | cons h1 h2 =>
      cases r with
      | cons r1 r2 => rw [List.any_cons, List.any_cons, eqTo_at I f.1 r1 h1, eqTo_any I f.2 h2 r2]
theorem eqTo_count (I : Inv X pins σ H s) {d : D} : ∀ {ds : List D} {vs : List V} {us : List Value}, flats 59 ds = true → RpL X.K pa H vs ds → Vals vs us → us.countP (eqTo X.K pa H d) = ds.countP fun e => deqv e d
  | [], _, _, _, h, r => by cases h; cases r; rfl
  | e :: ds, _, _, f, h, r => by
    rw [flats, Bool.and_eq_true] at f
    cases h with
    | cons h1 h2 =>
      cases r with
      | cons r1 r2 => rw [List.countP_cons, List.countP_cons, eqTo_at I f.1 r1 h1, eqTo_count I f.2 h2 r2]
theorem eqTo_get (I : Inv X pins σ H s) {d : D} : ∀ {ds : List D} {vs : List V} {us : List Value} (j : Nat) (hj : j < us.length), flats 59 ds = true → RpL X.K pa H vs ds → Vals vs us → ∃ e, ds[j]? = some e ∧ eqTo X.K pa H d us[j] = deqv e d
  | [], _, _, _, hj, _, h, r => by cases h; cases r; exact absurd hj (Nat.not_lt_zero _)
  | e :: ds, _, _, j, hj, f, h, r => by
    rw [flats, Bool.and_eq_true] at f
    cases h with
    | cons h1 h2 =>
      cases r with
      | cons r1 r2 =>
        cases j with
        | zero => exact ⟨e, rfl, eqTo_at I f.1 r1 h1⟩
        | succ j =>
          obtain ⟨e', q1, q2⟩ := eqTo_get I (d := d) j (Nat.lt_of_succ_lt_succ hj) f.2 h2 r2
          exact ⟨e', by simpa using q1, q2⟩
theorem eqTo_all (I : Inv X pins σ H s) {d : D} {y : V} {u : Value} (fd : flat 59 d = true) (rd : Rp X.K pa H y d) (ry : RelV y u) (hu : X.A.units + 64 < cLine) : ∀ {ds : List D} {vs : List V} {us : List Value}, flats 59 ds = true → RpL X.K pa H vs ds → Vals vs us →
    ∀ w ∈ us, EqAt X.A.in1 s w u (eqTo X.K pa H d w)
  | [], _, _, _, h, r => by cases h; cases r; intro w hw; cases hw
  | e :: ds, _, _, f, h, r => by
    rw [flats, Bool.and_eq_true] at f
    cases h with
    | cons h1 h2 =>
      cases r with
      | cons r1 r2 =>
        intro w hw
        rcases List.mem_cons.mp hw with rfl | hw
        · rw [eqTo_at I f.1 r1 h1]
          refine eqAt_D I 59 e d X.A.in1 _ _ _ _ f.1 fd h1 rd r1 ry ?_
          show X.A.units + 1 + 59 < cLine
          omega
        · exact eqTo_all I fd rd ry hu f.2 h2 r2 w hw
end
def dIn : D → D → Option D
  | d, .lst ds => if (flat 59 d && flats 59 ds) = true then some (.bl (ds.any fun e => deqv e d)) else none
  | d, .tup ds => if (flat 59 d && flats 59 ds) = true then some (.bl (ds.any fun e => deqv e d)) else none
  | .str c, .str z => match c.cps.toList with | [k] => some (.bl (decide (k ∈ z.cps.toList))) | _ => none
  | d, .dk ks _ => (keyOf d).map fun k => .bl (memK ks k)
  | _, _ => none
def dNotIn (d c : D) : Option D := match dIn d c with | some (.bl b) => some (.bl (!b)) | _ => none
def rInX (K : PySem.W.Frag) (neg : Bool) : R2 := fun x y H Q => ∃ pa d c b, Rp K pa H x d ∧ Rp K pa H y c ∧ dIn d c = some (.bl b) ∧ Q (.bl (if neg = true then !b else b)) H
section
variable {X : Cx} {K : PySem.W.Frag}
theorem str_one {c : Str} {k : Nat} (h : c.cps.toList = [k]) : c = ⟨#[k]⟩ := by
  obtain ⟨cps⟩ := c
  have : cps = #[k] := Array.ext' (by simpa using h)
  rw [this]
theorem dget_D {K : PySem.W.Frag} {pa : Option Addr} {H : Hp} {y : V} {d : D} {k : Key} {ks : List Key} {ds : List D} {a : Addr} {kv : List (Key × V)} (rx : Rp K pa H y d) (hk : keyOf d = some k) (h : Rd H a (.dK kv)) (r : KRp K pa H kv (ks.zip ds)) (hl : ds.length = ks.length) :
    DGet H a y (valV kv k) ∧ (valV kv k).isSome = memK ks k := by
  obtain ⟨rfl, _, _⟩ := rx.key hk
  refine ⟨.inl ⟨kv, k, h, rfl, rfl⟩, ?_⟩
  have e := hasG_iff (m := ks.zip ds) (k := k)
  rw [zip_fst hl] at e
  rw [← e]
  rcases r.get k with ⟨h1, h2⟩ | ⟨v, d, h1, h2, _⟩
  · rw [h1, h2]; rfl
  · rw [h1, h2]; rfl
theorem op_inX (hu : X.A.units + 64 < cLine) : OpR X (compareOp .In) (rInX X.K false) := by
  intro pins s σ H x y v u Q I rx ry h
  obtain ⟨pa, d, c, b, r1, r2, e, q⟩ := h
  cases r2 with
  | lst h1 h2 =>
    cases ry
    simp only [dIn, Bool.and_eq_true] at e
    split at e
    · rename_i hf
      cases e
      obtain ⟨its, rv, hl, _, _⟩ := Rp.isList I (SqL.of h1)
      refine SeqAt.in_listAt (eqTo X.K pa H d) hl (fun w hw => eqTo_all I hf.1 r1 rx hu hf.2 h2 rv w (by simpa using hw)) ?_
      rw [← Array.any_toList, eqTo_any I hf.2 h2 rv]
      exact ⟨.bl _, H, I, rfl, q⟩
    · cases e
  | tup h1 h2 =>
    cases ry
    simp only [dIn, Bool.and_eq_true] at e
    split at e
    · rename_i hf
      cases e
      obtain ⟨its, rv, hl, _, _⟩ := Rp.isTup I h1
      refine SeqAt.in_tupleAt (eqTo X.K pa H d) hl (fun w hw => eqTo_all I hf.1 r1 rx hu hf.2 h2 rv w (by simpa using hw)) ?_
      rw [← Array.any_toList, eqTo_any I hf.2 h2 rv]
      exact ⟨.bl _, H, I, rfl, q⟩
    · cases e
  | str z hz =>
    cases r1 with
    | str c hc =>
      simp only [dIn] at e
      split at e
      · rename_i k hk
        cases e
        rw [str_one hk] at rx
        exact op_in_sign pins s σ H _ _ v u Q I rx ry ⟨k, z, rfl, rfl, q⟩
      · cases e
    | _ => simp [dIn] at e
  | dk h1 h2 h4 h3 =>
    cases ry
    have e2 := e
    simp only [dIn, Option.map_eq_some_iff] at e2
    obtain ⟨k, hk, e3⟩ := e2
    cases e3
    obtain ⟨a, kv, ea, g1, g2, g3, _⟩ := Rp.dk_inv (Rp.dk (pa := pa) h1 h2 h4 h3)
    cases ea
    obtain ⟨g, gs⟩ := dget_D r1 hk g1 g2 g3
    refine d_in (by omega) I g rx fun s' I' => ?_
    rw [gs]
    exact ⟨.bl _, H, I', rfl, q⟩
  | _ => cases r1 <;> simp [dIn] at e
theorem op_notInX (hu : X.A.units + 64 < cLine) : OpR X (compareOp .NotIn) (rInX X.K true) := by
  intro pins s σ H x y v u Q I rx ry h
  obtain ⟨pa, d, c, b, r1, r2, e, q⟩ := h
  cases r2 with
  | lst h1 h2 =>
    cases ry
    simp only [dIn, Bool.and_eq_true] at e
    split at e
    · rename_i hf
      cases e
      obtain ⟨its, rv, hl, _, _⟩ := Rp.isList I (SqL.of h1)
      refine SeqAt.notIn_listAt (eqTo X.K pa H d) hl (fun w hw => eqTo_all I hf.1 r1 rx hu hf.2 h2 rv w (by simpa using hw)) ?_
      rw [← Array.any_toList, eqTo_any I hf.2 h2 rv]
      exact ⟨.bl _, H, I, rfl, q⟩
    · cases e
  | tup h1 h2 =>
    cases ry
    simp only [dIn, Bool.and_eq_true] at e
    split at e
    · rename_i hf
      cases e
      obtain ⟨its, rv, hl, _, _⟩ := Rp.isTup I h1
      refine SeqAt.notIn_tupleAt (eqTo X.K pa H d) hl (fun w hw => eqTo_all I hf.1 r1 rx hu hf.2 h2 rv w (by simpa using hw)) ?_
      rw [← Array.any_toList, eqTo_any I hf.2 h2 rv]
      exact ⟨.bl _, H, I, rfl, q⟩
    · cases e
  | str z hz =>
    cases r1 with
    | str c hc =>
      simp only [dIn] at e
      split at e
      · rename_i k hk
        cases e
        rw [str_one hk] at rx
        exact op_notIn_sign pins s σ H _ _ v u Q I rx ry ⟨k, z, rfl, rfl, q⟩
      · cases e
    | _ => simp [dIn] at e
  | dk h1 h2 h4 h3 =>
    cases ry
    have e2 := e
    simp only [dIn, Option.map_eq_some_iff] at e2
    obtain ⟨k, hk, e3⟩ := e2
    cases e3
    obtain ⟨a, kv, ea, g1, g2, g3, _⟩ := Rp.dk_inv (Rp.dk (pa := pa) h1 h2 h4 h3)
    cases ea
    obtain ⟨g, gs⟩ := dget_D r1 hk g1 g2 g3
    refine d_notIn (by omega) I g rx fun s' I' => ?_
    rw [gs]
    exact ⟨.bl _, H, I', rfl, q⟩
  | _ => cases r1 <;> simp [dIn] at e
theorem dIn_bl {d c z : D} (h : dIn d c = some z) : ∃ b, z = .bl b := by
  unfold dIn at h
  split at h
  · split at h
    · cases h; exact ⟨_, rfl⟩
    · cases h
  · split at h
    · cases h; exact ⟨_, rfl⟩
    · cases h
  · split at h
    · cases h; exact ⟨_, rfl⟩
    · cases h
  · obtain ⟨k, _, e⟩ := Option.map_eq_some_iff.mp h
    exact ⟨_, e.symm⟩
  · cases h
theorem od_in : OpD K (rInX K false) dIn := by
  intro pa S H p x y d e z Q s rx ry h q
  obtain ⟨b, rfl⟩ := dIn_bl h
  exact ⟨pa, d, e, b, Rp.mono hid_sub _ _ rx, Rp.mono hid_sub _ _ ry, h, q _ H (fun _ _ h => h) (.bl _)⟩
theorem od_notIn : OpD K (rInX K true) dNotIn := by
  intro pa S H p x y d e z Q s rx ry h q
  unfold dNotIn at h
  split at h
  · rename_i b hb
    cases h
    exact ⟨pa, d, e, b, Rp.mono hid_sub _ _ rx, Rp.mono hid_sub _ _ ry, hb, q _ H (fun _ _ h => h) (.bl _)⟩
  · cases h
/-- list.index, list.count -/
def dIndex : D → List D → Option D
  | .lst ds, [d] => if (flat 59 d && flats 59 ds) = true then (ds.findIdx? fun e => deqv e d).map fun j => .int (j : Nat) else none
  | _, _ => none
def dCount : D → List D → Option D
  | .lst ds, [d] => if (flat 59 d && flats 59 ds) = true then some (.int (ds.countP fun e => deqv e d : Nat)) else none
  | _, _ => none
def rIdxX (K : PySem.W.Frag) : V → List V → Hp → VK → Prop := fun x xs H Q => ∃ pa ds y d j, Rp K pa H x (.lst ds) ∧ xs = [y] ∧ Rp K pa H y d ∧ flat 59 d = true ∧ flats 59 ds = true ∧ (ds.findIdx? fun e => deqv e d) = some j ∧ Q (.int (j : Nat)) H
def rCntX (K : PySem.W.Frag) : V → List V → Hp → VK → Prop := fun x xs H Q => ∃ pa ds y d, Rp K pa H x (.lst ds) ∧ xs = [y] ∧ Rp K pa H y d ∧ flat 59 d = true ∧ flats 59 ds = true ∧ Q (.int (ds.countP fun e => deqv e d : Nat)) H
theorem mt_indexX' (hu : X.A.units + 64 < cLine) : MtR X "list.index" (rIdxX X.K) := by
  intro pins s σ H x xs v us Q I rx rxs h
  obtain ⟨pa, ds, y, d, j, r1, rfl, r2, f1, f2, hj, q⟩ := h
  cases r1 with
  | lst h1 h2 =>
    cases rx
    obtain ⟨u, rfl, ru⟩ := rxs.one
    obtain ⟨its, rv, ⟨⟨cls, dd, data, sl⟩, ho, hc, n, hd⟩, len1, hz⟩ := Rp.isList I (SqL.of h1)
    simp only at hc hd
    subst hc hd
    have e1 : its.length = ds.length := len1.trans h2.length
    obtain ⟨hjl, hj1, hj2⟩ := List.findIdx?_eq_some_iff_getElem.mp hj
    have hjs : j < its.toArray.size := by simpa [e1] using hjl
    refine call_meets PySem.F.slot_list_index ⟨_, ho, rfl⟩ PySem.F.entry_list_index (PySem.F.args_list_index_2 _ _)
      (SeqAt.list_indexAt _ its.toArray n dd sl u (eqTo X.K pa H d) j hjs (by rw [sizeLine_eq] at hz; omega) ?_ ?_) ⟨ho, fun w hw => eqTo_all I f1 r2 ru hu f2 h2 rv w (by simpa using hw), ?_⟩
    · obtain ⟨e, q1, q2⟩ := eqTo_get I (d := d) j (by simpa using hjs) f2 h2 rv
      have q3 : ds[j] = e := Option.some.inj ((List.getElem?_eq_getElem hjl).symm.trans q1)
      have q4 : eqTo X.K pa H d its[j] = true := by rw [q2, ← q3]; exact hj1
      simpa using q4
    · intro m hm hmj
      obtain ⟨e, q1, q2⟩ := eqTo_get I (d := d) m (by simpa using hm) f2 h2 rv
      have hml : m < ds.length := by omega
      have q3 : ds[m] = e := Option.some.inj ((List.getElem?_eq_getElem hml).symm.trans q1)
      have q4 : eqTo X.K pa H d its[m] = false := by
        rw [q2, ← q3]
        have := hj2 m hmj
        simpa using this
      simpa using q4
    · exact ⟨.int (j : Nat), H, I.tok _, ⟨_, rfl⟩, q⟩
theorem mt_countX (hu : X.A.units + 64 < cLine) : MtR X "list.count" (rCntX X.K) := by
  intro pins s σ H x xs v us Q I rx rxs h
  obtain ⟨pa, ds, y, d, r1, rfl, r2, f1, f2, q⟩ := h
  cases r1 with
  | lst h1 h2 =>
    cases rx
    obtain ⟨u, rfl, ru⟩ := rxs.one
    obtain ⟨its, rv, ⟨⟨cls, dd, data, sl⟩, ho, hc, n, hd⟩, len1, hz⟩ := Rp.isList I (SqL.of h1)
    simp only at hc hd
    subst hc hd
    refine call_meets PySem.F.slot_list_count ⟨_, ho, rfl⟩ PySem.F.entry_list_count (PySem.F.args_list_count_2 _ _)
      (SeqAt.list_countAt _ its.toArray n dd sl u (eqTo X.K pa H d)) ⟨ho, fun w hw => eqTo_all I f1 r2 ru hu f2 h2 rv w (by simpa using hw), ?_⟩
    have e : its.toArray.toList.countP (eqTo X.K pa H d) = ds.countP fun e => deqv e d := eqTo_count I f2 h2 rv
    rw [e]
    exact ⟨.int _, H, I.tok _, ⟨_, rfl⟩, q⟩
theorem md_index : MtD K "list" (rIdxX K) dIndex := by
  intro pa S H p x xs d ds z Q s rx rxs h q
  unfold dIndex at h
  split at h
  · simp only [Bool.and_eq_true] at h
    split at h
    · rename_i hf
      cases hj : List.findIdx? _ _ with
      | none => rw [hj] at h; cases h
      | some j =>
        rw [hj] at h
        cases h
        cases rxs with
        | cons r1 r2 =>
          cases r2
          exact ⟨pa, _, _, _, j, Rp.mono hid_sub _ _ rx, rfl, Rp.mono hid_sub _ _ r1, hf.1, hf.2, hj, q _ H (fun _ _ h => h) (.int _)⟩
    · cases h
  · cases h
theorem md_count : MtD K "list" (rCntX K) dCount := by
  intro pa S H p x xs d ds z Q s rx rxs h q
  unfold dCount at h
  split at h
  · simp only [Bool.and_eq_true] at h
    split at h
    · rename_i hf
      cases h
      cases rxs with
      | cons r1 r2 =>
        cases r2
        exact ⟨pa, _, _, _, Rp.mono hid_sub _ _ rx, rfl, Rp.mono hid_sub _ _ r1, hf.1, hf.2, q _ H (fun _ _ h => h) (.int _)⟩
    · cases h
  · cases h
/-- is None -/
def dIsN : D → D → Option D
  | .non, .non => some (.bl true)
  | _, .non => some (.bl false)
  | _, _ => none
def dNotN : D → D → Option D
  | .non, .non => some (.bl false)
  | _, .non => some (.bl true)
  | _, _ => none
theorem od_isN : OpD K (fun x y H Q => y = .non ∧ Q (.bl (decide (x = .non))) H) dIsN := by
  intro pa S H p x y d e z Q s rx ry h q
  cases ry with
  | non =>
    refine ⟨rfl, ?_⟩
    cases rx <;> cases h <;> exact q _ H (fun _ _ h => h) (.bl _)
  | _ => cases rx <;> cases h
theorem od_notN : OpD K (fun x y H Q => y = .non ∧ Q (.bl (!decide (x = .non))) H) dNotN := by
  intro pa S H p x y d e z Q s rx ry h q
  cases ry with
  | non =>
    refine ⟨rfl, ?_⟩
    cases rx <;> cases h <;> exact q _ H (fun _ _ h => h) (.bl _)
  | _ => cases rx <;> cases h
def dNeg : D → Option D
  | .int i => some (.int (-i))
  | _ => none
theorem ud_neg : UnD K (rU fun i => .int (-i)) dNeg := by
  intro pa S H p x d z Q s rx h q
  cases rx with
  | int i => cases h; exact ⟨i, rfl, q _ H (fun _ _ h => h) (.int _)⟩
  | _ => cases h
end
end Dt

namespace Dt
open PySem PySem.Spec PyProof.Rows L2
open PySem.SeqAt (EqAt RcAt RcNeAt)

/-! # Items, slices -/
theorem ixN_lt {n : Nat} {i : Int} {j : Nat} (h : ixN n i = some j) : j < n := (ixN_seq h).2.1
theorem atI_rp {K : PySem.W.Frag} {pa : Option Addr} {H : Hp} {vs : List V} {ds : List D} {i : Int} {d : D} (r : RpL K pa H vs ds) (h : atI ds i = some d) : ∃ v, atI vs i = some v ∧ Rp K pa H v d := by
  unfold atI at *
  rw [r.length]
  cases e : ixN ds.length i with
  | none => rw [e] at h; cases h
  | some j =>
    rw [e] at h
    exact r.get h
theorem atI_map {α β : Type} (f : α → β) {xs : List α} {i : Int} : atI (xs.map f) i = (atI xs i).map f := by
  unfold atI
  rw [List.length_map]
  cases e : ixN xs.length i with
  | none => rfl
  | some j => show (xs.map f)[j]? = (xs[j]?).map f; exact List.getElem?_map
def dIx : D → D → Option D
  | .lst ds, .int i => atI ds i
  | .tup ds, .int i => atI ds i
  | .scr ns, .int i => (atI ns i).map .int
  | .str x, .int i => (atI x.cps.toList i).map fun c => .str ⟨#[c]⟩
  | .dk ks ds, y => (keyOf y).bind fun k => getG (ks.zip ds) k
  | _, _ => none
def rIxK : R2 := fun x y H Q => ∃ a v, x = .ref a ∧ DGet H a y (some v) ∧ Q v H
theorem ix_dict {X : Cx} (hu : X.A.units + 1 < cLine) : IxR X rIxK := by
  intro value slice pins s σ H x y v u Q I rx ry h hs
  obtain ⟨a, r, rfl, g, q⟩ := h
  obtain rfl : v = Value.ref a := rx
  exact tail_any (dict_typeIs I g) PySem.F.slot_dict_getitem.lookup (d_getItem hu I g ry fun w' s' I' rw' => ⟨r, H, I', rw', q⟩) hs
def rIxA (K : PySem.W.Frag) : R2 := fun x y H Q => rIx K x y H Q ∨ rIxK x y H Q
def mIx (a b : M) : M := fun r p => bnd (a r p) fun x p => bnd (b r p) fun y p => match x, y with | .pool, .int i => lft ((atI p i).map D.int) p | x, y => lft (dIx x y) p
section
variable {X : Cx} {K : PySem.W.Frag}
theorem one_le_lim : 1 ≤ lim := by decide +kernel
theorem red_ix {a b : M} {σ : L2.St} {H : Hp} {Q : VK} (h : tM K (mIx a b) σ H Q) : tOp (rIxA K) (tM K a) (tM K b) σ H Q := by
  obtain ⟨pa, S, r, p, d, p', c, e, q⟩ := h
  obtain ⟨x, p1, e1, e⟩ := bnd_some e
  obtain ⟨y, p2, e2, e⟩ := bnd_some e
  refine ⟨pa, S, r, p, x, p1, c, e1, fun v1 H1 x1 s1 r1 => ?_⟩
  have c1 := c.go x1 s1
  refine ⟨pa, S, r, p1, y, p2, c1, e2, fun v2 H2 x2 s2 r2' => ?_⟩
  have r1' := Rp.mono (x2.hid s1) _ _ r1
  have fin : ∀ p3 v, p2 = p3 → p' = p3 → Rp K pa (hid S H2) v d → Q v H2 := fun p3 v h1 h2 h3 => by
    subst h1
    subst h2
    exact q v H2 (x1.trans x2) s2 h3
  cases r1' with
  | @lst l xs ds h1 h2 =>
    obtain ⟨z, e3, rfl, rfl⟩ := lft_eq e
    cases r2' with
    | int i =>
      obtain ⟨v, q1, q2⟩ := atI_rp h2 e3
      exact .inl (.inl ⟨l, xs, i, v, rfl, rfl, SqL.of (hid_sub _ _ h1), q1, fin _ v rfl rfl q2⟩)
    | _ => cases e3
  | @tup l xs ds h1 h2 =>
    obtain ⟨z, e3, rfl, rfl⟩ := lft_eq e
    cases r2' with
    | int i =>
      obtain ⟨v, q1, q2⟩ := atI_rp h2 e3
      exact .inl (.inr (.inl ⟨l, xs, i, v, rfl, rfl, sameT hid_sub h1, q1, fin _ v rfl rfl q2⟩))
    | _ => cases e3
  | @scr l ns h1 =>
    obtain ⟨z, e3, rfl, rfl⟩ := lft_eq e
    cases r2' with
    | int i =>
      simp only [dIx] at e3
      cases e4 : atI ns i with
      | none => rw [e4] at e3; cases e3
      | some n =>
        rw [e4] at e3
        cases e3
        exact .inl (.inl ⟨l, _, i, .int n, rfl, rfl, sameL hid_sub h1, by rw [atI_map, e4]; rfl, fin _ _ rfl rfl (.int n)⟩)
    | _ => cases e3
  | str z hz =>
    obtain ⟨w, e3, rfl, rfl⟩ := lft_eq e
    cases r2' with
    | int i =>
      simp only [dIx] at e3
      cases e4 : atI z.cps.toList i with
      | none => rw [e4] at e3; cases e3
      | some n =>
        rw [e4] at e3
        cases e3
        exact .inl (.inr (.inr ⟨z, i, n, rfl, rfl, lim_sz hz, e4, fin _ _ rfl rfl (.str _ one_le_lim)⟩))
    | _ => cases e3
  | pool hp =>
    cases r2' with
    | int i =>
      obtain ⟨z, e3, rfl, rfl⟩ := lft_eq e
      cases e4 : atI p2 i with
      | none => rw [e4] at e3; cases e3
      | some n =>
        rw [e4] at e3
        cases e3
        exact .inl (.inl ⟨_, _, i, .int n, rfl, rfl, SqL.of (s2.pool _ hp).1, by rw [atI_map, e4]; rfl, fin _ _ rfl rfl (.int n)⟩)
    | _ =>
      obtain ⟨z, e3, rfl, rfl⟩ := lft_eq e
      cases e3
  | dk h1 h2 h4 h3 =>
    obtain ⟨z, e3, rfl, rfl⟩ := lft_eq e
    simp only [dIx, Option.bind_eq_some_iff] at e3
    obtain ⟨k, hk, e3⟩ := e3
    obtain ⟨a, kv, ea, g1, g2, g3, _⟩ := Rp.dk_inv (Rp.dk (pa := pa) h1 h2 h4 h3)
    cases ea
    have g := (dget_D (Rp.mono hid_sub _ _ r2') hk (sameR hid_sub g1) (KRp.mono hid_sub g2) g3).1
    rcases g2.get k with ⟨m1, _⟩ | ⟨v, d', m1, m2, m3⟩
    · rw [m1] at e3; cases e3
    · rw [m1] at e3
      cases e3
      rw [m2] at g
      exact .inr ⟨_, v, rfl, g, fin _ v rfl rfl m3⟩
  | _ =>
    obtain ⟨z, e3, rfl, rfl⟩ := lft_eq e
    cases e3
theorem je_ix {a b : Expr} {ma mb : M} {pos : Pos} (hu : X.A.units + 64 < cLine) (ha : JE X a ma) (hb : JE X b mb) (hs : PlainIx b := by exact fun _ _ => rfl) : JE X (.Subscript a b pos) (mIx ma mb) := ⟨(pe_ix (ix_seq.or (ix_dict (by omega))) ha.pe hb.pe hs).weak fun σ H Q => red_ix⟩

def dcut {α : Type} (xs : List α) (lo hi : Option Int) : List α := (xs.drop (HT.sIx xs.length 0 lo)).take (HT.sIx xs.length xs.length hi - HT.sIx xs.length 0 lo)
theorem cut_rp {pa : Option Addr} {H : Hp} {vs : List V} {ds : List D} {lo hi : Option Int} (r : RpL K pa H vs ds) : RpL K pa H (cutV vs lo hi) (dcut ds lo hi) := by
  unfold cutV dcut
  rw [r.length]
  exact (r.drop _).take _
def dSl : D → Option Int → Option Int → Option D
  | .lst ds, lo, hi => some (.lst (dcut ds lo hi))
  | .tup ds, lo, hi => some (.tup (dcut ds lo hi))
  | .scr ns, lo, hi => some (.lst ((dcut ns lo hi).map .int))
  | .str x, lo, hi => some (.str (cutS x lo hi))
  | _, _, _ => none
abbrev MO := Ev → List Int → MR (Option Int)
def tMO (K : PySem.W.Frag) (m : MO) : TO := fun σ H Q => ∃ pa S r p o p', Cn K pa S σ H r p ∧ m r p = some (o, p') ∧ ∀ H', Ext pa H H' → Sta pa S H' p' → Q o H'
structure JO (X : Cx) (e : Option Expr) (m : MO) : Prop where po : PO X e (tMO X.K m)
def oNone : MO := fun _ p => some (none, p)
def oSome (a : M) : MO := fun r p => bnd (a r p) fun x p => match x with | .int i => some (some i, p) | _ => none
theorem _root_.L2.PO.weak {X : Cx} {e : Option Expr} {t t' : TO} (h : PO X e t) (w : ∀ σ H Q, t' σ H Q → t σ H Q) : PO X e t' := ⟨fun pins s σ H Q I q => h.run pins s σ H Q I (w σ H Q q)⟩
theorem jo_none : JO X none oNone := ⟨po_none.weak fun σ H Q ⟨pa, S, r, p, o, p', c, e, q⟩ => by
  cases e
  exact q H Ext.refl c.sta⟩
theorem jo_some {e : Expr} {m : M} (h : JE X e m) : JO X (some e) (oSome m) := ⟨(po_some h.pe).weak fun σ H Q ⟨pa, S, r, p, o, p', c, e, q⟩ => by
  obtain ⟨x, p1, e1, e⟩ := bnd_some e
  refine ⟨pa, S, r, p, x, p1, c, e1, fun v H1 x1 s1 r1 => ?_⟩
  cases x with
  | int i =>
    obtain ⟨rfl, rfl⟩ := pr e
    cases r1
    exact ⟨i, rfl, q H1 x1 s1⟩
  | _ => cases e⟩
def mSl (a : M) (lo hi : MO) : M := fun r p => bnd (a r p) fun x p => bnd (lo r p) fun l p => bnd (hi r p) fun h p => lft (dSl x l h) p
def rSlD (K : PySem.W.Frag) : V → Option Int → Option Int → Hp → VK → Prop := fun x lo hi H Q => rSlL K x lo hi H Q ∨ rSlA K x lo hi H Q ∨ rSlS x lo hi H Q
theorem sl_D : SlR X (rSlD X.K) := sl_list.or (sl_tupA.or sl_str)
theorem cutS_len (z : Str) (lo hi : Option Int) : (cutS z lo hi).length ≤ z.length := by
  unfold cutS
  show (List.toArray _).size ≤ z.cps.size
  rw [List.size_toArray, List.length_take, List.length_drop]
  have : z.cps.toList.length = z.cps.size := by simp
  omega
theorem dcut_whole {α : Type} {xs : List α} {lo hi : Option Int} (h : HT.sIx xs.length 0 lo = 0 ∧ HT.sIx xs.length xs.length hi = xs.length) : dcut xs lo hi = xs := by
  unfold dcut
  rw [h.1, h.2, List.drop_zero, Nat.sub_zero, List.take_length]
theorem dcut_map {α β : Type} (f : α → β) (xs : List α) (lo hi : Option Int) : dcut (xs.map f) lo hi = (dcut xs lo hi).map f := by
  unfold dcut
  rw [List.length_map, List.map_take, List.map_drop]
theorem red_sl {a : M} {lo hi : MO} {σ : L2.St} {H : Hp} {Q : VK} (h : tM K (mSl a lo hi) σ H Q) : tSl (rSlD K) (tM K a) (tMO K lo) (tMO K hi) σ H Q := by
  obtain ⟨pa, S, r, p, d, p', c, e, q⟩ := h
  obtain ⟨x, p1, e1, e⟩ := bnd_some e
  obtain ⟨l, p2, e2, e⟩ := bnd_some e
  obtain ⟨u, p3, e3, e⟩ := bnd_some e
  obtain ⟨z, e4, rfl, rfl⟩ := lft_eq e
  refine ⟨pa, S, r, p, x, p1, c, e1, fun v1 H1 x1 s1 r1 => ?_⟩
  have c1 := c.go x1 s1
  refine ⟨pa, S, r, p1, l, p2, c1, e2, fun H2 x2 s2 => ?_⟩
  have c2 := c1.go x2 s2
  refine ⟨pa, S, r, p2, u, p3, c2, e3, fun H3 x3 s3 => ?_⟩
  have r3 := Rp.mono (x3.hid s2) _ _ (Rp.mono (x2.hid s1) _ _ r1)
  have q' := (q.after c ((x1.trans x2).trans x3)).val s3
  cases r3 with
  | @lst w xs ds h1 h2 =>
    cases e4
    exact .inl ⟨_, _, rfl, SqL.of (hid_sub _ _ h1), fun a n => q' _ _ (same_upd n) (Rp.newL s3 (cut_rp h2) n)⟩
  | @scr w ns h1 =>
    cases e4
    refine .inl ⟨_, _, rfl, sameL hid_sub h1, fun a n => q' _ _ (same_upd n) ?_⟩
    refine Rp.newL s3 ?_ n
    have := cut_rp (K := K) (pa := pa) (H := hid S H3) (lo := l) (hi := u) (RpL.ints ns)
    rw [dcut_map] at this
    exact this
  | @tup w xs ds h1 h2 =>
    cases e4
    refine .inr (.inl ⟨_, _, rfl, sameT hid_sub h1, fun hw => ?_, fun _ a n => q' _ _ (same_upd n) (Rp.newT s3 (cut_rp h2) n)⟩)
    rw [dcut_whole (by rw [← h2.length]; exact hw)] at q'
    exact q' _ H3 (fun _ _ h => h) (.tup h1 h2)
  | str w hw =>
    cases e4
    exact .inr (.inr ⟨w, rfl, lim_sz hw, q' _ H3 (fun _ _ h => h) (.str _ (Nat.le_trans (cutS_len _ _ _) hw))⟩)
  | _ => cases e4
theorem je_sl {a : Expr} {lo hi : Option Expr} {ma : M} {ml mh : MO} {pos p2 : Pos} (ha : JE X a ma) (hl : JO X lo ml) (hh : JO X hi mh) : JE X (.Subscript a (.Slice lo hi none p2) pos) (mSl ma ml mh) := ⟨(pe_slice sl_D ha.pe hl.po hh.po).weak fun σ H Q => red_sl⟩
/-- xs[::-1] of a list -/
def dRev : D → Option D
  | .lst ds => some (.lst ds.reverse)
  | _ => none
theorem je_rev {a : Expr} {ma : M} {k : Nat} {p1 p2 p3 pos : Pos} (ha : JE X a ma) : JE X (.Subscript a (.Slice none none (some (.UnaryOp .USub (.Constant (.int 1) k p1) p2)) p3) pos) (mUn dRev ma) := ⟨(pe_revL ha.pe).weak fun σ H Q ⟨pa, S, r, p, d, p', c, e, q⟩ => by
  obtain ⟨x, p1, e1, e⟩ := bnd_some e
  obtain ⟨z, e4, rfl, rfl⟩ := lft_eq e
  refine ⟨pa, S, r, p, x, p1, c, e1, fun v1 H1 x1 s1 r1 => ?_⟩
  cases r1 with
  | lst h1 h2 =>
    cases e4
    exact ⟨_, _, rfl, SqL.of (hid_sub _ _ h1), fun a n => (q.after c x1).val s1 _ _ (same_upd n) (Rp.newL s1 h2.rev n)⟩
  | _ => cases e4⟩

/-! # Built-in functions -/
theorem je_callB {x : Str} {id : String} {rc : List V → Hp → VK → Prop} {f : List D → Option D} {e : Expr} {es : List Expr} {ms : ML} {p pos : Pos} (hc : CallR X (.builtin id) rc) (hf : CallD X.K rc f) (hm : X.mg x = none) (hv : bootBuiltins x = some (.builtin id)) (ha : JA X (e :: es) ms) (hg : Gl X x := by rfl) (hn : x ≠ "__name__" := by decide) (hdb : (x == ("__debug__" : Str)) = false := by decide)
    (he : starEach (e :: es) X.env = (false, eval e X.env) :: starEach es X.env := by rfl) (hpl : (backTo pos (starEach es X.env)).any (·.1) = false := by rfl) : JE X (.Call (.Name x p) (e :: es) [] pos) (mCB f ms) :=
  ⟨(pe_callB hc hg hm hv ha.pa hn hdb he hpl).weak fun σ H Q => red_cb hf⟩
theorem je_callTy {x : Str} {T : String} {rc : List V → Hp → VK → Prop} {f : List D → Option D} {e : Expr} {es : List Expr} {ms : ML} {p pos : Pos} (hc : CallR X (.type T) rc) (hf : CallD X.K rc f) (hm : X.mg x = none) (hv : bootBuiltins x = some (.type T)) (ha : JA X (e :: es) ms) (hg : Gl X x := by rfl) (hn : x ≠ "__name__" := by decide) (hdb : (x == ("__debug__" : Str)) = false := by decide)
    (he : starEach (e :: es) X.env = (false, eval e X.env) :: starEach es X.env := by rfl) (hpl : (backTo pos (starEach es X.env)).any (·.1) = false := by rfl) : JE X (.Call (.Name x p) (e :: es) [] pos) (mCB f ms) :=
  ⟨(pe_callTy hc hg hm hv ha.pa hn hdb he hpl).weak fun σ H Q => red_cb hf⟩
def dLen : List D → Option D
  | [.str x] => some (.int x.length)
  | [.lst ds] => some (.int ds.length)
  | [.tup ds] => some (.int ds.length)
  | [.scr ns] => some (.int ns.length)
  | [.dk ks _] => some (.int ks.length)
  | _ => none
def rLenA (K : PySem.W.Frag) : List V → Hp → VK → Prop := fun xs H Q => (∃ x n, xs = [x] ∧ LenV K x H n ∧ Q (.int n) H) ∨ ∃ a kvs, xs = [.ref a] ∧ Rd H a (.dK kvs) ∧ Q (.int kvs.length) H
theorem call_lenA {X : Cx} : CallR X (.builtin "len") (rLenA X.K) := by
  intro pins s σ H xs us Q I r h
  rcases h with h | ⟨a, kvs, rfl, hd, q⟩
  · exact call_len pins s σ H xs us Q I r h
  · obtain ⟨u, rfl, rx⟩ := vals1 r
    obtain rfl : u = Value.ref a := rx
    exact d_len I hd fun t s' I' => ⟨.int kvs.length, H, I', ⟨t, rfl⟩, q⟩
theorem cd_len : CallD K (rLenA K) dLen := by
  intro pa S H p xs ds z Q s r h q
  cases r with
  | nil => cases h
  | cons r1 r2 =>
    cases r2 with
    | cons _ _ => cases r1 <;> cases h
    | nil =>
      cases r1 with
      | str x hx => cases h; exact .inl ⟨_, _, rfl, ⟨lim_sz hx, rfl⟩, q _ H (fun _ _ h => h) (.int _)⟩
      | lst h1 h2 => cases h; exact .inl ⟨_, _, rfl, .inl ⟨_, SqL.of (hid_sub _ _ h1), rfl⟩, by rw [h2.length]; exact q _ H (fun _ _ h => h) (.int _)⟩
      | tup h1 h2 => cases h; exact .inl ⟨_, _, rfl, .inr ⟨_, sameT hid_sub h1, rfl⟩, by rw [h2.length]; exact q _ H (fun _ _ h => h) (.int _)⟩
      | scr h1 => cases h; exact .inl ⟨_, _, rfl, .inl ⟨_, sameL hid_sub h1, rfl⟩, by rw [List.length_map]; exact q _ H (fun _ _ h => h) (.int _)⟩
      | dk h1 h2 h4 h3 =>
        cases h
        obtain ⟨a, kv, ea, g1, g2, g3, _⟩ := Rp.dk_inv (Rp.dk (pa := pa) h1 h2 h4 h3)
        cases ea
        refine .inr ⟨_, kv, rfl, sameR hid_sub g1, ?_⟩
        have e1 := g2.length
        rw [List.length_zip, g3, Nat.min_self] at e1
        rw [e1]
        exact q _ H (fun _ _ h => h) (.int _)
      | _ => cases h
def dAbs : List D → Option D
  | [.int i] => some (.int (if i < 0 then -i else i))
  | _ => none
theorem cd_abs : CallD K (fun xs H Q => ∃ i, xs = [.int i] ∧ Q (.int (if i < 0 then -i else i)) H) dAbs := by
  intro pa S H p xs ds z Q s r h q
  cases r with
  | nil => cases h
  | cons r1 r2 =>
    cases r2 with
    | cons _ _ => cases r1 <;> cases h
    | nil =>
      cases r1 with
      | int i => cases h; exact ⟨_, rfl, q _ H (fun _ _ h => h) (.int _)⟩
      | _ => cases h
def dInt : List D → Option D
  | [.int i] => some (.int i)
  | [.bl b] => some (.int (if b then 1 else 0))
  | _ => none
theorem cd_int : CallD K (fun xs H Q => (∃ i, xs = [.int i] ∧ Q (.int i) H) ∨ ∃ k, xs = [.bl k] ∧ Q (.int (if k then 1 else 0)) H) dInt := by
  intro pa S H p xs ds z Q s r h q
  cases r with
  | nil => cases h
  | cons r1 r2 =>
    cases r2 with
    | cons _ _ => cases r1 <;> cases h
    | nil =>
      cases r1 with
      | int i => cases h; exact .inl ⟨_, rfl, q _ H (fun _ _ h => h) (.int _)⟩
      | bl i => cases h; exact .inr ⟨_, rfl, q _ H (fun _ _ h => h) (.int _)⟩
      | _ => cases h
def asBls : List D → Option (List Bool)
  | [] => some []
  | .bl b :: ds => (asBls ds).map (b :: ·)
  | _ => none
theorem asBls_eq : ∀ {ds : List D} {bs : List Bool}, asBls ds = some bs → ds = bs.map D.bl
  | [], _, h => by cases h; rfl
  | d :: ds, bs, h => by
    cases d with
    | bl b =>
      simp only [asBls] at h
      cases e : asBls ds with
      | none => rw [e] at h; cases h
      | some cs => rw [e] at h; cases h; rw [asBls_eq e]; rfl
    | _ => cases h
def asStrs : List D → Option (List Str)
  | [] => some []
  | .str b :: ds => (asStrs ds).map (b :: ·)
  | _ => none
theorem asStrs_eq : ∀ {ds : List D} {bs : List Str}, asStrs ds = some bs → ds = bs.map D.str
  | [], _, h => by cases h; rfl
  | d :: ds, bs, h => by
    cases d with
    | str b =>
      simp only [asStrs] at h
      cases e : asStrs ds with
      | none => rw [e] at h; cases h
      | some cs => rw [e] at h; cases h; rw [asStrs_eq e]; rfl
    | _ => cases h
@[simp] theorem asBls_map : ∀ bs : List Bool, asBls (bs.map D.bl) = some bs
  | [] => rfl
  | b :: bs => by simp [asBls, asBls_map bs]
@[simp] theorem asStrs_map : ∀ bs : List Str, asStrs (bs.map D.str) = some bs
  | [] => rfl
  | b :: bs => by simp [asStrs, asStrs_map bs]
def dAll : List D → Option D
  | [.lst ds] => (asBls ds).map fun bs => .bl (bs.all id)
  | _ => none
def dAny : List D → Option D
  | [.lst ds] => (asBls ds).map fun bs => .bl (bs.any id)
  | _ => none
theorem cd_all : CallD K (rAll K) dAll := by
  intro pa S H p xs ds z Q s r h q
  cases r with
  | nil => cases h
  | cons r1 r2 =>
    cases r2 with
    | cons _ _ => cases r1 <;> cases h
    | nil =>
      cases r1 with
      | @lst a vs ds h1 h2 =>
        simp only [dAll] at h
        cases e : asBls ds with
        | none => rw [e] at h; cases h
        | some bs =>
          rw [e] at h
          cases h
          rw [asBls_eq e] at h2
          rw [h2.bls_of] at h1
          exact ⟨_, bs, rfl, SqL.of (hid_sub _ _ h1), q _ H (fun _ _ h => h) (.bl _)⟩
      | _ => cases h
theorem cd_any : CallD K (rAny K) dAny := by
  intro pa S H p xs ds z Q s r h q
  cases r with
  | nil => cases h
  | cons r1 r2 =>
    cases r2 with
    | cons _ _ => cases r1 <;> cases h
    | nil =>
      cases r1 with
      | @lst a vs ds h1 h2 =>
        simp only [dAny] at h
        cases e : asBls ds with
        | none => rw [e] at h; cases h
        | some bs =>
          rw [e] at h
          cases h
          rw [asBls_eq e] at h2
          rw [h2.bls_of] at h1
          exact ⟨_, bs, rfl, SqL.of (hid_sub _ _ h1), q _ H (fun _ _ h => h) (.bl _)⟩
      | _ => cases h
def dTuple : List D → Option D
  | [.lst ds] => some (.tup ds)
  | [.tup ds] => some (.tup ds)
  | _ => none
theorem cd_tuple : CallD K (fun xs H Q => ∃ p ys, xs = [.ref p] ∧ ((SqL K H p ys ∧ ∀ l, H l = none → Q (.ref l) (upd H l (.tup ys))) ∨ (SqT K H p ys ∧ Q (.ref p) H))) dTuple := by
  intro pa S H p xs ds z Q s r h q
  cases r with
  | nil => cases h
  | cons r1 r2 =>
    cases r2 with
    | cons _ _ => cases r1 <;> cases h
    | nil =>
      cases r1 with
      | lst h1 h2 => cases h; exact ⟨_, _, rfl, .inl ⟨SqL.of (hid_sub _ _ h1), fun l n => q _ _ (same_upd n) (Rp.newT s h2 n)⟩⟩
      | tup h1 h2 => cases h; exact ⟨_, _, rfl, .inr ⟨sameT hid_sub h1, q _ H (fun _ _ h => h) (.tup h1 h2)⟩⟩
      | _ => cases h
def dList : List D → Option D
  | [.lst ds] => some (.lst ds)
  | [.tup ds] => some (.lst ds)
  | [.scr ns] => some (.lst (ns.map .int))
  | _ => none
theorem cd_list : CallD K (fun xs H Q => ∃ p ys, xs = [.ref p] ∧ (SqL K H p ys ∨ SqT K H p ys) ∧ ∀ l, H l = none → Q (.ref l) (upd H l (.lst ys))) dList := by
  intro pa S H p xs ds z Q s r h q
  cases r with
  | nil => cases h
  | cons r1 r2 =>
    cases r2 with
    | cons _ _ => cases r1 <;> cases h
    | nil =>
      cases r1 with
      | lst h1 h2 => cases h; exact ⟨_, _, rfl, .inl (SqL.of (hid_sub _ _ h1)), fun l n => q _ _ (same_upd n) (Rp.newL s h2 n)⟩
      | tup h1 h2 => cases h; exact ⟨_, _, rfl, .inr (sameT hid_sub h1), fun l n => q _ _ (same_upd n) (Rp.newL s h2 n)⟩
      | scr h1 => cases h; exact ⟨_, _, rfl, .inl (sameL hid_sub h1), fun l n => q _ _ (same_upd n) (Rp.newL s (RpL.ints _) n)⟩
      | _ => cases h
def dDivmod : List D → Option D
  | [.int i, .int j] => if (decide (0 < j) && decide (j < 1073741824)) = true then some (.tup [.int (i / j), .int (i % j)]) else none
  | _ => none
theorem cd_divmod : CallD K (fun xs H Q => ∃ i j, xs = [.int i, .int j] ∧ CDiv i j ∧ ∀ p, H p = none → Q (.ref p) (upd H p (.tup [.int (i / j), .int (i % j)]))) dDivmod := by
  intro pa S H p xs ds z Q s r h q
  cases r with
  | nil => cases h
  | cons r1 r2 =>
    cases r2 with
    | nil => cases r1 <;> cases h
    | cons r3 r4 =>
      cases r4 with
      | cons _ _ => cases r1 <;> cases r3 <;> cases h
      | nil =>
        cases r1 with
        | int i =>
          cases r3 with
          | int j =>
            simp only [dDivmod] at h
            split at h
            · rename_i hc
              cases h
              rw [Bool.and_eq_true] at hc
              exact ⟨i, j, rfl, ⟨of_decide_eq_true hc.1, of_decide_eq_true hc.2⟩, fun l n => q _ _ (same_upd n) (Rp.newT s (.cons (.int _) (.cons (.int _) .nil)) n)⟩
            · cases h
          | _ => cases h
        | _ => cases h
def dMin2 : List D → Option D
  | [.int i, .int j] => some (.int (if j < i then j else i))
  | _ => none
def dMax2 : List D → Option D
  | [.int i, .int j] => some (.int (if j > i then j else i))
  | _ => none
theorem cd_min2 : CallD K (fun xs H Q => ∃ i j, xs = [.int i, .int j] ∧ Q (.int (if j < i then j else i)) H) dMin2 := by
  intro pa S H p xs ds z Q s r h q
  cases r with
  | nil => cases h
  | cons r1 r2 =>
    cases r2 with
    | nil => cases r1 <;> cases h
    | cons r3 r4 =>
      cases r4 with
      | cons _ _ => cases r1 <;> cases r3 <;> cases h
      | nil =>
        cases r1 with
        | int i =>
          cases r3 with
          | int j => cases h; exact ⟨i, j, rfl, q _ H (fun _ _ h => h) (.int _)⟩
          | _ => cases h
        | _ => cases h
theorem cd_max2 : CallD K (fun xs H Q => ∃ i j, xs = [.int i, .int j] ∧ Q (.int (if j > i then j else i)) H) dMax2 := by
  intro pa S H p xs ds z Q s r h q
  cases r with
  | nil => cases h
  | cons r1 r2 =>
    cases r2 with
    | nil => cases r1 <;> cases h
    | cons r3 r4 =>
      cases r4 with
      | cons _ _ => cases r1 <;> cases r3 <;> cases h
      | nil =>
        cases r1 with
        | int i =>
          cases r3 with
          | int j => cases h; exact ⟨i, j, rfl, q _ H (fun _ _ h => h) (.int _)⟩
          | _ => cases h
        | _ => cases h
end
end Dt

namespace Dt
open PySem PySem.Spec PyProof.Rows L2
open PySem.SeqAt (EqAt RcAt RcNeAt)

/-! # Methods -/
section
variable {X : Cx} {K : PySem.W.Frag}
theorem je_mt0 {T id : String} {name : Str} {rm : V → List V → Hp → VK → Prop} {f : D → List D → Option D} {o : Expr} {mo : M} {apos cpos : Pos} (pa : PlainAttrs T) (slot : Slot T name id) (hty : typeOf (.builtin id) = pure (.type "method_descriptor")) (hm : MtR X id rm) (hf : MtD X.K T rm f)
    (ht : ∀ pa S H x d ds z, Rp X.K pa (hid S H) x d → f d ds = some z → tyV X.K T x H) (ho : JE X o mo)
    (hbase : attributeBase o name X.env (eval o X.env) = eval o X.env := by rfl) (hline : (apos.endLine == cpos.line) = true := by rfl) : JE X (.Call (.Attribute o name apos) [] [] cpos) (mMt f mo mNil) :=
  ⟨(pe_bm0 pa slot hty hm ho.pe hbase hline).weak fun σ H Q => red_mt0 hf ht⟩
theorem je_mt {T id : String} {name : Str} {rm : V → List V → Hp → VK → Prop} {f : D → List D → Option D} {o e : Expr} {es : List Expr} {mo : M} {ms : ML} {apos cpos : Pos} (pa : PlainAttrs T) (slot : Slot T name id) (hty : typeOf (.builtin id) = pure (.type "method_descriptor")) (hm : MtR X id rm) (hf : MtD X.K T rm f)
    (ht : ∀ pa S H x d ds z, Rp X.K pa (hid S H) x d → f d ds = some z → tyV X.K T x H) (ho : JE X o mo) (ha : JA X (e :: es) ms)
    (hbase : attributeBase o name X.env (eval o X.env) = eval o X.env := by rfl)
    (hfew : ((backTo cpos (starEach (e :: es) X.env)).all (fun x => !x.1) && (backToKw cpos (keywordEach [] X.env)).all (fun x => x.1.isSome) && decide ((e :: es).length + ([] : List Keyword).length + (if ([] : List Keyword).isEmpty then 0 else 1) < 30)) = true := by rfl)
    (hline : (apos.endLine == cpos.line) = true := by rfl) (hs : starEach (e :: es) X.env = (false, eval e X.env) :: starEach es X.env := by rfl) (hplain : (backTo cpos (starEach es X.env)).any (·.1) = false := by rfl) :
    JE X (.Call (.Attribute o name apos) (e :: es) [] cpos) (mMt f mo ms) :=
  ⟨(pe_bm pa slot hty hm ho.pe ha.pa hbase hfew hline hs hplain).weak fun σ H Q => red_mt1 hf ht⟩
theorem ty_str {f : D → List D → Option D} (hf : ∀ d ds z, f d ds = some z → ∃ x, d = .str x) : ∀ (pa : Option Addr) (S : Addr → Prop) (H : Hp) (x : V) (d : D) (ds : List D) (z : D), Rp K pa (hid S H) x d → f d ds = some z → tyV K "str" x H := by
  intro pa S H x d ds z r h
  obtain ⟨y, rfl⟩ := hf d ds z h
  cases r
  rfl
theorem ty_lst {f : D → List D → Option D} (hf : ∀ d ds z, f d ds = some z → ∃ x, d = .lst x) : ∀ (pa : Option Addr) (S : Addr → Prop) (H : Hp) (x : V) (d : D) (ds : List D) (z : D), Rp K pa (hid S H) x d → f d ds = some z → tyV K "list" x H := by
  intro pa S H x d ds z r h
  obtain ⟨y, rfl⟩ := hf d ds z h
  cases r with
  | lst h1 h2 => exact .inl ⟨rfl, _, SqL.of (hid_sub _ _ h1)⟩
/-- split, join, startswith, removeprefix, partition -/
def dSplit : D → List D → Option D
  | .str a, [.str b] => if (b.length == 0) = false then some (.lst ((Txt.split a b).map .str)) else none
  | _, _ => none
theorem md_split : MtD K "str" (fun x xs H Q => ∃ a b, x = .str a ∧ xs = [.str b] ∧ (b.length == 0) = false ∧ a.length + 2 ≤ sizeLine ∧ rNewStrs (Txt.split a b) H Q) dSplit := by
  intro pa S H p x xs d ds z Q s rx rxs h q
  unfold dSplit at h
  split at h
  · rename_i a b
    split at h
    · rename_i hb
      cases h
      cases rx with
      | str _ ha =>
        cases rxs with
        | cons r1 r2 =>
          cases r2
          cases r1
          refine ⟨a, b, rfl, rfl, hb, by have := lim_lt; omega, fun l n => q _ _ (same_upd n) (Rp.newL s (RpL.strs _ fun y hy => Nat.le_trans (part_short hy) ha) n)⟩
    · cases h
  · cases h
theorem dSplit_str {d : D} {ds : List D} {z : D} (h : dSplit d ds = some z) : ∃ x, d = .str x := by
  unfold dSplit at h
  split at h
  · exact ⟨_, rfl⟩
  · cases h
def strsOf : D → Option (List Str)
  | .lst ds => asStrs ds
  | .tup ds => asStrs ds
  | _ => none
def joinSz (a : Str) (ys : List Str) : Nat := (ys.map (·.length)).sum + ys.length * a.length
def dJoin : D → List D → Option D
  | .str a, [d] => match strsOf d with | some ys => if joinSz a ys ≤ lim then some (.str (Txt.join a ys)) else none | none => none
  | _, _ => none
theorem joinLen (y : Str) : ∀ parts : List Str, (Str.join y parts).length ≤ joinSz y parts
  | [] => Nat.zero_le _
  | [x] => by simp [Str.join, joinSz]
  | x :: z :: r => by
    have ih := joinLen y (z :: r)
    show (x ++ y ++ Str.join y (z :: r)).length ≤ _
    rw [str_app_len, str_app_len]
    unfold joinSz at *
    simp only [List.map_cons, List.sum_cons, List.length_cons, Nat.add_mul, Nat.one_mul] at *
    omega
theorem md_join : MtD K "str" (fun x xs H Q => ∃ a p, ∃ ys : List Str, x = .str a ∧ xs = [.ref p] ∧ (SqL K H p (ys.map V.str) ∨ SqT K H p (ys.map V.str)) ∧ (ys.map (·.length)).sum + ys.length * a.length ≤ 16777216 ∧ Q (.str (Txt.join a ys)) H) dJoin := by
  intro pa S H p x xs d ds z Q s rx rxs h q
  unfold dJoin at h
  split at h
  · rename_i a d1
    split at h
    · rename_i ys e
      split at h
      · rename_i hl
        cases h
        cases rx with
        | str _ ha =>
          cases rxs with
          | cons r1 r2 =>
            cases r2
            have hz : (ys.map (·.length)).sum + ys.length * a.length ≤ 16777216 := by
              have h1 : joinSz a ys ≤ lim := hl
              have h2 := lim_lt
              rw [sizeLine_eq] at h2
              unfold joinSz at h1
              omega
            have fin := q (.str (Txt.join a ys)) H (fun _ _ h => h) (.str _ (by rw [TL.join_eq]; exact Nat.le_trans (joinLen a ys) hl))
            cases r1 with
            | lst h1 h2 =>
              rw [asStrs_eq (show asStrs _ = some ys from e)] at h2
              rw [h2.strs_of] at h1
              exact ⟨a, _, ys, rfl, rfl, .inl (SqL.of (hid_sub _ _ h1)), hz, fin⟩
            | tup h1 h2 =>
              rw [asStrs_eq (show asStrs _ = some ys from e)] at h2
              rw [h2.strs_of] at h1
              exact ⟨a, _, ys, rfl, rfl, .inr (sameT hid_sub h1), hz, fin⟩
            | _ => cases e
      · cases h
    · cases h
  · cases h
theorem dJoin_str {d : D} {ds : List D} {z : D} (h : dJoin d ds = some z) : ∃ x, d = .str x := by
  unfold dJoin at h
  split at h
  · exact ⟨_, rfl⟩
  · cases h
def dStarts : D → List D → Option D
  | .str a, [.str b] => some (.bl (Txt.startswith a b))
  | _, _ => none
theorem md_starts : MtD K "str" (fun x xs H Q => ∃ a b, x = .str a ∧ xs = [.str b] ∧ Q (.bl (Txt.startswith a b)) H) dStarts := by
  intro pa S H p x xs d ds z Q s rx rxs h q
  unfold dStarts at h
  split at h
  · cases h
    cases rx
    cases rxs with
    | cons r1 r2 => cases r2; cases r1; exact ⟨_, _, rfl, rfl, q _ H (fun _ _ h => h) (.bl _)⟩
  · cases h
theorem dStarts_str {d : D} {ds : List D} {z : D} (h : dStarts d ds = some z) : ∃ x, d = .str x := by
  unfold dStarts at h
  split at h
  · exact ⟨_, rfl⟩
  · cases h
theorem dIndex_lst {d : D} {ds : List D} {z : D} (h : dIndex d ds = some z) : ∃ x, d = .lst x := by
  unfold dIndex at h
  split at h
  · exact ⟨_, rfl⟩
  · cases h
theorem dCount_lst {d : D} {ds : List D} {z : D} (h : dCount d ds = some z) : ∃ x, d = .lst x := by
  unfold dCount at h
  split at h
  · exact ⟨_, rfl⟩
  · cases h
variable {o e : Expr} {mo : M} {ms : ML} {apos cpos : Pos}
theorem je_split (ho : JE X o mo) (ha : JA X [e] ms) (hbase : attributeBase o "split" X.env (eval o X.env) = eval o X.env := by rfl)
    (hfew : ((backTo cpos (starEach [e] X.env)).all (fun x => !x.1) && (backToKw cpos (keywordEach [] X.env)).all (fun x => x.1.isSome) && decide ([e].length + ([] : List Keyword).length + (if ([] : List Keyword).isEmpty then 0 else 1) < 30)) = true := by rfl)
    (hline : (apos.endLine == cpos.line) = true := by rfl) (hs : starEach [e] X.env = (false, eval e X.env) :: starEach [] X.env := by rfl) : JE X (.Call (.Attribute o "split" apos) [e] [] cpos) (mMt dSplit mo ms) :=
  je_mt PySem.F.plainAttrs_str PySem.F.slot_str_split PySem.F.type_str_split mt_split md_split (ty_str fun _ _ _ => dSplit_str) ho ha hbase hfew hline hs
theorem je_join (ho : JE X o mo) (ha : JA X [e] ms) (hbase : attributeBase o "join" X.env (eval o X.env) = eval o X.env := by rfl)
    (hfew : ((backTo cpos (starEach [e] X.env)).all (fun x => !x.1) && (backToKw cpos (keywordEach [] X.env)).all (fun x => x.1.isSome) && decide ([e].length + ([] : List Keyword).length + (if ([] : List Keyword).isEmpty then 0 else 1) < 30)) = true := by rfl)
    (hline : (apos.endLine == cpos.line) = true := by rfl) (hs : starEach [e] X.env = (false, eval e X.env) :: starEach [] X.env := by rfl) : JE X (.Call (.Attribute o "join" apos) [e] [] cpos) (mMt dJoin mo ms) :=
  je_mt PySem.F.plainAttrs_str PySem.F.slot_str_join PySem.F.type_str_join mt_join md_join (ty_str fun _ _ _ => dJoin_str) ho ha hbase hfew hline hs
theorem je_index (hu : X.A.units + 64 < cLine) (ho : JE X o mo) (ha : JA X [e] ms) (hbase : attributeBase o "index" X.env (eval o X.env) = eval o X.env := by rfl)
    (hfew : ((backTo cpos (starEach [e] X.env)).all (fun x => !x.1) && (backToKw cpos (keywordEach [] X.env)).all (fun x => x.1.isSome) && decide ([e].length + ([] : List Keyword).length + (if ([] : List Keyword).isEmpty then 0 else 1) < 30)) = true := by rfl)
    (hline : (apos.endLine == cpos.line) = true := by rfl) (hs : starEach [e] X.env = (false, eval e X.env) :: starEach [] X.env := by rfl) : JE X (.Call (.Attribute o "index" apos) [e] [] cpos) (mMt dIndex mo ms) :=
  je_mt PySem.F.plainAttrs_list PySem.F.slot_list_index PySem.F.type_list_index (mt_indexX' hu) md_index (ty_lst fun _ _ _ => dIndex_lst) ho ha hbase hfew hline hs
theorem je_count (hu : X.A.units + 64 < cLine) (ho : JE X o mo) (ha : JA X [e] ms) (hbase : attributeBase o "count" X.env (eval o X.env) = eval o X.env := by rfl)
    (hfew : ((backTo cpos (starEach [e] X.env)).all (fun x => !x.1) && (backToKw cpos (keywordEach [] X.env)).all (fun x => x.1.isSome) && decide ([e].length + ([] : List Keyword).length + (if ([] : List Keyword).isEmpty then 0 else 1) < 30)) = true := by rfl)
    (hline : (apos.endLine == cpos.line) = true := by rfl) (hs : starEach [e] X.env = (false, eval e X.env) :: starEach [] X.env := by rfl) : JE X (.Call (.Attribute o "count" apos) [e] [] cpos) (mMt dCount mo ms) :=
  je_mt PySem.F.plainAttrs_list PySem.F.slot_list_count PySem.F.type_list_count (mt_countX hu) md_count (ty_lst fun _ _ _ => dCount_lst) ho ha hbase hfew hline hs
end

/-! # isinstance by a built-in class -/
def tyName : D → Option String
  | .non => some "NoneType" | .bl _ => some "bool" | .int _ => some "int" | .str _ => some "str" | .lst _ => some "list" | .tup _ => some "tuple" | _ => none
def dIsi (T : String) (d : D) : Option D := match tyName d with | some t => (kitB t T).map .bl | none => none
def mIsi (T : String) (a : M) : M := fun r p => bnd (a r p) fun x p => lft (dIsi T x) p
section
variable {X : Cx} {K : PySem.W.Frag}
theorem sqT_ty {H : Hp} {a : Addr} {xs : List V} (h : SqT K H a xs) : TyX K H (.ref a) (.type "tuple") := by
  rcases h with (h | ⟨o, h⟩) | ⟨o, its, n, h, hc, _⟩
  · exact .base (.tup h)
  · exact .fTuple h
  · exact .kTuple h hc
theorem tyOf_D {pa : Option Addr} {S : Addr → Prop} {H : Hp} {v : V} {d : D} {t : String} (r : Rp K pa (hid S H) v d) (h : tyName d = some t) : TyX K H v (.type t) := by
  cases r with
  | non => cases h; exact .base .non
  | bl b => cases h; exact .base (.bl b)
  | int b => cases h; exact .base (.int b)
  | str b _ => cases h; exact .base (.str b)
  | lst h1 h2 => cases h; exact .base (.lst (hid_sub _ _ h1))
  | tup h1 h2 => cases h; exact sqT_ty (sameT hid_sub h1)
  | _ => cases h
/-- isinstance(e, T), T a built-in class by its name -/
theorem je_isi {T : String} {Tn : Str} {e : Expr} {me : M} {p p2 pos : Pos} (he : JE X e me) (hm : X.mg "isinstance" = none) (hT : X.mg Tn = none) (hb : bootBuiltins Tn = some (.type T)) (hi : bootBuiltins "isinstance" = some (.builtin "isinstance") := by decide +kernel) (hg : Gl X "isinstance" := by rfl) (hgT : Gl X Tn := by rfl)
    (hn : Tn ≠ "__name__" := by decide) (hdb : (Tn == ("__debug__" : Str)) = false := by decide)
    (hs : starEach [e, .Name Tn p2] X.env = (false, eval e X.env) :: starEach [.Name Tn p2] X.env := by rfl) (hpl : (backTo pos (starEach [.Name Tn p2] X.env)).any (·.1) = false := by rfl) :
    JE X (.Call (.Name "isinstance" p) [e, .Name Tn p2] [] pos) (mIsi T me) :=
  ⟨(pe_callB (x := "isinstance") call_isi hg hm hi (pa_cons he.pe (pa_cons (pe_bltn (v := .ty T) hgT hT hb rfl hn hdb) pa_nil) hs) (by decide) (by decide) hs hpl).weak fun σ H Q ⟨pa, S, r, p, d, p', c, e, q⟩ => by
    obtain ⟨x, p1, e1, e⟩ := bnd_some e
    obtain ⟨z, e4, rfl, rfl⟩ := lft_eq e
    refine ⟨pa, S, r, p, x, p1, c, e1, fun v1 H1 x1 s1 r1 => ?_⟩
    unfold dIsi at e4
    split at e4
    · rename_i t ht
      cases e5 : kitB t T with
      | none => rw [e5] at e4; cases e4
      | some b =>
        rw [e5] at e4
        cases e4
        exact ⟨v1, .ty T, _, _, b, rfl, .ty T, tyOf_D r1 ht, kit_ty e5, q _ H1 x1 s1 (.bl b)⟩
    · cases e4⟩

/-! # Own defs -/
abbrev MF := List D → List Int → MR D
def spM (K : PySem.W.Frag) (n : Nat) (m : MF) : Sp := fun vs H Q _ => ∃ pa S p ds d p', Sta pa S H p ∧ RpL K pa (hid S H) vs ds ∧ ds.length = n ∧ m ds p = some (d, p') ∧ PostE K pa S H p' d Q
def mCall (n : Nat) (m : MF) (a : ML) : M := fun r p => bnd (a r p) fun ds p => if ds.length = n then m ds p else none
theorem red_call {n : Nat} {m : MF} {a : ML} {σ : L2.St} {H : Hp} {Q : VK} {E : XK} (h : tM K (mCall n m a) σ H Q) : tCall (spM K n m) [] E (tML K a) σ H Q := by
  obtain ⟨pa, S, r, p, d, p', c, e, q⟩ := h
  obtain ⟨ds, p1, e1, e⟩ := bnd_some e
  split at e
  · rename_i hn
    refine ⟨pa, S, r, p, ds, p1, c, e1, fun vs H1 x1 s1 r1 => ?_⟩
    refine ⟨pa, S, p1, ds, d, p', s1, ?_, hn, e, q.after c x1⟩
    rw [List.append_nil]
    exact r1
  · cases e
section
variable {k n : Nat} {f : Addr} {fd : FuncData} {ps : List Str} {m : MF} {x : Str} {p pos : Pos} {e : Expr} {es : List Expr} {ms : ML}
theorem je_call (F : FnOk X.prog X.w X.K X.mg X.base CX0 k f fd ps (spM X.K n m)) (hr : Room k X.A) (hm : X.mg x = some (.ref f)) (hk : PySem.W.keepIn X.K (.ref f) = true) (hb : Binds X.K fd ps []) (ha : JA X (e :: es) ms) (hg : Gl X x := by rfl) (hdb : (x == ("__debug__" : Str)) = false := by decide)
    (he : starEach (e :: es) X.env = (false, eval e X.env) :: starEach es X.env := by rfl) (hpl : (backTo pos (starEach es X.env)).any (·.1) = false := by rfl) : JE X (.Call (.Name x p) (e :: es) [] pos) (mCall n m ms) :=
  ⟨(pe_call F hr hg hm hk hb .nil pass0 ha.pa hdb he hpl).weak fun σ H Q => red_call⟩
end
end
end Dt

namespace Dt
open PySem PySem.Spec PyProof.Rows L2

/-! # What is walked -/
structure ItOk (K : PySem.W.Frag) (pa : Option Addr) (S : Addr → Prop) (H1 : Hp) (J : It) (ds : List D) : Prop where
  go : ∀ (i : Nat) (S2 : Addr → Prop) (H2 : Hp), Same (hid S H1) (hid S2 H2) → (∀ a, S2 a → ∃ o, H2 a = some o) → i < ds.length → J.go i H2
  yld : ∀ (i : Nat) (S2 : Addr → Prop) (H2 : Hp) (x : V) (H3 : Hp), Same (hid S H1) (hid S2 H2) → (∀ a, S2 a → ∃ o, H2 a = some o) → i < ds.length → J.yld i H2 x H3 → Same H2 H3 ∧ ∃ d, ds[i]? = some d ∧ Rp K pa (hid S2 H3) x d
  stop : ∀ (i : Nat) (S2 : Addr → Prop) (H2 : Hp), Same (hid S H1) (hid S2 H2) → (∀ a, S2 a → ∃ o, H2 a = some o) → ds.length ≤ i → J.stop i H2
def IterD (K : PySem.W.Frag) (wi : TI) (m : ML) : Prop := ∀ (pa : Option Addr) (S : Addr → Prop) (σ : L2.St) (H : Hp) (r : Ev) (p : List Int) (ds : List D) (p' : List Int) (R : It → Hp → Prop), Cn K pa S σ H r p → m r p = some (ds, p') →
  (∀ J H1, Ext pa H H1 → Sta pa S H1 p' → ItOk K pa S H1 J ds → R J H1) → wi σ H R
structure JI (X : Cx) (tg iter : Expr) (m : ML) : Prop where ex : ∃ wi, PI X tg iter wi ∧ IterD X.K wi m
theorem _root_.L2.PI.orW {X : Cx} {tg iter : Expr} {w1 w2 : TI} (h1 : PI X tg iter w1) (h2 : PI X tg iter w2) : PI X tg iter (fun σ H R => w1 σ H R ∨ w2 σ H R) := ⟨fun pins s σ H R I q => by
  rcases q with q | q
  · exact h1.run pins s σ H R I q
  · exact h2.run pins s σ H R I q⟩

section
variable {K : PySem.W.Frag} {pa : Option Addr} {S : Addr → Prop} {H : Hp}
theorem itOk_lst {a : Addr} {xs : List V} {ds : List D} (h : SqL K (hid S H) a xs) (r : RpL K pa (hid S H) xs ds) : ItOk K pa S H (Itl K a) ds where
  go := fun i S2 H2 e t hi => by
    obtain ⟨v, h1, _⟩ := r.get (List.getElem?_eq_getElem hi)
    exact ⟨xs, v, sameL hid_sub (sameL e h), h1⟩
  yld := fun i S2 H2 x H3 e t hi hy => by
    obtain ⟨rfl, hx⟩ := hy
    have h1 := hx xs (sameL hid_sub (sameL e h))
    obtain ⟨d, h2, h3⟩ := r.getV h1
    exact ⟨fun _ _ h => h, d, h2, Rp.mono e _ _ h3⟩
  stop := fun i S2 H2 e t hi => ⟨xs, sameL hid_sub (sameL e h), by rw [r.length]; exact hi⟩
theorem itOk_tup {a : Addr} {xs : List V} {ds : List D} (h : SqT K (hid S H) a xs) (r : RpL K pa (hid S H) xs ds) : ItOk K pa S H (Itt K a) ds where
  go := fun i S2 H2 e t hi => by
    obtain ⟨v, h1, _⟩ := r.get (List.getElem?_eq_getElem hi)
    exact ⟨xs, v, sameT hid_sub (sameT e h), h1⟩
  yld := fun i S2 H2 x H3 e t hi hy => by
    obtain ⟨rfl, hx⟩ := hy
    have h1 := hx xs (sameT hid_sub (sameT e h))
    obtain ⟨d, h2, h3⟩ := r.getV h1
    exact ⟨fun _ _ h => h, d, h2, Rp.mono e _ _ h3⟩
  stop := fun i S2 H2 e t hi => ⟨xs, sameT hid_sub (sameT e h), by rw [r.length]; exact hi⟩
def chars (x : Str) : List D := x.cps.toList.map fun c => .str ⟨#[c]⟩
theorem itOk_str {x : Str} : ItOk K pa S H (Its x) (chars x) where
  go := fun i S2 H2 e t hi => by
    show i < x.cps.size
    simpa [chars] using hi
  yld := fun i S2 H2 v H3 e t hi hy => by
    obtain ⟨rfl, c, hc, rfl⟩ := hy
    refine ⟨fun _ _ h => h, .str ⟨#[c]⟩, ?_, .str _ one_le_lim⟩
    unfold chars
    rw [List.getElem?_map]
    have : x.cps.toList[i]? = some c := by simpa using hc
    rw [this]
    rfl
  stop := fun i S2 H2 e t hi => by
    show x.cps.size ≤ i
    simpa [chars] using hi
def rngD (lo : Int) (n : Nat) : List D := (List.range n).map fun (i : Nat) => .int (lo + (i : Int))
theorem itOk_rng {lo : Int} {n : Nat} : ItOk K pa S H (Itr lo n) (rngD lo n) where
  go := fun i S2 H2 e t hi => by
    show i < n
    simpa [rngD] using hi
  yld := fun i S2 H2 v H3 e t hi hy => by
    obtain ⟨rfl, rfl⟩ := hy
    refine ⟨fun _ _ h => h, .int (lo + (i : Int)), ?_, .int _⟩
    have : i < n := by simpa [rngD] using hi
    unfold rngD
    rw [List.getElem?_map, List.getElem?_range this]
    rfl
  stop := fun i S2 H2 e t hi => by
    show n ≤ i
    simpa [rngD] using hi
end
def itemsOf : D → Option (List D)
  | .lst ds => some ds | .tup ds => some ds | .scr ns => some (ns.map .int) | .str x => some (chars x) | _ => none
def mItems (m : M) : ML := fun r p => bnd (m r p) fun x p => lft (itemsOf x) p
section
variable {X : Cx} {tg : Expr}
theorem ji_e {e : Expr} {me : M} (he : JE X e me) : JI X tg e (mItems me) := ⟨_, (pi_list he.pe).orW ((pi_tup he.pe).orW (pi_str he.pe)), fun pa S σ H r p ds p' R c e q => by
  obtain ⟨x, p1, e1, e⟩ := bnd_some e
  obtain ⟨z, e2, rfl, rfl⟩ := lft_eq e
  have step : ∀ Q : VK, (∀ v H', Ext pa H H' → Sta pa S H' p1 → Rp X.K pa (hid S H') v x → Q v H') → tM X.K me σ H Q := fun Q hq => ⟨pa, S, r, p, x, p1, c, e1, hq⟩
  cases x with
  | lst ds =>
    cases e2
    refine .inl (step _ fun v H1 x1 s1 r1 => ?_)
    cases r1 with
    | @lst a xs _ h1 h2 => exact ⟨a, rfl, ⟨xs, SqL.of (hid_sub _ _ h1)⟩, q _ H1 x1 s1 (itOk_lst (SqL.of h1) h2)⟩
  | tup ds =>
    cases e2
    refine .inr (.inl (step _ fun v H1 x1 s1 r1 => ?_))
    cases r1 with
    | @tup a xs _ h1 h2 => exact ⟨a, rfl, ⟨xs, sameT hid_sub h1⟩, q _ H1 x1 s1 (itOk_tup h1 h2)⟩
  | scr ns =>
    cases e2
    refine .inl (step _ fun v H1 x1 s1 r1 => ?_)
    cases r1 with
    | @scr a _ h1 => exact ⟨a, rfl, ⟨_, sameL hid_sub h1⟩, q _ H1 x1 s1 (itOk_lst h1 (RpL.ints ns))⟩
  | str x =>
    cases e2
    refine .inr (.inr (step _ fun v H1 x1 s1 r1 => ?_))
    cases r1 with
    | str _ _ => exact ⟨x, rfl, q _ H1 x1 s1 itOk_str⟩
  | _ => cases e2⟩
/-- range(a), range(a, b) -/
def rngOk (n : Int) : Bool := decide (-(2 ^ 62) ≤ n) && decide (n < 2 ^ 62)
def mRng1 (a : ML) : ML := fun r p => bnd (a r p) fun xs p => match xs with
  | [.int n] => if rngOk n = true then some (rngD 0 n.toNat, p) else none
  | _ => none
def mRng2 (a : ML) : ML := fun r p => bnd (a r p) fun xs p => match xs with
  | [.int m, .int n] => if (rngOk m && rngOk n) = true then some (rngD m (n - m).toNat, p) else none
  | _ => none
theorem rngOk_iff {n : Int} (h : rngOk n = true) : -(2 ^ 62) ≤ n ∧ n < 2 ^ 62 := by
  unfold rngOk at h
  rw [Bool.and_eq_true] at h
  exact ⟨of_decide_eq_true h.1, of_decide_eq_true h.2⟩
theorem RpL.one {K : PySem.W.Frag} {pa : Option Addr} {H : Hp} {vs : List V} {d : D} (h : RpL K pa H vs [d]) : ∃ v, vs = [v] ∧ Rp K pa H v d := by
  cases h with
  | cons h1 h2 => cases h2; exact ⟨_, rfl, h1⟩
theorem RpL.two {K : PySem.W.Frag} {pa : Option Addr} {H : Hp} {vs : List V} {d e : D} (h : RpL K pa H vs [d, e]) : ∃ v w, vs = [v, w] ∧ Rp K pa H v d ∧ Rp K pa H w e := by
  cases h with
  | cons h1 h2 =>
    cases h2 with
    | cons h3 h4 => cases h4; exact ⟨_, _, rfl, h1, h3⟩
theorem ji_rng1 {a : Expr} {ma : ML} {p pos : Pos} (ha : JA X [a] ma) (hm : X.mg "range" = none) (hg : Gl X "range" := by rfl) (hs : starEach [a] X.env = [(false, eval a X.env)] := by rfl) : JI X tg (.Call (.Name "range" p) [a] [] pos) (mRng1 ma) :=
  ⟨_, pi_range1 hg hm ha.pa hs, fun pa S σ H r p ds p' R c e q => by
    obtain ⟨xs, p1, e1, e⟩ := bnd_some e
    refine ⟨pa, S, r, p, xs, p1, c, e1, fun vs H1 x1 s1 r1 => ?_⟩
    split at e
    · rename_i n
      split at e
      · rename_i hr
        obtain ⟨rfl, rfl⟩ := pr e
        obtain ⟨v, rfl, rv⟩ := r1.one
        cases rv
        exact ⟨n, rfl, (rngOk_iff hr).1, (rngOk_iff hr).2, q _ H1 x1 s1 itOk_rng⟩
      · cases e
    · cases e⟩
theorem ji_rng2 {a b : Expr} {ma : ML} {p pos : Pos} (ha : JA X [a, b] ma) (hm : X.mg "range" = none) (hg : Gl X "range" := by rfl) (hs : starEach [a, b] X.env = [(false, eval a X.env), (false, eval b X.env)] := by rfl) (hs2 : starEach [b] X.env = [(false, eval b X.env)] := by rfl) : JI X tg (.Call (.Name "range" p) [a, b] [] pos) (mRng2 ma) :=
  ⟨_, pi_range2 hg hm ha.pa hs hs2, fun pa S σ H r p ds p' R c e q => by
    obtain ⟨xs, p1, e1, e⟩ := bnd_some e
    refine ⟨pa, S, r, p, xs, p1, c, e1, fun vs H1 x1 s1 r1 => ?_⟩
    split at e
    · rename_i m n
      split at e
      · rename_i hr
        obtain ⟨rfl, rfl⟩ := pr e
        obtain ⟨v, w, rfl, rv, rw'⟩ := r1.two
        cases rv
        cases rw'
        rw [Bool.and_eq_true] at hr
        exact ⟨m, n, rfl, ⟨(rngOk_iff hr.1).1, (rngOk_iff hr.1).2, (rngOk_iff hr.2).1, (rngOk_iff hr.2).2⟩, q _ H1 x1 s1 itOk_rng⟩
      · cases e
    · cases e⟩
/-- enumerate(a list) -/
def enumD (ds : List D) : List D := ds.zipIdx.map fun x => .tup [.int (x.2 : Nat), x.1]
theorem enumD_get {ds : List D} {i : Nat} {d : D} (h : ds[i]? = some d) : (enumD ds)[i]? = some (.tup [.int (i : Nat), d]) := by
  unfold enumD
  rw [List.getElem?_map, List.getElem?_zipIdx, h]
  simp
theorem enumD_len {ds : List D} : (enumD ds).length = ds.length := by
  unfold enumD
  rw [List.length_map, List.length_zipIdx]
def mEnum (a : ML) : ML := fun r p => bnd (a r p) fun xs p => match xs with
  | [.lst ds] => some (enumD ds, p)
  | _ => none
theorem new_hid {S : Addr → Prop} {H : Hp} {a : Addr} (t : ∀ a, S a → ∃ o, H a = some o) (n : H a = none) : ¬ S a := fun z => by
  obtain ⟨o, q⟩ := t a z
  rw [n] at q
  cases q
theorem Rp.newT' {K : PySem.W.Frag} {pa : Option Addr} {S : Addr → Prop} {H : Hp} {a : Addr} {vs : List V} {ds : List D} (t : ∀ a, S a → ∃ o, H a = some o) (r : RpL K pa (hid S H) vs ds) (n : H a = none) : Rp K pa (hid S (upd H a (.tup vs))) (.ref a) (.tup ds) :=
  .tup (SqT.of (hid_of (new_hid t n) upd_same)) (RpL.mono (Same.hid (same_upd n)) _ _ r)
theorem itOk_enum {K : PySem.W.Frag} {pa : Option Addr} {S : Addr → Prop} {H : Hp} {a : Addr} {xs : List V} {ds : List D} (h : SqL K (hid S H) a xs) (r : RpL K pa (hid S H) xs ds) : ItOk K pa S H (Ite K a) (enumD ds) where
  go := fun i S2 H2 e t hi => by
    rw [enumD_len] at hi
    obtain ⟨v, h1, _⟩ := r.get (List.getElem?_eq_getElem hi)
    exact ⟨xs, v, sameL hid_sub (sameL e h), h1⟩
  yld := fun i S2 H2 x H3 e t hi hy => by
    obtain ⟨T, y, rfl, hn, rfl, hx⟩ := hy
    have h1 := hx xs (sameL hid_sub (sameL e h))
    obtain ⟨d, h2, h3⟩ := r.getV h1
    exact ⟨same_upd hn, _, enumD_get h2, Rp.newT' t (.cons (.int _) (.cons (Rp.mono e _ _ h3) .nil)) hn⟩
  stop := fun i S2 H2 e t hi => ⟨xs, sameL hid_sub (sameL e h), by rw [r.length]; rw [enumD_len] at hi; exact hi⟩
theorem ji_enum {a : Expr} {ma : ML} {p pos tpos : Pos} {elts : List Expr} {kk : Nat} (ha : JA X [a] ma) (hm : X.mg "enumerate" = none) (hg : Gl X "enumerate" := by rfl) (hs : starEach [a] X.env = [(false, eval a X.env)] := by rfl) : JI X (.Tuple elts kk tpos) (.Call (.Name "enumerate" p) [a] [] pos) (mEnum ma) :=
  ⟨_, pi_enum hg hm ha.pa hs, fun pa S σ H r p ds p' R c e q => by
    obtain ⟨xs, p1, e1, e⟩ := bnd_some e
    refine ⟨pa, S, r, p, xs, p1, c, e1, fun vs H1 x1 s1 r1 => ?_⟩
    split at e
    · obtain ⟨rfl, rfl⟩ := pr e
      obtain ⟨v, rfl, rv⟩ := r1.one
      cases rv with
      | lst h1 h2 => exact ⟨_, _, rfl, SqL.of (hid_sub _ _ h1), q _ H1 x1 s1 (itOk_enum (SqL.of h1) h2)⟩
    · cases e⟩
/-- zip of two lists, of two tuples -/
def zipD (ds es : List D) : List D := List.zipWith (fun a b => .tup [a, b]) ds es
def mZip (a : ML) : ML := fun r p => bnd (a r p) fun xs p => match xs with
  | [.lst ds, .lst es] => some (zipD ds es, p)
  | [.tup ds, .tup es] => some (zipD ds es, p)
  | _ => none
theorem zipD_lt {ds es : List D} {i : Nat} (h : i < (zipD ds es).length) : i < ds.length ∧ i < es.length := by
  unfold zipD at h
  rw [List.length_zipWith] at h
  omega
theorem zipD_get {ds es : List D} {i : Nat} {d e : D} (h : ds[i]? = some d) (h' : es[i]? = some e) : (zipD ds es)[i]? = some (.tup [d, e]) := by
  unfold zipD
  rw [List.getElem?_zipWith, h, h']
theorem itOk_zipL {K : PySem.W.Frag} {pa : Option Addr} {S : Addr → Prop} {H : Hp} {a b : Addr} {xs ys : List V} {ds es : List D} (h : SqL K (hid S H) a xs) (r : RpL K pa (hid S H) xs ds) (h' : SqL K (hid S H) b ys) (r' : RpL K pa (hid S H) ys es) : ItOk K pa S H (Itz K a b) (zipD ds es) where
  go := fun i S2 H2 e t hi => by
    obtain ⟨i1, i2⟩ := zipD_lt hi
    obtain ⟨v, h1, _⟩ := r.get (List.getElem?_eq_getElem i1)
    obtain ⟨w, h2, _⟩ := r'.get (List.getElem?_eq_getElem i2)
    exact ⟨xs, ys, v, w, sameL hid_sub (sameL e h), sameL hid_sub (sameL e h'), h1, h2⟩
  yld := fun i S2 H2 x H3 e t hi hy => by
    obtain ⟨T, y, z, rfl, hn, rfl, hx, hx'⟩ := hy
    obtain ⟨d, h2, h3⟩ := r.getV (hx xs (sameL hid_sub (sameL e h)))
    obtain ⟨d', h2', h3'⟩ := r'.getV (hx' ys (sameL hid_sub (sameL e h')))
    exact ⟨same_upd hn, _, zipD_get h2 h2', Rp.newT' t (.cons (Rp.mono e _ _ h3) (.cons (Rp.mono e _ _ h3') .nil)) hn⟩
  stop := fun i S2 H2 e t hi => ⟨xs, ys, sameL hid_sub (sameL e h), sameL hid_sub (sameL e h'), by
    rw [r.length, r'.length]
    unfold zipD at hi
    rw [List.length_zipWith] at hi
    omega⟩
theorem itOk_zipT {K : PySem.W.Frag} {pa : Option Addr} {S : Addr → Prop} {H : Hp} {a b : Addr} {xs ys : List V} {ds es : List D} (h : SqT K (hid S H) a xs) (r : RpL K pa (hid S H) xs ds) (h' : SqT K (hid S H) b ys) (r' : RpL K pa (hid S H) ys es) : ItOk K pa S H (RZ.ItzT K a b) (zipD ds es) where
  go := fun i S2 H2 e t hi => by
    obtain ⟨i1, i2⟩ := zipD_lt hi
    obtain ⟨v, h1, _⟩ := r.get (List.getElem?_eq_getElem i1)
    obtain ⟨w, h2, _⟩ := r'.get (List.getElem?_eq_getElem i2)
    exact ⟨xs, ys, v, w, sameT hid_sub (sameT e h), sameT hid_sub (sameT e h'), h1, h2⟩
  yld := fun i S2 H2 x H3 e t hi hy => by
    obtain ⟨T, y, z, rfl, hn, rfl, hx, hx'⟩ := hy
    obtain ⟨d, h2, h3⟩ := r.getV (hx xs (sameT hid_sub (sameT e h)))
    obtain ⟨d', h2', h3'⟩ := r'.getV (hx' ys (sameT hid_sub (sameT e h')))
    exact ⟨same_upd hn, _, zipD_get h2 h2', Rp.newT' t (.cons (Rp.mono e _ _ h3) (.cons (Rp.mono e _ _ h3') .nil)) hn⟩
  stop := fun i S2 H2 e t hi => ⟨xs, ys, sameT hid_sub (sameT e h), sameT hid_sub (sameT e h'), by
    rw [r.length, r'.length]
    unfold zipD at hi
    rw [List.length_zipWith] at hi
    omega⟩
theorem ji_zip {a b : Expr} {ma : ML} {p pos tpos : Pos} {elts : List Expr} {kk : Nat} (ha : JA X [a, b] ma) (hm : X.mg "zip" = none) (hg : Gl X "zip" := by rfl) (hs : starEach [a, b] X.env = (false, eval a X.env) :: starEach [b] X.env := by rfl) (hpl : (backTo pos (starEach [b] X.env)).any (·.1) = false := by rfl) :
    JI X (.Tuple elts kk tpos) (.Call (.Name "zip" p) [a, b] [] pos) (mZip ma) :=
  ⟨_, RZ.pi_zipA hg hm ha.pa hs hpl, fun pa S σ H r p ds p' R c e q => by
    obtain ⟨xs, p1, e1, e⟩ := bnd_some e
    refine ⟨pa, S, r, p, xs, p1, c, e1, fun vs H1 x1 s1 r1 => ?_⟩
    split at e
    · obtain ⟨rfl, rfl⟩ := pr e
      obtain ⟨v, w, rfl, rv, rw'⟩ := r1.two
      cases rv with
      | lst h1 h2 =>
        cases rw' with
        | lst k1 k2 => exact ⟨_, _, _, _, rfl, .inl ⟨SqL.of (hid_sub _ _ h1), SqL.of (hid_sub _ _ k1), q _ H1 x1 s1 (itOk_zipL (SqL.of h1) h2 (SqL.of k1) k2)⟩⟩
    · obtain ⟨rfl, rfl⟩ := pr e
      obtain ⟨v, w, rfl, rv, rw'⟩ := r1.two
      cases rv with
      | tup h1 h2 =>
        cases rw' with
        | tup k1 k2 => exact ⟨_, _, _, _, rfl, .inr ⟨sameT hid_sub h1, sameT hid_sub k1, q _ H1 x1 s1 (itOk_zipT h1 h2 k1 k2)⟩⟩
    · cases e⟩
end

/-! # Targets -/
/-- the target's slots are ts; the data go into the map -/
structure TgD (K : PySem.W.Frag) (g : TG) (ts : List Nat) (mg : D → Ev → Option Ev) : Prop where
  run : ∀ (pa : Option Addr) (S : Addr → Prop) (σ : L2.St) (H : Hp) (r : Ev) (x : V) (d : D) (r' : Ev) (Q : L2.St → Hp → Prop), EnvE K pa (hid S H) σ r → Rp K pa (hid S H) x d → mg d r = some r' →
    (∀ σ', EnvE K pa (hid S H) σ' r' → (∀ j, j ∉ ts → σ'[j]? = σ[j]?) → Q σ' H) → g x σ H Q
  keep : ∀ d r r', mg d r = some r' → r'.length = r.length ∧ ∀ j, j ∉ ts → r'[j]? = r[j]?
def gN (i : Nat) : D → Ev → Option Ev := fun d r => if i < r.length then some (r.set i (some d)) else none
theorem EnvE.set {K : PySem.W.Frag} {pa : Option Addr} {H : Hp} {σ : L2.St} {r : Ev} (e : EnvE K pa H σ r) {x : V} {d : D} (i : Nat) (h : Rp K pa H x d) : EnvE K pa H (σ.set i (some x)) (r.set i (some d)) := by
  refine ⟨by rw [List.length_set, List.length_set]; exact e.len, fun j d' hj => ?_⟩
  by_cases hij : i = j
  · subst hij
    by_cases hi : i < r.length
    · rw [List.getElem?_set_self hi] at hj
      cases hj
      exact ⟨x, List.getElem?_set_self (by rw [e.len]; exact hi), h⟩
    · rw [List.getElem?_eq_none (by rw [List.length_set]; omega)] at hj
      cases hj
  · rw [List.getElem?_set_ne hij] at hj
    obtain ⟨v, h1, h2⟩ := e.at_ j d' hj
    exact ⟨v, by rw [List.getElem?_set_ne hij]; exact h1, h2⟩
theorem tg_name {K : PySem.W.Frag} (i : Nat) : TgD K (gName i) [i] (gN i) where
  run := fun pa S σ H r x d r' Q e h m q => by
    unfold gN at m
    split at m
    · cases m
      refine q _ (e.set i h) fun j hj => ?_
      rw [List.getElem?_set_ne (fun z => hj (by rw [z]; exact List.mem_singleton.mpr rfl))]
    · cases m
  keep := fun d r r' m => by
    unfold gN at m
    split at m
    · cases m
      refine ⟨List.length_set .., fun j hj => ?_⟩
      rw [List.getElem?_set_ne (fun z => hj (by rw [z]; exact List.mem_singleton.mpr rfl))]
    · cases m
/-- a tuple of targets -/
structure TgsD (K : PySem.W.Frag) (g : TGs) (ts : List Nat) (mg : List D → Ev → Option Ev) : Prop where
  run : ∀ (pa : Option Addr) (S : Addr → Prop) (σ : L2.St) (H : Hp) (r : Ev) (xs : List V) (ds : List D) (r' : Ev) (Q : L2.St → Hp → Prop), EnvE K pa (hid S H) σ r → RpL K pa (hid S H) xs ds → mg ds r = some r' →
    (∀ σ', EnvE K pa (hid S H) σ' r' → (∀ j, j ∉ ts → σ'[j]? = σ[j]?) → Q σ' H) → g xs σ H Q
  keep : ∀ ds r r', mg ds r = some r' → r'.length = r.length ∧ ∀ j, j ∉ ts → r'[j]? = r[j]?
def gNs0 : List D → Ev → Option Ev := fun ds r => match ds with | [] => some r | _ => none
def gNsC (g : D → Ev → Option Ev) (gs : List D → Ev → Option Ev) : List D → Ev → Option Ev := fun ds r => match ds with | d :: ds => (g d r).bind (gs ds) | [] => none
theorem tgs_nil {K : PySem.W.Frag} : TgsD K gNil [] gNs0 where
  run := fun pa S σ H r xs ds r' Q e h m q => by
    cases h with
    | nil => cases m; exact ⟨rfl, q σ e fun _ _ => rfl⟩
    | cons _ _ => cases m
  keep := fun ds r r' m => by
    cases ds with
    | nil => cases m; exact ⟨rfl, fun _ _ => rfl⟩
    | cons _ _ => cases m
theorem tgs_cons {K : PySem.W.Frag} {g : TG} {gs : TGs} {t ts : List Nat} {mg : D → Ev → Option Ev} {mgs : List D → Ev → Option Ev} (h1 : TgD K g t mg) (h2 : TgsD K gs ts mgs) : TgsD K (gCons g gs) (t ++ ts) (gNsC mg mgs) where
  run := fun pa S σ H r xs ds r' Q e h m q => by
    cases h with
    | nil => cases m
    | cons ha hb =>
      simp only [gNsC] at m
      cases em : mg _ r with
      | none => rw [em] at m; cases m
      | some r1 =>
        rw [em] at m
        refine ⟨_, _, rfl, h1.run pa S σ H r _ _ r1 _ e ha em fun σ1 e1 k1 => h2.run pa S σ1 H r1 _ _ r' _ e1 hb m fun σ2 e2 k2 => q σ2 e2 fun j hj => ?_⟩
        rw [List.mem_append] at hj
        exact (k2 j fun z => hj (.inr z)).trans (k1 j fun z => hj (.inl z))
  keep := fun ds r r' m => by
    cases ds with
    | nil => cases m
    | cons d ds =>
      simp only [gNsC] at m
      cases em : mg d r with
      | none => rw [em] at m; cases m
      | some r1 =>
        rw [em] at m
        obtain ⟨a1, a2⟩ := h1.keep d r r1 em
        obtain ⟨b1, b2⟩ := h2.keep ds r1 r' m
        refine ⟨b1.trans a1, fun j hj => ?_⟩
        rw [List.mem_append] at hj
        exact (b2 j fun z => hj (.inr z)).trans (a2 j fun z => hj (.inl z))
def gT (n : Nat) (gs : List D → Ev → Option Ev) : D → Ev → Option Ev := fun d r => match d with | .tup ds => if ds.length = n then gs ds r else none | _ => none
theorem tg_tup {K : PySem.W.Frag} {n : Nat} {gs : TGs} {ts : List Nat} {mgs : List D → Ev → Option Ev} (h : TgsD K gs ts mgs) : TgD K (gTup K n gs) ts (gT n mgs) where
  run := fun pa S σ H r x d r' Q e hx m q => by
    unfold gT at m
    split at m
    · split at m
      · rename_i hl
        cases hx with
        | tup k1 k2 => exact ⟨_, _, rfl, sameT hid_sub k1, by rw [k2.length]; exact hl, h.run pa S σ H r _ _ r' Q e k2 m q⟩
      · cases m
    · cases m
  keep := fun d r r' m => by
    unfold gT at m
    split at m
    · split at m
      · exact h.keep _ _ _ m
      · cases m
    · cases m
end Dt

namespace Dt
open PySem PySem.Spec PyProof.Rows L2

/-! # Comprehensions -/
def lcGo (mg : D → Ev → Option Ev) (mt : MB) (me : M) (r0 : Ev) : List D → List Int → MR (List D)
  | [], p => some ([], p)
  | d :: ds, p => match mg d r0 with
    | none => none
    | some r1 => bnd (mt r1 p) fun b p => if b = true then bnd (me r1 p) fun y p => bnd (lcGo mg mt me r0 ds p) fun ys p => some (y :: ys, p) else lcGo mg mt me r0 ds p
def wipeR (r : Ev) : List Nat → Ev
  | [] => r
  | v :: vs => (wipeR r vs).set v none
theorem wipeR_len (r : Ev) : ∀ vs : List Nat, (wipeR r vs).length = r.length
  | [] => rfl
  | v :: vs => by unfold wipeR; rw [List.length_set, wipeR_len r vs]
def mLc (vs : List Nat) (mi : ML) (mg : D → Ev → Option Ev) (mt : MB) (me : M) : ML := fun r p => bnd (mi r p) fun ds p => if ds.length ≤ lim then lcGo mg mt me (wipeR r vs) ds p else none

theorem wipe_in {σ : L2.St} {j : Nat} : ∀ {vs : List Nat}, j ∈ vs → j < σ.length → (wipe σ vs)[j]? = some none
  | [], h, _ => by cases h
  | v :: vs, h, hj => by
    unfold wipe
    by_cases hv : v = j
    · subst hv
      rw [List.getElem?_set_self (by rw [wipe_length]; exact hj)]
    · rw [List.getElem?_set_ne hv]
      rcases List.mem_cons.mp h with q | q
      · exact absurd q.symm hv
      · exact wipe_in q hj
theorem wipe_same {σ τ : L2.St} {vs : List Nat} (hl : τ.length = σ.length) (h : ∀ j, j ∉ vs → τ[j]? = σ[j]?) : wipe τ vs = wipe σ vs := by
  apply List.ext_getElem?
  intro j
  by_cases hj : j ∈ vs
  · by_cases hlt : j < σ.length
    · rw [wipe_in hj hlt, wipe_in hj (by rw [hl]; exact hlt)]
    · rw [List.getElem?_eq_none (by rw [wipe_length]; omega), List.getElem?_eq_none (by rw [wipe_length]; omega)]
  · rw [wipe_out hj, wipe_out hj]
    exact h j hj
theorem EnvE.wipe {K : PySem.W.Frag} {pa : Option Addr} {H : Hp} {σ : L2.St} {r : Ev} (e : EnvE K pa H σ r) : ∀ vs : List Nat, EnvE K pa H (wipe σ vs) (wipeR r vs)
  | [] => e
  | v :: vs => by
    have ih := EnvE.wipe e vs
    refine ⟨by show (List.set _ _ _).length = (List.set _ _ _).length; rw [List.length_set, List.length_set]; exact ih.len, fun j d hj => ?_⟩
    unfold wipeR at hj
    by_cases hv : v = j
    · subst hv
      by_cases hlt : v < (wipeR r vs).length
      · rw [List.getElem?_set_self hlt] at hj; cases hj
      · rw [List.getElem?_eq_none (by rw [List.length_set]; omega)] at hj; cases hj
    · rw [List.getElem?_set_ne hv] at hj
      obtain ⟨x, h1, h2⟩ := ih.at_ j d hj
      exact ⟨x, by unfold L2.wipe; rw [List.getElem?_set_ne hv]; exact h1, h2⟩
/-- a new list: nothing else knows it -/
def tF (K : PySem.W.Frag) (m : ML) : TE := fun σ H Q => ∃ pa S r p ds p', Cn K pa S σ H r p ∧ m r p = some (ds, p') ∧ ∀ a xs H', Ext pa H H' → Sta pa S H' p' → H a = none → H' a = some (.lst xs) → RpL K pa (hid (fun b => S b ∨ b = a) H') xs ds → Q (.ref a) H'
structure JF (X : Cx) (e : Expr) (m : ML) : Prop where pe : PE X e (tF X.K m)
def mOfF (m : ML) : M := fun r p => bnd (m r p) fun ds p => some (.lst ds, p)
theorem red_ofF {K : PySem.W.Frag} {m : ML} {σ : L2.St} {H : Hp} {Q : VK} (h : tM K (mOfF m) σ H Q) : tF K m σ H Q := by
  obtain ⟨pa, S, r, p, d, p', c, e, q⟩ := h
  obtain ⟨ds, p1, e1, e⟩ := bnd_some e
  obtain ⟨rfl, rfl⟩ := pr e
  refine ⟨pa, S, r, p, ds, p1, c, e1, fun a xs H' x s ha h' r' => ?_⟩
  refine q _ H' x s (.lst (hid_of (c.sta.new ha) h') (RpL.mono (fun b o hb => ?_) _ _ r'))
  obtain ⟨n, hb⟩ := of_hid hb
  exact hid_of (fun z => n (.inl z)) hb
theorem JF.je {X : Cx} {e : Expr} {m : ML} (h : JF X e m) : JE X e (mOfF m) := ⟨h.pe.weak fun σ H Q => red_ofF⟩
theorem sub_hid {S : Addr → Prop} {H H' : Hp} {a : Addr} (n : H a = none) (e : Same (hid S H) (hid S H')) : Same (hid S H) (hid (fun b => S b ∨ b = a) H') := fun b o hb => by
  obtain ⟨n1, h1⟩ := of_hid hb
  refine hid_of (fun z => ?_) (of_hid (e b o hb)).2
  rcases z with z | z
  · exact n1 z
  · rw [z, n] at h1; cases h1
section
variable {K : PySem.W.Frag} {wi : TI} {g : TG} {ts vs : List Nat} {mi : ML} {mg : D → Ev → Option Ev} {mt : MB} {me : M}
theorem red_lc0 {pa : Option Addr} {S : Addr → Prop} {r : Ev} {p p1 p2 : List Int} {ds ys : List D} {σ : L2.St} {H : Hp} {Q : VK} (c : Cn K pa S σ H r p) (hi : ∀ R : It → Hp → Prop, (∀ J H1, Ext pa H H1 → Sta pa S H1 p1 → ItOk K pa S H1 J ds → R J H1) → wi σ H R) (hg : TgD K g ts mg) (hts : ∀ t ∈ ts, t ∈ vs)
    (hlim : ds.length ≤ lim) (e2 : lcGo mg mt me (wipeR r vs) ds p1 = some (ys, p2)) (q : ∀ a xs H', Ext pa H H' → Sta pa S H' p2 → H a = none → H' a = some (.lst xs) → RpL K pa (hid (fun b => S b ∨ b = a) H') xs ys → Q (.ref a) H') : tLc wi g (tMB K mt) (tM K me) vs σ H Q := by
    refine hi _ fun J H1 x1 s1 ok Dl hD => ?_
    have hSD : ¬ S Dl := s1.new hD
    have hpD : pa ≠ some Dl := s1.notpool hD
    -- the invariant
    refine ⟨fun i m Hh => ∃ acc dn pi rest, m = ds.length + 1 - i ∧ i ≤ ds.length ∧ Ext pa H1 Hh ∧ Sta pa (fun a => S a ∨ a = Dl) Hh pi ∧ Hh Dl = some (.lst acc) ∧ RpL K pa (hid (fun a => S a ∨ a = Dl) Hh) acc dn ∧ dn.length ≤ i ∧
      lcGo mg mt me (wipeR r vs) (ds.drop i) pi = some (rest, p2) ∧ dn ++ rest = ys, ⟨ds.length + 1, [], [], p1, ys, rfl, Nat.zero_le _, Ext.of (same_upd hD), ⟨fun a ha => ⟨?_, .inl (s1.pool a ha).2⟩, fun a ha => ?_⟩, upd_same, .nil, Nat.le_refl _, by rw [List.drop_zero]; exact e2, rfl⟩, ?_⟩
    · rw [upd_ne (fun z => hpD (by rw [← z]; exact ha))]
      exact (s1.pool a ha).1
    · rcases ha with ha | rfl
      · obtain ⟨o, ho⟩ := s1.trk a ha
        exact ⟨o, by rw [upd_ne (fun z => by rw [z] at ha; exact hSD ha)]; exact ho⟩
      · exact ⟨_, upd_same⟩
    · rintro i m Hh ⟨acc, dn, pi, rest, rfl, hil, xh, sh, hDl, racc, hdn, elc, hys⟩
      have frame : Same (hid S H1) (hid (fun a => S a ∨ a = Dl) Hh) := fun b o hb => by
        obtain ⟨n, hb⟩ := of_hid hb
        refine hid_of (fun z => ?_) (xh b o (fun z => n (s1.pool b z).2) hb)
        rcases z with z | z
        · exact n z
        · rw [z, hD] at hb; cases hb
      by_cases hlt : i < ds.length
      · refine .inr ⟨ok.go i _ Hh frame sh.trk hlt, fun H' => ∃ acc dn pi rest, Ext pa H1 H' ∧ Sta pa (fun a => S a ∨ a = Dl) H' pi ∧ H' Dl = some (.lst acc) ∧ RpL K pa (hid (fun a => S a ∨ a = Dl) H') acc dn ∧ dn.length ≤ i + 1 ∧
          lcGo mg mt me (wipeR r vs) (ds.drop (i + 1)) pi = some (rest, p2) ∧ dn ++ rest = ys, fun H' hN => ?_, fun x H' hy => ?_⟩
        · obtain ⟨acc', dn', pi', rest', a1, a2, a3, a4, a5, a6, a7⟩ := hN
          exact ⟨ds.length + 1 - (i + 1), by omega, acc', dn', pi', rest', rfl, hlt, a1, a2, a3, a4, a5, a6, a7⟩
        · obtain ⟨x2, d, hd, rd⟩ := ok.yld i _ Hh x H' frame sh.trk hlt hy
          have hdrop : ds.drop i = d :: ds.drop (i + 1) := by
            rw [List.drop_eq_getElem_cons hlt]
            rw [List.getElem?_eq_getElem hlt] at hd
            rw [Option.some.inj hd]
          rw [hdrop] at elc
          simp only [lcGo] at elc
          split at elc
          · cases elc
          · rename_i r1 hr1
            obtain ⟨b, p3, e3, elc⟩ := bnd_some elc
            have env0 : EnvE K pa (hid (fun a => S a ∨ a = Dl) H') (L2.wipe σ vs) (wipeR r vs) := (((c.env.mono (x1.hid c.sta)).mono frame).mono (Same.hid x2)).wipe vs
            refine hg.run pa _ _ H' _ x d r1 _ env0 rd hr1 fun σ2 env2 agree => ?_
            have hlen2 : σ2.length = σ.length := by
              rw [env2.len, (hg.keep d _ r1 hr1).1, wipeR_len, c.env.len]
            refine ⟨wipe_same hlen2 fun j hj => ?_, ?_⟩
            · rw [agree j fun z => hj (hts j z), wipe_out hj]
            · have cn : Cn K pa (fun a => S a ∨ a = Dl) σ2 H' r1 pi := ⟨sh.same x2, env2⟩
              refine ⟨pa, _, r1, pi, b, p3, cn, e3, fun H3 x3 s3 => ?_⟩
              have cn3 := cn.go x3 s3
              have hDl' : H' Dl = some (.lst acc) := x2 _ _ hDl
              have hDl3 : H3 Dl = some (.lst acc) := x3 _ _ hpD hDl'
              have racc3 : RpL K pa (hid (fun a => S a ∨ a = Dl) H3) acc dn := RpL.mono (x3.hid cn.sta) _ _ (RpL.mono (Same.hid x2) _ _ racc)
              have xh3 : Ext pa H1 H3 := (xh.trans (Ext.of x2)).trans x3
              cases b with
              | true =>
                rw [if_pos rfl] at elc
                obtain ⟨y, p4, e4, elc⟩ := bnd_some elc
                obtain ⟨ys', p5, e5, elc⟩ := bnd_some elc
                obtain ⟨rfl, rfl⟩ := pr elc
                show tM K me σ2 H3 _
                refine ⟨pa, _, r1, p3, y, p4, cn3, e4, fun v H4 x4 s4 r4 => ?_⟩
                have hDl4 : H4 Dl = some (.lst acc) := x4 _ _ hpD hDl3
                have racc4 : RpL K pa (hid (fun a => S a ∨ a = Dl) H4) acc dn := RpL.mono (x4.hid cn3.sta) _ _ racc3
                have up : Same (hid (fun a => S a ∨ a = Dl) H4) (hid (fun a => S a ∨ a = Dl) (upd H4 Dl (.lst (acc ++ [v])))) := fun b o hb => by
                  obtain ⟨n, hb⟩ := of_hid hb
                  exact hid_of n (by rw [upd_ne (fun z => n (.inr z))]; exact hb)
                refine ⟨acc, hDl4, ?_, acc ++ [v], dn ++ [y], p4, ys', ?_, ⟨fun a ha => ⟨?_, (s4.pool a ha).2⟩, fun a ha => ?_⟩, upd_same, RpL.mono up _ _ (racc4.append (.cons r4 .nil)), by rw [List.length_append]; exact Nat.succ_le_succ hdn, e5, by rw [List.append_assoc]; exact hys⟩
                · have h1 := racc.length
                  have h2 := lim_lt
                  omega
                · intro b o hb h1
                  rw [upd_ne (fun z => by rw [z, hD] at h1; cases h1)]
                  exact x4 _ _ hb (xh3 b o hb h1)
                · rw [upd_ne (fun z => hpD (by rw [← z]; exact ha))]
                  exact (s4.pool a ha).1
                · by_cases hz : a = Dl
                  · rw [hz]; exact ⟨_, upd_same⟩
                  · obtain ⟨o, ho⟩ := s4.trk a ha
                    exact ⟨o, by rw [upd_ne hz]; exact ho⟩
              | false =>
                rw [if_neg (by decide)] at elc
                exact ⟨acc, dn, p3, rest, xh3, s3, hDl3, racc3, Nat.le_succ_of_le hdn, elc, hys⟩
      · have hie : i = ds.length := by omega
        subst hie
        rw [List.drop_length] at elc
        obtain ⟨rfl, rfl⟩ := pr (show some (([] : List D), pi) = some (rest, p2) from elc)
        rw [List.append_nil] at hys
        subst hys
        refine .inl ⟨ok.stop _ _ Hh frame sh.trk (Nat.le_refl _), ?_⟩
        have hfree : H Dl = none := x1.free hpD hD
        exact q Dl acc Hh (x1.trans xh) ⟨fun a ha => ⟨(sh.pool a ha).1, (s1.pool a ha).2⟩, fun a ha => sh.trk a (.inl ha)⟩ hfree hDl racc
theorem red_lc (hi : IterD K wi mi) (hg : TgD K g ts mg) (hts : ∀ t ∈ ts, t ∈ vs) {σ : L2.St} {H : Hp} {Q : VK} (h : tF K (mLc vs mi mg mt me) σ H Q) : tLc wi g (tMB K mt) (tM K me) vs σ H Q := by
  obtain ⟨pa, S, r, p, ys, p2, c, e, q⟩ := h
  obtain ⟨ds, p1, e1, e⟩ := bnd_some e
  split at e
  · rename_i hlim
    exact red_lc0 c (fun R h => hi pa S σ H r p ds p1 R c e1 h) hg hts hlim e q
  · cases e
end
def tYesM : MB := fun _ p => some (true, p)
section
variable {X : Cx} {elt tg iter : Expr} {scope : Scope} {pos : Pos} {mi : ML} {me : M} {mt : MB} {g : TG} {ts : List Nat} {mg : D → Ev → Option Ev} {own : List (Str × Nat)}
structure JTs (X : Cx) (ifs : List Expr) (m : MB) : Prop where pt : PTs X ifs (tMB X.K m)
theorem jts_nil : JTs X [] tYesM := ⟨⟨fun pins s σ H Q I ⟨pa, S, r, p, b, p', c, e, q⟩ => by
  obtain ⟨rfl, rfl⟩ := pr e
  exact pts_nil.run pins s σ H Q I (q H Ext.refl c.sta)⟩⟩
theorem jts_one {c : Expr} {m : MB} (h : JT X c m) : JTs X [c] m := ⟨pts_one h.pt⟩
theorem jf_lc {ifs : List Expr} (own : List (Str × Nat)) (hc : X.calm = true) (hN : X.N.Nodup) (hi : JI X tg iter mi) (ok : BlkOk X.N X.env.scope scope own) (hg : ∀ (s : Shared) (H : Hp) (C : Addr) (cl : List (Str × Addr)) (fp : List Addr), PG (X.blk s H scope (compEnvC scope cl C X.env) fp) tg g)
    (hgd : TgD X.K g ts mg) (hts : ∀ t ∈ ts, t ∈ own.map (·.2))
    (ht : ∀ (s : Shared) (H : Hp) (C : Addr) (cl : List (Str × Addr)) (fp : List Addr), JTs (X.blk s H scope (compEnvC scope cl C X.env) fp) ifs mt) (he : ∀ (s : Shared) (H : Hp) (C : Addr) (cl : List (Str × Addr)) (fp : List Addr), JE (X.blk s H scope (compEnvC scope cl C X.env) fp) elt me)
    (hs : ∀ x, foldedSetIterable iter X.env x = pure x := by intro _; rfl) :
    JF X (.ListComp elt [⟨tg, iter, ifs, 0⟩] scope pos) (mLc (own.map (·.2)) mi mg mt me) := by
  obtain ⟨wi, h1, h2⟩ := hi.ex
  exact ⟨(pe_lc hc hN h1 ok hg (fun s H C cl fp => (ht s H C cl fp).pt) (fun s H C cl fp => (he s H C cl fp).pe) hs).weak fun σ H Q => red_lc h2 hgd hts⟩
end
end Dt

namespace Dt
open PySem PySem.Spec PyProof.Rows L2

/-! # Statements: the map of the slots -/
inductive Cl where
  | no | sh (d : D) | ow (d : D)
abbrev Sv := List Cl
def Cl.s : Cl → Option D
  | .sh d => some d
  | _ => none
def Cl.v : Cl → Option D
  | .sh d => some d
  | .ow d => some d
  | .no => none
def Cl.f : Cl → Cl
  | .ow d => .sh d
  | c => c
def shR (r : Sv) : Ev := r.map Cl.s
def viR (r : Sv) : Ev := r.map Cl.v
inductive Out where
  | nx (r : Sv) (p : List Int) | rt (d : D) (p : List Int) | bk (r : Sv) (p : List Int) | ct (r : Sv) (p : List Int)
abbrev MS := Sv → List Int → Option Out
/-- the def's entry -/
structure En where
  pa : Option Addr
  S : Addr → Prop
  H : Hp
theorem shR_get {r : Sv} {i : Nat} {d : D} : (shR r)[i]? = some (some d) ↔ r[i]? = some (.sh d) := by
  unfold shR
  rw [List.getElem?_map]
  cases e : r[i]? with
  | none => simp
  | some c => cases c <;> simp [Cl.s]
theorem viR_get {r : Sv} {i : Nat} {d : D} : (viR r)[i]? = some (some d) ↔ r[i]? = some (.sh d) ∨ r[i]? = some (.ow d) := by
  unfold viR
  rw [List.getElem?_map]
  cases e : r[i]? with
  | none => simp
  | some c => cases c <;> simp [Cl.v]
mutual
/-- no pool within -/
def np : D → Bool
  | .pool => false
  | .lst xs => nps xs
  | .tup xs => nps xs
  | .dk _ xs => nps xs
  | .dt _ xs => nps xs
  | .ins _ _ xs => nps xs
  | .slt _ xs => nps xs
  | _ => true
def nps : List D → Bool
  | [] => true
  | x :: xs => np x && nps xs
end
section
variable {K : PySem.W.Frag} {pa pb : Option Addr} {H : Hp}
mutual
theorem Rp.chg : ∀ (d : D) (v : V), np d = true → Rp K pa H v d → Rp K pb H v d
  | .non, _, _, h => by cases h; exact .non
  | .bl b, _, _, h => by cases h; exact .bl b
  | .int i, _, _, h => by cases h; exact .int i
  | .str x, _, _, h => by
    cases h with
    | str _ z => exact .str x z
  | .lst ds, _, f, h => by
    cases h with
    | lst h1 h2 => exact .lst h1 (RpL.chg ds _ (by simpa [np] using f) h2)
  | .tup ds, _, f, h => by
    cases h with
    | tup h1 h2 => exact .tup h1 (RpL.chg ds _ (by simpa [np] using f) h2)
  | .pool, _, f, h => by simp [np] at f
  | .scr ns, _, _, h => by
    cases h with
    | scr h1 => exact .scr h1
  | .dk _ ds, _, f, h => by
    cases h with
    | dk h1 h2 h4 h3 => exact .dk h1 h2 h4 (RpL.chg ds _ (by simpa [np] using f) h3)
  | .dt _ ds, _, f, h => by
    cases h with
    | dt h1 h2 h4 h3 => exact .dt h1 h2 h4 (RpL.chg ds _ (by simpa [np] using f) h3)
  | .ins _ _ ds, _, f, h => by
    cases h with
    | ins h0 h1 h2 h3 => exact .ins h0 h1 h2 (RpL.chg ds _ (by simpa [np] using f) h3)
  | .slt _ ds, _, f, h => by
    cases h with
    | slt h0 h1 h2 => exact .slt h0 h1 (RpL.chg ds _ (by simpa [np] using f) h2)
  | .fn _, _, f, h => by
    cases h with
    | fn h1 => exact .fn h1
  | .adr _, _, f, h => by
    cases h
    exact .adr _
theorem RpL.chg : ∀ (ds : List D) (vs : List V), nps ds = true → RpL K pa H vs ds → RpL K pb H vs ds
  | [], _, _, h => by cases h; exact .nil
  | d :: ds, _, f, h => by
    rw [nps, Bool.and_eq_true] at f
    cases h with
    | cons h1 h2 => exact .cons (Rp.chg d _ f.1 h1) (RpL.chg ds _ f.2 h2)
end
end
/-- an owned object and its data -/
def OwnO (K : PySem.W.Frag) (pa : Option Addr) (Hh : Hp) : HO → D → Prop
  | .lst xs, .lst ds => RpL K pa Hh xs ds
  | .dK kv, .dk ks ds => KRp K pa Hh kv (ks.zip ds) ∧ ds.length = ks.length ∧ ∀ k ∈ ks, kOk k
  | _, _ => False
theorem OwnO.mono {K : PySem.W.Frag} {pa : Option Addr} {H H' : Hp} (e : Same H H') {u : HO} {d : D} (h : OwnO K pa H u d) : OwnO K pa H' u d := by
  unfold OwnO at *
  split at h
  · exact RpL.mono e _ _ h
  · exact ⟨KRp.mono e h.1, h.2⟩
  · exact h.elim
theorem OwnO.rp {K : PySem.W.Frag} {pa : Option Addr} {H : Hp} {a : Addr} {u : HO} {d : D} (ha : H a = some u) (h : OwnO K pa H u d) : Rp K pa H (.ref a) d := by
  unfold OwnO at h
  split at h
  · exact .lst ha h
  · obtain ⟨h1, h2, h3⟩ := h
    have := Rp.dkv (m := _) (.inl ha) h1 fun q hq => h3 _ (List.of_mem_zip hq).1
    unfold dkv at this
    rw [zip_fst h2, zip_snd h2] at this
    exact this
  · exact h.elim
theorem OwnO.lst {K : PySem.W.Frag} {pa : Option Addr} {H : Hp} {u : HO} {ds : List D} (h : OwnO K pa H u (.lst ds)) : ∃ xs, u = .lst xs ∧ RpL K pa H xs ds := by
  unfold OwnO at h
  split at h
  · rename_i xs ds' e
    cases e
    exact ⟨_, rfl, h⟩
  · rename_i e; cases e
  · exact h.elim
theorem OwnO.dk {K : PySem.W.Frag} {pa : Option Addr} {H : Hp} {u : HO} {ks : List Key} {ds : List D} (h : OwnO K pa H u (.dk ks ds)) : ∃ kv, u = .dK kv ∧ KRp K pa H kv (ks.zip ds) ∧ ds.length = ks.length ∧ ∀ k ∈ ks, kOk k := by
  unfold OwnO at h
  split at h
  · rename_i e; cases e
  · rename_i kv ks' ds' e
    cases e
    exact ⟨_, rfl, h⟩
  · exact h.elim
/-- where a statement stands: E the def's entry; pa the pool now, S0 what is hidden but owned lists, S all that is hidden, A the owned lists' addresses -/
structure EnvS (K : PySem.W.Frag) (fx : Bool) (E : En) (pa : Option Addr) (S0 S : Addr → Prop) (A : Nat → Addr) (σ : L2.St) (H : Hp) (r : Sv) (p : List Int) : Prop where
  sta : Sta pa S0 H p
  pap : fx = false → pa = E.pa ∧ ∀ a, pa = some a → E.S a
  pan : fx = true → E.pa = none ∧ ∀ b, pa = some b → E.H b = none
  sub : ∀ a, E.S a → S0 a
  new : ∀ a, S0 a → E.S a ∨ E.H a = none
  ext : Ext E.pa E.H H
  hS : ∀ a, S a ↔ (S0 a ∨ ∃ (i : Nat) (d : D), r[i]? = some (.ow d) ∧ A i = a)
  own : ∀ (i : Nat) (d : D), r[i]? = some (.ow d) → σ[i]? = some (some (.ref (A i))) ∧ E.H (A i) = none ∧ ¬ S0 (A i) ∧ ∃ u, H (A i) = some u ∧ OwnO K pa (hid S H) u d
  inj : ∀ (i j : Nat) (d e : D), r[i]? = some (.ow d) → r[j]? = some (.ow e) → A i = A j → i = j
  env : EnvE K pa (hid S H) σ (shR r)
def Frm (S : Addr → Prop) (H : Hp) (S' : Addr → Prop) (H' : Hp) : Prop := Same (hid S H) (hid S' H')
theorem Frm.refl {S : Addr → Prop} {H : Hp} : Frm S H S H := fun _ _ h => h
theorem Frm.trans {S S1 S2 : Addr → Prop} {H H1 H2 : Hp} (a : Frm S H S1 H1) (b : Frm S1 H1 S2 H2) : Frm S H S2 H2 := fun x o h => b x o (a x o h)
def NxS (K : PySem.W.Frag) (fx : Bool) (E : En) (S : Addr → Prop) (H : Hp) (r : Sv) (p : List Int) (N : L2.St → Hp → Prop) : Prop := ∀ pa S0 S' A σ' H', EnvS K fx E pa S0 S' A σ' H' r p → Frm S H S' H' → N σ' H'
def RtS (K : PySem.W.Frag) (E : En) (d : D) (p : List Int) (Q : VK) : Prop := ∀ v H', Ext E.pa E.H H' → Sta E.pa E.S H' p → Rp K E.pa (hid E.S H') v d → Q v H'
def PostS (K : PySem.W.Frag) (fx : Bool) (E : En) (S : Addr → Prop) (H : Hp) (o : Out) (D : Ends) : Prop := match o with
  | .nx r p => NxS K fx E S H r p D.nx
  | .rt d p => RtS K E d p D.rt
  | .bk r p => NxS K fx E S H r p D.bk
  | .ct r p => NxS K fx E S H r p D.ct
def tS (K : PySem.W.Frag) (fx : Bool) (E : En) (m : MS) : TS := fun D σ H => ∃ pa S0 S A r p o, EnvS K fx E pa S0 S A σ H r p ∧ m r p = some o ∧ PostS K fx E S H o D
structure JS (fx : Bool) (X : Cx) (st : Stmt) (m : MS) : Prop where ps : ∀ E, PS X st (tS X.K fx E m)
structure JSs (fx : Bool) (X : Cx) (st : List Stmt) (m : MS) : Prop where ps : ∀ E, PSs X st (tS X.K fx E m)
theorem _root_.L2.PS.weak {X : Cx} {st : Stmt} {t t' : TS} (h : PS X st t) (w : ∀ D σ H, t' D σ H → t D σ H) : PS X st t' := ⟨fun pins s σ H D I q => h.run pins s σ H D I (w D σ H q)⟩
theorem _root_.L2.PSs.weak {X : Cx} {st : List Stmt} {t t' : TS} (h : PSs X st t) (w : ∀ D σ H, t' D σ H → t D σ H) : PSs X st t' := ⟨fun pins s σ H D I q => h.run pins s σ H D I (w D σ H q)⟩
section
variable {K : PySem.W.Frag} {fx : Bool} {E : En} {pa : Option Addr} {S0 S S' : Addr → Prop} {A : Nat → Addr} {σ : L2.St} {H H' : Hp} {r : Sv} {p p' : List Int} {o : Out} {Dn : Ends}
theorem NxS.after {N : L2.St → Hp → Prop} (f : Frm S H S' H') (h : NxS K fx E S H r p N) : NxS K fx E S' H' r p N := fun pa S0 S2 A σ2 H2 e g => h pa S0 S2 A σ2 H2 e (f.trans g)
theorem PostS.after (f : Frm S H S' H') (h : PostS K fx E S H o Dn) : PostS K fx E S' H' o Dn := by
  cases o with
  | nx r p => exact NxS.after f h
  | rt d p => exact h
  | bk r p => exact NxS.after f h
  | ct r p => exact NxS.after f h
theorem EnvS.staS (e : EnvS K fx E pa S0 S A σ H r p) : Sta pa S H p := ⟨fun a h => ⟨(e.sta.pool a h).1, (e.hS a).mpr (.inl (e.sta.pool a h).2)⟩, fun a h => by
  rcases (e.hS a).mp h with h1 | ⟨i, d, h2, h3⟩
  · exact e.sta.trk a h1
  · obtain ⟨_, _, _, u, q, _⟩ := e.own i d h2
    rw [← h3]
    exact ⟨_, q⟩⟩
theorem EnvS.cn (e : EnvS K fx E pa S0 S A σ H r p) : Cn K pa S σ H (shR r) p := ⟨e.staS, e.env⟩
theorem EnvS.sub0 (e : EnvS K fx E pa S0 S A σ H r p) : Same (hid S H) (hid S0 H) := fun b o h => by
  obtain ⟨n, h⟩ := of_hid h
  exact hid_of (fun z => n ((e.hS b).mpr (.inl z))) h
/-- all in sight, for what ends in a scalar or leaves -/
theorem EnvS.vis (e : EnvS K fx E pa S0 S A σ H r p) : Cn K pa S0 σ H (viR r) p := by
  refine ⟨e.sta, by rw [e.env.len]; unfold shR viR; rw [List.length_map, List.length_map], fun i d h => ?_⟩
  rcases viR_get.mp h with h | h
  · obtain ⟨v, h1, h2⟩ := e.env.at_ i d (shR_get.mpr h)
    exact ⟨v, h1, Rp.mono e.sub0 _ _ h2⟩
  · obtain ⟨h1, _, h2, u, h3, h4⟩ := e.own i d h
    exact ⟨_, h1, OwnO.rp (hid_of h2 h3) (h4.mono e.sub0)⟩
/-- behind an expression -/
theorem EnvS.go (e : EnvS K fx E pa S0 S A σ H r p) (x : Ext pa H H') (s : Sta pa S0 H' p') : EnvS K fx E pa S0 S A σ H' r p' := by
  have hp : ∀ b, pa = some b → S b := fun b h => (e.staS.pool b h).2
  have sm : Same (hid S H) (hid S H') := fun b o h => by
    obtain ⟨n, h⟩ := of_hid h
    exact hid_of n (x b o (fun z => n (hp b z)) h)
  refine ⟨s, e.pap, e.pan, e.sub, e.new, fun b o n h => ?_, e.hS, fun i d h => ?_, e.inj, e.env.mono sm⟩
  · by_cases hb : pa = some b
    · cases hf : fx with
      | false => exact absurd (by rw [← (e.pap hf).1]; exact hb) n
      | true =>
        rw [(e.pan hf).2 b hb] at h
        cases h
    · exact x b o hb (e.ext b o n h)
  · obtain ⟨h1, h2, h3, u, h5, h6⟩ := e.own i d h
    refine ⟨h1, h2, h3, u, x _ _ (fun z => ?_) h5, h6.mono sm⟩
    exact h3 (e.sta.pool _ z).2
theorem EnvS.frm (e : EnvS K fx E pa S0 S A σ H r p) (x : Ext pa H H') : Frm S H S H' := fun b o h => by
  obtain ⟨n, h⟩ := of_hid h
  exact hid_of n (x b o (fun z => n (e.staS.pool b z).2) h)
/-- a slot is stored, shared -/
theorem EnvS.setSh (e : EnvS K fx E pa S0 S A σ H r p) {x : V} {d : D} (i : Nat) (h : Rp K pa (hid S H) x d) :
    ∃ S', EnvS K fx E pa S0 S' A (σ.set i (some x)) H (r.set i (.sh d)) p ∧ Frm S H S' H := by
  have keep : ∀ (j : Nat) (d' : D), (r.set i (.sh d))[j]? = some (.ow d') → j ≠ i ∧ r[j]? = some (.ow d') := fun j d' hj => by
    by_cases hij : i = j
    · subst hij
      by_cases hi : i < r.length
      · rw [List.getElem?_set_self hi] at hj; cases hj
      · rw [List.getElem?_eq_none (by rw [List.length_set]; omega)] at hj; cases hj
    · rw [List.getElem?_set_ne hij] at hj
      exact ⟨fun z => hij z.symm, hj⟩
  have fr : Frm S H (fun a => S0 a ∨ ∃ (j : Nat) (d' : D), (r.set i (.sh d))[j]? = some (.ow d') ∧ A j = a) H := fun b o hb => by
    obtain ⟨n, hb⟩ := of_hid hb
    refine hid_of (fun z => n ((e.hS b).mpr ?_)) hb
    rcases z with z | ⟨j, d', hj, hA⟩
    · exact .inl z
    · exact .inr ⟨j, d', (keep j d' hj).2, hA⟩
  refine ⟨_, ⟨e.sta, e.pap, e.pan, e.sub, e.new, e.ext, fun a => Iff.rfl, fun j d' hj => ?_, fun j k d1 d2 h1 h2 => e.inj j k d1 d2 (keep j d1 h1).2 (keep k d2 h2).2, ?_⟩, fr⟩
  · obtain ⟨ne, hj⟩ := keep j d' hj
    obtain ⟨h1, h2, h3, u, h5, h6⟩ := e.own j d' hj
    exact ⟨by rw [List.getElem?_set_ne (Ne.symm ne)]; exact h1, h2, h3, u, h5, h6.mono fr⟩
  · have e2 : shR (r.set i (.sh d)) = (shR r).set i (some d) := by
      unfold shR
      rw [List.map_set]
      rfl
    rw [e2]
    exact (e.env.mono fr).set i (Rp.mono fr _ _ h)
/-- a slot is stored, a new list -/
theorem EnvS.setOw (e : EnvS K fx E pa S0 S A σ H r p) {a : Addr} {u : HO} {dd : D} (i : Nat) (hi : i < r.length) (hE : E.H a = none) (hS : ¬ S a) (ha : H a = some u) (hr : OwnO K pa (hid (fun b => S b ∨ b = a) H) u dd) (hen : EnvE K pa (hid (fun b => S b ∨ b = a) H) σ (shR r))
    (hown : ∀ (j : Nat) (d : D), j ≠ i → r[j]? = some (.ow d) → ∃ u, H (A j) = some u ∧ OwnO K pa (hid (fun b => S b ∨ b = a) H) u d) :
    ∃ S' A', EnvS K fx E pa S0 S' A' (σ.set i (some (.ref a))) H (r.set i (.ow dd)) p ∧ ∀ b, S' b → S b ∨ b = a := by
  have keep : ∀ (j : Nat) (d' : D), (r.set i (.ow dd))[j]? = some (.ow d') → (j = i ∧ d' = dd) ∨ (j ≠ i ∧ r[j]? = some (.ow d')) := fun j d' hj => by
    by_cases hij : i = j
    · subst hij
      rw [List.getElem?_set_self hi] at hj
      cases hj
      exact .inl ⟨rfl, rfl⟩
    · rw [List.getElem?_set_ne hij] at hj
      exact .inr ⟨fun z => hij z.symm, hj⟩
  have sub : ∀ b, (S0 b ∨ ∃ (j : Nat) (d' : D), (r.set i (.ow dd))[j]? = some (.ow d') ∧ (if j = i then a else A j) = b) → S b ∨ b = a := fun b z => by
    rcases z with z | ⟨j, d', hj, hA⟩
    · exact .inl ((e.hS b).mpr (.inl z))
    · rcases keep j d' hj with ⟨rfl, _⟩ | ⟨ne, hj⟩
      · rw [if_pos rfl] at hA; exact .inr hA.symm
      · rw [if_neg ne] at hA; exact .inl ((e.hS b).mpr (.inr ⟨j, d', hj, hA⟩))
  have sm : Same (hid (fun b => S b ∨ b = a) H) (hid (fun b => S0 b ∨ ∃ (j : Nat) (d' : D), (r.set i (.ow dd))[j]? = some (.ow d') ∧ (if j = i then a else A j) = b) H) := fun b o hb => by
    obtain ⟨n, hb⟩ := of_hid hb
    exact hid_of (fun z => n (sub b z)) hb
  have nS0 : ¬ S0 a := fun z => hS ((e.hS a).mpr (.inl z))
  refine ⟨_, fun j => if j = i then a else A j, ⟨e.sta, e.pap, e.pan, e.sub, e.new, e.ext, fun a => Iff.rfl, fun j d' hj => ?_, fun j k d1 d2 h1 h2 hA => ?_, ?_⟩, sub⟩
  · rcases keep j d' hj with ⟨rfl, rfl⟩ | ⟨ne, hj⟩
    · simp only [if_pos rfl]
      exact ⟨List.getElem?_set_self (by have := e.env.len; unfold shR at this; rw [List.length_map] at this; omega), hE, nS0, u, ha, hr.mono sm⟩
    · simp only [if_neg ne]
      obtain ⟨h1, h2, h3, _⟩ := e.own j d' hj
      obtain ⟨u', h5, h6⟩ := hown j d' ne hj
      exact ⟨by rw [List.getElem?_set_ne (Ne.symm ne)]; exact h1, h2, h3, u', h5, h6.mono sm⟩
  · have na : ∀ (j : Nat) (d' : D), r[j]? = some (.ow d') → A j ≠ a := fun j d' hj z => hS ((e.hS a).mpr (.inr ⟨j, d', hj, z⟩))
    rcases keep j d1 h1 with ⟨e1, _⟩ | ⟨ne, g1⟩
    · rcases keep k d2 h2 with ⟨e2, _⟩ | ⟨ne2, g2⟩
      · rw [e1, e2]
      · simp only [if_pos e1, if_neg ne2] at hA
        exact absurd hA.symm (na k d2 g2)
    · rcases keep k d2 h2 with ⟨e2, _⟩ | ⟨ne2, g2⟩
      · simp only [if_pos e2, if_neg ne] at hA
        exact absurd hA (na j d1 g1)
      · simp only [if_neg ne, if_neg ne2] at hA
        exact e.inj j k d1 d2 g1 g2 hA
  · have en2 := hen.mono sm
    refine ⟨?_, fun j d' hj => ?_⟩
    · rw [List.length_set, en2.len]
      unfold shR
      rw [List.length_map, List.length_map, List.length_set]
    · have hj2 := shR_get.mp hj
      by_cases hij : i = j
      · subst hij
        rw [List.getElem?_set_self hi] at hj2
        cases hj2
      · rw [List.getElem?_set_ne hij] at hj2
        obtain ⟨v, h1, h2⟩ := en2.at_ j d' (shR_get.mpr hj2)
        exact ⟨v, by rw [List.getElem?_set_ne hij]; exact h1, h2⟩
end
end Dt

namespace Dt
open PySem PySem.Spec PyProof.Rows L2

/-! # Statements -/
section
variable {K : PySem.W.Frag} {fx : Bool} {E : En}
def sNext : MS := fun r p => some (.nx r p)
def sSeq (a b : MS) : MS := fun r p => match a r p with | some (.nx r p) => b r p | o => o
theorem red_seq {a b : MS} {D : Ends} {σ : L2.St} {H : Hp} (h : tS K fx E (sSeq a b) D σ H) : tSeq (tS K fx E a) (tS K fx E b) D σ H := by
  obtain ⟨pa, S0, S, A, r, p, o, e, m, q⟩ := h
  unfold sSeq at m
  split at m
  · rename_i r1 p1 m1
    exact ⟨pa, S0, S, A, r, p, _, e, m1, fun pa' S0' S' A' σ' H' e' f => ⟨pa', S0', S', A', r1, p1, o, e', m, q.after f⟩⟩
  · rename_i hne
    refine ⟨pa, S0, S, A, r, p, o, e, m, ?_⟩
    cases o with
    | nx r1 p1 => exact absurd m (hne r1 p1)
    | rt d p1 => exact q
    | bk r1 p1 => exact q
    | ct r1 p1 => exact q
theorem red_next {D : Ends} {σ : L2.St} {H : Hp} (h : tS K fx E sNext D σ H) : tNext D σ H := by
  obtain ⟨pa, S0, S, A, r, p, o, e, m, q⟩ := h
  cases m
  exact q pa S0 S A σ H e Frm.refl
def sAsg (i : Nat) (me : M) : MS := fun r p => match me (shR r) p with | some (d, p) => some (.nx (r.set i (.sh d)) p) | none => none
theorem red_asg {i : Nat} {me : M} {D : Ends} {σ : L2.St} {H : Hp} (h : tS K fx E (sAsg i me) D σ H) : tAsg (tM K me) (gName i) D σ H := by
  obtain ⟨pa, S0, S, A, r, p, o, e, m, q⟩ := h
  unfold sAsg at m
  split at m
  · rename_i d p1 m1
    cases m
    refine ⟨pa, S, shR r, p, d, p1, e.cn, m1, fun v H1 x1 s1 r1 => ?_⟩
    have e1 := e.go x1 ⟨fun a h => ⟨(s1.pool a h).1, (e.sta.pool a h).2⟩, fun a h => s1.trk a ((e.hS a).mpr (.inl h))⟩
    obtain ⟨S', e2, f2⟩ := e1.setSh i r1
    exact q pa S0 S' A _ H1 e2 ((e.frm x1).trans f2)
  · cases m
/-- scalars -/
def sc : D → Bool
  | .non => true | .bl _ => true | .int _ => true | .str _ => true | _ => false
theorem Rp.scal {pa pb : Option Addr} {H H' : Hp} {v : V} {d : D} (f : sc d = true) (h : Rp K pa H v d) : Rp K pb H' v d := by
  cases h with
  | non => exact .non
  | bl b => exact .bl b
  | int i => exact .int i
  | str x z => exact .str x z
  | _ => cases f
def sAsgV (i : Nat) (me : M) : MS := fun r p => match me (viR r) p with | some (d, p) => if sc d = true then some (.nx (r.set i (.sh d)) p) else none | none => none
theorem red_asgV {i : Nat} {me : M} {D : Ends} {σ : L2.St} {H : Hp} (h : tS K fx E (sAsgV i me) D σ H) : tAsg (tM K me) (gName i) D σ H := by
  obtain ⟨pa, S0, S, A, r, p, o, e, m, q⟩ := h
  unfold sAsgV at m
  split at m
  · rename_i d p1 m1
    split at m
    · rename_i hs
      cases m
      refine ⟨pa, S0, viR r, p, d, p1, e.vis, m1, fun v H1 x1 s1 r1 => ?_⟩
      have e1 := e.go x1 s1
      obtain ⟨S', e2, f2⟩ := e1.setSh (x := v) (d := d) i (Rp.scal hs r1)
      exact q pa S0 S' A _ H1 e2 ((e.frm x1).trans f2)
    · cases m
  · cases m
/-- a new list, owned from here -/
def sNew (i : Nat) (mf : ML) : MS := fun r p => match mf (shR r) p with | some (ds, p) => if i < r.length then some (.nx (r.set i (.ow (.lst ds))) p) else none | none => none
theorem EnvS.mine {pa : Option Addr} {S0 S : Addr → Prop} {A : Nat → Addr} {σ : L2.St} {H : Hp} {r : Sv} {p p' : List Int} (e : EnvS K fx E pa S0 S A σ H r p) {i : Nat} (hi : i < r.length) {H1 : Hp} {a : Addr} {u : HO} {dd : D} (x1 : Ext pa H H1) (s1 : Sta pa S H1 p') (hn : H a = none) (ha : H1 a = some u)
    (hr : OwnO K pa (hid (fun b => S b ∨ b = a) H1) u dd) : ∃ S' A', EnvS K fx E pa S0 S' A' (σ.set i (some (.ref a))) H1 (r.set i (.ow dd)) p' ∧ Frm S H S' H1 := by
  have e1 := e.go x1 ⟨fun a h => ⟨(s1.pool a h).1, (e.sta.pool a h).2⟩, fun a h => s1.trk a ((e.hS a).mpr (.inl h))⟩
  have nS : ¬ S a := e.staS.new hn
  have hE : E.H a = none := by
    cases hx : E.H a with
    | none => rfl
    | some o =>
      by_cases hp : E.pa = some a
      · cases hf : fx with
        | false => exact absurd (e.staS.pool a (by rw [(e.pap hf).1]; exact hp)).2 nS
        | true => rw [(e.pan hf).1] at hp; cases hp
      · rw [e.ext a o hp hx] at hn; cases hn
  have sm : Same (hid S H) (hid (fun b => S b ∨ b = a) H1) := sub_hid hn (e.frm x1)
  obtain ⟨S', A', e2, h2⟩ := e1.setOw (a := a) (u := u) (dd := dd) i hi hE nS ha hr (e.env.mono sm) fun j d ne hj => by
    obtain ⟨_, _, h3, u', h5, h6⟩ := e.own j d hj
    exact ⟨u', x1 _ _ (fun z => h3 (e.sta.pool _ z).2) h5, h6.mono sm⟩
  exact ⟨S', A', e2, fun b o hb => by
    obtain ⟨n1, h1⟩ := of_hid hb
    refine hid_of (fun z => ?_) (of_hid (e.frm x1 b o hb)).2
    rcases h2 b z with z | z
    · exact n1 z
    · rw [z, hn] at h1; cases h1⟩
theorem red_new {i : Nat} {mf : ML} {D : Ends} {σ : L2.St} {H : Hp} (h : tS K fx E (sNew i mf) D σ H) : tAsg (tF K mf) (gName i) D σ H := by
  obtain ⟨pa, S0, S, A, r, p, o, e, m, q⟩ := h
  unfold sNew at m
  split at m
  · rename_i ds p1 m1
    split at m
    · rename_i hi
      cases m
      refine ⟨pa, S, shR r, p, ds, p1, e.cn, m1, fun a xs H1 x1 s1 hn ha hr => ?_⟩
      obtain ⟨S', A', e2, f2⟩ := e.mine (dd := .lst ds) hi x1 s1 hn ha hr
      exact q pa S0 S' A' _ H1 e2 f2
    · cases m
  · cases m
/-- an owned list is changed -/
theorem EnvS.setL {pa : Option Addr} {S0 S : Addr → Prop} {A : Nat → Addr} {σ : L2.St} {H : Hp} {r : Sv} {p : List Int} (e : EnvS K fx E pa S0 S A σ H r p) {i : Nat} {d : D} (hi : r[i]? = some (.ow d)) {v : HO} {dd : D} (hr : OwnO K pa (hid S H) v dd) :
    ∃ S', EnvS K fx E pa S0 S' A σ (upd H (A i) v) (r.set i (.ow dd)) p ∧ Frm S H S' (upd H (A i) v) := by
  obtain ⟨h1, h2, h3, u, h5, h6⟩ := e.own i d hi
  have hSA : S (A i) := (e.hS _).mpr (.inr ⟨i, d, hi, rfl⟩)
  have hlt : i < r.length := (List.getElem?_eq_some_iff.mp hi).1
  have keep : ∀ (j : Nat) (d' : D), (r.set i (.ow dd))[j]? = some (.ow d') → (j = i ∧ d' = dd) ∨ (j ≠ i ∧ r[j]? = some (.ow d')) := fun j d' hj => by
    by_cases hij : i = j
    · subst hij
      rw [List.getElem?_set_self hlt] at hj
      cases hj
      exact .inl ⟨rfl, rfl⟩
    · rw [List.getElem?_set_ne hij] at hj
      exact .inr ⟨fun z => hij z.symm, hj⟩
  have iff : ∀ a, S a ↔ (S0 a ∨ ∃ (j : Nat) (d' : D), (r.set i (.ow dd))[j]? = some (.ow d') ∧ A j = a) := fun a => by
    rw [e.hS a]
    constructor
    · rintro (z | ⟨j, d', hj, hA⟩)
      · exact .inl z
      · by_cases hij : i = j
        · subst hij; exact .inr ⟨i, _, List.getElem?_set_self hlt, hA⟩
        · exact .inr ⟨j, d', by rw [List.getElem?_set_ne hij]; exact hj, hA⟩
    · rintro (z | ⟨j, d', hj, hA⟩)
      · exact .inl z
      · rcases keep j d' hj with ⟨rfl, _⟩ | ⟨_, hj⟩
        · exact .inr ⟨_, d, hi, hA⟩
        · exact .inr ⟨j, d', hj, hA⟩
  have sm : Same (hid S H) (hid S (upd H (A i) v)) := fun b o hb => by
    obtain ⟨n, hb⟩ := of_hid hb
    exact hid_of n (by rw [upd_ne (fun z => n (by rw [z]; exact hSA))]; exact hb)
  refine ⟨S, ⟨⟨fun a ha => ⟨?_, (e.sta.pool a ha).2⟩, fun a ha => ?_⟩, e.pap, e.pan, e.sub, e.new, fun b o n hb => ?_, iff, fun j d' hj => ?_, fun j k d1 d2 g1 g2 hA => ?_, ?_⟩, sm⟩
  · rw [upd_ne (fun z => h3 (by rw [← z]; exact (e.sta.pool a ha).2))]
    exact (e.sta.pool a ha).1
  · obtain ⟨o, ho⟩ := e.sta.trk a ha
    exact ⟨o, by rw [upd_ne (fun z => h3 (by rw [← z]; exact ha))]; exact ho⟩
  · rw [upd_ne (fun z => by rw [z, h2] at hb; cases hb)]
    exact e.ext b o n hb
  · rcases keep j d' hj with ⟨rfl, rfl⟩ | ⟨ne, hj⟩
    · exact ⟨h1, h2, h3, v, upd_same, hr.mono sm⟩
    · obtain ⟨k1, k2, k3, u', k5, k6⟩ := e.own j d' hj
      exact ⟨k1, k2, k3, u', by rw [upd_ne (fun z => ne (e.inj j i d' d hj hi z))]; exact k5, k6.mono sm⟩
  · rcases keep j d1 g1 with ⟨e1, _⟩ | ⟨_, g1'⟩
    · rcases keep k d2 g2 with ⟨e2, _⟩ | ⟨_, g2'⟩
      · rw [e1, e2]
      · exact e.inj j k d d2 (by rw [e1]; exact hi) g2' hA
    · rcases keep k d2 g2 with ⟨e2, _⟩ | ⟨_, g2'⟩
      · exact e.inj j k d1 d g1' (by rw [e2]; exact hi) hA
      · exact e.inj j k d1 d2 g1' g2' hA
  · have en2 := e.env.mono sm
    refine ⟨?_, fun j d' hj => ?_⟩
    · rw [en2.len]
      unfold shR
      rw [List.length_map, List.length_map, List.length_set]
    · have hj2 := shR_get.mp hj
      by_cases hij : i = j
      · subst hij
        rw [List.getElem?_set_self hlt] at hj2
        cases hj2
      · rw [List.getElem?_set_ne hij] at hj2
        exact en2.at_ j d' (shR_get.mpr hj2)
def owL (r : Sv) (i : Nat) : Option (List D) := match r[i]? with | some (.ow (.lst ds)) => some ds | _ => none
theorem owL_eq {r : Sv} {i : Nat} {ds : List D} (h : owL r i = some ds) : r[i]? = some (.ow (.lst ds)) := by
  unfold owL at h
  split at h
  · rename_i es he
    cases h
    exact he
  · cases h
/-- x.append(e) -/
def sApp (i : Nat) (me : M) : MS := fun r p => match owL r i, me (shR r) p with | some ds, some (d, p) => if ds.length < lim then some (.nx (r.set i (.ow (.lst (ds ++ [d])))) p) else none | _, _ => none
theorem red_app {i : Nat} {me : M} {D : Ends} {σ : L2.St} {H : Hp} (h : tS K fx E (sApp i me) D σ H) : tDrop (tBM K "list" rAppend (tVar i) (tCons (tM K me) tNil)) D σ H := by
  obtain ⟨pa, S0, S, A, r, p, o, e, m, q⟩ := h
  unfold sApp at m
  split at m
  · rename_i ds d p1 hr m1
    split at m
    · rename_i hl
      cases m
      have hi := owL_eq hr
      obtain ⟨h1, h2, h3, u0, h5, h60⟩ := e.own i _ hi
      obtain ⟨xs, rfl, h6⟩ := h60.lst
      refine ⟨_, h1, .inl ⟨rfl, xs, SqL.of h5⟩, ?_⟩
      refine ⟨pa, S, shR r, p, d, p1, e.cn, m1, fun v H1 x1 s1 r1 => ?_⟩
      have e1 := e.go x1 ⟨fun a h => ⟨(s1.pool a h).1, (e.sta.pool a h).2⟩, fun a h => s1.trk a ((e.hS a).mpr (.inl h))⟩
      obtain ⟨_, _, _, u1, k5, k60⟩ := e1.own i _ hi
      obtain ⟨xs1, rfl, k6⟩ := k60.lst
      obtain ⟨S', e2, f2⟩ := e1.setL (v := .lst _) (dd := .lst _) hi (k6.append (.cons r1 .nil))
      refine ⟨_, xs1, v, rfl, rfl, k5, ?_, q pa S0 S' A σ _ e2 ((e.frm x1).trans f2)⟩
      rw [k6.length]
      have := lim_lt
      omega
    · cases m
  · cases m
/-- x.extend(e) -/
def sExt (i : Nat) (me : M) : MS := fun r p => match owL r i, me (shR r) p with | some ds, some (.lst es, p) => if ds.length + es.length ≤ lim then some (.nx (r.set i (.ow (.lst (ds ++ es)))) p) else none | _, _ => none
theorem red_ext {i : Nat} {me : M} {D : Ends} {σ : L2.St} {H : Hp} (h : tS K fx E (sExt i me) D σ H) : tDrop (tBM K "list" rExtend (tVar i) (tCons (tM K me) tNil)) D σ H := by
  obtain ⟨pa, S0, S, A, r, p, o, e, m, q⟩ := h
  unfold sExt at m
  split at m
  · rename_i ds es p1 hr m1
    split at m
    · rename_i hl
      cases m
      have hi := owL_eq hr
      obtain ⟨h1, h2, h3, u0, h5, h60⟩ := e.own i _ hi
      obtain ⟨xs, rfl, h6⟩ := h60.lst
      refine ⟨_, h1, .inl ⟨rfl, xs, SqL.of h5⟩, ?_⟩
      refine ⟨pa, S, shR r, p, _, p1, e.cn, m1, fun v H1 x1 s1 r1 => ?_⟩
      have e1 := e.go x1 ⟨fun a h => ⟨(s1.pool a h).1, (e.sta.pool a h).2⟩, fun a h => s1.trk a ((e.hS a).mpr (.inl h))⟩
      obtain ⟨_, _, _, u1, k5, k60⟩ := e1.own i _ hi
      obtain ⟨xs1, rfl, k6⟩ := k60.lst
      cases r1 with
      | lst g1 g2 =>
        obtain ⟨S', e2, f2⟩ := e1.setL (v := .lst _) (dd := .lst _) hi (k6.append g2)
        refine ⟨_, _, xs1, _, rfl, rfl, k5, hid_sub _ _ g1, ?_, q pa S0 S' A σ _ e2 ((e.frm x1).trans f2)⟩
        rw [k6.length, g2.length]
        exact lim_sz hl
    · cases m
  · cases m
/-- an expression for its effects -/
def sDrop (me : M) : MS := fun r p => match me (viR r) p with | some (_, p) => some (.nx r p) | none => none
theorem red_drop {me : M} {D : Ends} {σ : L2.St} {H : Hp} (h : tS K fx E (sDrop me) D σ H) : tDrop (tM K me) D σ H := by
  obtain ⟨pa, S0, S, A, r, p, o, e, m, q⟩ := h
  unfold sDrop at m
  split at m
  · rename_i d p1 m1
    cases m
    exact ⟨pa, S0, viR r, p, d, p1, e.vis, m1, fun v H1 x1 s1 r1 => q pa S0 S A σ H1 (e.go x1 s1) (e.frm x1)⟩
  · cases m
/-- return e -/
def sRet (fx : Bool) (me : M) : MS := fun r p => match me (viR r) p with | some (d, p) => if (!fx || np d) = true then some (.rt d p) else none | none => none
theorem red_ret {me : M} {D : Ends} {σ : L2.St} {H : Hp} (h : tS K fx E (sRet fx me) D σ H) : tRet (tM K me) D σ H := by
  obtain ⟨pa, S0, S, A, r, p, o, e, m, q⟩ := h
  unfold sRet at m
  split at m
  · rename_i d p1 m1
    split at m
    · rename_i hs
      cases m
      refine ⟨pa, S0, viR r, p, d, p1, e.vis, m1, fun v H1 x1 s1 r1 => ?_⟩
      have e1 := e.go x1 s1
      have sm : Same (hid S0 H1) (hid E.S H1) := fun b o hb => by
        obtain ⟨n, hb⟩ := of_hid hb
        exact hid_of (fun z => n (e.sub b z)) hb
      have r2 : Rp K pa (hid E.S H1) v d := Rp.mono sm _ _ r1
      cases hf : fx with
      | false =>
        obtain ⟨hp, hq⟩ := e.pap hf
        subst hp
        exact q v H1 e1.ext ⟨fun a ha => ⟨(s1.pool a ha).1, hq a ha⟩, fun a ha => s1.trk a (e.sub a ha)⟩ r2
      | true =>
        rw [hf] at hs
        have hE := (e.pan hf).1
        exact q v H1 e1.ext ⟨fun a ha => (by rw [hE] at ha; cases ha), fun a ha => s1.trk a (e.sub a ha)⟩ (Rp.chg d v (by simpa using hs) r2)
    · cases m
  · cases m
def sRetN : MS := fun r p => some (.rt .non p)
theorem red_retN {D : Ends} {σ : L2.St} {H : Hp} (h : tS K fx E sRetN D σ H) : tRetN D σ H := by
  obtain ⟨pa, S0, S, A, r, p, o, e, m, q⟩ := h
  cases m
  cases hf : fx with
  | false =>
    obtain ⟨hp, hq⟩ := e.pap hf
    subst hp
    exact q _ H e.ext ⟨fun a ha => ⟨(e.sta.pool a ha).1, hq a ha⟩, fun a ha => e.sta.trk a (e.sub a ha)⟩ .non
  | true =>
    have hE := (e.pan hf).1
    exact q _ H e.ext ⟨fun a ha => (by rw [hE] at ha; cases ha), fun a ha => e.sta.trk a (e.sub a ha)⟩ .non
def sBrk : MS := fun r p => some (.bk r p)
def sCnt : MS := fun r p => some (.ct r p)
def sNev : MS := fun _ _ => none
theorem red_brk {D : Ends} {σ : L2.St} {H : Hp} (h : tS K fx E sBrk D σ H) : tBreak D σ H := by
  obtain ⟨pa, S0, S, A, r, p, o, e, m, q⟩ := h
  cases m
  exact q pa S0 S A σ H e Frm.refl
theorem red_cnt {D : Ends} {σ : L2.St} {H : Hp} (h : tS K fx E sCnt D σ H) : tCont D σ H := by
  obtain ⟨pa, S0, S, A, r, p, o, e, m, q⟩ := h
  cases m
  exact q pa S0 S A σ H e Frm.refl
theorem red_nev {D : Ends} {σ : L2.St} {H : Hp} (h : tS K fx E sNev D σ H) : tNever D σ H := by
  obtain ⟨pa, S0, S, A, r, p, o, e, m, q⟩ := h
  cases m
def sIf (t : MB) (a b : MS) : MS := fun r p => match t (viR r) p with | some (true, p) => a r p | some (false, p) => b r p | none => none
theorem red_if {t : MB} {a b : MS} {D : Ends} {σ : L2.St} {H : Hp} (h : tS K fx E (sIf t a b) D σ H) : tIfS (tMB K t) (tS K fx E a) (tS K fx E b) D σ H := by
  obtain ⟨pa, S0, S, A, r, p, o, e, m, q⟩ := h
  unfold sIf at m
  split at m
  · rename_i p1 m1
    exact ⟨pa, S0, viR r, p, true, p1, e.vis, m1, fun H1 x1 s1 => ⟨pa, S0, S, A, r, p1, o, e.go x1 s1, m, q.after (e.frm x1)⟩⟩
  · rename_i p1 m1
    exact ⟨pa, S0, viR r, p, false, p1, e.vis, m1, fun H1 x1 s1 => ⟨pa, S0, S, A, r, p1, o, e.go x1 s1, m, q.after (e.frm x1)⟩⟩
  · cases m
/-- x op= e, x shared -/
def sAug (i : Nat) (f : D → D → Option D) (me : M) : MS := fun r p => match (shR r)[i]?, me (shR r) p with | some (some x), some (d, p) => (f x d).map fun z => .nx (r.set i (.sh z)) p | _, _ => none
theorem red_aug {i : Nat} {f : D → D → Option D} {me : M} {ti : TIp} (hf : OpD K ti f) {D : Ends} {σ : L2.St} {H : Hp} (h : tS K fx E (sAug i f me) D σ H) : tAug i (tM K me) ti D σ H := by
  obtain ⟨pa, S0, S, A, r, p, o, e, m, q⟩ := h
  unfold sAug at m
  split at m
  · rename_i x d p1 hx m1
    cases ez : f x d with
    | none => rw [ez] at m; cases m
    | some z =>
      rw [ez] at m
      cases m
      obtain ⟨v, h1, h2⟩ := e.env.at_ i x hx
      refine ⟨v, h1, pa, S, shR r, p, d, p1, e.cn, m1, fun w H1 x1 s1 r1 => ?_⟩
      have e1 := e.go x1 ⟨fun a h => ⟨(s1.pool a h).1, (e.sta.pool a h).2⟩, fun a h => s1.trk a ((e.hS a).mpr (.inl h))⟩
      refine hf pa S H1 p1 v w x d z _ s1 (Rp.mono (e.frm x1) _ _ h2) r1 ez fun u H2 x2 r2 => ?_
      have e2 := e1.go (Ext.of x2) (e1.sta.same x2)
      obtain ⟨S', e3, f3⟩ := e2.setSh i r2
      exact q pa S0 S' A _ H2 e3 (((e.frm x1).trans (e1.frm (Ext.of x2))).trans f3)
  · cases m

/-! ## targets -/
abbrev GS := D → Sv → List Int → Option (Sv × List Int)
structure TgS (K : PySem.W.Frag) (fx : Bool) (g : TG) (mg : GS) : Prop where
  run : ∀ (E : En) pa S0 S A σ H r p x d r' p' (Q : L2.St → Hp → Prop), EnvS K fx E pa S0 S A σ H r p → Rp K pa (hid S H) x d → mg d r p = some (r', p') →
    (∀ S' A' σ' H', EnvS K fx E pa S0 S' A' σ' H' r' p' → Frm S H S' H' → Q σ' H') → g x σ H Q
def gsN (i : Nat) : GS := fun d r p => some (r.set i (.sh d), p)
theorem tgs_name (i : Nat) : TgS K fx (gName i) (gsN i) := ⟨fun E pa S0 S A σ H r p x d r' p' Q e h m q => by
  cases m
  obtain ⟨S', e2, f2⟩ := e.setSh i h
  exact q S' A _ H e2 f2⟩
/-- pool[k] = .. -/
def gsP (mo mi : M) : GS := fun d r p => match mo (shR r) p with
  | some (.pool, p1) => match mi (shR r) p1 with
    | some (.int k, p2) => match d, ixN p2.length k with
      | .int n, some j => some (r, p2.set j n)
      | _, _ => none
    | _ => none
  | _ => none
theorem tgs_pool {mo mi : M} : TgS K fx (gSub (tM K mo) (tM K mi) rSetL) (gsP mo mi) := ⟨fun E pa S0 S A σ H r p x d r' p' Q e h m q => by
  unfold gsP at m
  split at m
  · rename_i p1 m1
    split at m
    · rename_i k p2 m2
      split at m
      · rename_i n j hj
        cases m
        cases h
        refine ⟨pa, S, shR r, p, _, p1, e.cn, m1, fun v H1 x1 s1 r1 => ?_⟩
        have sg : ∀ {H1 : Hp} {p1 : List Int}, Sta pa S H1 p1 → Sta pa S0 H1 p1 := fun s1 => ⟨fun a h => ⟨(s1.pool a h).1, (e.sta.pool a h).2⟩, fun a h => s1.trk a ((e.hS a).mpr (.inl h))⟩
        have e1 := e.go x1 (sg s1)
        cases r1 with
        | @pool a hp =>
          refine ⟨pa, S, shR r, p1, _, p2, e1.cn, m2, fun w H2 x2 s2 r2 => ?_⟩
          have e2 := e1.go x2 (sg s2)
          cases r2
          have ha := (s2.pool a hp).1
          have hS0 : S0 a := (e.sta.pool a hp).2
          have hSa : S a := (s2.pool a hp).2
          refine ⟨a, p2.map V.int, k, j, rfl, rfl, ha, by rw [List.length_map]; exact hj, ?_⟩
          have sm : Same (hid S H2) (hid S (upd H2 a (.lst ((p2.map V.int).set j (.int n))))) := fun b o hb => by
            obtain ⟨n1, h1⟩ := of_hid hb
            exact hid_of n1 (by rw [upd_ne (fun z => n1 (by rw [z]; exact hSa))]; exact h1)
          refine q S A σ _ ⟨⟨fun b hb => ?_, fun b hb => ?_⟩, e.pap, e.pan, e.sub, e.new, fun b o nb hb => ?_, e.hS, fun i d hd => ?_, e.inj, e2.env.mono sm⟩ (((e.frm x1).trans (e1.frm x2)).trans sm)
          · rw [hp] at hb
            cases hb
            exact ⟨by rw [upd_same, List.map_set], hS0⟩
          · by_cases hz : b = a
            · rw [hz]; exact ⟨_, upd_same⟩
            · obtain ⟨o, ho⟩ := e2.sta.trk b hb
              exact ⟨o, by rw [upd_ne hz]; exact ho⟩
          · by_cases hz : b = a
            · subst hz
              cases hf : fx with
              | false => exact absurd (by rw [← (e.pap hf).1]; exact hp) nb
              | true => rw [(e.pan hf).2 b hp] at hb; cases hb
            · rw [upd_ne hz]
              exact e2.ext b o nb hb
          · obtain ⟨g1, g2, g3, u, g5, g6⟩ := e2.own i d hd
            exact ⟨g1, g2, g3, u, by rw [upd_ne (fun z => g3 (by rw [z]; exact hS0))]; exact g5, g6.mono sm⟩
      · cases m
    · cases m
  · cases m⟩
abbrev GSs := List D → Sv → List Int → Option (Sv × List Int)
structure TgsS (K : PySem.W.Frag) (fx : Bool) (g : TGs) (mg : GSs) : Prop where
  run : ∀ (E : En) pa S0 S A σ H r p xs ds r' p' (Q : L2.St → Hp → Prop), EnvS K fx E pa S0 S A σ H r p → RpL K pa (hid S H) xs ds → mg ds r p = some (r', p') →
    (∀ S' A' σ' H', EnvS K fx E pa S0 S' A' σ' H' r' p' → Frm S H S' H' → Q σ' H') → g xs σ H Q
def gss0 : GSs := fun ds r p => match ds with | [] => some (r, p) | _ => none
def gssC (g : GS) (gs : GSs) : GSs := fun ds r p => match ds with | d :: ds => (g d r p).bind fun x => gs ds x.1 x.2 | [] => none
theorem tgss_nil : TgsS K fx gNil gss0 := ⟨fun E pa S0 S A σ H r p xs ds r' p' Q e h m q => by
  cases h with
  | nil => cases m; exact ⟨rfl, q S A σ H e Frm.refl⟩
  | cons _ _ => cases m⟩
theorem tgss_cons {g : TG} {gs : TGs} {mg : GS} {mgs : GSs} (h1 : TgS K fx g mg) (h2 : TgsS K fx gs mgs) : TgsS K fx (gCons g gs) (gssC mg mgs) := ⟨fun E pa S0 S A σ H r p xs ds r' p' Q e h m q => by
  cases h with
  | nil => cases m
  | cons ha hb =>
    simp only [gssC] at m
    cases em : mg _ r p with
    | none => rw [em] at m; cases m
    | some y =>
      obtain ⟨r1, p1⟩ := y
      rw [em] at m
      exact ⟨_, _, rfl, h1.run E pa S0 S A σ H r p _ _ r1 p1 _ e ha em fun S1 A1 σ1 H1 e1 f1 => h2.run E pa S0 S1 A1 σ1 H1 r1 p1 _ _ r' p' _ e1 (RpL.mono f1 _ _ hb) m fun S2 A2 σ2 H2 e2 f2 => q S2 A2 σ2 H2 e2 (f1.trans f2)⟩⟩
def gsT (n : Nat) (gs : GSs) : GS := fun d r p => match d with | .tup ds => if ds.length = n then gs ds r p else none | _ => none
theorem tgs_tup {n : Nat} {gs : TGs} {mgs : GSs} (h : TgsS K fx gs mgs) : TgS K fx (gTup K n gs) (gsT n mgs) := ⟨fun E pa S0 S A σ H r p x d r' p' Q e hx m q => by
  unfold gsT at m
  split at m
  · split at m
    · rename_i hl
      cases hx with
      | tup k1 k2 => exact ⟨_, _, rfl, sameT hid_sub k1, by rw [k2.length]; exact hl, h.run E pa S0 S A σ H r p _ _ r' p' Q e k2 m q⟩
    · cases m
  · cases m⟩
/-- target = e -/
def sAsgG (me : M) (mg : GS) : MS := fun r p => match me (shR r) p with | some (d, p) => (mg d r p).map fun x => .nx x.1 x.2 | none => none
theorem red_asgG {me : M} {g : TG} {mg : GS} (hg : TgS K fx g mg) {D : Ends} {σ : L2.St} {H : Hp} (h : tS K fx E (sAsgG me mg) D σ H) : tAsg (tM K me) g D σ H := by
  obtain ⟨pa, S0, S, A, r, p, o, e, m, q⟩ := h
  unfold sAsgG at m
  split at m
  · rename_i d p1 m1
    cases em : mg d r p1 with
    | none => rw [em] at m; cases m
    | some y =>
      obtain ⟨r1, p2⟩ := y
      rw [em] at m
      cases m
      refine ⟨pa, S, shR r, p, d, p1, e.cn, m1, fun v H1 x1 s1 r1' => ?_⟩
      have e1 := e.go x1 ⟨fun a h => ⟨(s1.pool a h).1, (e.sta.pool a h).2⟩, fun a h => s1.trk a ((e.hS a).mpr (.inl h))⟩
      exact hg.run E pa S0 S A σ H1 r p1 v d r1 p2 _ e1 r1' em fun S2 A2 σ2 H2 e2 f2 => q pa S0 S2 A2 σ2 H2 e2 ((e.frm x1).trans f2)
  · cases m
/-- target = x.pop(), x owned -/
def sPop (i : Nat) (mg : GS) : MS := fun r p => match owL r i with | some ds => (match ds[ds.length - 1]? with | some d => (mg d (r.set i (.ow (.lst ds.dropLast))) p).map fun x => .nx x.1 x.2 | none => none) | none => none
theorem RpL.dropLast {pa : Option Addr} {H : Hp} {vs : List V} {ds : List D} (h : RpL K pa H vs ds) : RpL K pa H vs.dropLast ds.dropLast := by
  rw [List.dropLast_eq_take, List.dropLast_eq_take, h.length]
  exact h.take _
theorem red_pop {i : Nat} {g : TG} {mg : GS} (hg : TgS K fx g mg) {D : Ends} {σ : L2.St} {H : Hp} (h : tS K fx E (sPop i mg) D σ H) : tAsg (tBM0 K "list" rPop (tVar i)) g D σ H := by
  obtain ⟨pa, S0, S, A, r, p, o, e, m, q⟩ := h
  unfold sPop at m
  split at m
  · rename_i ds hr
    split at m
    · rename_i d hd
      cases em : mg d (r.set i (.ow (.lst ds.dropLast))) p with
      | none => rw [em] at m; cases m
      | some y =>
        obtain ⟨r1, p2⟩ := y
        rw [em] at m
        cases m
        have hi := owL_eq hr
        obtain ⟨h1, h2, h3, u0, h5, h60⟩ := e.own i _ hi
        obtain ⟨xs, rfl, h6⟩ := h60.lst
        obtain ⟨v, hv, rv⟩ := h6.get hd
        obtain ⟨S', e2, f2⟩ := e.setL (v := .lst _) (dd := .lst _) hi h6.dropLast
        refine ⟨_, h1, .inl ⟨rfl, xs, SqL.of h5⟩, _, xs, v, rfl, rfl, h5, by rw [h6.length]; exact hv, ?_⟩
        exact hg.run E pa S0 S' A σ _ _ p v d r1 p2 _ e2 (Rp.mono f2 _ _ rv) em fun S3 A3 σ3 H3 e3 f3 => q pa S0 S3 A3 σ3 H3 e3 (f2.trans f3)
    · cases m
  · cases m
end
end Dt

namespace Dt
open PySem PySem.Spec PyProof.Rows L2

/-! # Loops -/
section
variable {K : PySem.W.Frag} {fx : Bool} {E : En}
def whGo (t : MB) (b : MS) : Nat → MS
  | 0 => fun _ _ => none
  | n + 1 => fun r p => match t (viR r) p with
    | some (false, p) => some (.nx r p)
    | some (true, p) => match b r p with
      | some (.nx r p) => whGo t b n r p
      | some (.ct r p) => whGo t b n r p
      | some (.bk r p) => some (.nx r p)
      | some (.rt d p) => some (.rt d p)
      | none => none
    | none => none
theorem red_while {t : MB} {b : MS} (n : Nat) {D : Ends} {σ : L2.St} {H : Hp} (h : tS K fx E (whGo t b n) D σ H) : tWhile (tMB K t) (tS K fx E b) D σ H := by
  obtain ⟨pa, S0, S, A, r, p, o, e, m, q⟩ := h
  refine ⟨fun k σ' H' => ∃ pa S0 S A r p, EnvS K fx E pa S0 S A σ' H' r p ∧ whGo t b k r p = some o ∧ PostS K fx E S H' o D, ⟨n, pa, S0, S, A, r, p, e, m, q⟩, ?_⟩
  rintro k σ' H' ⟨pa, S0, S, A, r, p, e, m, q⟩
  cases k with
  | zero => cases m
  | succ k =>
    simp only [whGo] at m
    split at m
    · rename_i p1 m1
      cases m
      exact ⟨pa, S0, viR r, p, false, p1, e.vis, m1, fun H1 x1 s1 => q pa S0 S A σ' H1 (e.go x1 s1) (e.frm x1)⟩
    · rename_i p1 m1
      refine ⟨pa, S0, viR r, p, true, p1, e.vis, m1, fun H1 x1 s1 => ?_⟩
      have e1 := e.go x1 s1
      have q1 := q.after (e.frm x1)
      refine ⟨fun σ2 H2 => ∃ pa S0 S A r p, EnvS K fx E pa S0 S A σ2 H2 r p ∧ whGo t b k r p = some o ∧ PostS K fx E S H2 o D, fun σ2 H2 hN => ⟨k, Nat.lt_succ_self k, hN⟩, ?_⟩
      split at m
      · rename_i r2 p2 m2
        exact ⟨pa, S0, S, A, r, p1, _, e1, m2, fun pa' S0' S' A' σ2 H2 e2 f2 => ⟨pa', S0', S', A', r2, p2, e2, m, q1.after f2⟩⟩
      · rename_i r2 p2 m2
        exact ⟨pa, S0, S, A, r, p1, _, e1, m2, fun pa' S0' S' A' σ2 H2 e2 f2 => ⟨pa', S0', S', A', r2, p2, e2, m, q1.after f2⟩⟩
      · rename_i r2 p2 m2
        cases m
        exact ⟨pa, S0, S, A, r, p1, _, e1, m2, q1⟩
      · rename_i r2 p2 m2
        cases m
        exact ⟨pa, S0, S, A, r, p1, _, e1, m2, q1⟩
      · cases m
    · cases m
def forGo (mg : GS) (b : MS) : List D → MS
  | [] => fun r p => some (.nx r p)
  | d :: ds => fun r p => match mg d r p with
    | some (r, p) => match b r p with
      | some (.nx r p) => forGo mg b ds r p
      | some (.ct r p) => forGo mg b ds r p
      | some (.bk r p) => some (.nx r p)
      | some (.rt d p) => some (.rt d p)
      | none => none
    | none => none
def sFor (fx : Bool) (mi : ML) (mg : GS) (b : MS) : MS := fun r p => match mi (shR r) p with | some (ds, p) => if (!fx || nps ds) = true then forGo mg b ds r p else none | none => none
theorem nps_get : ∀ {ds : List D} {i : Nat} {d : D}, nps ds = true → ds[i]? = some d → np d = true
  | [], _, _, _, e => by simp at e
  | x :: xs, 0, d, h, e => by
    simp at e; subst e
    rw [nps, Bool.and_eq_true] at h; exact h.1
  | x :: xs, i + 1, d, h, e => by
    rw [nps, Bool.and_eq_true] at h
    exact nps_get h.2 (by simpa using e)
theorem red_for {wi : TI} {g : TG} {mi : ML} {mg : GS} {b : MS} (hi : IterD K wi mi) (hg : TgS K fx g mg) {D : Ends} {σ : L2.St} {H : Hp} (h : tS K fx E (sFor fx mi mg b) D σ H) : tFor wi g (tS K fx E b) D σ H := by
  obtain ⟨pa, S0, S, A, r, p, o, e, m, q⟩ := h
  unfold sFor at m
  split at m
  · rename_i ds p1 m1
    split at m
    · rename_i hnp
      refine hi pa S σ H (shR r) p ds p1 _ e.cn m1 fun J H1 x1 s1 ok => ?_
      have e1 := e.go x1 ⟨fun a h => ⟨(s1.pool a h).1, (e.sta.pool a h).2⟩, fun a h => s1.trk a ((e.hS a).mpr (.inl h))⟩
      have q1 := q.after (e.frm x1)
      refine ⟨fun i k σ' H' => ∃ pa' S0' S' A' r' p', k = ds.length + 1 - i ∧ i ≤ ds.length ∧ EnvS K fx E pa' S0' S' A' σ' H' r' p' ∧ Frm S H1 S' H' ∧ forGo mg b (ds.drop i) r' p' = some o ∧ PostS K fx E S' H' o D,
        ⟨ds.length + 1, pa, S0, S, A, r, p1, rfl, Nat.zero_le _, e1, Frm.refl, by rw [List.drop_zero]; exact m, q1⟩, ?_⟩
      rintro i k σ' H' ⟨pa', S0', S', A', r', p', rfl, hil, e', fr, m', q'⟩
      by_cases hlt : i < ds.length
      · refine .inr ⟨ok.go i S' H' fr e'.staS.trk hlt, fun σ2 H2 => ∃ pa2 S02 S2 A2 r2 p2, EnvS K fx E pa2 S02 S2 A2 σ2 H2 r2 p2 ∧ Frm S H1 S2 H2 ∧ forGo mg b (ds.drop (i + 1)) r2 p2 = some o ∧ PostS K fx E S2 H2 o D, fun σ2 H2 hN => ?_, fun x H2 hy => ?_⟩
        · obtain ⟨pa2, S02, S2, A2, r2, p2, a1, a2, a3, a4⟩ := hN
          exact ⟨ds.length + 1 - (i + 1), by omega, pa2, S02, S2, A2, r2, p2, rfl, hlt, a1, a2, a3, a4⟩
        · obtain ⟨x2, d, hd, rd⟩ := ok.yld i S' H' x H2 fr e'.staS.trk hlt hy
          have hdrop : ds.drop i = d :: ds.drop (i + 1) := by
            rw [List.drop_eq_getElem_cons hlt]
            rw [List.getElem?_eq_getElem hlt] at hd
            rw [Option.some.inj hd]
          have rd' : Rp K pa' (hid S' H2) x d := by
            cases hf : fx with
            | false =>
              have h1 := (e'.pap hf).1
              have h2 := (e.pap hf).1
              rw [h1, ← h2]
              exact rd
            | true =>
              rw [hf] at hnp
              exact Rp.chg d x (nps_get (by simpa using hnp) hd) rd
          have e2 := e'.go (Ext.of x2) (e'.sta.same x2)
          have f2 := e'.frm (Ext.of x2)
          rw [hdrop] at m'
          simp only [forGo] at m'
          split at m'
          · rename_i r3 p3 m3
            refine hg.run E pa' S0' S' A' σ' H2 r' p' x d r3 p3 _ e2 rd' m3 fun S3 A3 σ3 H3 e3 f3 => ?_
            have q3 := (q'.after f2).after f3
            have fr3 : Frm S H1 S3 H3 := (fr.trans f2).trans f3
            split at m'
            · rename_i r4 p4 m4
              exact ⟨pa', S0', S3, A3, r3, p3, _, e3, m4, fun pa5 S05 S5 A5 σ5 H5 e5 f5 => ⟨pa5, S05, S5, A5, r4, p4, e5, fr3.trans f5, m', q3.after f5⟩⟩
            · rename_i r4 p4 m4
              exact ⟨pa', S0', S3, A3, r3, p3, _, e3, m4, fun pa5 S05 S5 A5 σ5 H5 e5 f5 => ⟨pa5, S05, S5, A5, r4, p4, e5, fr3.trans f5, m', q3.after f5⟩⟩
            · rename_i r4 p4 m4
              cases m'
              exact ⟨pa', S0', S3, A3, r3, p3, _, e3, m4, q3⟩
            · rename_i r4 p4 m4
              cases m'
              exact ⟨pa', S0', S3, A3, r3, p3, _, e3, m4, q3⟩
            · cases m'
          · cases m'
      · have hie : i = ds.length := by omega
        subst hie
        rw [List.drop_length] at m'
        cases m'
        exact .inl ⟨ok.stop _ S' H' fr e'.staS.trk (Nat.le_refl _), q' pa' S0' S' A' σ' H' e' Frm.refl⟩
    · cases m
  · cases m
/-- a, b = e1, e2 -/
def sPar (i j : Nat) (ms : ML) : MS := fun r p => match ms (shR r) p with | some ([x, y], p) => some (.nx ((r.set i (.sh x)).set j (.sh y)) p) | _ => none
theorem red_par {i j : Nat} {ms : ML} {D : Ends} {σ : L2.St} {H : Hp} (h : tS K fx E (sPar i j ms) D σ H) : tPar i j (tML K ms) D σ H := by
  obtain ⟨pa, S0, S, A, r, p, o, e, m, q⟩ := h
  unfold sPar at m
  split at m
  · rename_i x y p1 m1
    cases m
    refine ⟨pa, S, shR r, p, _, p1, e.cn, m1, fun vs H1 x1 s1 r1 => ?_⟩
    obtain ⟨v, w, rfl, rv, rw'⟩ := r1.two
    have e1 := e.go x1 ⟨fun a h => ⟨(s1.pool a h).1, (e.sta.pool a h).2⟩, fun a h => s1.trk a ((e.hS a).mpr (.inl h))⟩
    obtain ⟨S2, e2, f2⟩ := e1.setSh i rv
    obtain ⟨S3, e3, f3⟩ := e2.setSh j (Rp.mono f2 _ _ rw')
    exact ⟨v, w, rfl, q pa S0 S3 A _ H1 e3 (((e.frm x1).trans f2).trans f3)⟩
  · cases m
/-- a, b = e1, [..]: b owned -/
def sParO (i j : Nat) (me : M) (mf : ML) : MS := fun r p => match me (shR r) p with
  | some (x, p) => (match mf (shR r) p with
    | some (ds, p) => if j < r.length then some (.nx ((r.set i (.sh x)).set j (.ow (.lst ds))) p) else none
    | none => none)
  | none => none
theorem red_parO {i j : Nat} (hij : i ≠ j) {me : M} {mf : ML} {D : Ends} {σ : L2.St} {H : Hp} (h : tS K fx E (sParO i j me mf) D σ H) : tPar i j (tCons (tM K me) (tCons (tF K mf) tNil)) D σ H := by
  obtain ⟨pa, S0, S, A, r, p, o, e, m, q⟩ := h
  unfold sParO at m
  split at m
  · rename_i x p1 m1
    split at m
    · rename_i ds p2 m2
      split at m
      · rename_i hj
        cases m
        refine ⟨pa, S, shR r, p, x, p1, e.cn, m1, fun v H1 x1 s1 r1 => ?_⟩
        have e1 := e.go x1 ⟨fun a h => ⟨(s1.pool a h).1, (e.sta.pool a h).2⟩, fun a h => s1.trk a ((e.hS a).mpr (.inl h))⟩
        refine ⟨pa, S, shR r, p1, ds, p2, e1.cn, m2, fun a xs H2 x2 s2 hn ha hr => ?_⟩
        refine ⟨v, .ref a, rfl, ?_⟩
        obtain ⟨S2, A2, e2, f2⟩ := e1.mine (dd := .lst _) hj x2 s2 hn ha hr
        obtain ⟨S3, e3, f3⟩ := e2.setSh i (Rp.mono f2 _ _ r1)
        rw [List.set_comm _ _ hij]
        refine q pa S0 S3 A2 _ H2 ?_ (((e.frm x1).trans f2).trans f3)
        rw [List.set_comm _ _ hij]
        exact e3
      · cases m
    · cases m
  · cases m
/-- x = a new list of ints, the pool from here -/
def asInts : List D → Option (List Int)
  | [] => some []
  | .int b :: ds => (asInts ds).map (b :: ·)
  | _ => none
theorem asInts_eq : ∀ {ds : List D} {bs : List Int}, asInts ds = some bs → ds = bs.map D.int
  | [], _, h => by cases h; rfl
  | d :: ds, bs, h => by
    cases d with
    | int b =>
      simp only [asInts] at h
      cases e : asInts ds with
      | none => rw [e] at h; cases h
      | some cs => rw [e] at h; cases h; rw [asInts_eq e]; rfl
    | _ => cases h
def Cl.clean : Cl → Cl
  | .sh d => if np d = true then .sh d else .no
  | _ => .no
def sPool (i : Nat) (mf : ML) : MS := fun r p => match mf (shR r) p with
  | some (ds, _) => (match asInts ds with | some ns => if i < r.length then some (.nx ((r.map Cl.clean).set i (.sh .pool)) ns) else none | none => none)
  | none => none
theorem clean_get {r : Sv} {i : Nat} {c : Cl} (h : (r.map Cl.clean)[i]? = some c) : c = .no ∨ ∃ d, c = .sh d ∧ r[i]? = some (.sh d) ∧ np d = true := by
  rw [List.getElem?_map] at h
  cases e : r[i]? with
  | none => rw [e] at h; cases h
  | some x =>
    rw [e] at h
    cases h
    cases x with
    | no => exact .inl rfl
    | ow d => exact .inl rfl
    | sh d =>
      by_cases hn : np d = true
      · exact .inr ⟨d, by simp [Cl.clean, hn], rfl, hn⟩
      · exact .inl (by simp [Cl.clean, hn])
theorem red_pool (hfx : fx = true) {i : Nat} {mf : ML} {Dn : Ends} {σ : L2.St} {H : Hp} (h : tS K fx E (sPool i mf) Dn σ H) : tAsg (tF K mf) (gName i) Dn σ H := by
  obtain ⟨pa, S0, S, A, r, p, o, e, m, q⟩ := h
  unfold sPool at m
  split at m
  · rename_i ds p1 m1
    split at m
    · rename_i ns hns
      split at m
      · rename_i hi
        cases m
        refine ⟨pa, S, shR r, p, ds, p1, e.cn, m1, fun a xs H1 x1 s1 hn ha hr => ?_⟩
        have e1 := e.go x1 ⟨fun a h => ⟨(s1.pool a h).1, (e.sta.pool a h).2⟩, fun a h => s1.trk a ((e.hS a).mpr (.inl h))⟩
        rw [asInts_eq hns] at hr
        have hxs := hr.ints_of
        subst hxs
        have hE : E.H a = none := by
          cases hx : E.H a with
          | none => rfl
          | some o =>
            have := e.ext a o (by rw [(e.pan hfx).1]; exact fun z => nomatch z) hx
            rw [this] at hn; cases hn
        have nS : ¬ S a := e.staS.new hn
        have fr : Same (hid S H) (hid (fun b => S b ∨ b = a) H1) := sub_hid hn (e.frm x1)
        refine q (some a) (fun b => S b ∨ b = a) (fun b => S b ∨ b = a) A _ H1 ⟨⟨fun b hb => ?_, fun b hb => ?_⟩, fun z => ?_, fun _ => ⟨(e.pan hfx).1, fun b hb => ?_⟩, fun b hb => .inl ((e.hS b).mpr (.inl (e.sub b hb))), fun b hb => ?_, e1.ext, fun b => ?_, fun j d hj => ?_, fun j k d1 d2 hj => ?_, ?_, fun j d hj => ?_⟩ fr
        · cases hb; exact ⟨ha, .inr rfl⟩
        · rcases hb with hb | rfl
          · exact s1.trk b hb
          · exact ⟨_, ha⟩
        · rw [hfx] at z; cases z
        · cases hb; exact hE
        · rcases hb with hb | rfl
          · rcases (e.hS b).mp hb with hb | ⟨j, d, hj, rfl⟩
            · exact e.new b hb
            · exact .inr (e.own j d hj).2.1
          · exact .inr hE
        · constructor
          · exact fun z => .inl z
          · rintro (z | ⟨j, d, hj, _⟩)
            · exact z
            · exfalso
              by_cases hij : i = j
              · subst hij
                rw [List.getElem?_set_self (by rw [List.length_map]; exact hi)] at hj
                cases hj
              · rw [List.getElem?_set_ne hij] at hj
                rcases clean_get hj with z | ⟨d', z, _⟩ <;> cases z
        · exfalso
          by_cases hij : i = j
          · subst hij
            rw [List.getElem?_set_self (by rw [List.length_map]; exact hi)] at hj
            cases hj
          · rw [List.getElem?_set_ne hij] at hj
            rcases clean_get hj with z | ⟨d', z, _⟩ <;> cases z
        · exfalso
          by_cases hij : i = j
          · subst hij
            rw [List.getElem?_set_self (by rw [List.length_map]; exact hi)] at hj
            cases hj
          · rw [List.getElem?_set_ne hij] at hj
            rcases clean_get hj with z | ⟨d', z, _⟩ <;> cases z
        · have := e.env.len
          unfold shR at *
          rw [List.length_map] at this
          rw [List.length_map, List.length_set, List.length_set, List.length_map, this]
        · have hj2 := shR_get.mp hj
          by_cases hij : i = j
          · subst hij
            rw [List.getElem?_set_self (by rw [List.length_map]; exact hi)] at hj2
            cases hj2
            have hl := e.env.len
            unfold shR at hl
            rw [List.length_map] at hl
            exact ⟨_, List.getElem?_set_self (by omega), .pool rfl⟩
          · rw [List.getElem?_set_ne hij] at hj2
            rcases clean_get hj2 with z | ⟨d', z, hd, hn'⟩
            · cases z
            · cases z
              obtain ⟨v, h1, h2⟩ := e.env.at_ j _ (shR_get.mpr hd)
              exact ⟨v, by rw [List.getElem?_set_ne hij]; exact h1, Rp.chg _ _ hn' (Rp.mono fr _ _ h2)⟩
      · cases m
    · cases m
  · cases m
end
end Dt

namespace Dt
open PySem PySem.Spec PyProof.Rows L2

/-! # The statements, by their rules -/
section
variable {fx : Bool} {X : Cx} {st : Stmt} {rest : List Stmt} {ma mb : MS} {pos : Pos}
theorem jss_nil : JSs fx X [] sNext := ⟨fun E => pss_nil.weak fun D σ H => red_next⟩
theorem jss_cons (h1 : JS fx X st ma) (h2 : JSs fx X rest mb) : JSs fx X (st :: rest) (sSeq ma mb) := ⟨fun E => (pss_cons (h1.ps E) (h2.ps E)).weak fun D σ H => red_seq⟩
theorem jss_one (h1 : JS fx X st ma) : JSs fx X [st] ma := ⟨fun E => pss_one (h1.ps E)⟩
theorem jss_nev {sts : List Stmt} : JSs fx X sts sNev := ⟨fun E => pss_never.weak fun D σ H => red_nev⟩
theorem js_nev : JS fx X st sNev := ⟨fun E => ps_never.weak fun D σ H => red_nev⟩
theorem js_pass : JS fx X (.Pass pos) sNext := ⟨fun E => ps_pass.weak fun D σ H => red_next⟩
theorem js_brk : JS fx X (.Break pos) sBrk := ⟨fun E => ps_break.weak fun D σ H => red_brk⟩
theorem js_cnt : JS fx X (.Continue pos) sCnt := ⟨fun E => ps_continue.weak fun D σ H => red_cnt⟩
variable {e : Expr} {me : M} {i : Nat} {x : Str} {pos' : Pos}
theorem js_ret (h : JE X e me) : JS fx X (.Return (some e) pos) (sRet fx me) := ⟨fun E => (ps_ret h.pe).weak fun D σ H => red_ret⟩
theorem js_retN : JS fx X (.Return none pos) sRetN := ⟨fun E => ps_retN.weak fun D σ H => red_retN⟩
theorem js_drop (h : JE X e me) (hs : swapsWith e none pos.line X.env = pure false := by rfl) : JS fx X (.Expr e pos) (sDrop me) := ⟨fun E => (ps_expr h.pe hs).weak fun D σ H => red_drop⟩
theorem js_asg (h : JE X e me) (hN : X.N.Nodup) (hi : X.N[i]? = some x := by rfl) (hx : Loc X.env.scope x := by first | exact Or.inl rfl | exact Or.inr rfl) (hs : swapsWith e (some (.Name x pos')) pos.line X.env = pure false := by rfl)
    (hf : X.fn x = true ∨ X.env.scope.names.lookup x = some .local := by first | exact .inl rfl | exact .inr rfl) : JS fx X (.Assign [.Name x pos'] e pos) (sAsg i me) := ⟨fun E => (ps_set hN hi hx h.pe hs hf).weak fun D σ H => red_asg⟩
theorem js_asgV (h : JE X e me) (hN : X.N.Nodup) (hi : X.N[i]? = some x := by rfl) (hx : Loc X.env.scope x := by first | exact Or.inl rfl | exact Or.inr rfl) (hs : swapsWith e (some (.Name x pos')) pos.line X.env = pure false := by rfl)
    (hf : X.fn x = true ∨ X.env.scope.names.lookup x = some .local := by first | exact .inl rfl | exact .inr rfl) : JS fx X (.Assign [.Name x pos'] e pos) (sAsgV i me) := ⟨fun E => (ps_set hN hi hx h.pe hs hf).weak fun D σ H => red_asgV⟩
theorem js_new {mf : ML} (h : JF X e mf) (hN : X.N.Nodup) (hi : X.N[i]? = some x := by rfl) (hx : Loc X.env.scope x := by first | exact Or.inl rfl | exact Or.inr rfl) (hs : swapsWith e (some (.Name x pos')) pos.line X.env = pure false := by rfl)
    (hf : X.fn x = true ∨ X.env.scope.names.lookup x = some .local := by first | exact .inl rfl | exact .inr rfl) : JS fx X (.Assign [.Name x pos'] e pos) (sNew i mf) := ⟨fun E => (ps_set hN hi hx h.pe hs hf).weak fun D σ H => red_new⟩
theorem js_pool {mf : ML} (h : JF X e mf) (hN : X.N.Nodup) (hi : X.N[i]? = some x := by rfl) (hx : Loc X.env.scope x := by first | exact Or.inl rfl | exact Or.inr rfl) (hs : swapsWith e (some (.Name x pos')) pos.line X.env = pure false := by rfl)
    (hf : X.fn x = true ∨ X.env.scope.names.lookup x = some .local := by first | exact .inl rfl | exact .inr rfl) : JS true X (.Assign [.Name x pos'] e pos) (sPool i mf) := ⟨fun E => (ps_set hN hi hx h.pe hs hf).weak fun D σ H => red_pool rfl⟩
/-- y = [.. for ..] on one line -/
theorem js_asgG {tg : Expr} {g : TG} {mg : GS} (h : JE X e me) (hg : PG X tg g) (hgd : TgS X.K fx g mg) (hs : swapsWithSole [tg] e pos.line X.env = pure false := by rfl) (hw : swappedStores [tg] e X.env = pure none := by rfl)
    (h1 : (assignEach [tg] X.env).map (·.2) = [assign tg X.env] := by rfl) : JS fx X (.Assign [tg] e pos) (sAsgG me mg) := ⟨fun E => (ps_asg h.pe hg hs hw h1).weak fun D σ H => red_asgG hgd⟩
theorem js_aug {op : Operator} {ti : TIp} {f : D → D → Option D} (h : JE X e me) (ho : PIp X op ti) (hf : OpD X.K ti f) (hN : X.N.Nodup) (hi : X.N[i]? = some x := by rfl) (hx : Loc X.env.scope x := by first | exact Or.inl rfl | exact Or.inr rfl)
    (hfn : X.fn x = true ∨ X.env.scope.names.lookup x = some .local := by first | exact .inl rfl | exact .inr rfl) : JS fx X (.AugAssign (.Name x pos') op e pos) (sAug i f me) := ⟨fun E => (ps_aug hN hi hx h.pe ho hfn).weak fun D σ H => red_aug hf⟩
theorem js_if {c : Expr} {a b : List Stmt} {mt : MB} (hc : JT X c mt) (ha : JSs fx X a ma) (hb : JSs fx X b mb) : JS fx X (.If c a b pos) (sIf mt ma mb) := ⟨fun E => (ps_if hc.pt (ha.ps E) (hb.ps E)).weak fun D σ H => red_if⟩
theorem js_while {c : Expr} {b : List Stmt} {mt : MB} (n : Nat) (hp : PassesOwn (model X.prog X.w) X.A X.env X.xe) (hc : JT X c mt) (hb : JSs fx X b mb) : JS fx X (.While c b [] pos) (whGo mt mb n) := ⟨fun E => (ps_while hp hc.pt (hb.ps E)).weak fun D σ H => red_while n⟩
theorem js_for {tg iter : Expr} {b : List Stmt} {mi : ML} {g : TG} {mg : GS} (hp : PassesOwn (model X.prog X.w) X.A X.env X.xe) (hc : X.calm = true) (hi : JI X tg iter mi) (hg : PG X tg g) (hgd : TgS X.K fx g mg) (hb : JSs fx X b mb)
    (hs : ∀ x, foldedSetIterable iter X.env x = pure x := by intro _; rfl) : JS fx X (.For tg iter b [] pos) (sFor fx mi mg mb) := by
  obtain ⟨wi, h1, h2⟩ := hi.ex
  exact ⟨fun E => (ps_for hp hc h1 hg (hb.ps E) hs).weak fun D σ H => red_for h2 hgd⟩
theorem js_app {e : Expr} {me : M} {vp apos cpos : Pos} (h : JE X e me) (hN : X.N[i]? = some x := by rfl) (hv : Vis X.env.scope x := by first | exact Or.inl rfl | exact Or.inr (Or.inl rfl) | exact Or.inr (Or.inr rfl)) (hd : (x == ("__debug__" : Str)) = false := by decide) (hcd : (x == ("__classdict__" : Str)) = false := by decide)
    (hbase : attributeBase (.Name x vp) "append" X.env (eval (.Name x vp) X.env) = eval (.Name x vp) X.env := by rfl)
    (hfew : ((backTo cpos (starEach [e] X.env)).all (fun x => !x.1) && (backToKw cpos (keywordEach [] X.env)).all (fun x => x.1.isSome) && decide ([e].length + ([] : List Keyword).length + (if ([] : List Keyword).isEmpty then 0 else 1) < 30)) = true := by rfl)
    (hline : (apos.endLine == cpos.line) = true := by rfl) (hs : starEach [e] X.env = (false, eval e X.env) :: starEach [] X.env := by rfl) (hpl : (backTo cpos (starEach [] X.env)).any (·.1) = false := by rfl)
    (hsw : swapsWith (.Call (.Attribute (.Name x vp) "append" apos) [e] [] cpos) none pos.line X.env = pure false := by rfl) :
    JS fx X (.Expr (.Call (.Attribute (.Name x vp) "append" apos) [e] [] cpos) pos) (sApp i me) :=
  ⟨fun E => (ps_expr (pe_bm PySem.F.plainAttrs_list PySem.F.slot_list_append PySem.F.type_list_append mt_append (pe_var hN hv hd hcd) (pa_cons h.pe pa_nil hs) hbase hfew hline hs hpl) hsw).weak fun D σ H => red_app⟩
theorem js_ext {e : Expr} {me : M} {vp apos cpos : Pos} (h : JE X e me) (hN : X.N[i]? = some x := by rfl) (hv : Vis X.env.scope x := by first | exact Or.inl rfl | exact Or.inr (Or.inl rfl) | exact Or.inr (Or.inr rfl)) (hd : (x == ("__debug__" : Str)) = false := by decide) (hcd : (x == ("__classdict__" : Str)) = false := by decide)
    (hbase : attributeBase (.Name x vp) "extend" X.env (eval (.Name x vp) X.env) = eval (.Name x vp) X.env := by rfl)
    (hfew : ((backTo cpos (starEach [e] X.env)).all (fun x => !x.1) && (backToKw cpos (keywordEach [] X.env)).all (fun x => x.1.isSome) && decide ([e].length + ([] : List Keyword).length + (if ([] : List Keyword).isEmpty then 0 else 1) < 30)) = true := by rfl)
    (hline : (apos.endLine == cpos.line) = true := by rfl) (hs : starEach [e] X.env = (false, eval e X.env) :: starEach [] X.env := by rfl) (hpl : (backTo cpos (starEach [] X.env)).any (·.1) = false := by rfl)
    (hsw : swapsWith (.Call (.Attribute (.Name x vp) "extend" apos) [e] [] cpos) none pos.line X.env = pure false := by rfl) :
    JS fx X (.Expr (.Call (.Attribute (.Name x vp) "extend" apos) [e] [] cpos) pos) (sExt i me) :=
  ⟨fun E => (ps_expr (pe_bm PySem.F.plainAttrs_list PySem.F.slot_list_extend PySem.F.type_list_extend mt_extend (pe_var hN hv hd hcd) (pa_cons h.pe pa_nil hs) hbase hfew hline hs hpl) hsw).weak fun D σ H => red_ext⟩
theorem js_pop {tg : Expr} {g : TG} {mg : GS} {vp apos cpos : Pos} (hg : PG X tg g) (hgd : TgS X.K fx g mg) (hN : X.N[i]? = some x := by rfl) (hv : Vis X.env.scope x := by first | exact Or.inl rfl | exact Or.inr (Or.inl rfl) | exact Or.inr (Or.inr rfl)) (hd : (x == ("__debug__" : Str)) = false := by decide) (hcd : (x == ("__classdict__" : Str)) = false := by decide)
    (hbase : attributeBase (.Name x vp) "pop" X.env (eval (.Name x vp) X.env) = eval (.Name x vp) X.env := by rfl) (hline : (apos.endLine == cpos.line) = true := by rfl)
    (hs : swapsWithSole [tg] (.Call (.Attribute (.Name x vp) "pop" apos) [] [] cpos) pos.line X.env = pure false := by rfl) (hw : swappedStores [tg] (.Call (.Attribute (.Name x vp) "pop" apos) [] [] cpos) X.env = pure none := by rfl)
    (h1 : (assignEach [tg] X.env).map (·.2) = [assign tg X.env] := by rfl) :
    JS fx X (.Assign [tg] (.Call (.Attribute (.Name x vp) "pop" apos) [] [] cpos) pos) (sPop i mg) :=
  ⟨fun E => (ps_asg (pe_bm0 PySem.F.plainAttrs_list PySem.F.slot_list_pop PySem.F.type_list_pop mt_pop (pe_var hN hv hd hcd) hbase hline) hg hs hw h1).weak fun D σ H => red_pop hgd⟩
theorem js_par {i j : Nat} {x y : Str} {a b : Expr} {ms : ML} {px py pt : Pos} {kt k2 pt2} (hc : X.calm = true) (hN : X.N.Nodup) (ha : JA X [a, b] ms) (hi : X.N[i]? = some x := by rfl) (hj : X.N[j]? = some y := by rfl) (hij : i ≠ j := by decide)
    (hx : X.env.scope.names.lookup x = some .local := by rfl) (hy : X.env.scope.names.lookup y = some .local := by rfl)
    (hw : swappedStores [.Tuple [.Name x px, .Name y py] kt pt] (.Tuple [a, b] k2 pt2) X.env = pure (some [x, y]) := by rfl)
    (hs : swapsWithSole [.Tuple [.Name x px, .Name y py] kt pt] (.Tuple [a, b] k2 pt2) pos.line X.env = pure false := by rfl) :
    JS fx X (.Assign [.Tuple [.Name x px, .Name y py] kt pt] (.Tuple [a, b] k2 pt2) pos) (sPar i j ms) := ⟨fun E => (ps_par hc hN hi hj hij hx hy ha.pa hw hs).weak fun D σ H => red_par⟩
theorem js_parO {i j : Nat} {x y : Str} {a b : Expr} {me : M} {mf : ML} {px py pt : Pos} {kt k2 pt2} (hc : X.calm = true) (hN : X.N.Nodup) (ha : JE X a me) (hb : JF X b mf) (hi : X.N[i]? = some x := by rfl) (hj : X.N[j]? = some y := by rfl) (hij : i ≠ j := by decide)
    (hx : X.env.scope.names.lookup x = some .local := by rfl) (hy : X.env.scope.names.lookup y = some .local := by rfl)
    (hw : swappedStores [.Tuple [.Name x px, .Name y py] kt pt] (.Tuple [a, b] k2 pt2) X.env = pure (some [x, y]) := by rfl)
    (hs : swapsWithSole [.Tuple [.Name x px, .Name y py] kt pt] (.Tuple [a, b] k2 pt2) pos.line X.env = pure false := by rfl)
    (h1 : starEach [a, b] X.env = (false, eval a X.env) :: starEach [b] X.env := by rfl) (h2 : starEach [b] X.env = (false, eval b X.env) :: starEach [] X.env := by rfl) :
    JS fx X (.Assign [.Tuple [.Name x px, .Name y py] kt pt] (.Tuple [a, b] k2 pt2) pos) (sParO i j me mf) := ⟨fun E => (ps_par hc hN hi hj hij hx hy (pa_cons ha.pe (pa_cons hb.pe pa_nil h2) h1) hw hs).weak fun D σ H => red_parO hij⟩
/-- new lists -/
theorem jf_lst {es : List Expr} {ms : ML} (h : JA X es ms) : JF X (.List es pos) (fun r p => bnd (ms r p) fun ds p => if ds.length ≤ lim then some (ds, p) else none) := ⟨(pe_lst h.pa).weak fun σ H Q ⟨pa, S, r, p, ds, p', c, e, q⟩ => by
  obtain ⟨xs, p1, e1, e⟩ := bnd_some e
  split at e
  · rename_i hl
    obtain ⟨rfl, rfl⟩ := pr e
    refine ⟨pa, S, r, p, xs, p1, c, e1, fun v1 H1 x1 s1 r1 => ⟨by rw [r1.length]; exact lim_sz hl, fun a n => ?_⟩⟩
    exact q a _ _ (x1.trans (Ext.of (same_upd n))) (s1.same (same_upd n)) (x1.free (s1.notpool n) n) upd_same (RpL.mono (sub_hid n (Same.hid (same_upd n))) _ _ r1)
  · cases e⟩
/-- a starred argument -/
def mStar (a : M) (b : ML) : ML := fun r p => bnd (a r p) fun x p => match x with
  | .lst ds => bnd (b r p) fun ys p => some (ds ++ ys, p)
  | .tup ds => bnd (b r p) fun ys p => some (ds ++ ys, p)
  | _ => none
theorem ja_star {es : List Expr} {ms : ML} {sp : Pos} (h : JE X e me) (h' : JA X es ms) (hs : starEach (.Starred e sp :: es) X.env = (true, eval e X.env) :: starEach es X.env := by rfl) : JA X (.Starred e sp :: es) (mStar me ms) := ⟨(StX.pa_star h.pe h'.pa hs).weak fun σ H Q ⟨pa, S, r, p, ds, p', c, e, q⟩ => by
  obtain ⟨x, p1, e1, e⟩ := bnd_some e
  refine ⟨pa, S, r, p, x, p1, c, e1, fun v1 H1 x1 s1 r1 => ?_⟩
  cases r1 with
  | lst h1 h2 =>
    obtain ⟨ys, p2, e2, e⟩ := bnd_some e
    obtain ⟨rfl, rfl⟩ := pr e
    exact ⟨_, _, rfl, .inr (SqL.of (hid_sub _ _ h1)), pa, S, r, p1, ys, p2, c.go x1 s1, e2, fun v2 H2 x2 s2 r2 => q _ H2 (x1.trans x2) s2 ((RpL.mono (x2.hid s1) _ _ h2).append r2)⟩
  | tup h1 h2 =>
    obtain ⟨ys, p2, e2, e⟩ := bnd_some e
    obtain ⟨rfl, rfl⟩ := pr e
    exact ⟨_, _, rfl, .inl (sameT hid_sub h1), pa, S, r, p1, ys, p2, c.go x1 s1, e2, fun v2 H2 x2 s2 r2 => q _ H2 (x1.trans x2) s2 ((RpL.mono (x2.hid s1) _ _ h2).append r2)⟩
  | _ => cases e⟩
end

/-! # Defs -/
def startR (N n : Nat) (ds : List D) : Sv := ds.map .sh ++ List.replicate (N - n) .no
def runF (N n : Nat) (m : MS) : MF := fun ds p => match m (startR N n ds) p with | some (.rt d p) => some (d, p) | some (.nx _ p) => some (.non, p) | _ => none
section
variable {P : Program} {w : World} {K : PySem.W.Frag} {mg : Str → Option Value} {base : Heap}
theorem env_start {fx : Bool} {N ps : List Str} {pa : Option Addr} {S : Addr → Prop} {H : Hp} {p : List Int} {vs : List V} {ds : List D} (hfx : fx = true → pa = none) (hl : ds.length = ps.length) (hN : ps.length ≤ N.length) (s : Sta pa S H p) (r : RpL K pa (hid S H) vs ds) :
    EnvS K fx ⟨pa, S, H⟩ pa S S (fun _ => 0) (start N vs) H (startR N.length ps.length ds) p := by
  have no : ∀ (i : Nat) (d : D), (startR N.length ps.length ds)[i]? ≠ some (.ow d) := fun i d h => by
    unfold startR at h
    by_cases hi : i < ds.length
    · rw [List.getElem?_append_left (by rw [List.length_map]; exact hi), List.getElem?_map] at h
      cases e : ds[i]? with
      | none => rw [e] at h; cases h
      | some x => rw [e] at h; cases h
    · rw [List.getElem?_append_right (by rw [List.length_map]; omega), List.getElem?_replicate] at h
      split at h <;> cases h
  refine ⟨s, fun _ => ⟨rfl, fun a ha => (s.pool a ha).2⟩, fun hf => ⟨hfx hf, fun b hb => ?_⟩, fun _ h => h, fun _ h => .inl h, Ext.refl, fun a => ⟨.inl, fun h => ?_⟩, fun i d h => absurd h (no i d), fun i j d e h => absurd h (no i d), ?_, fun i d h => ?_⟩
  · rw [hfx hf] at hb; cases hb
  · rcases h with h | ⟨i, d, h, _⟩
    · exact h
    · exact absurd h (no i d)
  · unfold L2.start shR startR
    have := r.length
    rw [List.length_append, List.length_map, List.length_replicate, List.length_map, List.length_append, List.length_map, List.length_replicate]
    omega
  · have h2 := shR_get.mp h
    have hrl := r.length
    unfold startR at h2
    by_cases hi : i < ds.length
    · rw [List.getElem?_append_left (by rw [List.length_map]; exact hi), List.getElem?_map] at h2
      cases e : ds[i]? with
      | none => rw [e] at h2; cases h2
      | some x =>
        rw [e] at h2
        cases h2
        obtain ⟨v, h3, h4⟩ := r.get e
        refine ⟨v, ?_, h4⟩
        unfold L2.start
        rw [List.getElem?_append_left (by rw [List.length_map]; omega), List.getElem?_map, h3]
        rfl
    · rw [List.getElem?_append_right (by rw [List.length_map]; omega), List.getElem?_replicate] at h2
      split at h2 <;> cases h2
theorem fn_ok {x qual : Str} {st : Stmt} {f : Addr} {fd : FuncData} {N ps : List Str} {k : Nat} {m : MS} (F : Fun K x qual st f fd) (S : FnScope N ps (defScope st)) (hN : ps.length ≤ N.length)
    (body : ∀ (cdv : Value) (A : Around) (outer : List Env) (s : Shared) (H : Hp) (E : XK), Room k (A.deeper (envOfC qual (defScope st) s.heap.objs.size f cdv)) → JSs false (cxOf CX0 P w K mg base N qual (defScope st) f cdv A outer s H E).nox (defBody st) m) :
    FnOk P w K mg base CX0 (k + 1) f fd ps (spM K ps.length (runF N.length ps.length m)) := by
  refine F.ok S (fun vs H Q E h => ?_) (fun cdv A outer s H vs Q E hr h => ?_)
  · obtain ⟨pa, S, p, ds, d, p', s, r, hl, e, q⟩ := h
    rw [r.length, hl]
  · obtain ⟨pa, S0, p, ds, d, p', sta, r, hl, e, q⟩ := h
    refine ⟨_, (body cdv A outer s H E hr).ps ⟨pa, S0, H⟩, ?_⟩
    unfold runF at e
    have e0 := env_start (fx := false) (N := N) (fun z => by cases z) hl hN sta r
    split at e
    · rename_i d1 p1 m1
      obtain ⟨rfl, rfl⟩ := pr e
      exact ⟨pa, S0, S0, _, _, p, _, e0, m1, fun v H' x s2 r2 => q v H' x s2 r2⟩
    · rename_i r1 p1 m1
      obtain ⟨rfl, rfl⟩ := pr e
      exact ⟨pa, S0, S0, _, _, p, _, e0, m1, fun pa2 S02 S2 A2 σ2 H2 e2 f2 => by
        obtain ⟨h1, h2⟩ := e2.pap rfl
        subst h1
        exact q .non H2 e2.ext ⟨fun a ha => ⟨(e2.sta.pool a ha).1, h2 a ha⟩, fun a ha => e2.sta.trk a (e2.sub a ha)⟩ .non⟩
    · cases e
/-- the law's own def: no pool at its entry -/
def spL (K : PySem.W.Frag) (n : Nat) (m : MF) : Sp := fun vs H Q _ => ∃ S p ds d p', Sta none S H p ∧ RpL K none (hid S H) vs ds ∧ ds.length = n ∧ m ds p = some (d, p') ∧ PostE K none S H p' d Q
theorem fn_okL {x qual : Str} {st : Stmt} {f : Addr} {fd : FuncData} {N ps : List Str} {k : Nat} {m : MS} (F : Fun K x qual st f fd) (S : FnScope N ps (defScope st)) (hN : ps.length ≤ N.length)
    (body : ∀ (cdv : Value) (A : Around) (outer : List Env) (s : Shared) (H : Hp) (E : XK), Room k (A.deeper (envOfC qual (defScope st) s.heap.objs.size f cdv)) → JSs true (cxOf CX0 P w K mg base N qual (defScope st) f cdv A outer s H E).nox (defBody st) m) :
    FnOk P w K mg base CX0 (k + 1) f fd ps (spL K ps.length (runF N.length ps.length m)) := by
  refine F.ok S (fun vs H Q E h => ?_) (fun cdv A outer s H vs Q E hr h => ?_)
  · obtain ⟨S, p, ds, d, p', s, r, hl, e, q⟩ := h
    rw [r.length, hl]
  · obtain ⟨S0, p, ds, d, p', sta, r, hl, e, q⟩ := h
    refine ⟨_, (body cdv A outer s H E hr).ps ⟨none, S0, H⟩, ?_⟩
    unfold runF at e
    have e0 := env_start (fx := true) (N := N) (fun _ => rfl) hl hN sta r
    split at e
    · rename_i d1 p1 m1
      obtain ⟨rfl, rfl⟩ := pr e
      exact ⟨none, S0, S0, _, _, p, _, e0, m1, fun v H' x s2 r2 => q v H' x s2 r2⟩
    · rename_i r1 p1 m1
      obtain ⟨rfl, rfl⟩ := pr e
      exact ⟨none, S0, S0, _, _, p, _, e0, m1, fun pa2 S02 S2 A2 σ2 H2 e2 f2 => q .non H2 e2.ext ⟨fun a ha => (by cases ha), fun a ha => e2.sta.trk a (e2.sub a ha)⟩ .non⟩
    · cases e
end
end Dt

namespace Dt
open PySem PySem.Spec PyProof.Rows L2
/-! # enumerate of a tuple; zip with strict -/
section
variable {K : PySem.W.Frag} {pa : Option Addr} {S : Addr → Prop} {H : Hp} {a b : Addr} {xs ys : List V} {ds es : List D}
theorem itOk_enumT (h : SqT K (hid S H) a xs) (r : RpL K pa (hid S H) xs ds) : ItOk K pa S H (ZK.IteT K a) (enumD ds) where
  go := fun i S2 H2 e t hi => by
    rw [enumD_len] at hi
    obtain ⟨v, h1, _⟩ := r.get (List.getElem?_eq_getElem hi)
    exact ⟨xs, v, sameT hid_sub (sameT e h), h1⟩
  yld := fun i S2 H2 x H3 e t hi hy => by
    obtain ⟨T, y, rfl, hn, rfl, hx⟩ := hy
    have h1 := hx xs (sameT hid_sub (sameT e h))
    obtain ⟨d, h2, h3⟩ := r.getV h1
    exact ⟨same_upd hn, _, enumD_get h2, Rp.newT' t (.cons (.int _) (.cons (Rp.mono e _ _ h3) .nil)) hn⟩
  stop := fun i S2 H2 e t hi => ⟨xs, sameT hid_sub (sameT e h), by rw [r.length]; rw [enumD_len] at hi; exact hi⟩
theorem same2 {H H' : Hp} {t : Bool} (e : Same H H') (h : ZK.Sq2 t K H a xs) : ZK.Sq2 t K H' a xs := by
  cases t
  · exact sameL e h
  · exact sameT e h
theorem itOk_zipS {t1 t2 : Bool} (h : ZK.Sq2 t1 K (hid S H) a xs) (r : RpL K pa (hid S H) xs ds) (h' : ZK.Sq2 t2 K (hid S H) b ys) (r' : RpL K pa (hid S H) ys es) (hl : ds.length = es.length) : ItOk K pa S H (ZK.ItS K t1 t2 a b) (zipD ds es) where
  go := fun i S2 H2 e t hi => by
    obtain ⟨i1, i2⟩ := zipD_lt hi
    obtain ⟨v, h1, _⟩ := r.get (List.getElem?_eq_getElem i1)
    obtain ⟨w, h2, _⟩ := r'.get (List.getElem?_eq_getElem i2)
    exact ⟨xs, ys, v, w, same2 hid_sub (same2 e h), same2 hid_sub (same2 e h'), h1, h2⟩
  yld := fun i S2 H2 x H3 e t hi hy => by
    obtain ⟨T, y, z, rfl, hn, rfl, hx, hx'⟩ := hy
    obtain ⟨d, h2, h3⟩ := r.getV (hx xs (same2 hid_sub (same2 e h)))
    obtain ⟨d', h2', h3'⟩ := r'.getV (hx' ys (same2 hid_sub (same2 e h')))
    exact ⟨same_upd hn, _, zipD_get h2 h2', Rp.newT' t (.cons (Rp.mono e _ _ h3) (.cons (Rp.mono e _ _ h3') .nil)) hn⟩
  stop := fun i S2 H2 e t hi => ⟨xs, ys, same2 hid_sub (same2 e h), same2 hid_sub (same2 e h'), by
    rw [r.length, r'.length]
    unfold zipD at hi
    rw [List.length_zipWith] at hi
    omega⟩
end
section
variable {X : Cx}
def mEnumT (a : ML) : ML := fun r p => bnd (a r p) fun xs p => match xs with
  | [.tup ds] => some (enumD ds, p)
  | _ => none
theorem ji_enumT {a : Expr} {ma : ML} {p pos tpos : Pos} {elts : List Expr} {kk : Nat} (ha : JA X [a] ma) (hm : X.mg "enumerate" = none) (hg : Gl X "enumerate" := by rfl) (hs : starEach [a] X.env = [(false, eval a X.env)] := by rfl) : JI X (.Tuple elts kk tpos) (.Call (.Name "enumerate" p) [a] [] pos) (mEnumT ma) :=
  ⟨_, ZK.pi_enumT hg hm ha.pa hs, fun pa S σ H r p ds p' R c e q => by
    obtain ⟨xs, p1, e1, e⟩ := bnd_some e
    refine ⟨pa, S, r, p, xs, p1, c, e1, fun vs H1 x1 s1 r1 => ?_⟩
    split at e
    · obtain ⟨rfl, rfl⟩ := pr e
      obtain ⟨v, rfl, rv⟩ := r1.one
      cases rv with
      | tup h1 h2 => exact ⟨_, _, rfl, sameT hid_sub h1, q _ H1 x1 s1 (itOk_enumT h1 h2)⟩
    · cases e⟩
/-- zip(a, b, strict=c) -/
def sqOf : D → Option (Bool × List D)
  | .lst ds => some (false, ds)
  | .tup ds => some (true, ds)
  | _ => none
def zipOk (c t u : Bool) (n m : Nat) : Bool := if c = true then n == m else t == u
def mZipK (c : Bool) (a : ML) : ML := fun r p => bnd (a r p) fun xs p => match xs with
  | [x, y] => match sqOf x, sqOf y with
    | some (t, ds), some (u, es) => if zipOk c t u ds.length es.length = true then some (zipD ds es, p) else none
    | _, _ => none
  | _ => none
theorem sqOf_sq {pa : Option Addr} {S : Addr → Prop} {H : Hp} {v : V} {d : D} {t : Bool} {ds : List D} (r : Rp X.K pa (hid S H) v d) (h : sqOf d = some (t, ds)) : ∃ a xs, v = .ref a ∧ ZK.Sq2 t X.K (hid S H) a xs ∧ RpL X.K pa (hid S H) xs ds := by
  cases r with
  | lst h1 h2 => cases h; exact ⟨_, _, rfl, SqL.of h1, h2⟩
  | tup h1 h2 => cases h; exact ⟨_, _, rfl, h1, h2⟩
  | _ => cases h
theorem ji_zipK {c : Bool} {kn : Nat} {kp kp2 : Pos} {a b : Expr} {ma : ML} {p pos tpos : Pos} {elts : List Expr} {kk : Nat} (ha : JA X [a, b] ma) (hm : X.mg "zip" = none) (hg : Gl X "zip" := by rfl)
    (hs : backTo pos (starEach [a, b] X.env) = (false, eval a X.env) :: backTo pos (starEach [b] X.env) := by rfl) (hpl : (backTo pos (starEach [a, b] X.env)).any (·.1) = false := by rfl) :
    JI X (.Tuple elts kk tpos) (.Call (.Name "zip" p) [a, b] [⟨some "strict", .Constant (.bool c) kn kp, kp2⟩] pos) (mZipK c ma) :=
  ⟨_, ZK.pi_zipK hg hm ha.pa hs hpl, fun pa S σ H r p ds p' R cc e q => by
    obtain ⟨xs, p1, e1, e⟩ := bnd_some e
    refine ⟨pa, S, r, p, xs, p1, cc, e1, fun vs H1 x1 s1 r1 => ?_⟩
    split at e
    · rename_i x y
      split at e
      · rename_i t ds u es hx hy
        split at e
        · rename_i hc
          obtain ⟨rfl, rfl⟩ := pr e
          obtain ⟨v, w, rfl, rv, rw'⟩ := r1.two
          obtain ⟨a1, ys1, rfl, k1, k2⟩ := sqOf_sq rv hx
          obtain ⟨a2, ys2, rfl, k3, k4⟩ := sqOf_sq rw' hy
          refine ⟨t, u, a1, a2, ys1, ys2, rfl, same2 hid_sub k1, same2 hid_sub k3, ?_⟩
          cases c with
          | true =>
            replace hc : (ds.length == es.length) = true := hc
            exact .inl ⟨rfl, q _ H1 x1 s1 (itOk_zipS k1 k2 k3 k4 (eq_of_beq hc))⟩
          | false =>
            have htu : t = u := eq_of_beq hc
            subst htu
            cases t with
            | true => exact .inr (.inl ⟨rfl, rfl, rfl, q _ H1 x1 s1 (itOk_zipT k1 k2 k3 k4)⟩)
            | false => exact .inr (.inr ⟨rfl, rfl, rfl, q _ H1 x1 s1 (itOk_zipL k1 k2 k3 k4)⟩)
        · cases e
      · cases e
    · cases e⟩
end

/-! # sorted of a list of strings -/
def sLe (a b : Str) : Bool := !sLt b a
def ssort (xs : List Str) : List Str := xs.mergeSort sLe
theorem sLe_trans (a b c : Str) (h1 : sLe a b = true) (h2 : sLe b c = true) : sLe a c = true := by
  unfold sLe sLt at *
  simp only [Bool.not_eq_true', decide_eq_false_iff_not, List.not_lt] at *
  exact List.le_trans h1 h2
theorem sLe_total (a b : Str) : (sLe a b || sLe b a) = true := by
  unfold sLe sLt
  simp only [Bool.or_eq_true, Bool.not_eq_true', decide_eq_false_iff_not, List.not_lt]
  exact List.le_total _ _
theorem str_cps_inj {a b : Str} (h : a.cps.toList = b.cps.toList) : a = b := by
  cases a
  cases b
  exact congrArg Str.mk (Array.toList_inj.mp h)
theorem sLe_anti {a b : Str} (h1 : sLe a b = true) (h2 : sLe b a = true) : a = b := by
  unfold sLe sLt at *
  simp only [Bool.not_eq_true', decide_eq_false_iff_not, List.not_lt] at *
  exact str_cps_inj (List.le_antisymm h1 h2)
theorem rising_pw : ∀ (r : List Str) (x : Str), risingS x r = true → (∀ y ∈ r, sLe x y = true) ∧ r.Pairwise fun a b => sLe a b = true
  | [], x, _ => ⟨fun y h => (by cases h), List.Pairwise.nil⟩
  | y :: r, x, h => by
    have h' : (!ltCps y.cps.toList x.cps.toList && risingS y r) = true := h
    have h1 := (Bool.and_eq_true_iff.mp h').1
    have h2 := (Bool.and_eq_true_iff.mp h').2
    rw [ltCps_eq] at h1
    have hxy : sLe x y = true := h1
    obtain ⟨k1, k2⟩ := rising_pw r y h2
    refine ⟨fun z hz => ?_, List.pairwise_cons.mpr ⟨k1, k2⟩⟩
    rcases List.mem_cons.mp hz with rfl | hz
    · exact hxy
    · exact sLe_trans _ _ _ hxy (k1 z hz)
theorem sorted_ssort {ys xs : List Str} (hp : ys.Perm xs) (hs : sortedS ys = true) : ys = ssort xs := by
  have hw : ys.Pairwise fun a b => sLe a b = true := by
    cases ys with
    | nil => exact List.Pairwise.nil
    | cons x r =>
      obtain ⟨k1, k2⟩ := rising_pw r x hs
      exact List.pairwise_cons.mpr ⟨k1, k2⟩
  exact List.Perm.eq_of_pairwise (le := fun a b => sLe a b = true) (fun a b _ _ h1 h2 => sLe_anti h1 h2) hw (List.pairwise_mergeSort sLe_trans sLe_total xs) (hp.trans (List.mergeSort_perm xs sLe).symm)
theorem asInts_map : ∀ (xs : List Int), asInts (xs.map D.int) = some xs
  | [] => rfl
  | x :: xs => by simp [asInts, asInts_map xs]
def dSorted : List D → Option D
  | [.lst ds] => match asStrs ds with
    | some xs => if xs.length < 64 then some (.lst ((ssort xs).map .str)) else none
    | none => none
  | _ => none
theorem RpL.lim_of {K : PySem.W.Frag} {pa : Option Addr} {H : Hp} : ∀ {ns : List Str} {vs : List V}, RpL K pa H vs (ns.map D.str) → ∀ x ∈ ns, x.length ≤ lim
  | [], _, _ => fun x h => by cases h
  | n :: ns, _, h => by
    cases h with
    | cons h1 h2 =>
      intro x hx
      rcases List.mem_cons.mp hx with rfl | hx
      · cases h1 with
        | str _ z => exact z
      · exact RpL.lim_of h2 x hx
theorem cd_sortedS {K : PySem.W.Frag} : CallD K (rSortedS K) dSorted := by
  intro pa S H p xs ds z Q s r h q
  cases r with
  | nil => cases h
  | cons r1 r2 =>
    cases r2 with
    | cons _ _ => cases r1 <;> cases h
    | nil =>
      cases r1 with
      | lst h1 h2 =>
        unfold dSorted at h
        simp only at h
        split at h
        · rename_i ns e
          split at h
          · rename_i hl
            cases h
            have e2 := asStrs_eq e
            subst e2
            have e3 := h2.strs_of
            subst e3
            refine ⟨_, ns, rfl, SqL.of (hid_sub _ _ h1), hl, fun ys l hp hs n => ?_⟩
            rw [sorted_ssort hp hs]
            refine q _ _ (same_upd n) (Rp.newL s (RpL.strs _ fun x hx => h2.lim_of x ?_) n)
            exact (List.mergeSort_perm ns sLe).mem_iff.mp hx
          · cases h
        · cases h
      | _ => cases h

/-! # Defs that return a new list -/
abbrev MFl := List D → List Int → MR (List D)
def spFr (K : PySem.W.Frag) (n : Nat) (m : MFl) : Sp := fun vs H Q _ => ∃ pa S p ds es p', Sta pa S H p ∧ RpL K pa (hid S H) vs ds ∧ ds.length = n ∧ m ds p = some (es, p') ∧
  ∀ a xs H', Ext pa H H' → Sta pa S H' p' → H a = none → H' a = some (.lst xs) → RpL K pa (hid (fun b => S b ∨ b = a) H') xs es → Q (.ref a) H'
def mCallF (n : Nat) (m : MFl) (a : ML) : ML := fun r p => bnd (a r p) fun ds p => if ds.length = n then m ds p else none
theorem red_callF {K : PySem.W.Frag} {n : Nat} {m : MFl} {a : ML} {σ : L2.St} {H : Hp} {Q : VK} {E : XK} (h : tF K (mCallF n m a) σ H Q) : tCall (spFr K n m) [] E (tML K a) σ H Q := by
  obtain ⟨pa, S, r, p, ds, p', c, e, q⟩ := h
  obtain ⟨xs, p1, e1, e⟩ := bnd_some e
  split at e
  · rename_i hl
    refine ⟨pa, S, r, p, xs, p1, c, e1, fun vs H1 x1 s1 r1 => ?_⟩
    refine ⟨pa, S, p1, xs, ds, p', s1, by rw [List.append_nil]; exact r1, hl, e, fun a ys H' x s' hn ha hr => ?_⟩
    exact q a ys H' (x1.trans x) s' (x1.free (s1.notpool hn) hn) ha hr
  · cases e
section
variable {X : Cx} {k n : Nat} {f : Addr} {fd : FuncData} {ps : List Str} {m : MFl} {x : Str} {p pos : Pos} {e : Expr} {es : List Expr} {ms : ML}
theorem jf_call (F : FnOk X.prog X.w X.K X.mg X.base CX0 k f fd ps (spFr X.K n m)) (hr : Room k X.A) (hm : X.mg x = some (.ref f)) (hk : PySem.W.keepIn X.K (.ref f) = true) (hb : Binds X.K fd ps []) (ha : JA X (e :: es) ms) (hg : Gl X x := by rfl) (hdb : (x == ("__debug__" : Str)) = false := by decide)
    (he : starEach (e :: es) X.env = (false, eval e X.env) :: starEach es X.env := by rfl) (hpl : (backTo pos (starEach es X.env)).any (·.1) = false := by rfl) : JF X (.Call (.Name x p) (e :: es) [] pos) (mCallF n m ms) :=
  ⟨(pe_call F hr hg hm hk hb .nil pass0 ha.pa hdb he hpl).weak fun σ H Q h => red_callF h⟩
end
end Dt

namespace Dt
open PySem PySem.Spec PyProof.Rows L2
/-! # Bodies that end by returning a new list -/
abbrev MSl := Sv → List Int → MR (List D)
def tR (K : PySem.W.Frag) (E : En) (mf : MSl) : TS := fun D σ H => ∃ pa S0 S A r p es p', EnvS K false E pa S0 S A σ H r p ∧ mf r p = some (es, p') ∧
  ∀ a xs H', Ext E.pa E.H H' → Sta E.pa E.S H' p' → E.H a = none → H' a = some (.lst xs) → RpL K E.pa (hid (fun b => E.S b ∨ b = a) H') xs es → D.rt (.ref a) H'
structure JSsR (X : Cx) (sts : List Stmt) (mf : MSl) : Prop where
  ps : ∀ E, PSs X sts (tR X.K E mf)
section
variable {X : Cx} {st : Stmt} {rest : List Stmt} {m0 : MS} {mf : MSl} {me : ML} {e : Expr} {pos : Pos}
def rRet (me : ML) : MSl := fun r p => me (viR r) p
def rSeq (a : MS) (b : MSl) : MSl := fun r p => match a r p with | some (.nx r p) => b r p | _ => none
theorem jr_ret (h : JF X e me) : JSsR X [.Return (some e) pos] (rRet me) := ⟨fun E => (pss_one (ps_ret h.pe)).weak fun D σ H ⟨pa, S0, S, A, r, p, es, p', e, em, q⟩ => by
  refine ⟨pa, S0, viR r, p, es, p', e.vis, em, fun a xs H' x s hn ha hr => ?_⟩
  obtain ⟨h1, h2⟩ := e.pap rfl
  subst h1
  refine q a xs H' (e.ext.trans x) ⟨fun b hb => ⟨(s.pool b hb).1, h2 b hb⟩, fun b hb => s.trk b (e.sub b hb)⟩ (e.ext.free (e.sta.notpool hn) hn) ha (RpL.mono (hid_mono (fun b o _ h => h) fun b hb o ho => ?_) _ _ hr)
  rcases hb with hb | hb
  · exact .inl (e.sub b hb)
  · exact .inr hb⟩
theorem jr_cons (h1 : JS false X st m0) (h2 : JSsR X rest mf) : JSsR X (st :: rest) (rSeq m0 mf) := ⟨fun E => (pss_cons (h1.ps E) (h2.ps E)).weak fun D σ H ⟨pa, S0, S, A, r, p, es, p', e, em, q⟩ => by
  unfold rSeq at em
  split at em
  · rename_i r1 p1 e1
    exact ⟨pa, S0, S, A, r, p, _, e, e1, fun pa2 S02 S2 A2 σ2 H2 e2 f2 => ⟨pa2, S02, S2, A2, r1, p1, es, p', e2, em, q⟩⟩
  · cases em⟩
end
section
variable {P : Program} {w : World} {K : PySem.W.Frag} {mg : Str → Option Value} {base : Heap}
def runR (N n : Nat) (m : MSl) : MFl := fun ds p => m (startR N n ds) p
theorem fn_okFr {x qual : Str} {st : Stmt} {f : Addr} {fd : FuncData} {N ps : List Str} {k : Nat} {m : MSl} (F : Fun K x qual st f fd) (S : FnScope N ps (defScope st)) (hN : ps.length ≤ N.length)
    (body : ∀ (cdv : Value) (A : Around) (outer : List Env) (s : Shared) (H : Hp) (E : XK), Room k (A.deeper (envOfC qual (defScope st) s.heap.objs.size f cdv)) → JSsR (cxOf CX0 P w K mg base N qual (defScope st) f cdv A outer s H E).nox (defBody st) m) :
    FnOk P w K mg base CX0 (k + 1) f fd ps (spFr K ps.length (runR N.length ps.length m)) := by
  refine F.ok S (fun vs H Q E h => ?_) (fun cdv A outer s H vs Q E hr h => ?_)
  · obtain ⟨pa, S, p, ds, d, p', s, r, hl, e, q⟩ := h
    rw [r.length, hl]
  · obtain ⟨pa, S0, p, ds, es, p', sta, r, hl, e, q⟩ := h
    refine ⟨_, (body cdv A outer s H E hr).ps ⟨pa, S0, H⟩, ?_⟩
    have e0 := env_start (fx := false) (N := N) (fun z => by cases z) hl hN sta r
    exact ⟨pa, S0, S0, _, _, p, es, p', e0, e, fun a xs H' x s' hn ha hr => q a xs H' x s' hn ha hr⟩
end
end Dt

namespace Dt
open PySem PySem.Spec PyProof.Rows L2
/-! # In-place operators, module constants, built-in names -/
section
variable {X : Cx} {K : PySem.W.Frag}
theorem ip_of {op : Operator} {r : R2} (ho : OpR X (inplaceOp op) r) : PIp X op r := fun pins s σ H x y v u Q I rx ry q => augR ho I rx ry q
def rIAdd : R2 := fun x y H Q => rI0 (fun i j => .int (i + j)) x y H Q ∨ (∃ i j, x = .str i ∧ y = .str j ∧ i.length + j.length ≤ sizeLine ∧ Q (.str (i ++ j)) H)
theorem iop_addD : OpR X (inplaceOp .Add) rIAdd := by
  intro pins s σ H x y v u Q I rx ry h
  rcases h with h | h
  · exact iop_add pins s σ H x y v u Q I rx ry h
  · exact iop_add_str pins s σ H x y v u Q I rx ry h
def dIAdd : D → D → Option D
  | .int i, .int j => some (.int (i + j))
  | .str a, .str b => if a.length + b.length ≤ lim then some (.str (a ++ b)) else none
  | _, _ => none
theorem od_iadd : OpD K rIAdd dIAdd := by
  intro pa S H p x y d e z Q s r r' h q
  cases r with
  | int i =>
    cases r' with
    | int j => cases h; exact .inl ⟨i, j, rfl, rfl, q _ H (fun _ _ h => h) (.int _)⟩
    | _ => cases h
  | str a ha =>
    cases r' with
    | str b hb =>
      unfold dIAdd at h
      simp only at h
      split at h
      · rename_i hl
        cases h
        exact .inr ⟨a, b, rfl, rfl, lim_sz hl, q _ H (fun _ _ h => h) (.str _ (by rw [str_app_len]; exact hl))⟩
      · cases h
    | _ => cases h
  | _ => cases h
theorem ip_addD : PIp X .Add rIAdd := ip_of iop_addD
theorem ip_subD : PIp X .Sub (rI0 fun i j => .int (i - j)) := ip_of iop_sub
theorem ip_mulD : PIp X .Mult (rI CMul fun i j => .int (i * j)) := ip_of iop_mul
theorem ip_divD : PIp X .FloorDiv (rI CDiv fun i j => .int (i / j)) := ip_of iop_fdiv
theorem ip_modD : PIp X .Mod (rI (fun _ j => 0 < j) fun i j => .int (i % j)) := ip_of iop_mod
theorem je_gstr {x : Str} {z : Str} {pos : Pos} (hm : ∃ t, X.mg x = some (.str z t)) (hl : z.length ≤ lim := by decide +kernel) (hg : Gl X x := by rfl) (hd : (x == ("__debug__" : Str)) = false := by decide) : JE X (.Name x pos) (mC (.str z)) := by
  obtain ⟨t, ht⟩ := hm
  exact je_glob (v := .str z) ht ⟨t, rfl⟩ (fun _ _ => .str z hl) hg hd
theorem je_gint {x : Str} {z : Int} {pos : Pos} (hm : ∃ t, X.mg x = some (.int z t)) (hg : Gl X x := by rfl) (hd : (x == ("__debug__" : Str)) = false := by decide) : JE X (.Name x pos) (mC (.int z)) := by
  obtain ⟨t, ht⟩ := hm
  exact je_glob (v := .int z) ht ⟨t, rfl⟩ (fun _ _ => .int z) hg hd
end
theorem bt_len : bootBuiltins "len" = some (.builtin "len") := by decide +kernel
theorem bt_abs : bootBuiltins "abs" = some (.builtin "abs") := by decide +kernel
theorem bt_all : bootBuiltins "all" = some (.builtin "all") := by decide +kernel
theorem bt_any : bootBuiltins "any" = some (.builtin "any") := by decide +kernel
theorem bt_sorted : bootBuiltins "sorted" = some (.builtin "sorted") := by decide +kernel
theorem bt_divmod : bootBuiltins "divmod" = some (.builtin "divmod") := by decide +kernel
theorem bt_min : bootBuiltins "min" = some (.builtin "min") := by decide +kernel
theorem bt_max : bootBuiltins "max" = some (.builtin "max") := by decide +kernel
theorem bt_int : bootBuiltins "int" = some (.type "int") := by decide +kernel
theorem bt_tuple : bootBuiltins "tuple" = some (.type "tuple") := by decide +kernel
theorem bt_list : bootBuiltins "list" = some (.type "list") := by decide +kernel
theorem bt_str : bootBuiltins "str" = some (.type "str") := by decide +kernel
theorem bt_bool : bootBuiltins "bool" = some (.type "bool") := by decide +kernel
theorem bt_dict : bootBuiltins "dict" = some (.type "dict") := by decide +kernel
theorem bt_set : bootBuiltins "set" = some (.type "set") := by decide +kernel

/-! # Comprehensions, the block's scope given in closed form -/
section
variable {X : Cx} {elt tg iter : Expr} {scope : Scope} {pos : Pos} {mi : ML} {me : M} {mt : MB} {g : TG} {ts : List Nat} {mg : D → Ev → Option Ev}
theorem jf_lcN {ifs : List Expr} (N : List Str) (sc : Scope) (own : List (Str × Nat)) (hc : X.calm = true) (hN : X.N.Nodup) (hi : JI X tg iter mi) (ok : BlkOk N sc scope own)
    (hg : ∀ (s : Shared) (H : Hp) (C : Addr) (cl : List (Str × Addr)) (fp : List Addr), PG (X.blk s H scope (compEnvC scope cl C X.env) fp) tg g) (hgd : TgD X.K g ts mg) (hts : ∀ t ∈ ts, t ∈ own.map (·.2))
    (ht : ∀ (s : Shared) (H : Hp) (C : Addr) (cl : List (Str × Addr)) (fp : List Addr), JTs (X.blk s H scope (compEnvC scope cl C X.env) fp) ifs mt) (he : ∀ (s : Shared) (H : Hp) (C : Addr) (cl : List (Str × Addr)) (fp : List Addr), JE (X.blk s H scope (compEnvC scope cl C X.env) fp) elt me)
    (hNe : X.N = N := by rfl) (hsc : X.env.scope = sc := by rfl) (hs : ∀ x, foldedSetIterable iter X.env x = pure x := by intro _; rfl) :
    JF X (.ListComp elt [⟨tg, iter, ifs, 0⟩] scope pos) (mLc (own.map (·.2)) mi mg mt me) := by
  subst hNe
  subst hsc
  exact jf_lc own hc hN hi ok hg hgd hts ht he hs
theorem js_setLc {fx : Bool} {i : Nat} {y : Str} {py spos : Pos} {ifs : List Expr} (N : List Str) (sc : Scope) (own : List (Str × Nat)) (hc : X.calm = true) (hN : X.N.Nodup) (hi : JI X tg iter mi) (ok : BlkOk N sc scope own)
    (hg : ∀ (s : Shared) (H : Hp) (C : Addr) (cl : List (Str × Addr)) (fp : List Addr), PG (X.blk s H scope (compEnvC scope cl C X.env) fp) tg g) (hgd : TgD X.K g ts mg) (hts : ∀ t ∈ ts, t ∈ own.map (·.2))
    (ht : ∀ (s : Shared) (H : Hp) (C : Addr) (cl : List (Str × Addr)) (fp : List Addr), JTs (X.blk s H scope (compEnvC scope cl C X.env) fp) ifs mt) (he : ∀ (s : Shared) (H : Hp) (C : Addr) (cl : List (Str × Addr)) (fp : List Addr), JE (X.blk s H scope (compEnvC scope cl C X.env) fp) elt me)
    (hy : X.N[i]? = some y := by rfl) (hyl : X.env.scope.names.lookup y = some .local := by rfl)
    (hsw : swapsWith (.ListComp elt [⟨tg, iter, ifs, 0⟩] scope pos) (some (.Name y py)) spos.line X.env = pure true := by exact sw_true rfl rfl rfl rfl)
    (hNe : X.N = N := by rfl) (hsc : X.env.scope = sc := by rfl) (hs : ∀ x, foldedSetIterable iter X.env x = pure x := by intro _; rfl) :
    JS fx X (.Assign [.Name y py] (.ListComp elt [⟨tg, iter, ifs, 0⟩] scope pos) spos) (sAsg i (mOfF (mLc (own.map (·.2)) mi mg mt me))) := by
  subst hNe
  subst hsc
  obtain ⟨wi, h1, h2⟩ := hi.ex
  exact ⟨fun E => (ps_setLc hc hN hy hyl hsw h1 ok hg (fun s H C cl fp => (ht s H C cl fp).pt) (fun s H C cl fp => (he s H C cl fp).pe) hs).weak fun D σ H h => red_lc h2 hgd hts (red_ofF (red_asg h))⟩
theorem js_newLc {fx : Bool} {i : Nat} {y : Str} {py spos : Pos} {ifs : List Expr} (N : List Str) (sc : Scope) (own : List (Str × Nat)) (hc : X.calm = true) (hN : X.N.Nodup) (hi : JI X tg iter mi) (ok : BlkOk N sc scope own)
    (hg : ∀ (s : Shared) (H : Hp) (C : Addr) (cl : List (Str × Addr)) (fp : List Addr), PG (X.blk s H scope (compEnvC scope cl C X.env) fp) tg g) (hgd : TgD X.K g ts mg) (hts : ∀ t ∈ ts, t ∈ own.map (·.2))
    (ht : ∀ (s : Shared) (H : Hp) (C : Addr) (cl : List (Str × Addr)) (fp : List Addr), JTs (X.blk s H scope (compEnvC scope cl C X.env) fp) ifs mt) (he : ∀ (s : Shared) (H : Hp) (C : Addr) (cl : List (Str × Addr)) (fp : List Addr), JE (X.blk s H scope (compEnvC scope cl C X.env) fp) elt me)
    (hy : X.N[i]? = some y := by rfl) (hyl : X.env.scope.names.lookup y = some .local := by rfl)
    (hsw : swapsWith (.ListComp elt [⟨tg, iter, ifs, 0⟩] scope pos) (some (.Name y py)) spos.line X.env = pure true := by exact sw_true rfl rfl rfl rfl)
    (hNe : X.N = N := by rfl) (hsc : X.env.scope = sc := by rfl) (hs : ∀ x, foldedSetIterable iter X.env x = pure x := by intro _; rfl) :
    JS fx X (.Assign [.Name y py] (.ListComp elt [⟨tg, iter, ifs, 0⟩] scope pos) spos) (sNew i (mLc (own.map (·.2)) mi mg mt me)) := by
  subst hNe
  subst hsc
  obtain ⟨wi, h1, h2⟩ := hi.ex
  exact ⟨fun E => (ps_setLc hc hN hy hyl hsw h1 ok hg (fun s H C cl fp => (ht s H C cl fp).pt) (fun s H C cl fp => (he s H C cl fp).pe) hs).weak fun D σ H h => red_lc h2 hgd hts (red_new h)⟩
end
def mFresh (a : ML) : ML := fun r p => bnd (a r p) fun ds p => if ds.length ≤ lim then some (ds, p) else none
end Dt

namespace Dt
open PySem PySem.Spec PyProof.Rows L2
/-! # What a mirror must answer -/
def Wp {α : Type} (x : MR α) (Q : α → List Int → Prop) : Prop := ∃ a p, x = some (a, p) ∧ Q a p
@[simp] theorem wp_none {α : Type} {Q : α → List Int → Prop} : Wp (none : MR α) Q ↔ False := by simp [Wp]
@[simp] theorem wp_some {α : Type} {Q : α → List Int → Prop} {a : α} {p : List Int} : Wp (some (a, p)) Q ↔ Q a p := ⟨fun ⟨a', p', e, h⟩ => by cases e; exact h, fun h => ⟨a, p, rfl, h⟩⟩
@[simp] theorem wp_bnd {α β : Type} {x : MR α} {f : α → List Int → MR β} {Q : β → List Int → Prop} : Wp (bnd x f) Q ↔ Wp x fun a p => Wp (f a p) Q := by
  cases x with
  | none => simp [bnd]
  | some a => obtain ⟨a, p⟩ := a; simp [bnd]
@[simp] theorem wp_lft {α : Type} {x : Option α} {p : List Int} {Q : α → List Int → Prop} : Wp (lft x p) Q ↔ ∃ a, x = some a ∧ Q a p := by
  cases x <;> simp [lft]
@[simp] theorem wp_ite {α : Type} {c : Prop} [Decidable c] {x y : MR α} {Q : α → List Int → Prop} : Wp (if c then x else y) Q ↔ (if c then Wp x Q else Wp y Q) := by
  split <;> rfl
theorem Wp.mono {α : Type} {x : MR α} {Q R : α → List Int → Prop} (h : Wp x Q) (q : ∀ a p, Q a p → R a p) : Wp x R := by
  obtain ⟨a, p, e, h⟩ := h
  exact ⟨a, p, e, q a p h⟩
theorem Wp.of_eq {α : Type} {x : MR α} {a : α} {p : List Int} {Q : α → List Int → Prop} (e : x = some (a, p)) (h : Q a p) : Wp x Q := ⟨a, p, e, h⟩
def Pr2 (ds : List D) (q : D → D → Prop) : Prop := match ds with
  | [x, y] => q x y
  | _ => False
@[simp] theorem pr2 {x y : D} {q : D → D → Prop} : Pr2 [x, y] q ↔ q x y := Iff.rfl
theorem pr2_of {ds : List D} {q : D → D → Prop} (h : Pr2 ds q) : ∃ x y, ds = [x, y] ∧ q x y := by
  unfold Pr2 at h
  split at h
  · exact ⟨_, _, rfl, h⟩
  · exact h.elim
section
variable {r : Ev} {p : List Int} {Q : D → List Int → Prop} {QB : Bool → List Int → Prop} {QL : List D → List Int → Prop}
@[simp] theorem wp_c {d : D} : Wp (mC d r p) Q ↔ Q d p := by simp [mC]
@[simp] theorem wp_op {f : D → D → Option D} {a b : M} : Wp (mOp f a b r p) Q ↔ Wp (a r p) fun x p => Wp (b r p) fun y p => ∃ z, f x y = some z ∧ Q z p := by simp [mOp]
@[simp] theorem wp_un {f : D → Option D} {a : M} : Wp (mUn f a r p) Q ↔ Wp (a r p) fun x p => ∃ z, f x = some z ∧ Q z p := by simp [mUn]
@[simp] theorem wp_nil : Wp (mNil r p) QL ↔ QL [] p := by simp [mNil]
@[simp] theorem wp_cons {a : M} {b : ML} : Wp (mCons a b r p) QL ↔ Wp (a r p) fun x p => Wp (b r p) fun xs p => QL (x :: xs) p := by simp [mCons]
@[simp] theorem wp_cb {f : List D → Option D} {a : ML} : Wp (mCB f a r p) Q ↔ Wp (a r p) fun xs p => ∃ z, f xs = some z ∧ Q z p := by simp [mCB]
@[simp] theorem wp_mt {f : D → List D → Option D} {o : M} {a : ML} : Wp (mMt f o a r p) Q ↔ Wp (o r p) fun x p => Wp (a r p) fun xs p => ∃ z, f x xs = some z ∧ Q z p := by simp [mMt]
@[simp] theorem wp_tst {a : M} : Wp (mTst a r p) QB ↔ Wp (a r p) fun x p => ∃ b, x = .bl b ∧ QB b p := by
  simp only [mTst, wp_bnd]
  refine ⟨fun h => h.mono fun a p h => ?_, fun h => h.mono fun a p h => ?_⟩
  · split at h
    · exact ⟨_, rfl, by simpa using h⟩
    · simp at h
  · obtain ⟨b, rfl, h⟩ := h
    simpa using h
@[simp] theorem wp_tru {a : M} : Wp (mTru a r p) QB ↔ Wp (a r p) fun x p => ∃ b, dTru x = some b ∧ QB b p := by simp [mTru]
@[simp] theorem wp_and {a b : MB} : Wp (mAnd a b r p) QB ↔ Wp (a r p) fun x p => if x = true then Wp (b r p) QB else QB false p := by simp [mAnd]
@[simp] theorem wp_or {a b : MB} : Wp (mOr a b r p) QB ↔ Wp (a r p) fun x p => if x = true then QB true p else Wp (b r p) QB := by simp [mOr]
@[simp] theorem wp_not {a : MB} : Wp (mNot a r p) QB ↔ Wp (a r p) fun x p => QB (!x) p := by simp [mNot]
@[simp] theorem wp_if {t : MB} {a b : M} : Wp (mIf t a b r p) Q ↔ Wp (t r p) fun x p => if x = true then Wp (a r p) Q else Wp (b r p) Q := by simp [mIf]
@[simp] theorem wp_andV {a b : M} : Wp (mAndV a b r p) Q ↔ Wp (a r p) fun x p => ∃ k, dTru x = some k ∧ if k = true then Wp (b r p) Q else Q x p := by simp [mAndV]
@[simp] theorem wp_orV {a b : M} : Wp (mOrV a b r p) Q ↔ Wp (a r p) fun x p => ∃ k, dTru x = some k ∧ if k = true then Q x p else Wp (b r p) Q := by simp [mOrV]
@[simp] theorem wp_notV {a : M} : Wp (mNotV a r p) Q ↔ Wp (a r p) fun x p => ∃ k, dTru x = some k ∧ Q (.bl (!k)) p := by simp [mNotV]
@[simp] theorem wp_tup {a : ML} : Wp (mTup a r p) Q ↔ Wp (a r p) fun xs p => xs.length ≤ lim ∧ Q (.tup xs) p := by simp [mTup]
@[simp] theorem wp_lst {a : ML} : Wp (mLst a r p) Q ↔ Wp (a r p) fun xs p => xs.length ≤ lim ∧ Q (.lst xs) p := by simp [mLst]
@[simp] theorem wp_ofF {a : ML} : Wp (mOfF a r p) Q ↔ Wp (a r p) fun xs p => Q (.lst xs) p := by simp [mOfF]
@[simp] theorem wp_isi {T : String} {a : M} : Wp (mIsi T a r p) Q ↔ Wp (a r p) fun x p => ∃ z, dIsi T x = some z ∧ Q z p := by simp [mIsi]
@[simp] theorem wp_sl {a : M} {lo hi : MO} : Wp (mSl a lo hi r p) Q ↔ Wp (a r p) fun x p => Wp (lo r p) fun l p => Wp (hi r p) fun h p => ∃ z, dSl x l h = some z ∧ Q z p := by simp [mSl]
@[simp] theorem wp_oNone {Q : Option Int → List Int → Prop} : Wp (oNone r p) Q ↔ Q none p := by simp [oNone]
@[simp] theorem wp_oSome {a : M} {Q : Option Int → List Int → Prop} : Wp (oSome a r p) Q ↔ Wp (a r p) fun x p => ∃ i, x = .int i ∧ Q (some i) p := by
  simp only [oSome, wp_bnd]
  refine ⟨fun h => h.mono fun a p h => ?_, fun h => h.mono fun a p h => ?_⟩
  · split at h
    · exact ⟨_, rfl, by simpa using h⟩
    · simp at h
  · obtain ⟨b, rfl, h⟩ := h
    simpa using h
@[simp] theorem wp_call {n : Nat} {m : MF} {a : ML} : Wp (mCall n m a r p) Q ↔ Wp (a r p) fun ds p => ds.length = n ∧ Wp (m ds p) Q := by simp [mCall]
@[simp] theorem wp_callF {n : Nat} {m : MFl} {a : ML} : Wp (mCallF n m a r p) QL ↔ Wp (a r p) fun ds p => ds.length = n ∧ Wp (m ds p) QL := by simp [mCallF]
@[simp] theorem wp_items {a : M} : Wp (mItems a r p) QL ↔ Wp (a r p) fun x p => ∃ z, itemsOf x = some z ∧ QL z p := by simp [mItems]
@[simp] theorem wp_lc {vs : List Nat} {mi : ML} {mg : D → Ev → Option Ev} {mt : MB} {me : M} : Wp (mLc vs mi mg mt me r p) QL ↔ Wp (mi r p) fun ds p => ds.length ≤ lim ∧ Wp (lcGo mg mt me (wipeR r vs) ds p) QL := by simp [mLc]
/-- an index, no pool -/
def ixD (x y : D) (p : List Int) : Option D := match x, y with
  | .pool, .int i => (atI p i).map D.int
  | x, y => dIx x y
@[simp] theorem wp_ix {a b : M} : Wp (mIx a b r p) Q ↔ Wp (a r p) fun x p => Wp (b r p) fun y p => ∃ z, ixD x y p = some z ∧ Q z p := by
  simp only [mIx, wp_bnd]
  refine ⟨fun h => h.mono fun a p h => h.mono fun b p h => ?_, fun h => h.mono fun a p h => h.mono fun b p h => ?_⟩
  · split at h
    · simpa [ixD] using h
    · rename_i h0
      rw [wp_lft] at h
      unfold ixD
      split
      · rename_i i
        exact (h0 _ rfl rfl).elim
      · exact h
  · split
    · simpa [ixD] using h
    · rename_i h0
      rw [wp_lft]
      unfold ixD at h
      split at h
      · rename_i i
        exact (h0 _ rfl rfl).elim
      · exact h
@[simp] theorem wp_chain {f g : D → D → Option D} {a b c : M} : Wp (mChain f g a b c r p) Q ↔ Wp (a r p) fun x p => Wp (b r p) fun y p => ∃ z, f x y = some z ∧ ∃ k, z = .bl k ∧ if k = true then Wp (c r p) fun w p => ∃ z, g y w = some z ∧ Q z p else Q (.bl false) p := by
  simp only [mChain, wp_bnd, wp_lft]
  refine ⟨fun h => h.mono fun a p h => h.mono fun b p ⟨z, e, h⟩ => ⟨z, e, ?_⟩, fun h => h.mono fun a p h => h.mono fun b p ⟨z, e, h⟩ => ⟨z, e, ?_⟩⟩
  · split at h
    · exact ⟨true, rfl, by simpa using h⟩
    · exact ⟨false, rfl, by simpa using h⟩
    · simp at h
  · obtain ⟨k, rfl, h⟩ := h
    cases k <;> simpa using h
@[simp] theorem wp_star {a : M} {b : ML} : Wp (mStar a b r p) QL ↔ Wp (a r p) fun x p => ∃ ds, (x = .lst ds ∨ x = .tup ds) ∧ Wp (b r p) fun ys p => QL (ds ++ ys) p := by
  simp only [mStar, wp_bnd]
  refine ⟨fun h => h.mono fun a p h => ?_, fun h => h.mono fun a p h => ?_⟩
  · split at h
    · exact ⟨_, .inl rfl, by simpa using h⟩
    · exact ⟨_, .inr rfl, by simpa using h⟩
    · simp at h
  · obtain ⟨ds, rfl | rfl, h⟩ := h <;> simpa using h
@[simp] theorem wp_rng1 {a : ML} : Wp (mRng1 a r p) QL ↔ Wp (a r p) fun xs p => ∃ n, xs = [.int n] ∧ rngOk n = true ∧ QL (rngD 0 n.toNat) p := by
  simp only [mRng1, wp_bnd]
  refine ⟨fun h => h.mono fun a p h => ?_, fun h => h.mono fun a p h => ?_⟩
  · split at h
    · simp only [wp_ite, wp_some, wp_none] at h
      split at h
      · exact ⟨_, rfl, by assumption, h⟩
      · exact h.elim
    · simp at h
  · obtain ⟨n, rfl, hn, h⟩ := h
    simp [hn, h]
@[simp] theorem wp_rng2 {a : ML} : Wp (mRng2 a r p) QL ↔ Wp (a r p) fun xs p => Pr2 xs fun x y => ∃ m, x = .int m ∧ ∃ n, y = .int n ∧ (rngOk m && rngOk n) = true ∧ QL (rngD m (n - m).toNat) p := by
  simp only [mRng2, wp_bnd]
  refine ⟨fun h => h.mono fun a p h => ?_, fun h => h.mono fun a p h => ?_⟩
  · split at h
    · simp only [wp_ite, wp_some, wp_none] at h
      split at h
      · exact ⟨_, rfl, _, rfl, by assumption, h⟩
      · exact h.elim
    · simp at h
  · obtain ⟨x, y, rfl, m, rfl, n, rfl, hn, h⟩ := pr2_of h
    simp only [hn, if_true, wp_some]
    exact h
@[simp] theorem wp_enum {a : ML} : Wp (mEnum a r p) QL ↔ Wp (a r p) fun xs p => ∃ ds, xs = [.lst ds] ∧ QL (enumD ds) p := by
  simp only [mEnum, wp_bnd]
  refine ⟨fun h => h.mono fun a p h => ?_, fun h => h.mono fun a p h => ?_⟩
  · split at h
    · exact ⟨_, rfl, by simpa using h⟩
    · simp at h
  · obtain ⟨n, rfl, h⟩ := h
    simpa using h
@[simp] theorem wp_enumT {a : ML} : Wp (mEnumT a r p) QL ↔ Wp (a r p) fun xs p => ∃ ds, xs = [.tup ds] ∧ QL (enumD ds) p := by
  simp only [mEnumT, wp_bnd]
  refine ⟨fun h => h.mono fun a p h => ?_, fun h => h.mono fun a p h => ?_⟩
  · split at h
    · exact ⟨_, rfl, by simpa using h⟩
    · simp at h
  · obtain ⟨n, rfl, h⟩ := h
    simpa using h
def zpD : List D → Option (List D)
  | [.lst ds, .lst es] => some (zipD ds es)
  | [.tup ds, .tup es] => some (zipD ds es)
  | _ => none
@[simp] theorem wp_zip {a : ML} : Wp (mZip a r p) QL ↔ Wp (a r p) fun xs p => ∃ ds, zpD xs = some ds ∧ QL ds p := by
  simp only [mZip, wp_bnd]
  refine ⟨fun h => h.mono fun a p h => ?_, fun h => h.mono fun a p h => ?_⟩
  · split at h <;> simpa [zpD] using h
  · unfold zpD at h
    split at h <;> simpa using h
def zpK (c : Bool) : List D → Option (List D)
  | [x, y] => match sqOf x, sqOf y with
    | some (t, ds), some (u, es) => if zipOk c t u ds.length es.length = true then some (zipD ds es) else none
    | _, _ => none
  | _ => none
@[simp] theorem wp_zipK {c : Bool} {a : ML} : Wp (mZipK c a r p) QL ↔ Wp (a r p) fun xs p => ∃ ds, zpK c xs = some ds ∧ QL ds p := by
  simp only [mZipK, wp_bnd]
  refine ⟨fun h => h.mono fun a p h => ?_, fun h => h.mono fun a p h => ?_⟩
  · unfold zpK
    split at h
    · split at h
      · simp only [wp_ite, wp_some, wp_none] at h
        split at h
        · rename_i h1 h2 h3
          exact ⟨_, by simp only [h1, h2, h3, if_true], h⟩
        · exact h.elim
      · simp at h
    · simp at h
  · unfold zpK at h
    split at h
    · split at h
      · split at h
        · rename_i h1 h2 h3
          simp only [h1, h2, h3, if_true, wp_some]
          simpa using h
        · simp at h
      · simp at h
    · simp at h
end
/-! # Statements -/
def Ws (o : Option Out) (nx : Sv → List Int → Prop) (rt : D → List Int → Prop) (bk ct : Sv → List Int → Prop) : Prop := match o with
  | some (.nx r p) => nx r p
  | some (.rt d p) => rt d p
  | some (.bk r p) => bk r p
  | some (.ct r p) => ct r p
  | none => False
section
variable {r : Sv} {p : List Int} {nx bk ct : Sv → List Int → Prop} {rt : D → List Int → Prop}
theorem Ws.mono {o : Option Out} {nx' bk' ct' : Sv → List Int → Prop} {rt' : D → List Int → Prop} (h : Ws o nx rt bk ct) (h1 : ∀ r p, nx r p → nx' r p) (h2 : ∀ r p, rt r p → rt' r p) (h3 : ∀ r p, bk r p → bk' r p) (h4 : ∀ r p, ct r p → ct' r p) : Ws o nx' rt' bk' ct' := by
  unfold Ws at *
  split at h
  · exact h1 _ _ h
  · exact h2 _ _ h
  · exact h3 _ _ h
  · exact h4 _ _ h
  · exact h.elim
@[simp] theorem ws_next : Ws (sNext r p) nx rt bk ct ↔ nx r p := Iff.rfl
@[simp] theorem ws_brk : Ws (sBrk r p) nx rt bk ct ↔ bk r p := Iff.rfl
@[simp] theorem ws_cnt : Ws (sCnt r p) nx rt bk ct ↔ ct r p := Iff.rfl
@[simp] theorem ws_nev : Ws (sNev r p) nx rt bk ct ↔ False := Iff.rfl
@[simp] theorem ws_retN : Ws (sRetN r p) nx rt bk ct ↔ rt .non p := Iff.rfl
@[simp] theorem ws_seq {a b : MS} : Ws (sSeq a b r p) nx rt bk ct ↔ Ws (a r p) (fun r p => Ws (b r p) nx rt bk ct) rt bk ct := by
  unfold sSeq
  cases a r p with
  | none => rfl
  | some o => cases o <;> rfl
@[simp] theorem ws_asg {i : Nat} {me : M} : Ws (sAsg i me r p) nx rt bk ct ↔ Wp (me (shR r) p) fun d p => nx (r.set i (.sh d)) p := by
  unfold sAsg
  cases me (shR r) p with
  | none => simp [Ws]
  | some a => obtain ⟨a, p⟩ := a; simp [Ws]
@[simp] theorem ws_asgV {i : Nat} {me : M} : Ws (sAsgV i me r p) nx rt bk ct ↔ Wp (me (viR r) p) fun d p => sc d = true ∧ nx (r.set i (.sh d)) p := by
  unfold sAsgV
  cases me (viR r) p with
  | none => simp [Ws]
  | some a =>
    obtain ⟨a, p⟩ := a
    simp only [wp_some]
    cases sc a <;> simp [Ws]
@[simp] theorem ws_new {i : Nat} {mf : ML} : Ws (sNew i mf r p) nx rt bk ct ↔ Wp (mf (shR r) p) fun ds p => i < r.length ∧ nx (r.set i (.ow (.lst ds))) p := by
  unfold sNew
  cases mf (shR r) p with
  | none => simp [Ws]
  | some a =>
    obtain ⟨a, p⟩ := a
    simp only [wp_some]
    by_cases h : i < r.length <;> simp [Ws, h]
@[simp] theorem ws_app {i : Nat} {me : M} : Ws (sApp i me r p) nx rt bk ct ↔ ∃ ds, owL r i = some ds ∧ Wp (me (shR r) p) fun d p => ds.length < lim ∧ nx (r.set i (.ow (.lst (ds ++ [d])))) p := by
  unfold sApp
  cases owL r i with
  | none => simp [Ws]
  | some ds =>
    cases me (shR r) p with
    | none => simp [Ws]
    | some a =>
      obtain ⟨a, p⟩ := a
      by_cases h : ds.length < lim <;> simp [Ws, h]
@[simp] theorem ws_drop {me : M} : Ws (sDrop me r p) nx rt bk ct ↔ Wp (me (viR r) p) fun _ p => nx r p := by
  unfold sDrop
  cases me (viR r) p with
  | none => simp [Ws]
  | some a => obtain ⟨a, p⟩ := a; simp [Ws]
@[simp] theorem ws_ret {fx : Bool} {me : M} : Ws (sRet fx me r p) nx rt bk ct ↔ Wp (me (viR r) p) fun d p => (!fx || np d) = true ∧ rt d p := by
  unfold sRet
  cases me (viR r) p with
  | none => simp [Ws]
  | some a =>
    obtain ⟨a, p⟩ := a
    simp only [wp_some]
    by_cases h : (!fx || np a) = true
    · simp [Ws, h]
    · simp [Ws, h]
@[simp] theorem ws_if {t : MB} {a b : MS} : Ws (sIf t a b r p) nx rt bk ct ↔ Wp (t (viR r) p) fun x p => if x = true then Ws (a r p) nx rt bk ct else Ws (b r p) nx rt bk ct := by
  unfold sIf
  cases t (viR r) p with
  | none => simp [Ws]
  | some x =>
    obtain ⟨x, p⟩ := x
    cases x <;> simp
@[simp] theorem ws_aug {i : Nat} {f : D → D → Option D} {me : M} : Ws (sAug i f me r p) nx rt bk ct ↔ ∃ x, (shR r)[i]? = some (some x) ∧ Wp (me (shR r) p) fun d p => ∃ z, f x d = some z ∧ nx (r.set i (.sh z)) p := by
  unfold sAug
  cases (shR r)[i]? with
  | none => simp [Ws]
  | some x =>
    cases x with
    | none => simp [Ws]
    | some x =>
      cases me (shR r) p with
      | none => simp [Ws]
      | some a =>
        obtain ⟨a, p⟩ := a
        cases h : f x a <;> simp [Ws, h]
@[simp] theorem ws_par {i j : Nat} {ms : ML} : Ws (sPar i j ms r p) nx rt bk ct ↔ Wp (ms (shR r) p) fun ds p => Pr2 ds fun x y => nx ((r.set i (.sh x)).set j (.sh y)) p := by
  unfold sPar
  split
  · rename_i x y p e
    rw [e, wp_some]
    rfl
  · rename_i h
    cases e : ms (shR r) p with
    | none => simp [Ws]
    | some a =>
      obtain ⟨ds, p⟩ := a
      simp only [Ws, wp_some, false_iff]
      intro hq
      obtain ⟨x, y, rfl, _⟩ := pr2_of hq
      exact h x y p e
@[simp] theorem ws_parO {i j : Nat} {me : M} {mf : ML} : Ws (sParO i j me mf r p) nx rt bk ct ↔ Wp (me (shR r) p) fun x p => Wp (mf (shR r) p) fun ds p => j < r.length ∧ nx ((r.set i (.sh x)).set j (.ow (.lst ds))) p := by
  unfold sParO
  cases me (shR r) p with
  | none => simp [Ws]
  | some a =>
    obtain ⟨a, p⟩ := a
    simp only [wp_some]
    cases mf (shR r) p with
    | none => simp [Ws]
    | some b =>
      obtain ⟨b, p⟩ := b
      by_cases h : j < r.length <;> simp [Ws, h]
@[simp] theorem ws_asgG {me : M} {mg : GS} : Ws (sAsgG me mg r p) nx rt bk ct ↔ Wp (me (shR r) p) fun d p => ∃ x, mg d r p = some x ∧ nx x.1 x.2 := by
  unfold sAsgG
  cases me (shR r) p with
  | none => simp [Ws]
  | some a =>
    obtain ⟨a, p⟩ := a
    rw [wp_some]
    cases h : mg a r p with
    | none => simp [Ws, h]
    | some x => exact ⟨fun q => ⟨x, rfl, by simpa [Ws, h] using q⟩, fun ⟨x', e, q⟩ => by cases e; simpa [Ws, h] using q⟩
theorem ws_popI {i : Nat} {mg : GS} {ds : List D} {d : D} {x : Sv × List Int} (h1 : owL r i = some ds) (h2 : ds[ds.length - 1]? = some d) (h3 : mg d (r.set i (.ow (.lst ds.dropLast))) p = some x) (h : nx x.1 x.2) : Ws (sPop i mg r p) nx rt bk ct := by
  unfold sPop
  simp only [h1, h2, h3]
  exact h
@[simp] theorem ws_for {fx : Bool} {mi : ML} {mg : GS} {b : MS} : Ws (sFor fx mi mg b r p) nx rt bk ct ↔ Wp (mi (shR r) p) fun ds p => (!fx || nps ds) = true ∧ Ws (forGo mg b ds r p) nx rt bk ct := by
  unfold sFor
  cases mi (shR r) p with
  | none => simp [Ws]
  | some a =>
    obtain ⟨a, p⟩ := a
    simp only [wp_some]
    by_cases h : (!fx || nps a) = true
    · simp [h]
    · simp [Ws, h]
@[simp] theorem ws_pool {i : Nat} {mf : ML} : Ws (sPool i mf r p) nx rt bk ct ↔ Wp (mf (shR r) p) fun ds _ => ∃ ns, asInts ds = some ns ∧ i < r.length ∧ nx ((r.map Cl.clean).set i (.sh .pool)) ns := by
  unfold sPool
  cases mf (shR r) p with
  | none => simp [Ws]
  | some a =>
    obtain ⟨a, p⟩ := a
    simp only [wp_some]
    cases e : asInts a with
    | none => simp [Ws]
    | some ns => by_cases h : i < r.length <;> simp [Ws, h]
theorem wp_runF {N n : Nat} {m : MS} {ds : List D} {Q : D → List Int → Prop} : Wp (runF N n m ds p) Q ↔ Ws (m (startR N n ds) p) (fun _ p => Q .non p) Q (fun _ _ => False) (fun _ _ => False) := by
  unfold runF
  cases m (startR N n ds) p with
  | none => simp [Ws]
  | some o => cases o <;> simp [Ws]
/-- for, with an invariant over what is left -/
theorem ws_forGo {mg : GS} {b : MS} (I : List D → Sv → List Int → Prop) : ∀ {ds : List D} {r : Sv} {p : List Int}, I ds r p →
    (∀ d ds r p, I (d :: ds) r p → ∃ r1 p1, mg d r p = some (r1, p1) ∧ Ws (b r1 p1) (fun r p => I ds r p) rt (fun r p => nx r p) (fun r p => I ds r p)) → (∀ r p, I [] r p → nx r p) → Ws (forGo mg b ds r p) nx rt bk ct
  | [], r, p, h, _, hd => hd r p h
  | d :: ds, r, p, h, hs, hd => by
    obtain ⟨r1, p1, e, h1⟩ := hs d ds r p h
    unfold forGo
    simp only [e]
    cases eb : b r1 p1 with
    | none => rw [eb] at h1; exact h1.elim
    | some o =>
      rw [eb] at h1
      cases o with
      | nx r2 p2 => exact ws_forGo I (show I ds r2 p2 from h1) hs hd
      | ct r2 p2 => exact ws_forGo I (show I ds r2 p2 from h1) hs hd
      | bk r2 p2 => exact h1
      | rt d p => exact h1
/-- while, with an invariant and a measure -/
theorem ws_wh {t : MB} {b : MS} (I : Nat → Sv → List Int → Prop) (hs : ∀ k r p, I k r p → Wp (t (viR r) p) fun x p => if x = true then Ws (b r p) (fun r p => ∃ j, j < k ∧ I j r p) rt nx (fun r p => ∃ j, j < k ∧ I j r p) else nx r p) :
    ∀ {n k : Nat} {r : Sv} {p : List Int}, k < n → I k r p → Ws (whGo t b n r p) nx rt bk ct
  | 0, k, r, p, h, _ => absurd h (Nat.not_lt_zero _)
  | n + 1, k, r, p, hk, h => by
    have h1 := hs k r p h
    unfold whGo
    cases et : t (viR r) p with
    | none => rw [et] at h1; simp at h1
    | some x =>
      obtain ⟨x, p1⟩ := x
      rw [et, wp_some] at h1
      cases x with
      | false =>
        simp only [Bool.false_eq_true, if_false] at h1
        exact h1
      | true =>
        simp only [if_true] at h1
        simp only
        cases eb : b r p1 with
        | none => rw [eb] at h1; exact h1.elim
        | some o =>
          rw [eb] at h1
          cases o with
          | nx r2 p2 => obtain ⟨j, hj, h2⟩ := (show ∃ j, j < k ∧ I j r2 p2 from h1); exact ws_wh I hs (show j < n by omega) h2
          | ct r2 p2 => obtain ⟨j, hj, h2⟩ := (show ∃ j, j < k ∧ I j r2 p2 from h1); exact ws_wh I hs (show j < n by omega) h2
          | bk r2 p2 => exact h1
          | rt d p => exact h1
end
/-- a comprehension, with an invariant over what is left and what is made -/
theorem wp_lcGo {mg : D → Ev → Option Ev} {mt : MB} {me : M} {r0 : Ev} (I : List D → List D → List Int → Prop) : ∀ {ds acc : List D} {p : List Int}, I ds acc p →
    (∀ d ds acc p, I (d :: ds) acc p → ∃ r1, mg d r0 = some r1 ∧ Wp (mt r1 p) fun b p => if b = true then Wp (me r1 p) fun y p => I ds (acc ++ [y]) p else I ds acc p) → Wp (lcGo mg mt me r0 ds p) fun ys p => I [] (acc ++ ys) p
  | [], acc, p, h, _ => by simpa [lcGo] using h
  | d :: ds, acc, p, h, hs => by
    obtain ⟨r1, e, h1⟩ := hs d ds acc p h
    unfold lcGo
    simp only [e, wp_bnd]
    refine h1.mono fun b p1 h2 => ?_
    cases b with
    | false =>
      simp only [Bool.false_eq_true, if_false] at h2 ⊢
      exact wp_lcGo I h2 hs
    | true =>
      simp only [if_true] at h2 ⊢
      rw [wp_bnd]
      refine h2.mono fun y p2 h3 => ?_
      rw [wp_bnd]
      refine (wp_lcGo I h3 hs).mono fun ys p3 h4 => ?_
      rw [wp_some]
      rwa [List.append_assoc] at h4
/-- a comprehension whose turns are plain -/
theorem lcGo_plain {mg : D → Ev → Option Ev} {mt : MB} {me : M} {r0 : Ev} {p : List Int} (t : D → Bool) (f : D → D) : ∀ {ds : List D}, (∀ d ∈ ds, ∃ r1, mg d r0 = some r1 ∧ mt r1 p = some (t d, p) ∧ (t d = true → me r1 p = some (f d, p))) → lcGo mg mt me r0 ds p = some ((ds.filter t).map f, p)
  | [], _ => rfl
  | d :: ds, h => by
    obtain ⟨r1, e1, e2, e3⟩ := h d List.mem_cons_self
    have ih := lcGo_plain t f (ds := ds) fun d hd => h d (List.mem_cons_of_mem _ hd)
    unfold lcGo
    simp only [e1, e2, bnd]
    cases ht : t d with
    | true => simp only [if_true, e3 ht, ih, List.filter_cons, ht, List.map_cons]
    | false => simp [ih, List.filter_cons, ht]
end Dt

namespace Dt
open PySem PySem.Spec PyProof.Rows L2
/-! # The join: what the module holds -/
section
variable {K : PySem.W.Frag} {mg : Str → Option Value} {h : Heap}
theorem mkF {x : Str} {st : Stmt} {ps : List Str} {f : Addr} {oc : Value} {od an : Option Addr} {osl : Array (Option Value)} {kV doc pm cdv ct : Value} (X : K.In h) (G : h.Ns mainGlobals mg)
    (a : PySem.W.nsIn K mainGlobals x = some (some (.ref f))) (l : K.lookup f = some ⟨oc, od, .func (PySem.W.fnOf x x (defArgs st) (defBody st) (defScope st) .none kV doc pm an cdv ct), osl⟩)
    (c : PySem.W.codeIn K cdv x = true) (k : PySem.W.keepIn K (.ref f) = true)
    (b : ∀ (kV doc pm : Value) (an : Option Addr) (cdv ct : Value) (us : List Value), us.length = ps.length → bindArgs (PySem.W.fnOf x x (defArgs st) (defBody st) (defScope st) .none kV doc pm an cdv ct) ⟨us, []⟩ = pure (ps.zip us)) :
    ∃ a fd, Fun K x x st a fd ∧ mg x = some (.ref a) ∧ Binds K fd ps [] :=
  have F := fun_mk (st := st) l c k
  ⟨f, _, F, PySem.W.mg_of X G a, F.binds b⟩
theorem bt_of {x y : Str} {st : Stmt} {f : Addr} {fd : FuncData} (F : Fun K x x st f fd) (b : ∀ (kV doc pm : Value) (an : Option Addr) (cdv ct : Value) (v : Value), bindArgs (PySem.W.fnOf x x (defArgs st) (defBody st) (defScope st) .none kV doc pm an cdv ct) ⟨[v], []⟩ = pure [(y, v)]) (s : Shared) (v : Value) : BindsTo s fd ⟨[v], []⟩ [(y, v)] := by
  obtain ⟨oc, od, kV, doc, pm, an, cdv, ct, osl, rfl, _, _⟩ := F.ex
  exact .of_eq (b _ _ _ _ _ _ _)
theorem spL_law {m : MF} {a : Addr} {ns : List Int} {H : Hp} (hS : SqL K H a (ns.map V.int)) (ok : Wp (m [.scr ns] []) fun d _ => d = .bl true) (E : XK) : spL K 1 m [.ref a] H (fun v _ => v = .bl true) E := by
  obtain ⟨d, q, e, rfl⟩ := ok
  have hn : hid (fun _ => False) H = H := funext fun b => if_neg id
  refine ⟨fun _ => False, [], [.scr ns], _, q, ⟨fun a h => (by cases h), fun a h => h.elim⟩, .cons (.scr ?_) .nil, rfl, e, fun v H' _ _ r => ?_⟩
  · rw [hn]; exact hS
  · cases r; rfl
end
end Dt

namespace Dt
open PySem PySem.Spec PyProof.Rows L2
/-! # The same, backwards -/
section
variable {r : Ev} {p : List Int} {Q : D → List Int → Prop} {QB : Bool → List Int → Prop} {QL : List D → List Int → Prop} {QO : Option Int → List Int → Prop}
theorem wi_var {i : Nat} {d : D} (h : r[i]? = some (some d)) (q : Q d p) : Wp (mVar i r p) Q := by unfold mVar; rw [h]; exact wp_some.mpr q
theorem wi_c {d : D} (h : Q d p) : Wp (mC d r p) Q := wp_c.mpr h
theorem wi_op {f : D → D → Option D} {a b : M} (h : Wp (a r p) fun x p => Wp (b r p) fun y p => ∃ z, f x y = some z ∧ Q z p) : Wp (mOp f a b r p) Q := wp_op.mpr h
theorem wi_un {f : D → Option D} {a : M} (h : Wp (a r p) fun x p => ∃ z, f x = some z ∧ Q z p) : Wp (mUn f a r p) Q := wp_un.mpr h
theorem wi_nil (h : QL [] p) : Wp (mNil r p) QL := wp_nil.mpr h
theorem wi_cons {a : M} {b : ML} (h : Wp (a r p) fun x p => Wp (b r p) fun xs p => QL (x :: xs) p) : Wp (mCons a b r p) QL := wp_cons.mpr h
theorem wi_cb {f : List D → Option D} {a : ML} (h : Wp (a r p) fun xs p => ∃ z, f xs = some z ∧ Q z p) : Wp (mCB f a r p) Q := wp_cb.mpr h
theorem wi_mt {f : D → List D → Option D} {o : M} {a : ML} (h : Wp (o r p) fun x p => Wp (a r p) fun xs p => ∃ z, f x xs = some z ∧ Q z p) : Wp (mMt f o a r p) Q := wp_mt.mpr h
theorem wi_tst {a : M} (h : Wp (a r p) fun x p => ∃ b, x = .bl b ∧ QB b p) : Wp (mTst a r p) QB := wp_tst.mpr h
theorem wi_tru {a : M} (h : Wp (a r p) fun x p => ∃ b, dTru x = some b ∧ QB b p) : Wp (mTru a r p) QB := wp_tru.mpr h
theorem wi_and {a b : MB} (h : Wp (a r p) fun x p => if x = true then Wp (b r p) QB else QB false p) : Wp (mAnd a b r p) QB := wp_and.mpr h
theorem wi_or {a b : MB} (h : Wp (a r p) fun x p => if x = true then QB true p else Wp (b r p) QB) : Wp (mOr a b r p) QB := wp_or.mpr h
theorem wi_not {a : MB} (h : Wp (a r p) fun x p => QB (!x) p) : Wp (mNot a r p) QB := wp_not.mpr h
theorem wi_if {t : MB} {a b : M} (h : Wp (t r p) fun x p => if x = true then Wp (a r p) Q else Wp (b r p) Q) : Wp (mIf t a b r p) Q := wp_if.mpr h
theorem wi_andV {a b : M} (h : Wp (a r p) fun x p => ∃ k, dTru x = some k ∧ if k = true then Wp (b r p) Q else Q x p) : Wp (mAndV a b r p) Q := wp_andV.mpr h
theorem wi_orV {a b : M} (h : Wp (a r p) fun x p => ∃ k, dTru x = some k ∧ if k = true then Q x p else Wp (b r p) Q) : Wp (mOrV a b r p) Q := wp_orV.mpr h
theorem wi_notV {a : M} (h : Wp (a r p) fun x p => ∃ k, dTru x = some k ∧ Q (.bl (!k)) p) : Wp (mNotV a r p) Q := wp_notV.mpr h
theorem wi_tup {a : ML} (h : Wp (a r p) fun xs p => xs.length ≤ lim ∧ Q (.tup xs) p) : Wp (mTup a r p) Q := wp_tup.mpr h
theorem wi_lst {a : ML} (h : Wp (a r p) fun xs p => xs.length ≤ lim ∧ Q (.lst xs) p) : Wp (mLst a r p) Q := wp_lst.mpr h
theorem wi_ofF {a : ML} (h : Wp (a r p) fun xs p => Q (.lst xs) p) : Wp (mOfF a r p) Q := wp_ofF.mpr h
theorem wi_fresh {a : ML} (h : Wp (a r p) fun xs p => xs.length ≤ lim ∧ QL xs p) : Wp (mFresh a r p) QL := by
  unfold mFresh
  refine wp_bnd.mpr (h.mono fun xs p h => ?_)
  rw [if_pos h.1]
  exact wp_some.mpr h.2
theorem wi_isi {T : String} {a : M} (h : Wp (a r p) fun x p => ∃ z, dIsi T x = some z ∧ Q z p) : Wp (mIsi T a r p) Q := wp_isi.mpr h
theorem wi_sl {a : M} {lo hi : MO} (h : Wp (a r p) fun x p => Wp (lo r p) fun l p => Wp (hi r p) fun h p => ∃ z, dSl x l h = some z ∧ Q z p) : Wp (mSl a lo hi r p) Q := wp_sl.mpr h
theorem wi_oNone (h : QO none p) : Wp (oNone r p) QO := wp_oNone.mpr h
theorem wi_oSome {a : M} (h : Wp (a r p) fun x p => ∃ i, x = .int i ∧ QO (some i) p) : Wp (oSome a r p) QO := wp_oSome.mpr h
theorem wi_call {n : Nat} {m : MF} {a : ML} (h : Wp (a r p) fun ds p => ds.length = n ∧ Wp (m ds p) Q) : Wp (mCall n m a r p) Q := wp_call.mpr h
theorem wi_callF {n : Nat} {m : MFl} {a : ML} (h : Wp (a r p) fun ds p => ds.length = n ∧ Wp (m ds p) QL) : Wp (mCallF n m a r p) QL := wp_callF.mpr h
theorem wi_items {a : M} (h : Wp (a r p) fun x p => ∃ z, itemsOf x = some z ∧ QL z p) : Wp (mItems a r p) QL := wp_items.mpr h
theorem wi_lc {vs : List Nat} {mi : ML} {mg : D → Ev → Option Ev} {mt : MB} {me : M} (h : Wp (mi r p) fun ds p => ds.length ≤ lim ∧ Wp (lcGo mg mt me (wipeR r vs) ds p) QL) : Wp (mLc vs mi mg mt me r p) QL := wp_lc.mpr h
theorem wi_ix {a b : M} (h : Wp (a r p) fun x p => Wp (b r p) fun y p => ∃ z, ixD x y p = some z ∧ Q z p) : Wp (mIx a b r p) Q := wp_ix.mpr h
theorem wi_chain {f g : D → D → Option D} {a b c : M} (h : Wp (a r p) fun x p => Wp (b r p) fun y p => ∃ z, f x y = some z ∧ ∃ k, z = .bl k ∧ if k = true then Wp (c r p) fun w p => ∃ z, g y w = some z ∧ Q z p else Q (.bl false) p) : Wp (mChain f g a b c r p) Q := wp_chain.mpr h
theorem wi_star {a : M} {b : ML} (h : Wp (a r p) fun x p => ∃ ds, (x = .lst ds ∨ x = .tup ds) ∧ Wp (b r p) fun ys p => QL (ds ++ ys) p) : Wp (mStar a b r p) QL := wp_star.mpr h
theorem wi_rng1 {a : ML} (h : Wp (a r p) fun xs p => ∃ n, xs = [.int n] ∧ rngOk n = true ∧ QL (rngD 0 n.toNat) p) : Wp (mRng1 a r p) QL := wp_rng1.mpr h
theorem wi_rng2 {a : ML} (h : Wp (a r p) fun xs p => Pr2 xs fun x y => ∃ m, x = .int m ∧ ∃ n, y = .int n ∧ (rngOk m && rngOk n) = true ∧ QL (rngD m (n - m).toNat) p) : Wp (mRng2 a r p) QL := wp_rng2.mpr h
theorem wi_enum {a : ML} (h : Wp (a r p) fun xs p => ∃ ds, xs = [.lst ds] ∧ QL (enumD ds) p) : Wp (mEnum a r p) QL := wp_enum.mpr h
theorem wi_enumT {a : ML} (h : Wp (a r p) fun xs p => ∃ ds, xs = [.tup ds] ∧ QL (enumD ds) p) : Wp (mEnumT a r p) QL := wp_enumT.mpr h
theorem wi_zip {a : ML} (h : Wp (a r p) fun xs p => ∃ ds, zpD xs = some ds ∧ QL ds p) : Wp (mZip a r p) QL := wp_zip.mpr h
theorem wi_zipK {c : Bool} {a : ML} (h : Wp (a r p) fun xs p => ∃ ds, zpK c xs = some ds ∧ QL ds p) : Wp (mZipK c a r p) QL := wp_zipK.mpr h
theorem wi_yes (h : QB true p) : Wp (tYesM r p) QB := wp_some.mpr h
theorem ite_t {c : Bool} {A B : Prop} (h : c = true) (a : A) : if c = true then A else B := by rw [if_pos h]; exact a
theorem ite_f {c : Bool} {A B : Prop} (h : c = false) (b : B) : if c = true then A else B := by rw [if_neg (by rw [h]; decide)]; exact b
theorem ite_b {c : Bool} {A B : Prop} (a : c = true → A) (b : c = false → B) : if c = true then A else B := by
  cases c
  · exact ite_f rfl (b rfl)
  · exact ite_t rfl (a rfl)
theorem star_l {ds : List D} {P : List D → Prop} (h : P ds) : ∃ es, (D.lst ds = .lst es ∨ D.lst ds = .tup es) ∧ P es := ⟨ds, .inl rfl, h⟩
theorem star_t {ds : List D} {P : List D → Prop} (h : P ds) : ∃ es, (D.tup ds = .lst es ∨ D.tup ds = .tup es) ∧ P es := ⟨ds, .inr rfl, h⟩
end
section
variable {r : Sv} {p : List Int} {nx bk ct : Sv → List Int → Prop} {rt : D → List Int → Prop}
theorem si_next (h : nx r p) : Ws (sNext r p) nx rt bk ct := h
theorem si_brk (h : bk r p) : Ws (sBrk r p) nx rt bk ct := h
theorem si_cnt (h : ct r p) : Ws (sCnt r p) nx rt bk ct := h
theorem si_retN (h : rt .non p) : Ws (sRetN r p) nx rt bk ct := h
theorem si_seq {a b : MS} (h : Ws (a r p) (fun r p => Ws (b r p) nx rt bk ct) rt bk ct) : Ws (sSeq a b r p) nx rt bk ct := ws_seq.mpr h
theorem si_asg {i : Nat} {me : M} (h : Wp (me (shR r) p) fun d p => nx (r.set i (.sh d)) p) : Ws (sAsg i me r p) nx rt bk ct := ws_asg.mpr h
theorem si_asgV {i : Nat} {me : M} (h : Wp (me (viR r) p) fun d p => sc d = true ∧ nx (r.set i (.sh d)) p) : Ws (sAsgV i me r p) nx rt bk ct := ws_asgV.mpr h
theorem si_new {i : Nat} {mf : ML} (h : Wp (mf (shR r) p) fun ds p => i < r.length ∧ nx (r.set i (.ow (.lst ds))) p) : Ws (sNew i mf r p) nx rt bk ct := ws_new.mpr h
theorem si_app {i : Nat} {me : M} {ds : List D} (h1 : owL r i = some ds) (h : Wp (me (shR r) p) fun d p => ds.length < lim ∧ nx (r.set i (.ow (.lst (ds ++ [d])))) p) : Ws (sApp i me r p) nx rt bk ct := ws_app.mpr ⟨ds, h1, h⟩
theorem si_drop {me : M} (h : Wp (me (viR r) p) fun _ p => nx r p) : Ws (sDrop me r p) nx rt bk ct := ws_drop.mpr h
theorem si_ret {me : M} (h : Wp (me (viR r) p) fun d p => rt d p) : Ws (sRet false me r p) nx rt bk ct := ws_ret.mpr (h.mono fun d p q => ⟨rfl, q⟩)
theorem si_retX {me : M} (h : Wp (me (viR r) p) fun d p => np d = true ∧ rt d p) : Ws (sRet true me r p) nx rt bk ct := ws_ret.mpr (h.mono fun d p q => ⟨by simpa using q.1, q.2⟩)
theorem si_if {t : MB} {a b : MS} (h : Wp (t (viR r) p) fun x p => if x = true then Ws (a r p) nx rt bk ct else Ws (b r p) nx rt bk ct) : Ws (sIf t a b r p) nx rt bk ct := ws_if.mpr h
theorem si_aug {i : Nat} {f : D → D → Option D} {me : M} {x : D} (h1 : (shR r)[i]? = some (some x)) (h : Wp (me (shR r) p) fun d p => ∃ z, f x d = some z ∧ nx (r.set i (.sh z)) p) : Ws (sAug i f me r p) nx rt bk ct := ws_aug.mpr ⟨x, h1, h⟩
theorem si_par {i j : Nat} {ms : ML} (h : Wp (ms (shR r) p) fun ds p => Pr2 ds fun x y => nx ((r.set i (.sh x)).set j (.sh y)) p) : Ws (sPar i j ms r p) nx rt bk ct := ws_par.mpr h
theorem si_parO {i j : Nat} {me : M} {mf : ML} (h : Wp (me (shR r) p) fun x p => Wp (mf (shR r) p) fun ds p => j < r.length ∧ nx ((r.set i (.sh x)).set j (.ow (.lst ds))) p) : Ws (sParO i j me mf r p) nx rt bk ct := ws_parO.mpr h
theorem si_asgG {me : M} {mg : GS} (h : Wp (me (shR r) p) fun d p => ∃ x, mg d r p = some x ∧ nx x.1 x.2) : Ws (sAsgG me mg r p) nx rt bk ct := ws_asgG.mpr h
theorem si_for {mi : ML} {mg : GS} {b : MS} (h : Wp (mi (shR r) p) fun ds p => Ws (forGo mg b ds r p) nx rt bk ct) : Ws (sFor false mi mg b r p) nx rt bk ct := ws_for.mpr (h.mono fun _ _ q => ⟨rfl, q⟩)
theorem si_forX {mi : ML} {mg : GS} {b : MS} (h : Wp (mi (shR r) p) fun ds p => nps ds = true ∧ Ws (forGo mg b ds r p) nx rt bk ct) : Ws (sFor true mi mg b r p) nx rt bk ct := ws_for.mpr (h.mono fun _ _ q => ⟨by simpa using q.1, q.2⟩)
theorem si_pool {i : Nat} {mf : ML} (h : Wp (mf (shR r) p) fun ds _ => ∃ ns, asInts ds = some ns ∧ i < r.length ∧ nx ((r.map Cl.clean).set i (.sh .pool)) ns) : Ws (sPool i mf r p) nx rt bk ct := ws_pool.mpr h
end
theorem fi_run {N n : Nat} {m : MS} {ds : List D} {p : List Int} {Q : D → List Int → Prop} (h : Ws (m (startR N n ds) p) (fun _ p => Q .non p) Q (fun _ _ => False) (fun _ _ => False)) : Wp (runF N n m ds p) Q := wp_runF.mpr h
/-! # Values of the plain operations -/
theorem ev_mod {i j : Int} (h : 0 < j) : dMod (.int i) (.int j) = some (.int (i % j)) := by simp [dMod, dII, h]
theorem ev_div {i j : Int} (h : 0 < j) (h2 : j < 1073741824) : dDiv (.int i) (.int j) = some (.int (i / j)) := by simp [dDiv, dII, h, h2]
theorem ev_divmod {i j : Int} (h : 0 < j) (h2 : j < 1073741824) : dDivmod [.int i, .int j] = some (.tup [.int (i / j), .int (i % j)]) := by simp [dDivmod, h, h2]
theorem ev_mulR {i j : Int} (h : -18446744073709551616 < j) (h2 : j < 18446744073709551616) : dMul (.int i) (.int j) = some (.int (i * j)) := by
  show (if _ then _ else _) = _
  refine if_pos ?_
  simp only [Bool.or_eq_true, Bool.and_eq_true, decide_eq_true_eq]
  exact .inr ⟨by simpa using h, by simpa using h2⟩
theorem ev_mulL {i j : Int} (h : -18446744073709551616 < i) (h2 : i < 18446744073709551616) : dMul (.int i) (.int j) = some (.int (i * j)) := by
  show (if _ then _ else _) = _
  refine if_pos ?_
  simp only [Bool.or_eq_true, Bool.and_eq_true, decide_eq_true_eq]
  exact .inl ⟨by simpa using h, by simpa using h2⟩
end Dt

namespace Dt
open PySem PySem.Spec PyProof.Rows L2
/-! # sorted of pairs, items of dicts -/
def lexLe (a b : Str × Int) : Bool := !SrtS.lexS b a
def psort (xs : List (Str × Int)) : List (Str × Int) := xs.mergeSort lexLe
theorem lexS_iff {a b : Str × Int} : SrtS.lexS a b = false ↔ (a.1 = b.1 ∧ b.2 ≤ a.2) ∨ (a.1 ≠ b.1 ∧ b.1.cps.toList ≤ a.1.cps.toList) := by
  unfold SrtS.lexS
  by_cases e : a.1 = b.1
  · rw [if_pos e]
    constructor
    · intro h
      exact .inl ⟨e, by have := of_decide_eq_false h; omega⟩
    · rintro (⟨_, h⟩ | ⟨h, _⟩)
      · exact decide_eq_false (by omega)
      · exact absurd e h
  · rw [if_neg e, SrtS.lexS_le]
    constructor
    · exact fun h => .inr ⟨e, h⟩
    · rintro (⟨h, _⟩ | ⟨_, h⟩)
      · exact absurd h e
      · exact h
theorem lexLe_anti {a b : Str × Int} (h1 : lexLe a b = true) (h2 : lexLe b a = true) : a = b := by
  unfold lexLe at *
  rw [Bool.not_eq_true', lexS_iff] at h1 h2
  obtain ⟨a1, a2⟩ := a
  obtain ⟨b1, b2⟩ := b
  rcases h1 with ⟨e1, h1⟩ | ⟨e1, h1⟩
  · rcases h2 with ⟨e2, h2⟩ | ⟨e2, h2⟩
    · simp only at e1 h1 h2
      rw [e1, show a2 = b2 by omega]
    · exact absurd e1.symm e2
  · rcases h2 with ⟨e2, h2⟩ | ⟨e2, h2⟩
    · exact absurd e2.symm e1
    · exact absurd (str_cps_inj (List.le_antisymm h2 h1)).symm (fun z => e1 z.symm)
theorem lexLe_trans (a b c : Str × Int) (h1 : lexLe a b = true) (h2 : lexLe b c = true) : lexLe a c = true := by
  unfold lexLe at *
  rw [Bool.not_eq_true'] at *
  exact (SrtS.swo_lexS (fun v => match v with | .int 0 _ => a | .int 1 _ => b | _ => c)).tr (.int 0 0) (.int 1 0) (.int 2 0) h1 h2
theorem lexLe_total (a b : Str × Int) : (lexLe a b || lexLe b a) = true := by
  unfold lexLe
  cases e : SrtS.lexS b a with
  | false => rfl
  | true =>
    have := (SrtS.swo_lexS (fun v => match v with | .int 0 _ => b | _ => a)).asym (.int 0 0) (.int 1 0) e
    have h2 : SrtS.lexS a b = false := this
    rw [h2]
    rfl
theorem psort_of {ys xs : List (Str × Int)} (hp : ys.Perm xs) (hs : ys.Pairwise fun x y => SrtS.lexS y x = false) : ys = psort xs := by
  have hw : ys.Pairwise fun a b => lexLe a b = true := hs.imp fun h => by unfold lexLe; rw [h]; rfl
  exact List.Perm.eq_of_pairwise (le := fun a b => lexLe a b = true) (fun a b _ _ h1 h2 => lexLe_anti h1 h2) hw (List.pairwise_mergeSort lexLe_trans lexLe_total xs) (hp.trans (List.mergeSort_perm xs lexLe).symm)
abbrev dPr (q : Str × Int) : D := .tup [.str q.1, .int q.2]
def asPr : D → Option (Str × Int)
  | .tup [.str x, .int i] => some (x, i)
  | _ => none
def asPrs : List D → Option (List (Str × Int))
  | [] => some []
  | d :: ds => match asPr d, asPrs ds with
    | some q, some qs => some (q :: qs)
    | _, _ => none
theorem asPrs_eq : ∀ {ds : List D} {qs : List (Str × Int)}, asPrs ds = some qs → ds = qs.map dPr
  | [], _, h => by cases h; rfl
  | d :: ds, _, h => by
    simp only [asPrs] at h
    split at h
    · rename_i q qs e1 e2
      cases h
      rw [asPrs_eq e2]
      unfold asPr at e1
      split at e1
      · cases e1; rfl
      · cases e1
    · cases h
theorem asPrs_map (qs : List (Str × Int)) : asPrs (qs.map dPr) = some qs := by
  induction qs with
  | nil => rfl
  | cons q qs ih => rw [List.map_cons, asPrs, ih]; rfl
open Classical in
/-- the pair that a tuple holds -/
noncomputable def prOf (K : PySem.W.Frag) (H : Hp) (v : V) : Str × Int := if h : ∃ (q : Str × Int) (t : Addr), v = .ref t ∧ SqT K H t [.str q.1, .int q.2] then h.choose else (Str.empty, 0)
theorem tup_two {K : PySem.W.Frag} {pa : Option Addr} {H : Hp} {v : V} {q : Str × Int} (r : Rp K pa H v (dPr q)) : ∃ t, v = .ref t ∧ SqT K H t [.str q.1, .int q.2] := by
  cases r with
  | tup h1 h2 =>
    cases h2 with
    | cons r1 t =>
      cases t with
      | cons r2 t2 =>
        cases t2
        cases r1
        cases r2
        exact ⟨_, rfl, h1⟩
def dSortedP : List D → Option D
  | [.lst ds] => match asStrs ds with
    | some xs => if xs.length < 64 then some (.lst ((ssort xs).map .str)) else none
    | none => (asPrs ds).map fun qs => .lst ((psort qs).map dPr)
  | [.dk ks _] => match asStrs (ks.map dKey) with
    | some xs => if xs.length < 64 then some (.lst ((ssort xs).map .str)) else none
    | none => none
  | _ => none
theorem prOf_spec {K : PySem.W.Frag} {H : Hp} {v : V} (h : ∃ (q : Str × Int) (t : Addr), v = .ref t ∧ SqT K H t [.str q.1, .int q.2]) : ∃ t, v = .ref t ∧ SqT K H t [.str (prOf K H v).1, .int (prOf K H v).2] := by
  unfold prOf
  rw [dif_pos h]
  exact h.choose_spec
def rSortedPZ (K : PySem.W.Frag) : List V → Hp → VK → Prop := fun vs H Q => ∃ (a : Addr) (zs : List (V × (Str × Int))), vs = [V.ref a] ∧ SqL K H a (zs.map (·.1)) ∧ (∀ z ∈ zs, ∃ t, z.1 = V.ref t ∧ SqT K H t [.str z.2.1, .int z.2.2]) ∧
  ∀ (ys : List (V × (Str × Int))) p, ys.Perm zs → (ys.map (·.2)).Pairwise (fun x y => SrtS.lexS y x = false) → H p = none → Q (.ref p) (upd H p (.lst (ys.map (·.1))))
theorem cr_sortedPZ {X : Cx} : CallR X (.builtin "sorted") (rSortedPZ X.K) := by
  intro pins s σ H vs us Q I r h
  obtain ⟨a, zs, rfl, hs, hx, q⟩ := h
  have hk : ∀ z ∈ zs, prOf X.K H z.1 = z.2 := fun z hz => by
    obtain ⟨t, e, ht⟩ := hx z hz
    obtain ⟨t', e', ht'⟩ := prOf_spec (K := X.K) (H := H) (v := z.1) ⟨z.2, t, e, ht⟩
    rw [e] at e'
    cases e'
    have q1 := I.tuple_inj ht ht'
    injection q1 with q2 q3
    injection q3 with q4 _
    injection q2 with q2
    injection q4 with q4
    obtain ⟨z1, z21, z22⟩ := z
    exact (Prod.ext q2 q4).symm
  refine cr_sortedPS pins s σ H [.ref a] us Q I r ⟨a, zs.map (·.1), prOf X.K H, rfl, hs, fun x hx' => ?_, fun ys p hs2 hp hn => ?_⟩
  · obtain ⟨z, hz, rfl⟩ := List.mem_map.mp hx'
    rw [hk z hz]
    exact hx z hz
  · obtain ⟨zs', h1, h2⟩ := perm_lift (fun z : V × (Str × Int) => z.1) hp zs rfl
    have := q zs' p h1 ?_ hn
    · rw [h2] at this
      exact this
    · rw [← h2] at hs2
      have hs3 : zs'.Pairwise fun x y => SrtS.lexS (prOf X.K H y.1) (prOf X.K H x.1) = false := List.pairwise_map.mp hs2
      rw [List.pairwise_map]
      refine List.Pairwise.imp_of_mem (fun {x y} hx hy h => ?_) hs3
      rw [hk x (h1.mem_iff.mp hx), hk y (h1.mem_iff.mp hy)] at h
      exact h
def rSortK : List V → Hp → VK → Prop := fun xs H Q => ∃ (a : Addr) (kvs : List (Key × V)) (ks : List Str), xs = [.ref a] ∧ Rd H a (.dK kvs) ∧ kvs.map (·.1) = ks.map Sum.inr ∧ ks.length < 64 ∧ ∀ ys p, ys.Perm ks → sortedS ys = true → H p = none → Q (.ref p) (upd H p (.lst (ys.map V.str)))
def rSortA (K : PySem.W.Frag) : List V → Hp → VK → Prop := fun xs H Q => rSortedS K xs H Q ∨ rSortedPZ K xs H Q ∨ rSortK xs H Q
theorem cr_sortA {X : Cx} (hc : X.calm = true) : CallR X (.builtin "sorted") (rSortA X.K) := by
  intro pins s σ H vs us Q I r h
  rcases h with h | h | h
  · exact cr_sortedS pins s σ H vs us Q I r h
  · exact cr_sortedPZ pins s σ H vs us Q I r h
  · exact call_sortedD hc pins s σ H vs us Q I r h
theorem RpL.prs {K : PySem.W.Frag} {pa : Option Addr} {H : Hp} : ∀ {vs : List V} {qs : List (Str × Int)}, RpL K pa H vs (qs.map dPr) → ∃ zs : List (V × (Str × Int)), zs.map (·.1) = vs ∧ zs.map (·.2) = qs ∧ ∀ z ∈ zs, Rp K pa H z.1 (dPr z.2)
  | [], [], _ => ⟨[], rfl, rfl, fun _ h => by cases h⟩
  | _ :: _, [], h => by cases h
  | [], _ :: _, h => by cases h
  | v :: vs, q :: qs, h => by
    rw [List.map_cons] at h
    cases h with
    | cons r t =>
      obtain ⟨zs, h1, h2, h3⟩ := RpL.prs t
      refine ⟨(v, q) :: zs, by rw [List.map_cons, h1], by rw [List.map_cons, h2], fun z hz => ?_⟩
      rcases List.mem_cons.mp hz with rfl | hz
      · exact r
      · exact h3 z hz
theorem RpL.of_prs {K : PySem.W.Frag} {pa : Option Addr} {H : Hp} : ∀ {zs : List (V × (Str × Int))}, (∀ z ∈ zs, Rp K pa H z.1 (dPr z.2)) → RpL K pa H (zs.map (·.1)) ((zs.map (·.2)).map dPr)
  | [], _ => .nil
  | z :: zs, h => .cons (h z List.mem_cons_self) (RpL.of_prs fun y hy => h y (List.mem_cons_of_mem _ hy))
theorem asStrs_keys {ks : List Key} {xs : List Str} (h : asStrs (ks.map dKey) = some xs) : ks = xs.map Sum.inr := by
  induction ks generalizing xs with
  | nil => cases h; rfl
  | cons k ks ih =>
    cases k with
    | inl i => simp [dKey, asStrs] at h
    | inr x =>
      rw [List.map_cons, dKey] at h
      simp only [asStrs] at h
      cases e : asStrs (ks.map dKey) with
      | none => rw [e] at h; cases h
      | some ys => rw [e] at h; cases h; rw [ih e]; rfl
theorem cd_sortA {K : PySem.W.Frag} : CallD K (rSortA K) dSortedP := by
  intro pa S H p xs ds z Q s r h q
  cases r with
  | nil => cases h
  | cons r1 r2 =>
    cases r2 with
    | cons _ _ => cases r1 <;> cases h
    | nil =>
      cases r1 with
      | lst h1 h2 =>
        unfold dSortedP at h
        simp only at h
        split at h
        · rename_i ns e
          split at h
          · rename_i hl
            cases h
            have e2 := asStrs_eq e
            subst e2
            have e3 := h2.strs_of
            subst e3
            refine .inl ⟨_, ns, rfl, SqL.of (hid_sub _ _ h1), hl, fun ys l hp hs n => ?_⟩
            rw [sorted_ssort hp hs]
            refine q _ _ (same_upd n) (Rp.newL s (RpL.strs _ fun x hx => h2.lim_of x ?_) n)
            exact (List.mergeSort_perm ns sLe).mem_iff.mp hx
          · cases h
        · obtain ⟨qs, e, rfl⟩ := Option.map_eq_some_iff.mp h
          have e2 := asPrs_eq e
          subst e2
          obtain ⟨zs, z1, z2, z3⟩ := h2.prs
          refine .inr (.inl ⟨_, zs, rfl, SqL.of (by rw [z1]; exact hid_sub _ _ h1), fun z hz => ?_, fun ys l hp hs n => ?_⟩)
          · obtain ⟨t, e3, e4⟩ := tup_two (z3 z hz)
            exact ⟨t, e3, sameT hid_sub e4⟩
          · have e5 : ys.map (·.2) = psort qs := psort_of (by rw [← z2]; exact hp.map _) hs
            refine q _ _ (same_upd n) ?_
            rw [← e5]
            exact Rp.newL s (RpL.of_prs fun z hz => z3 z (hp.mem_iff.mp hz)) n
      | dk h1 h2 h4 h3 =>
        unfold dSortedP at h
        simp only at h
        split at h
        · rename_i ns e
          split at h
          · rename_i hl
            cases h
            have e2 := asStrs_keys e
            subst e2
            refine .inr (.inr ⟨_, _, ns, rfl, sameR hid_sub h1, zip_fst h2, hl, fun ys l hp hs n => ?_⟩)
            rw [sorted_ssort hp hs]
            refine q _ _ (same_upd n) (Rp.newL s (RpL.strs _ fun x hx => ?_) n)
            exact h4 (.inr x) (List.mem_map.mpr ⟨x, (List.mergeSort_perm ns sLe).mem_iff.mp hx, rfl⟩)
          · cases h
        · cases h
      | _ => cases h
/-! # items of a dict -/
def itemsD : D → Option (List (Key × D))
  | .dk ks ds => some (ks.zip ds)
  | _ => none
def asSI : List (Key × D) → Option (List (Str × Int))
  | [] => some []
  | (.inr x, .int i) :: m => (asSI m).map ((x, i) :: ·)
  | _ => none
theorem asSI_eq : ∀ {m : List (Key × D)} {qs : List (Str × Int)}, asSI m = some qs → m = qs.map fun q => (Sum.inr q.1, .int q.2)
  | [], _, h => by cases h; rfl
  | (.inr x, .int i) :: m, _, h => by
    simp only [asSI] at h
    obtain ⟨qs, e, rfl⟩ := Option.map_eq_some_iff.mp h
    rw [asSI_eq e]
    rfl
  | (.inl _, _) :: _, _, h => by simp [asSI] at h
  | (.inr x, .non) :: _, _, h => by simp [asSI] at h
  | (.inr x, .bl _) :: _, _, h => by simp [asSI] at h
  | (.inr x, .str _) :: _, _, h => by simp [asSI] at h
  | (.inr x, .lst _) :: _, _, h => by simp [asSI] at h
  | (.inr x, .tup _) :: _, _, h => by simp [asSI] at h
  | (.inr x, .pool) :: _, _, h => by simp [asSI] at h
  | (.inr x, .scr _) :: _, _, h => by simp [asSI] at h
  | (.inr x, .dk _ _) :: _, _, h => by simp [asSI] at h
  | (.inr x, .dt _ _) :: _, _, h => by simp [asSI] at h
  | (.inr x, .ins _ _ _) :: _, _, h => by simp [asSI] at h
  | (.inr x, .slt _ _) :: _, _, h => by simp [asSI] at h
  | (.inr x, .fn _) :: _, _, h => by simp [asSI] at h
  | (.inr x, .adr _) :: _, _, h => by simp [asSI] at h
theorem asSI_map (qs : List (Str × Int)) : asSI (qs.map fun q => ((Sum.inr q.1 : Key), D.int q.2)) = some qs := by
  induction qs with
  | nil => rfl
  | cons q qs ih => rw [List.map_cons, asSI, ih]; rfl
theorem KRp.si {K : PySem.W.Frag} {pa : Option Addr} {H : Hp} : ∀ {kv : List (Key × V)} {qs : List (Str × Int)}, KRp K pa H kv (qs.map fun q => (Sum.inr q.1, .int q.2)) → kv = qs.map fun q => (Sum.inr q.1, .int q.2)
  | [], [], _ => rfl
  | _ :: _, [], h => by cases h
  | [], _ :: _, h => by cases h
  | (k, v) :: kv, q :: qs, h => by
    rw [List.map_cons] at h
    cases h with
    | cons h t =>
      obtain ⟨h1, h2⟩ := h
      cases h2
      have h1 : k = Sum.inr q.1 := h1
      rw [KRp.si t, h1]
      rfl
/-- sorted(e.items()) -/
def mSortIt (a : M) : M := fun r p => bnd (a r p) fun x p => match (itemsD x).bind asSI with
  | some qs => some (.lst ((psort qs).map dPr), p)
  | none => none
def tItm (te : TE) : TE := fun σ H Q => te σ H fun x H1 => ∃ a kvs, x = .ref a ∧ Rd H1 a (.dK kvs) ∧ ∀ p, H1 p = none → Q (.ref p) (upd H1 p (L2.DX.itemsO p a))
section
variable {X : Cx} {e : Expr} {te : TE} {me : M} {p apos cpos pos : Pos}
theorem pe_itm (ho : PE X e te) (hbase : attributeBase e "items" X.env (eval e X.env) = eval e X.env := by rfl) (hline : (apos.endLine == cpos.line) = true := by rfl) : PE X (.Call (.Attribute e "items" apos) [] [] cpos) (tItm te) := by
  refine ⟨fun pins s σ H Q I h => ?_⟩
  refine wpAny_Call_method0_late hbase hline (thn (ho.run pins s σ H _ I h) fun v s1 ⟨x, H1, I1, r1, a, kvs, ex, hd, q⟩ => ?_)
  subst ex
  obtain rfl : v = Value.ref a := r1
  obtain ⟨_, _, vs, _, dd⟩ := dk_rd I1.hok hd
  refine ⟨"dict", "dict.items", PySem.F.plainAttrs_dict, PySem.F.slot_dict_items, PySem.F.type_dict_items, dd.typeIs, ?_, Calls.callWith_builtin rfl (PySem.evalArgs_none (mt_itemsK pins s1 σ H1 (.ref a) [] (.ref a) [] Q I1 rfl .nil ⟨a, kvs, rfl, rfl, hd, q⟩))⟩
  exact dd.mapOf.noDict
theorem dk_list {K : PySem.W.Frag} {pa : Option Addr} {S : Addr → Prop} {H : Hp} {v : V} {x : D} {m : List (Key × D)} (r : Rp K pa (hid S H) v x) (h : itemsD x = some m) : ∃ a kv, v = .ref a ∧ Rd H a (.dK kv) ∧ ¬ S a ∧ KRp K pa (hid S H) kv m ∧ ∀ q ∈ m, kOk q.1 := by
  unfold itemsD at h
  split at h
  · cases h
    obtain ⟨a, kv, rfl, g1, g2, g3, g4⟩ := Rp.dk_inv r
    refine ⟨a, kv, rfl, sameR hid_sub g1, ?_, g2, fun q hq => g4 _ (List.of_mem_zip hq).1⟩
    rcases g1 with g | ⟨o, g⟩
    · exact (of_hid g).1
    · exact (of_hid g).1
  · cases h
theorem je_sortIt (hm : X.mg "sorted" = none) (he : JE X e me) (hc : X.calm = true := by rfl) (hg : Gl X "sorted" := by rfl) (hv : bootBuiltins "sorted" = some (.builtin "sorted") := by decide +kernel) (hbase : attributeBase e "items" X.env (eval e X.env) = eval e X.env := by rfl) (hline : (apos.endLine == cpos.line) = true := by rfl)
    (hs : starEach [.Call (.Attribute e "items" apos) [] [] cpos] X.env = (false, eval (.Call (.Attribute e "items" apos) [] [] cpos) X.env) :: starEach [] X.env := by rfl) :
    JE X (.Call (.Name "sorted" p) [.Call (.Attribute e "items" apos) [] [] cpos] [] pos) (mSortIt me) :=
  ⟨(pe_callB (cr_sortedItemsK hc) hg hm hv (pa_cons (pe_itm he.pe hbase hline) pa_nil hs) (by decide) (by decide) hs rfl).weak fun σ H Q ⟨pa, S, r, p, d, p', c, e, q⟩ => by
    obtain ⟨x, p1, e1, e⟩ := bnd_some e
    split at e
    · rename_i qs hq
      obtain ⟨rfl, rfl⟩ := pr e
      obtain ⟨m, h1, h2⟩ := Option.bind_eq_some_iff.mp hq
      refine ⟨pa, S, r, p, x, p1, c, e1, fun v1 H1 x1 s1 r1 => ?_⟩
      obtain ⟨a, kv, rfl, g1, _, g2, g5⟩ := dk_list r1 h1
      have e2 := asSI_eq h2
      subst e2
      have e3 := g2.si
      subst e3
      refine ⟨a, _, rfl, g1, fun p hp => ?_⟩
      have sm : Same H1 (upd H1 p (L2.DX.itemsO p a)) := same_upd hp
      refine ⟨p, a, qs, rfl, upd_same, sameR sm g1, fun H' l ps s2 hpm hst hl ht hn => ?_⟩
      have e5 : ps.map (·.2) = psort qs := psort_of hpm hst
      have sm2 := sm.trans s2
      refine q _ H' (x1.trans (Ext.of sm2)) (s1.same sm2) ?_
      rw [← e5]
      have nl : ∀ b, H1 b = none → ¬ S b := fun b hb => s1.new hb
      refine .lst (hid_of (nl l ?_) hl) ?_
      · cases hh : H1 l with
        | none => rfl
        | some o => rw [sm _ _ hh] at hn; cases hn
      · have : (ps.map fun z => V.ref z.1) = (ps.map fun z => (V.ref z.1, z.2)).map (·.1) := by rw [List.map_map]; rfl
        rw [this]
        have e6 : (ps.map (·.2)).map dPr = (((ps.map fun z => (V.ref z.1, z.2)).map (·.2))).map dPr := by rw [List.map_map, List.map_map, List.map_map]; rfl
        rw [e6]
        refine RpL.of_prs fun z hz => ?_
        obtain ⟨y, hy, rfl⟩ := List.mem_map.mp hz
        obtain ⟨y1, y2⟩ := ht y hy
        have y3 : H1 y.1 = none := by
          cases hh : H1 y.1 with
          | none => rfl
          | some o => rw [sm _ _ hh] at y1; cases y1
        refine .tup (SqT.of (hid_of (nl _ y3) y2)) (.cons (.str _ ?_) (.cons (.int _) .nil))
        have hy2 : y.2 ∈ qs := hpm.mem_iff.mp (List.mem_map.mpr ⟨y, hy, rfl⟩)
        exact g5 (Sum.inr y.2.1, .int y.2.2) (List.mem_map.mpr ⟨y.2, hy2, rfl⟩)
    · cases e⟩
end
end Dt

namespace Dt
open PySem PySem.Spec PyProof.Rows L2
/-! # {}, dict(pairs), list(d.items()) -/
section
variable {X : Cx} {pos : Pos}
theorem je_dict0 : JE X (.Dict [] [] pos) (mC (.dk [] [])) := ⟨pe_dnewK.weak fun σ H Q ⟨pa, S, r, p, d, p', c, e, q⟩ n hn => by
  cases e
  refine q _ _ (Ext.of (same_upd hn)) (c.sta.same (same_upd hn)) ?_
  exact Rp.dkv (m := []) (.inl (hid_of (c.sta.new hn) upd_same)) .nil (fun _ h => by cases h)⟩
end
def asKV1 : D → Option (Key × D)
  | .tup [k, v] => (keyOf k).map fun k => (k, v)
  | _ => none
def asKV : List D → Option (List (Key × D))
  | [] => some []
  | d :: ds => match asKV1 d, asKV ds with
    | some q, some m => some (q :: m)
    | _, _ => none
def dDict : List D → Option D
  | [.lst ds] => (asKV ds).map fun m => dkv (mergeG [] m)
  | [.dk ks ds] => some (.dk ks ds)
  | _ => none
theorem KRp.merge {κ : Type} [DecidableEq κ] {K : PySem.W.Frag} {pa : Option Addr} {H : Hp} : ∀ {kv2 : List (κ × V)} {m2 : List (κ × D)} {kv : List (κ × V)} {m : List (κ × D)}, KRp K pa H kv m → KRp K pa H kv2 m2 → KRp K pa H (kv2.foldl (fun acc q => putK acc q.1 q.2) kv) (mergeG m m2)
  | _, _, _, _, h, .nil => h
  | _, _, _, _, h, .cons (a := (k1, v1)) (b := (k2, d1)) ⟨h1, h2⟩ t => by
    have h1 : k1 = k2 := h1
    subst h1
    exact KRp.merge (kv := putK _ k1 v1) (m := putG _ k1 d1) (h.put k1 h2) t
theorem putG_ok {m : List (Key × D)} {k : Key} {d : D} (h : ∀ q ∈ m, kOk q.1) (hk : kOk k) : ∀ q ∈ putG m k d, kOk q.1 := by
  intro q hq
  unfold putG at hq
  split at hq
  · obtain ⟨y, hy, rfl⟩ := List.mem_map.mp hq
    split
    · exact h y hy
    · exact h y hy
  · rcases List.mem_append.mp hq with h1 | h1
    · exact h q h1
    · rw [List.mem_singleton.mp h1]; exact hk
theorem mergeG_ok : ∀ {m2 m : List (Key × D)}, (∀ q ∈ m, kOk q.1) → (∀ q ∈ m2, kOk q.1) → ∀ q ∈ mergeG m m2, kOk q.1
  | [], m, h, _ => h
  | q2 :: m2, m, h, h2 => mergeG_ok (m2 := m2) (putG_ok h (h2 q2 List.mem_cons_self)) fun q hq => h2 q (List.mem_cons_of_mem _ hq)
theorem RpL.kvs {K : PySem.W.Frag} {pa : Option Addr} {H : Hp} : ∀ {vs : List V} {ds : List D} {m : List (Key × D)}, RpL K pa H vs ds → asKV ds = some m → ∃ (ps : List Addr) (kv : List (Key × V)), vs = ps.map V.ref ∧ Paired (fun p kv => SqT K H p [kV kv.1, kv.2]) ps kv ∧ KRp K pa H kv m ∧ ∀ q ∈ m, kOk q.1
  | _, _, _, .nil, h => by cases h; exact ⟨[], [], rfl, .nil, .nil, fun _ h => by cases h⟩
  | _, _, _, .cons (d := d) r t, h => by
    simp only [asKV] at h
    split at h
    · rename_i q m e1 e2
      cases h
      obtain ⟨ps, kv, h1, h2, h3, h4⟩ := RpL.kvs t e2
      unfold asKV1 at e1
      split at e1
      · rename_i k v
        obtain ⟨kk, hk, rfl⟩ := Option.map_eq_some_iff.mp e1
        cases r with
        | tup r1 r2 =>
          cases r2 with
          | cons a1 a2 =>
            cases a2 with
            | cons b1 b2 =>
              cases b2
              obtain ⟨k1, k2, _⟩ := a1.key hk
              refine ⟨_ :: ps, (kk, _) :: kv, by rw [h1]; rfl, .cons (by rw [← k1]; exact r1) h2, .cons ⟨rfl, b1⟩ h3, fun q hq => ?_⟩
              rcases List.mem_cons.mp hq with rfl | hq
              · exact k2
              · exact h4 q hq
      · cases e1
    · cases h
def rDictA (K : PySem.W.Frag) : List V → Hp → VK → Prop := fun xs H Q => (∃ (a : Addr) (ps : List Addr) (kvs : List (Key × V)), xs = [.ref a] ∧ SqL K H a (ps.map V.ref) ∧ Paired (fun p kv => SqT K H p [kV kv.1, kv.2]) ps kvs ∧
    ∀ p, H p = none → Q (.ref p) (upd H p (.dK (mergeK [] kvs)))) ∨ ∃ (a : Addr) (kvs : List (Key × V)), xs = [.ref a] ∧ Rd H a (.dK kvs) ∧ ∀ p, H p = none → Q (.ref p) (upd H p (.dK kvs))
theorem call_dictA {X : Cx} (hc : X.calm = true) : CallR X (.type "dict") (rDictA X.K) := by
  intro pins s σ H xs us Q I r h
  rcases h with h | ⟨a, kvs, rfl, hd, q⟩
  · exact call_dictP hc pins s σ H xs us Q I r h
  · obtain ⟨u, rfl, rx⟩ := vals1 r
    obtain rfl : u = Value.ref a := rx
    exact d_copyOf I hd fun p s' hp I' => ⟨.ref p, _, I', rfl, q p hp⟩
theorem cd_dict {K : PySem.W.Frag} : CallD K (rDictA K) dDict := by
  intro pa S H p xs ds z Q s r h q
  cases r with
  | nil => cases h
  | cons r1 r2 =>
    cases r2 with
    | cons _ _ => cases r1 <;> cases h
    | nil =>
      cases r1 with
      | lst h1 h2 =>
        obtain ⟨m, e, rfl⟩ := Option.map_eq_some_iff.mp h
        obtain ⟨ps, kv, rfl, g1, g2, g3⟩ := h2.kvs e
        refine .inl ⟨_, ps, kv, rfl, SqL.of (hid_sub _ _ h1), ?_, fun n hn => ?_⟩
        · have : ∀ {ps : List Addr} {kv : List (Key × V)}, Paired (fun p kv => SqT K (hid S H) p [kV kv.1, kv.2]) ps kv → Paired (fun p kv => SqT K H p [kV kv.1, kv.2]) ps kv := fun h => by
            induction h with
            | nil => exact .nil
            | cons a _ ih => exact .cons (sameT hid_sub a) ih
          exact this g1
        · have sm := same_upd (o := .dK (mergeK [] kv)) hn
          refine q _ _ sm (Rp.dkv (.inl (hid_of (s.new hn) upd_same)) ?_ (mergeG_ok (fun _ h => by cases h) g3))
          exact KRp.merge .nil (KRp.mono (Same.hid sm) g2)
      | @dk _ ks xs _ h1 h2 h4 h3 =>
        cases h
        refine .inr ⟨_, _, rfl, sameR hid_sub h1, fun n hn => ?_⟩
        have sm : Same H (upd H n (.dK (ks.zip xs))) := same_upd hn
        exact q _ _ sm (.dk (.inl (hid_of (s.new hn) upd_same)) h2 h4 (RpL.mono (Same.hid sm) _ _ h3))
      | _ => cases h
/-- list(e.items()) -/
def mListIt (a : M) : M := fun r p => bnd (a r p) fun x p => match itemsD x with
  | some m => some (.lst (m.map fun q => .tup [dKey q.1, q.2]), p)
  | none => none
def tListItR (te : TE) : TE := fun σ H Q => te σ H fun x H1 => ∃ (d : Addr) (kvs : List (Key × V)), x = .ref d ∧ Rd H1 d (.dK kvs) ∧
  ∀ (H' : Hp) (p : Addr) (ts : List Addr), (∀ b o, H1 b = some o → H' b = some o) → H1 p = none → (∀ t ∈ ts, H1 t = none) → p ∉ ts → H' p = some (.lst (ts.map V.ref)) → Paired (fun (t : Addr) (q : Key × V) => H' t = some (.tup [kV q.1, q.2])) ts kvs → Q (.ref p) H'
section
variable {X : Cx} {e : Expr} {te : TE} {me : M} {p apos cpos pos : Pos}
theorem pe_listItR (hc : X.calm = true) (he : PE X e te) (hg : Gl X "list") (hm : X.mg "list" = none) (hv : bootBuiltins "list" = some (.type "list")) (hbase : attributeBase e "items" X.env (eval e X.env) = eval e X.env := by rfl) (hline : (apos.endLine == cpos.line) = true := by rfl)
    (hs : starEach [.Call (.Attribute e "items" apos) [] [] cpos] X.env = (false, eval (.Call (.Attribute e "items" apos) [] [] cpos) X.env) :: starEach [] X.env := by rfl) :
    PE X (.Call (.Name "list" p) [.Call (.Attribute e "items" apos) [] [] cpos] [] pos) (tListItR te) := by
  refine ⟨fun pins s σ H Q I hq => ?_⟩
  refine wpAny_Call_Name_kw (ld_blt I hg hm hv ?_)
  refine PyProof.Rows.callWith_type1 ?_ hs rfl
  rw [hs]
  show wpAny _ _ (PySem.spliced ((false, eval (.Call (.Attribute e "items" apos) [] [] cpos) X.env) :: backTo pos (starEach [] X.env))) _ _ s
  refine Calls.spliced_cons ?_
  refine wpAny_Call_method0_late hbase hline (thn (he.run pins s σ H _ I hq) fun u s1 ⟨x, H1, I1, rx, d, kvs, ex, hd, q⟩ => ?_)
  subst ex
  obtain rfl : u = Value.ref d := rx
  obtain ⟨hz, hs0, vs, kv, hdo⟩ := dk_rd I1.hok hd
  obtain ⟨ep, hat⟩ := hdo.dictAt
  have lk : kvs.length = vs.length := Paired.length kv
  have I2 : Inv X pins σ H1 { s1 with heap := s1.heap.push { cls := .type "dict_items", data := .fields #[.ref d] } } := I1.kept (t' := s1.toks) fun b ob q => Heap.get?_push_of_some _ q
  refine ⟨"dict", "dict.items", PySem.F.plainAttrs_dict, PySem.F.slot_dict_items, PySem.F.type_dict_items, hdo.typeIs, hdo.mapOf.noDict, ?_⟩
  refine method_meetsIn PySem.F.slot_dict_items PySem.F.entry_dict_items rfl (PySem.evalArgs_none ⟨rfl, hdo.typeIs, PySem.F.args_dict_items_1 _, _, meets_dict_items (mixKind X.prog X.w) d hs0, ⟨vs, hdo⟩, ?_⟩)
  refine Calls.spliced_nil ?_
  refine PySem.W.kdx_call (knd := mixKind X.prog X.w) (kvs := vs) (ep := ep) (I1.ok.hd hc) ⟨_, Heap.get?_push_size _ rfl, rfl, rfl⟩ (hat.push _) (by omega) fun h' tk acc c as hk hS hl hG hacc => ?_
  obtain ⟨H', k1, k2, k3, k4, k5, k6, J⟩ := LiI.items_laid (tk := tk) I2 hz kv hk hS hl hG hacc
  exact ⟨.ref _, H', J, rfl, q H' _ as k1 k2 k3 k4 k5 k6⟩
theorem je_listIt (hm : X.mg "list" = none) (he : JE X e me) (hc : X.calm = true := by rfl) (hg : Gl X "list" := by rfl) (hv : bootBuiltins "list" = some (.type "list") := by decide +kernel) (hbase : attributeBase e "items" X.env (eval e X.env) = eval e X.env := by rfl) (hline : (apos.endLine == cpos.line) = true := by rfl)
    (hs : starEach [.Call (.Attribute e "items" apos) [] [] cpos] X.env = (false, eval (.Call (.Attribute e "items" apos) [] [] cpos) X.env) :: starEach [] X.env := by rfl) :
    JE X (.Call (.Name "list" p) [.Call (.Attribute e "items" apos) [] [] cpos] [] pos) (mListIt me) :=
  ⟨(pe_listItR hc he.pe hg hm hv hbase hline hs).weak fun σ H Q ⟨pa, S, r, p, d, p', c, e, q⟩ => by
    obtain ⟨x, p1, e1, e⟩ := bnd_some e
    split at e
    · rename_i m hm
      obtain ⟨rfl, rfl⟩ := pr e
      refine ⟨pa, S, r, p, x, p1, c, e1, fun v1 H1 x1 s1 r1 => ?_⟩
      obtain ⟨a, kv, rfl, g1, _, g2, g5⟩ := dk_list r1 hm
      refine ⟨a, kv, rfl, g1, fun H' l ts sm hl hts hlts hL hP => ?_⟩
      have nl : ∀ b, H1 b = none → ¬ S b := fun b hb => s1.new hb
      have sm' : Same H1 H' := sm
      refine q _ H' (x1.trans (Ext.of sm')) (s1.same sm') (.lst (hid_of (nl l hl) hL) ?_)
      have go : ∀ {ts : List Addr} {kv : List (Key × V)} {m : List (Key × D)}, (∀ t ∈ ts, H1 t = none) → Paired (fun (t : Addr) (q : Key × V) => H' t = some (.tup [kV q.1, q.2])) ts kv → KRp X.K pa (hid S H1) kv m → (∀ q ∈ m, kOk q.1) →
          RpL X.K pa (hid S H') (ts.map V.ref) (m.map fun q => .tup [dKey q.1, q.2]) := fun {ts} => by
        induction ts with
        | nil =>
          intro kv m _ hp hk _
          cases hp
          cases hk
          exact .nil
        | cons t ts ih =>
          intro kv m hn hp hk ok
          cases hp with
          | @cons _ b _ _ a1 a2 =>
            cases hk with
            | @cons _ b2 _ _ c1 c2 =>
              obtain ⟨k0, v0⟩ := b
              obtain ⟨k2, d2⟩ := b2
              obtain ⟨c3, c4⟩ := c1
              have c3 : k0 = k2 := c3
              subst c3
              refine .cons (.tup (SqT.of (hid_of (nl t (hn t List.mem_cons_self)) a1)) (.cons (Rp.ofKey (ok _ List.mem_cons_self)) (.cons (Rp.mono (Same.hid sm') _ _ c4) .nil))) (ih (fun x hx => hn x (List.mem_cons_of_mem _ hx)) a2 c2 fun q hq => ok q (List.mem_cons_of_mem _ hq))
      exact go hts hP g2 g5
    · cases e⟩
end
end Dt

namespace Dt
open PySem PySem.Spec PyProof.Rows L2
/-! # {k: v for ..} -/
def dcGo (mg : D → Ev → Option Ev) (mt : MB) (mk mv : M) (r0 : Ev) : List D → List (Key × D) → List Int → MR (List (Key × D))
  | [], acc, p => some (acc, p)
  | d :: ds, acc, p => match mg d r0 with
    | none => none
    | some r1 => bnd (mt r1 p) fun b p => if b = true then bnd (mk r1 p) fun k p => bnd (mv r1 p) fun v p => match keyOf k with
        | some kk => dcGo mg mt mk mv r0 ds (putG acc kk v) p
        | none => none
      else dcGo mg mt mk mv r0 ds acc p
def mDc (vs : List Nat) (mi : ML) (mg : D → Ev → Option Ev) (mt : MB) (mk mv : M) : M := fun r p => bnd (mi r p) fun ds p => if ds.length ≤ lim then bnd (dcGo mg mt mk mv (wipeR r vs) ds [] p) fun m p => some (dkv m, p) else none
section
variable {K : PySem.W.Frag} {wi : TI} {g : TG} {ts vs : List Nat} {mi : ML} {mg : D → Ev → Option Ev} {mt : MB} {mk mv : M}
theorem putG_len {κ α : Type} [DecidableEq κ] (m : List (κ × α)) (k : κ) (v : α) : (putG m k v).length ≤ m.length + 1 := by
  unfold putG
  split
  · rw [List.length_map]; omega
  · rw [List.length_append]; exact Nat.le_refl _
theorem red_dc0 {pa : Option Addr} {S : Addr → Prop} {r : Ev} {p p1 p2 : List Int} {ds : List D} {ys : List (Key × D)} {σ : L2.St} {H : Hp} {Q : VK} (c : Cn K pa S σ H r p) (hi : ∀ R : It → Hp → Prop, (∀ J H1, Ext pa H H1 → Sta pa S H1 p1 → ItOk K pa S H1 J ds → R J H1) → wi σ H R) (hg : TgD K g ts mg) (hts : ∀ t ∈ ts, t ∈ vs)
    (hlim : ds.length ≤ lim) (e2 : dcGo mg mt mk mv (wipeR r vs) ds [] p1 = some (ys, p2)) (q : ∀ v H', Ext pa H H' → Sta pa S H' p2 → Rp K pa (hid S H') v (dkv ys) → Q v H') : tDc wi g (tMB K mt) (tM K mk) (tM K mv) vs σ H Q := by
    refine hi _ fun J H1 x1 s1 ok Dl hD => ?_
    have hSD : ¬ S Dl := s1.new hD
    have hpD : pa ≠ some Dl := s1.notpool hD
    refine ⟨fun i m Hh => ∃ acc dn pi, m = ds.length + 1 - i ∧ i ≤ ds.length ∧ Ext pa H1 Hh ∧ Sta pa (fun a => S a ∨ a = Dl) Hh pi ∧ Hh Dl = some (.dK acc) ∧ KRp K pa (hid (fun a => S a ∨ a = Dl) Hh) acc dn ∧ (∀ z ∈ dn, kOk z.1) ∧ dn.length ≤ i ∧
      dcGo mg mt mk mv (wipeR r vs) (ds.drop i) dn pi = some (ys, p2), ⟨ds.length + 1, [], [], p1, rfl, Nat.zero_le _, Ext.of (same_upd hD), ⟨fun a ha => ⟨?_, .inl (s1.pool a ha).2⟩, fun a ha => ?_⟩, upd_same, .nil, fun _ h => (by cases h), Nat.le_refl _, by rw [List.drop_zero]; exact e2⟩, ?_⟩
    · rw [upd_ne (fun z => hpD (by rw [← z]; exact ha))]
      exact (s1.pool a ha).1
    · rcases ha with ha | rfl
      · obtain ⟨o, ho⟩ := s1.trk a ha
        exact ⟨o, by rw [upd_ne (fun z => by rw [z] at ha; exact hSD ha)]; exact ho⟩
      · exact ⟨_, upd_same⟩
    · rintro i m Hh ⟨acc, dn, pi, rfl, hil, xh, sh, hDl, racc, hok, hdn, elc⟩
      have frame : Same (hid S H1) (hid (fun a => S a ∨ a = Dl) Hh) := fun b o hb => by
        obtain ⟨n, hb⟩ := of_hid hb
        refine hid_of (fun z => ?_) (xh b o (fun z => n (s1.pool b z).2) hb)
        rcases z with z | z
        · exact n z
        · rw [z, hD] at hb; cases hb
      by_cases hlt : i < ds.length
      · refine .inr ⟨ok.go i _ Hh frame sh.trk hlt, fun H' => ∃ acc dn pi, Ext pa H1 H' ∧ Sta pa (fun a => S a ∨ a = Dl) H' pi ∧ H' Dl = some (.dK acc) ∧ KRp K pa (hid (fun a => S a ∨ a = Dl) H') acc dn ∧ (∀ z ∈ dn, kOk z.1) ∧ dn.length ≤ i + 1 ∧
          dcGo mg mt mk mv (wipeR r vs) (ds.drop (i + 1)) dn pi = some (ys, p2), fun H' hN => ?_, fun x H' hy => ?_⟩
        · obtain ⟨acc', dn', pi', a1, a2, a3, a4, a5, a6, a7⟩ := hN
          exact ⟨ds.length + 1 - (i + 1), by omega, acc', dn', pi', rfl, hlt, a1, a2, a3, a4, a5, a6, a7⟩
        · obtain ⟨x2, d, hd, rd⟩ := ok.yld i _ Hh x H' frame sh.trk hlt hy
          have hdrop : ds.drop i = d :: ds.drop (i + 1) := by
            rw [List.drop_eq_getElem_cons hlt]
            rw [List.getElem?_eq_getElem hlt] at hd
            rw [Option.some.inj hd]
          rw [hdrop] at elc
          simp only [dcGo] at elc
          split at elc
          · cases elc
          · rename_i r1 hr1
            obtain ⟨b, p3, e3, elc⟩ := bnd_some elc
            have env0 : EnvE K pa (hid (fun a => S a ∨ a = Dl) H') (L2.wipe σ vs) (wipeR r vs) := (((c.env.mono (x1.hid c.sta)).mono frame).mono (Same.hid x2)).wipe vs
            refine hg.run pa _ _ H' _ x d r1 _ env0 rd hr1 fun σ2 env2 agree => ?_
            have hlen2 : σ2.length = σ.length := by
              rw [env2.len, (hg.keep d _ r1 hr1).1, wipeR_len, c.env.len]
            refine ⟨wipe_same hlen2 fun j hj => ?_, ?_⟩
            · rw [agree j fun z => hj (hts j z), wipe_out hj]
            · have cn : Cn K pa (fun a => S a ∨ a = Dl) σ2 H' r1 pi := ⟨sh.same x2, env2⟩
              refine ⟨pa, _, r1, pi, b, p3, cn, e3, fun H3 x3 s3 => ?_⟩
              have cn3 := cn.go x3 s3
              have hDl' : H' Dl = some (.dK acc) := x2 _ _ hDl
              have hDl3 : H3 Dl = some (.dK acc) := x3 _ _ hpD hDl'
              have racc3 : KRp K pa (hid (fun a => S a ∨ a = Dl) H3) acc dn := KRp.mono (x3.hid cn.sta) (KRp.mono (Same.hid x2) racc)
              have xh3 : Ext pa H1 H3 := (xh.trans (Ext.of x2)).trans x3
              cases b with
              | true =>
                rw [if_pos rfl] at elc
                obtain ⟨y, p4, e4, elc⟩ := bnd_some elc
                obtain ⟨z, p5, e5, elc⟩ := bnd_some elc
                split at elc
                · rename_i kk hkk
                  show tM K mk σ2 H3 _
                  refine ⟨pa, _, r1, p3, y, p4, cn3, e4, fun v H4 x4 s4 r4 => ?_⟩
                  have cn4 := cn3.go x4 s4
                  refine ⟨pa, _, r1, p4, z, p5, cn4, e5, fun v5 H5 x5 s5 r5 => ?_⟩
                  have x45 := x4.trans x5
                  have hDl5 : H5 Dl = some (.dK acc) := x45 _ _ hpD hDl3
                  have racc5 : KRp K pa (hid (fun a => S a ∨ a = Dl) H5) acc dn := KRp.mono (x45.hid cn3.sta) racc3
                  have up : Same (hid (fun a => S a ∨ a = Dl) H5) (hid (fun a => S a ∨ a = Dl) (upd H5 Dl (.dK (putK acc kk v5)))) := fun b o hb => by
                    obtain ⟨n, hb⟩ := of_hid hb
                    exact hid_of n (by rw [upd_ne (fun z => n (.inr z))]; exact hb)
                  obtain ⟨k1, k2, _⟩ := r4.key hkk
                  refine ⟨acc, kk, k1, hDl5, ?_, putK acc kk v5, putG dn kk z, p5, ?_, ⟨fun a ha => ⟨?_, (s5.pool a ha).2⟩, fun a ha => ?_⟩, upd_same, KRp.mono up (racc5.put kk r5), putG_ok hok k2, Nat.le_trans (putG_len _ _ _) (Nat.succ_le_succ hdn), elc⟩
                  · have h1 := racc.length
                    have h2 := lim_lt
                    omega
                  · intro b o hb h1
                    rw [upd_ne (fun z => by rw [z, hD] at h1; cases h1)]
                    exact x45 _ _ hb (xh3 b o hb h1)
                  · rw [upd_ne (fun z => hpD (by rw [← z]; exact ha))]
                    exact (s5.pool a ha).1
                  · by_cases hz : a = Dl
                    · rw [hz]; exact ⟨_, upd_same⟩
                    · obtain ⟨o, ho⟩ := s5.trk a ha
                      exact ⟨o, by rw [upd_ne hz]; exact ho⟩
                · cases elc
              | false =>
                rw [if_neg (by decide)] at elc
                exact ⟨acc, dn, p3, xh3, s3, hDl3, racc3, hok, Nat.le_succ_of_le hdn, elc⟩
      · have hie : i = ds.length := by omega
        subst hie
        rw [List.drop_length] at elc
        obtain ⟨rfl, rfl⟩ := pr (show some (dn, pi) = some (ys, p2) from elc)
        refine .inl ⟨ok.stop _ _ Hh frame sh.trk (Nat.le_refl _), ?_⟩
        have hfree : H Dl = none := x1.free hpD hD
        have un : Same (hid (fun a => S a ∨ a = Dl) Hh) (hid S Hh) := fun b o hb => by
          obtain ⟨n, hb⟩ := of_hid hb
          exact hid_of (fun z => n (.inl z)) hb
        exact q (.ref Dl) Hh (x1.trans xh) ⟨fun a ha => ⟨(sh.pool a ha).1, (s1.pool a ha).2⟩, fun a ha => sh.trk a (.inl ha)⟩ (Rp.dkv (.inl (hid_of hSD hDl)) (KRp.mono un racc) hok)
theorem red_dc (hi : IterD K wi mi) (hg : TgD K g ts mg) (hts : ∀ t ∈ ts, t ∈ vs) {σ : L2.St} {H : Hp} {Q : VK} (h : tM K (mDc vs mi mg mt mk mv) σ H Q) : tDc wi g (tMB K mt) (tM K mk) (tM K mv) vs σ H Q := by
  obtain ⟨pa, S, r, p, d, p2, c, e, q⟩ := h
  obtain ⟨ds, p1, e1, e⟩ := bnd_some e
  split at e
  · rename_i hlim
    obtain ⟨m, p3, e3, e⟩ := bnd_some e
    obtain ⟨rfl, rfl⟩ := pr e
    exact red_dc0 c (fun R h => hi pa S σ H r p ds p1 R c e1 h) hg hts hlim e3 q
  · cases e
end
section
variable {X : Cx} {kx vx tg iter : Expr} {scope : Scope} {pos : Pos} {mi : ML} {mk mv : M} {mt : MB} {g : TG} {ts : List Nat} {mg : D → Ev → Option Ev}
theorem je_dc {ifs : List Expr} (N : List Str) (sc : Scope) (own : List (Str × Nat)) (hc : X.calm = true) (hN : X.N.Nodup) (hi : JI X tg iter mi) (ok : BlkOk N sc scope own)
    (hg : ∀ (s : Shared) (H : Hp) (C : Addr) (cl : List (Str × Addr)) (fp : List Addr), PG (X.blk s H scope (compEnvC scope cl C X.env) fp) tg g) (hgd : TgD X.K g ts mg) (hts : ∀ t ∈ ts, t ∈ own.map (·.2))
    (ht : ∀ (s : Shared) (H : Hp) (C : Addr) (cl : List (Str × Addr)) (fp : List Addr), JTs (X.blk s H scope (compEnvC scope cl C X.env) fp) ifs mt)
    (hk : ∀ (s : Shared) (H : Hp) (C : Addr) (cl : List (Str × Addr)) (fp : List Addr), JE (X.blk s H scope (compEnvC scope cl C X.env) fp) kx mk)
    (he : ∀ (s : Shared) (H : Hp) (C : Addr) (cl : List (Str × Addr)) (fp : List Addr), JE (X.blk s H scope (compEnvC scope cl C X.env) fp) vx mv)
    (hNe : X.N = N := by rfl) (hsc : X.env.scope = sc := by rfl) (hs : ∀ x, foldedSetIterable iter X.env x = pure x := by intro _; rfl) :
    JE X (.DictComp kx vx [⟨tg, iter, ifs, 0⟩] scope pos) (mDc (own.map (·.2)) mi mg mt mk mv) := by
  subst hNe
  subst hsc
  obtain ⟨wi, h1, h2⟩ := hi.ex
  exact ⟨(pe_dc hc hN h1 ok hg (fun s H C cl fp => (ht s H C cl fp).pt) (fun s H C cl fp => (hk s H C cl fp).pe) (fun s H C cl fp => (he s H C cl fp).pe) hs).weak fun σ H Q => red_dc h2 hgd hts⟩
end
end Dt
namespace L2
open PySem PySem.Spec PyProof.Rows
variable {X : Cx}
theorem ps_setDc {i : Nat} {y : Str} {py : Pos} {kx vx tg iter : Expr} {ifs : List Expr} {scope : Scope} {own : List (Str × Nat)} {pos spos : Pos} {wi : TI} {g : TG} {tt : TT} {tk tv : TE} (hc : X.calm = true) (hN : X.N.Nodup) (hy : X.N[i]? = some y) (hyl : X.env.scope.names.lookup y = some .local)
    (hsw : swapsWith (.DictComp kx vx [⟨tg, iter, ifs, 0⟩] scope pos) (some (.Name y py)) spos.line X.env = pure true) (hi : PI X tg iter wi) (ok : BlkOk X.N X.env.scope scope own)
    (hg : ∀ (s : Shared) (H : Hp) (C : Addr) (cl : List (Str × Addr)) (fp : List Addr), PG (X.blk s H scope (compEnvC scope cl C X.env) fp) tg g) (ht : ∀ (s : Shared) (H : Hp) (C : Addr) (cl : List (Str × Addr)) (fp : List Addr), PTs (X.blk s H scope (compEnvC scope cl C X.env) fp) ifs tt)
    (hk : ∀ (s : Shared) (H : Hp) (C : Addr) (cl : List (Str × Addr)) (fp : List Addr), PE (X.blk s H scope (compEnvC scope cl C X.env) fp) kx tk)
    (he : ∀ (s : Shared) (H : Hp) (C : Addr) (cl : List (Str × Addr)) (fp : List Addr), PE (X.blk s H scope (compEnvC scope cl C X.env) fp) vx tv) (hs : ∀ x, foldedSetIterable iter X.env x = pure x := by intro _; rfl) :
    PS X (.Assign [.Name y py] (.DictComp kx vx [⟨tg, iter, ifs, 0⟩] scope pos) spos) (tAsg (tDc wi g tt tk tv (own.map (·.2))) (gName i)) := by
  refine ⟨fun pins s σ H D I h => ?_⟩
  rw [exec_Assign_Name_used _ _ _ _ hsw]
  refine wpAny_bind (wpAny_standAt (wpAny_bind ?_))
  show wpAny _ X.A (do let _ ← comprehension (.DictComp kx vx [⟨tg, iter, ifs, 0⟩] scope pos) scope X.env (firstIterPos [⟨tg, iter, ifs, 0⟩] pos) newDict false (eval iter X.env) (some (assign (.Name y py) X.env))) _ _ s
  have h : tDc wi g tt tk tv (own.map (·.2)) σ H (fun x H1 => gName i x σ H1 D.nx) := h
  refine wpAny_bind (thn (dc_core (Qf := fun _ s' => SP X pins D .next s') hc hN I hi ok hg ht hk he hs h fun L C s' m H' I' q hn f => ?_) fun _ s' hq => wpAny_pure (wpAny_pure hq))
  show wpAny _ _ (assign (.Name y py) X.env (.ref L)) _ _ _
  refine wpAny_assign_Name (store_ok2 (v := V.ref L) I' hN hy (.inl hyl) rfl (fun s2 I2 ⟨a, sb, ha⟩ => ?_) (.inr hyl))
  obtain ⟨f0, f1, f2, f3, f4, f5⟩ := f
  have haC : C ≠ a := by
    rcases ha with z | z
    · rw [z]; exact f1
    · exact fun e => f4 y a z e.symm
  refine ⟨m, hn.sameBut sb haC, fun h3 sb3 => ?_⟩
  exact ⟨_, H', I2.turned (t' := s2.toks) (fun b o hb e => (sb3.2 b hb).trans e) f0 f1 f3 f4 f5, q⟩
theorem sw_trueD {kx vx : Expr} {gs : List Comprehension} {scope : Scope} {pos py : Pos} {y : Str} {l : Nat} {env : Env} (hk : env.scope.kind = .function) (hy : env.scope.names.lookup y = some .local) (hl : (py.line == pos.line) = true)
    (ha : (scope.names.any fun (n, k) => n == y && (k == .local || k == .cell)) = false) : swapsWith (.DictComp kx vx gs scope pos) (some (.Name y py)) l env = pure true := by
  have ky : env.kindOf y = some .local := hy
  have hb : env.blockKind = .function := by unfold Env.blockKind; rw [hk]; rfl
  unfold swapsWith
  simp only [hb, ky, Expr.pos, hl, ha]
  rfl
end L2
namespace Dt
open PySem PySem.Spec PyProof.Rows L2
section
variable {X : Cx} {kx vx tg iter : Expr} {scope : Scope} {pos : Pos} {mi : ML} {mk mv : M} {mt : MB} {g : TG} {ts : List Nat} {mg : D → Ev → Option Ev}
theorem js_setDc {fx : Bool} {i : Nat} {y : Str} {py spos : Pos} {ifs : List Expr} (N : List Str) (sc : Scope) (own : List (Str × Nat)) (hc : X.calm = true) (hN : X.N.Nodup) (hi : JI X tg iter mi) (ok : BlkOk N sc scope own)
    (hg : ∀ (s : Shared) (H : Hp) (C : Addr) (cl : List (Str × Addr)) (fp : List Addr), PG (X.blk s H scope (compEnvC scope cl C X.env) fp) tg g) (hgd : TgD X.K g ts mg) (hts : ∀ t ∈ ts, t ∈ own.map (·.2))
    (ht : ∀ (s : Shared) (H : Hp) (C : Addr) (cl : List (Str × Addr)) (fp : List Addr), JTs (X.blk s H scope (compEnvC scope cl C X.env) fp) ifs mt)
    (hk : ∀ (s : Shared) (H : Hp) (C : Addr) (cl : List (Str × Addr)) (fp : List Addr), JE (X.blk s H scope (compEnvC scope cl C X.env) fp) kx mk)
    (he : ∀ (s : Shared) (H : Hp) (C : Addr) (cl : List (Str × Addr)) (fp : List Addr), JE (X.blk s H scope (compEnvC scope cl C X.env) fp) vx mv)
    (hy : X.N[i]? = some y := by rfl) (hyl : X.env.scope.names.lookup y = some .local := by rfl)
    (hsw : swapsWith (.DictComp kx vx [⟨tg, iter, ifs, 0⟩] scope pos) (some (.Name y py)) spos.line X.env = pure true := by exact sw_trueD rfl rfl rfl rfl)
    (hNe : X.N = N := by rfl) (hsc : X.env.scope = sc := by rfl) (hs : ∀ x, foldedSetIterable iter X.env x = pure x := by intro _; rfl) :
    JS fx X (.Assign [.Name y py] (.DictComp kx vx [⟨tg, iter, ifs, 0⟩] scope pos) spos) (sAsg i (mDc (own.map (·.2)) mi mg mt mk mv)) := by
  subst hNe
  subst hsc
  obtain ⟨wi, h1, h2⟩ := hi.ex
  exact ⟨fun E => (ps_setDc hc hN hy hyl hsw h1 ok hg (fun s H C cl fp => (ht s H C cl fp).pt) (fun s H C cl fp => (hk s H C cl fp).pe) (fun s H C cl fp => (he s H C cl fp).pe) hs).weak fun D σ H h => red_dc h2 hgd hts (red_asg h)⟩
end
end Dt

namespace Dt
open PySem PySem.Spec PyProof.Rows L2
/-! # Owned dicts -/
def owK (r : Sv) (i : Nat) : Option (List (Key × D)) := match r[i]? with | some (.ow (.dk ks ds)) => if ds.length = ks.length then some (ks.zip ds) else none | _ => none
theorem owK_eq {r : Sv} {i : Nat} {m : List (Key × D)} (h : owK r i = some m) : r[i]? = some (.ow (dkv m)) := by
  unfold owK at h
  split at h
  · rename_i ks ds e
    split at h
    · rename_i hl
      cases h
      unfold dkv
      rw [e, zip_fst hl, zip_snd hl]
    · cases h
  · cases h
def sNewK (i : Nat) : MS := fun r p => if i < r.length then some (.nx (r.set i (.ow (dkv []))) p) else none
def sPutK (i : Nat) (mk mv : M) : MS := fun r p => match owK r i, mv (shR r) p with
  | some m, some (v, p1) => (match mk (shR r) p1 with
    | some (k, p2) => (match keyOf k with
      | some kk => if m.length < lim then some (.nx (r.set i (.ow (dkv (putG m kk v)))) p2) else none
      | none => none)
    | none => none)
  | _, _ => none
section
variable {K : PySem.W.Frag} {fx : Bool} {E : En}
theorem red_newK {i : Nat} {D : Ends} {σ : L2.St} {H : Hp} (h : tS K fx E (sNewK i) D σ H) : tAsg tDNewK (gName i) D σ H := by
  obtain ⟨pa, S0, S, A, r, p, o, e, m, q⟩ := h
  unfold sNewK at m
  split at m
  · rename_i hi
    cases m
    intro n hn
    have sm : Same H (upd H n (.dK [])) := same_upd hn
    obtain ⟨S', A', e2, f2⟩ := e.mine (dd := dkv []) hi (Ext.of sm) (e.staS.same sm) hn upd_same ⟨.nil, rfl, fun _ h => by cases h⟩
    exact q pa S0 S' A' _ _ e2 f2
  · cases m
theorem red_putK {i : Nat} {mk mv : M} {D : Ends} {σ : L2.St} {H : Hp} (h : tS K fx E (sPutK i mk mv) D σ H) : sDPut (tVar i) (tM K mk) (tM K mv) D σ H := by
  obtain ⟨pa, S0, S, A, r, p, o, e, m, q⟩ := h
  unfold sPutK at m
  split at m
  · rename_i m0 v p1 hr m1
    split at m
    · rename_i k p2 m2
      split at m
      · rename_i kk hkk
        split at m
        · rename_i hl
          cases m
          have hi := owK_eq hr
          obtain ⟨h1, h2, h3, u0, h5, h60⟩ := e.own i _ hi
          refine ⟨pa, S, shR r, p, v, p1, e.cn, m1, fun v1 H1 x1 s1 r1 => ?_⟩
          have e1 := e.go x1 ⟨fun a h => ⟨(s1.pool a h).1, (e.sta.pool a h).2⟩, fun a h => s1.trk a ((e.hS a).mpr (.inl h))⟩
          refine ⟨.ref (A i), h1, ?_⟩
          refine ⟨pa, S, shR r, p1, k, p2, e1.cn, m2, fun v2 H2 x2 s2 r2 => ?_⟩
          have e2 := e1.go x2 ⟨fun a h => ⟨(s2.pool a h).1, (e1.sta.pool a h).2⟩, fun a h => s2.trk a ((e1.hS a).mpr (.inl h))⟩
          obtain ⟨_, _, _, u2, k5, k60⟩ := e2.own i _ hi
          obtain ⟨kv, rfl, g1, g2, g3⟩ := k60.dk
          rw [zip_pairs] at g1
          obtain ⟨c1, c2, _⟩ := r2.key hkk
          have hlen := g1.length
          have hlm := lim_lt
          have own2 : OwnO K pa (hid S H2) (.dK (putK kv kk v1)) (dkv (putG m0 kk v)) := by
            refine ⟨?_, by rw [List.length_map, List.length_map], fun c hc => ?_⟩
            · rw [zip_pairs]
              exact g1.put kk (Rp.mono (x2.hid s1) _ _ r1)
            · obtain ⟨z, hz, rfl⟩ := List.mem_map.mp hc
              exact putG_ok (fun q hq => g3 _ (List.mem_map.mpr ⟨q, hq, rfl⟩)) c2 z hz
          obtain ⟨S', e3, f3⟩ := e2.setL hi own2
          exact ⟨A i, _, rfl, .inl ⟨kv, kk, k5, c1, by omega, rfl⟩, q pa S0 S' A σ _ e3 (((e.frm x1).trans (e1.frm x2)).trans f3)⟩
        · cases m
      · cases m
    · cases m
  · cases m
end
section
variable {fx : Bool} {X : Cx} {i : Nat} {x : Str} {pos pos' p2 : Pos}
theorem js_newK (hN : X.N.Nodup) (hi : X.N[i]? = some x := by rfl) (hx : Loc X.env.scope x := by first | exact Or.inl rfl | exact Or.inr rfl) (hf : X.fn x = true ∨ X.env.scope.names.lookup x = some .local := by first | exact .inl rfl | exact .inr rfl) : JS fx X (.Assign [.Name x p2] (.Dict [] [] pos') pos) (sNewK i) :=
  ⟨fun E => (ps_set (i := i) hN hi hx pe_dnewK rfl hf).weak fun D σ H h => red_newK h⟩
theorem js_putK {ke ve : Expr} {mk mv : M} (hu : X.A.units + 64 < cLine) (hk : JE X ke mk) (hv : JE X ve mv) (hi : X.N[i]? = some x := by rfl) (hx : Vis X.env.scope x := by first | exact Or.inl rfl | exact Or.inr (Or.inl rfl) | exact Or.inr (Or.inr rfl)) (hd : (x == ("__debug__" : Str)) = false := by decide) (hcd : (x == ("__classdict__" : Str)) = false := by decide)
    (hs : swapsWith ve (some (.Subscript (.Name x p2) ke pos')) pos.line X.env = pure false := by rfl) : JS fx X (.Assign [.Subscript (.Name x p2) ke pos'] ve pos) (sPutK i mk mv) :=
  ⟨fun E => (ps_dput (by omega) (pe_var hi hx hd hcd) hk.pe hv.pe hs).weak fun D σ H h => red_putK h⟩
end
end Dt

namespace Dt
open PySem PySem.Spec PyProof.Rows L2
/-! # Classes with one slot: __init__, making -/
abbrev MSi := Addr → Sv → List Int → MR (List D)
abbrev MFi := Addr → List D → List Int → MR (List D)
def spI (K : PySem.W.Frag) (c : Str) (n : Nat) (m : MFi) : Sp := fun vs H Q _ => ∃ pa S x dx C vs' p ds fs p', vs = .ref x :: vs' ∧ PySem.W.nsIn K mainGlobals c = some (some (.ref C)) ∧ H x = some (.ins C dx []) ∧ S x ∧ S dx ∧ pa ≠ some x ∧ pa ≠ some dx ∧ dx ≠ x ∧ Sta pa S H p ∧ RpL K pa (hid S H) vs' ds ∧ ds.length = n ∧ m x ds p = some (fs, p') ∧
  ∀ H' xs, (∀ b o, pa ≠ some b → b ≠ x → b ≠ dx → H b = some o → H' b = some o) → Sta pa S H' p' → SlX.Slt H' x C dx (xs.map some) → RpL K pa (hid S H') xs fs → Q .non H'
structure AtI (E : En) (x dx C : Addr) : Prop where
  ins : E.H x = some (.ins C dx [])
  sx : E.S x
  sd : E.S dx
  px : E.pa ≠ some x
  pd : E.pa ≠ some dx
  ne : dx ≠ x
def tI (K : PySem.W.Frag) (E : En) (x dx C : Addr) (mf : MSi) : TS := fun D σ H => ∃ S0 S A r p fs p', EnvS K false E E.pa S0 S A σ H r p ∧ mf x r p = some (fs, p') ∧
  ∀ σ' H' xs, (∀ b o, E.pa ≠ some b → b ≠ x → b ≠ dx → E.H b = some o → H' b = some o) → Sta E.pa E.S H' p' → SlX.Slt H' x C dx (xs.map some) → RpL K E.pa (hid E.S H') xs fs → D.nx σ' H'
structure SlotOf (K : PySem.W.Frag) (c f : Str) (i : Nat) : Prop where
  ex : ∃ C p, PySem.W.nsIn K mainGlobals c = some (some (.ref C)) ∧ SlX.SCls K C ∧ SlX.Slot1 K C f p i
structure JIs (X : Cx) (sts : List Stmt) (c : Str) (mf : MSi) : Prop where
  ps : ∀ E x dx C, PySem.W.nsIn X.K mainGlobals c = some (some (.ref C)) → AtI E x dx C → PSs X sts (tI X.K E x dx C mf)
def iSeq (a : MS) (b : MSi) : MSi := fun x r p => match a r p with | some (.nx r p) => b x r p | _ => none
def iSet (me : M) : MSi := fun x (r : Sv) p => match (r[0]? : Option Cl) with
  | some (.sh (.adr a)) => if a = x then bnd (me (viR r) p) fun d p => some ([d], p) else none
  | _ => none
section
variable {X : Cx} {c f : Str} {st : Stmt} {rest : List Stmt} {m0 : MS} {mf : MSi} {me : M} {e : Expr} {pos pos' p2 : Pos} {self : Str}
theorem ji_cons (h1 : JS false X st m0) (h2 : JIs X rest c mf) : JIs X (st :: rest) c (iSeq m0 mf) := ⟨fun E x dx C hC at_ => (pss_cons (h1.ps E) (h2.ps E x dx C hC at_)).weak fun D σ H ⟨S0, S, A, r, p, fs, p', e, em, q⟩ => by
  unfold iSeq at em
  split at em
  · rename_i r1 p1 e1
    refine ⟨E.pa, S0, S, A, r, p, _, e, e1, fun pa2 S02 S2 A2 σ2 H2 e2 f2 => ?_⟩
    have hpa := (e2.pap rfl).1
    subst hpa
    exact ⟨S02, S2, A2, r1, p1, fs, p', e2, em, q⟩
  · cases em⟩
theorem ji_set (so : SlotOf X.K c f 0) (h : JE X e me) (hN : X.N[0]? = some self := by rfl) (hv : Vis X.env.scope self := by first | exact Or.inl rfl | exact Or.inr (Or.inl rfl) | exact Or.inr (Or.inr rfl)) (hd : (self == ("__debug__" : Str)) = false := by decide) (hcd : (self == ("__classdict__" : Str)) = false := by decide)
    (hs : swapsWith e (some (.Attribute (.Name self p2) f pos')) pos.line X.env = pure false := by rfl) : JIs X [.Assign [.Attribute (.Name self p2) f pos'] e pos] c (iSet me) := ⟨fun E x dx C hC at_ => (pss_one (SlX.ps_sl (pe_var hN hv hd hcd) h.pe hs)).weak fun D σ H ⟨S0, S, A, r, p, fs, p', e, em, q⟩ => by
  unfold iSet at em
  split at em
  · rename_i a hr0
    split at em
    · rename_i hax
      subst hax
      obtain ⟨d, p1, e1, em⟩ := bnd_some em
      obtain ⟨rfl, rfl⟩ := pr em
      obtain ⟨C', p', hC', cls, sl⟩ := so.ex
      have hCC : C' = C := by
        rw [hC] at hC'
        cases hC'
        rfl
      subst hCC
      obtain ⟨v0, s0, r0⟩ := e.env.at_ 0 _ (shR_get.mpr hr0)
      cases r0
      refine ⟨E.pa, S0, viR r, p, d, p1, e.vis, e1, fun v H1 x1 s1 r1 => ?_⟩
      have hx : H1 a = some (.ins C' dx []) := x1 _ _ at_.px (e.ext _ _ at_.px at_.ins)
      refine ⟨.ref a, s0, a, C', dx, p', [], 0, rfl, .inl ⟨hx, rfl⟩, cls, sl, ?_⟩
      have hne : ∀ b, b ≠ a → b ≠ dx → SlX.slH H1 a C' dx (SlX.putS 0 v []) b = H1 b := fun b h1 h2 => SlX.slH_ne h1 h2
      refine q σ _ [v] (fun b o n n1 n2 hb => ?_) ⟨fun b hb => ⟨?_, ((e.pap rfl).2 b hb)⟩, fun b hb => ?_⟩ (SlX.slH_slt at_.ne) (.cons (Rp.mono (fun b o hb => ?_) _ _ r1) .nil)
      · rw [hne b n1 n2]
        exact x1 _ _ n (e.ext b o n hb)
      · rw [hne b (fun z => at_.px (by rw [← z]; exact hb)) (fun z => at_.pd (by rw [← z]; exact hb))]
        exact (s1.pool b hb).1
      · by_cases h1 : b = a
        · subst h1
          exact ⟨_, by unfold SlX.slH; exact upd_same⟩
        · by_cases h2 : b = dx
          · subst h2
            exact ⟨_, by unfold SlX.slH; rw [upd_ne h1, upd_same]⟩
          · rw [hne b h1 h2]
            exact s1.trk b (e.sub b hb)
      · obtain ⟨n, hb⟩ := of_hid hb
        refine hid_of (fun z => n (e.sub b z)) ?_
        rw [hne b (fun z => n (by rw [z]; exact e.sub _ at_.sx)) (fun z => n (by rw [z]; exact e.sub _ at_.sd))]
        exact hb
    · cases em
  · cases em⟩
end
/-- the frame that stands at an __init__'s begin -/
def runI (N n : Nat) (m : MSi) : MFi := fun x ds p => m x (startR N n (.adr x :: ds)) p
def unStar (n : Nat) (m : MFi) : MFi := fun x ds p => m x (ds.take n ++ [.tup (ds.drop n)]) p
def spIs (K : PySem.W.Frag) (c : Str) (n : Nat) (m : MFi) : Sp := fun vs H Q _ => ∃ pa S x dx C vs' p ds fs p', vs = .ref x :: vs' ∧ PySem.W.nsIn K mainGlobals c = some (some (.ref C)) ∧ H x = some (.ins C dx []) ∧ S x ∧ S dx ∧ pa ≠ some x ∧ pa ≠ some dx ∧ dx ≠ x ∧ Sta pa S H p ∧ RpL K pa (hid S H) vs' ds ∧ n ≤ ds.length ∧ ds.length ≤ lim ∧ unStar n m x ds p = some (fs, p') ∧
  ∀ H' xs, (∀ b o, pa ≠ some b → b ≠ x → b ≠ dx → H b = some o → H' b = some o) → Sta pa S H' p' → SlX.Slt H' x C dx (xs.map some) → RpL K pa (hid S H') xs fs → Q .non H'
end Dt

namespace Dt
open PySem PySem.Spec PyProof.Rows L2
section
variable {P : Program} {w : World} {K : PySem.W.Frag} {mg : Str → Option Value} {base : Heap}
theorem fn_initS {c qual self pv : Str} {st : Stmt} {f : Addr} {fd : FuncData} {N : List Str} {k : Nat} {m : MSi} (F : Fun K "__init__" qual st f fd) (S : FnScope N [self, pv] (defScope st)) (hN : 2 ≤ N.length)
    (hb : ∀ (kV doc pm : Value) (an : Option Addr) (cdv ct : Value) (us rest : List Value), us.length = [self].length → bindArgs (PySem.W.fnOf "__init__" qual (defArgs st) (defBody st) (defScope st) .none kV doc pm an cdv ct) ⟨us ++ rest, []⟩ = (newTuple rest >>= fun t => pure ([self].zip us ++ [(pv, t)])))
    (body : ∀ (cdv : Value) (A : Around) (outer : List Env) (s : Shared) (H : Hp) (E : XK), Room k (A.deeper (envOfC qual (defScope st) s.heap.objs.size f cdv)) → JIs (cxOf CX0 P w K mg base N qual (defScope st) f cdv A outer s H E).nox (defBody st) c m) :
    FnR P w K mg base CX0 (k + 1) f (spIs K c 0 (runI N.length 2 m)) := by
  obtain ⟨oc, od, kV, doc, pm, an, cdv, ct, osl, rfl, lk, hcd⟩ := F.ex
  refine (StX.fn_star (ps := [self]) (sp := spI K c 1 (runI N.length 2 m)) lk hcd S StX.cxUp_none (hb kV doc pm an cdv ct) (fun A outer s H vs Q E hr h => ?_)).imp fun vs H Q E h => ?_
  · obtain ⟨pa, S0, x, dx, C, vs', p, ds, fs, p', rfl, hC, hx, sx, sd, px, pd, ne, sta, r, hl, e, q⟩ := h
    have at_ : AtI ⟨pa, S0, H⟩ x dx C := ⟨hx, sx, sd, px, pd, ne⟩
    refine ⟨_, PSs.nox ((body cdv A outer s H E hr).ps ⟨pa, S0, H⟩ x dx C hC at_), ?_⟩
    have e0 := env_start (fx := false) (N := N) (ps := [self, pv]) (fun z => by cases z) (by rw [List.length_cons, hl]; rfl) hN sta (.cons (.adr x) r)
    exact ⟨S0, S0, _, _, p, fs, p', e0, e, fun σ' H' xs h1 h2 h3 h4 => q H' xs h1 h2 h3 h4⟩
  · obtain ⟨pa, S0, x, dx, C, vs', p, ds, fs, p', rfl, hC, hx, sx, sd, px, pd, ne, sta, r, hl, hl2, e, q⟩ := h
    refine ⟨[.ref x], vs', rfl, rfl, by rw [r.length]; exact lim_sz hl2, fun t ht => ?_⟩
    have sm : Same H (upd H t (.tup vs')) := same_upd ht
    refine ⟨pa, S0, x, dx, C, [.ref t], p, [.tup ds], fs, p', rfl, hC, sm _ _ hx, sx, sd, px, pd, ne, sta.same sm, .cons (.tup (SqT.of (hid_of (sta.new ht) upd_same)) (RpL.mono (Same.hid sm) _ _ r)) .nil, rfl, e, fun H' xs h1 h2 h3 h4 => q H' xs (fun b o n n1 n2 hb => h1 b o n n1 n2 (sm _ _ hb)) h2 h3 h4⟩
end
/-! ## making -/
open Classical in
noncomputable def mMake (c : Str) (m : MFi) (a : ML) : M := fun r p => bnd (a r p) fun ds p => if h : ∃ (z : List D × List Int), ∀ x, m x ds p = some z then some (.slt c h.choose.1, h.choose.2) else none
theorem mMake_of {c : Str} {m : MFi} {a : ML} {r : Ev} {p p1 p2 : List Int} {ds fs : List D} (h1 : a r p = some (ds, p1)) (h2 : ∀ x, m x ds p1 = some (fs, p2)) : mMake c m a r p = some (.slt c fs, p2) := by
  unfold mMake
  rw [h1]
  simp only [bnd_eq]
  have h : ∃ (z : List D × List Int), ∀ x, m x ds p1 = some z := ⟨(fs, p2), h2⟩
  rw [dif_pos h]
  have := h.choose_spec 0
  rw [h2 0] at this
  have e := Option.some.inj this
  rw [← e]
theorem mMake_spec {c : Str} {m : MFi} {a : ML} {r : Ev} {p p2 : List Int} {d : D} (h : mMake c m a r p = some (d, p2)) : ∃ ds p1 fs, a r p = some (ds, p1) ∧ d = .slt c fs ∧ ∀ x, m x ds p1 = some (fs, p2) := by
  unfold mMake at h
  obtain ⟨ds, p1, e1, h⟩ := bnd_some h
  split at h
  · rename_i hh
    obtain ⟨e2, e3⟩ := pr h
    refine ⟨ds, p1, hh.choose.1, e1, e2.symm, fun x => ?_⟩
    rw [hh.choose_spec x, ← e3]
  · cases h
section
variable {X : Cx} {CX : CXT} {k : Nat} {f C : Addr} {sp : Sp} {E : XK} {x : Str} {e : Expr} {es : List Expr} {t : TA} {p pos : Pos}
theorem pe_makeR0 (M : Mk X.K C f) (F : FnR X.prog X.w X.K X.mg X.base CX k f sp) (hr : Room (k + 1) X.A) (hg : Gl X x) (hm : X.mg x = some (.ref C)) (hx : Passes CX X E) (hdb : (x == ("__debug__" : Str)) = false := by decide) : PE X (.Call (.Name x p) [] [] pos) (StX.tMakeR C sp E tNil) := by
  refine ⟨fun pins s σ H Q I h => ?_⟩
  refine wpAny_Call_Name_kw (ld_glob I hg hm ?_ hdb)
  exact PySem.W.callWith_K0 I.kIn M.kp (StX.run_makeR (us := []) M F hr hx I .nil h)
theorem red_makeF {K : PySem.W.Frag} {c : Str} {n : Nat} {m : MFi} {a : ML} {C : Addr} {pa : Option Addr} {S : Addr → Prop} {r : Ev} {p p1 p' : List Int} {ds fs : List D} (hC : PySem.W.nsIn K mainGlobals c = some (some (.ref C))) {E : XK} {σ : L2.St} {H : Hp} {Q : VK} (cn : Cn K pa S σ H r p) (e1 : a r p = some (ds, p1)) (hn : n ≤ ds.length ∧ ds.length ≤ lim) (e2 : ∀ x, unStar n m x ds p1 = some (fs, p'))
    (q : ∀ x dx H' xs, Ext pa H H' → Sta pa S H' p' → H x = none → H dx = none → dx ≠ x → SlX.Slt H' x C dx (xs.map some) → RpL K pa (hid (fun b => S b ∨ b = x ∨ b = dx) H') xs fs → Q (.ref x) H') : StX.tMakeR C (spIs K c n m) E (tML K a) σ H Q := by
  refine ⟨pa, S, r, p, ds, p1, cn, e1, fun vs H1 x1 s1 r1 x dx hx hdx ne => ?_⟩
  have H2e : ∀ b, b ≠ x → b ≠ dx → (upd (upd H1 dx (.own x)) x (.ins C dx [])) b = H1 b := fun b h1 h2 => by rw [upd_ne h1, upd_ne h2]
  have hpx : pa ≠ some x := s1.notpool hx
  have hpd : pa ≠ some dx := s1.notpool hdx
  have sm : Same (hid S H1) (hid (fun b => S b ∨ b = x ∨ b = dx) (upd (upd H1 dx (.own x)) x (.ins C dx []))) := fun b o hb => by
    obtain ⟨n1, hb⟩ := of_hid hb
    have b1 : b ≠ x := fun z => by rw [z, hx] at hb; cases hb
    have b2 : b ≠ dx := fun z => by rw [z, hdx] at hb; cases hb
    refine hid_of (fun z => ?_) (by rw [H2e b b1 b2]; exact hb)
    rcases z with z | z | z
    · exact n1 z
    · exact b1 z
    · exact b2 z
  refine ⟨pa, fun b => S b ∨ b = x ∨ b = dx, x, dx, C, vs, p1, ds, fs, p', rfl, hC, upd_same, .inr (.inl rfl), .inr (.inr rfl), hpx, hpd, ne, ⟨fun b hb => ⟨?_, .inl (s1.pool b hb).2⟩, fun b hb => ?_⟩, RpL.mono sm _ _ r1, hn.1, hn.2, e2 x, fun H' xs h1 h2 h3 h4 => ⟨rfl, ?_⟩⟩
  · rw [H2e b (fun z => hpx (by rw [← z]; exact hb)) (fun z => hpd (by rw [← z]; exact hb))]
    exact (s1.pool b hb).1
  · by_cases b1 : b = x
    · rw [b1]; exact ⟨_, upd_same⟩
    · by_cases b2 : b = dx
      · rw [b2]; exact ⟨_, by rw [upd_ne ne]; exact upd_same⟩
      · rw [H2e b b1 b2]
        rcases hb with hb | hb | hb
        · exact s1.trk b hb
        · exact absurd hb b1
        · exact absurd hb b2
  · refine q x dx H' xs (x1.trans fun b o n hb => ?_) ⟨fun b hb => ⟨(h2.pool b hb).1, (s1.pool b hb).2⟩, fun b hb => h2.trk b (.inl hb)⟩ (x1.free hpx hx) (x1.free hpd hdx) ne h3 h4
    have b1 : b ≠ x := fun z => by rw [z, hx] at hb; cases hb
    have b2 : b ≠ dx := fun z => by rw [z, hdx] at hb; cases hb
    exact h1 b o n b1 b2 (by rw [H2e b b1 b2]; exact hb)
theorem red_make {K : PySem.W.Frag} {c : Str} {n : Nat} {m : MFi} {a : ML} {C : Addr} (hC : PySem.W.nsIn K mainGlobals c = some (some (.ref C))) (hn : ∀ r p ds p', a r p = some (ds, p') → n ≤ ds.length ∧ ds.length ≤ lim) {E : XK} {σ : L2.St} {H : Hp} {Q : VK} (h : tM K (mMake c (unStar n m) a) σ H Q) : StX.tMakeR C (spIs K c n m) E (tML K a) σ H Q := by
  obtain ⟨pa, S, r, p, d, p', cn, e, q⟩ := h
  obtain ⟨ds, p1, fs, e1, rfl, e2⟩ := mMake_spec e
  refine red_makeF hC cn e1 (hn _ _ _ _ e1) e2 fun x dx H' xs x1 s1 hx hdx ne h3 h4 => ?_
  refine q _ H' x1 s1 (.slt (dx := dx) hC ?_ (RpL.mono (fun b o hb => ?_) _ _ h4))
  · have n1 : ¬ S x := cn.sta.new hx
    have n2 : ¬ S dx := cn.sta.new hdx
    rcases h3 with ⟨g1, g2⟩ | ⟨g1, g2⟩
    · exact .inl ⟨hid_of n1 g1, g2⟩
    · exact .inr ⟨hid_of n1 g1, hid_of n2 g2⟩
  · obtain ⟨n1, hb⟩ := of_hid hb
    exact hid_of (fun z => n1 (.inl z)) hb
theorem je_make0 {c : Str} {m : MFi} {p pos : Pos} (M : Mk X.K C f) (F : FnR X.prog X.w X.K X.mg X.base CX0 k f (spIs X.K c 0 m)) (hr : Room (k + 1) X.A) (hC : PySem.W.nsIn X.K mainGlobals c = some (some (.ref C))) (hm : X.mg c = some (.ref C)) (hg : Gl X c := by rfl) (hdb : (c == ("__debug__" : Str)) = false := by decide) :
    JE X (.Call (.Name c p) [] [] pos) (mMake c (unStar 0 m) mNil) :=
  ⟨(pe_makeR0 M F hr hg hm pass0 hdb).weak fun σ H Q h => by
    obtain ⟨pa, S, r, p, ds, p1, cn, e1, q⟩ := red_make (E := fun _ _ _ => True) hC (fun r p ds p' h => by cases h; exact ⟨Nat.le_refl _, Nat.zero_le _⟩) h
    cases e1
    intro x dx hx hdx ne
    exact q [] H Ext.refl cn.sta .nil x dx hx hdx ne⟩
/-- x = C(); x.f = e; return x -/
noncomputable def sMakeSet (c : Str) (i : Nat) (m : MFi) (me : M) : MS := fun r p => match mMake c m mNil (shR r) p with
  | some (.slt _ [_], p1) => if i < r.length then (match me (shR (r.set i .no)) p1 with
    | some (d, p2) => some (.rt (.slt c [d]) p2)
    | none => none) else none
  | _ => none
theorem jss_makeSet {c f x : Str} {i : Nat} {m : MFi} {me : M} {e : Expr} {p1 p2 p3 p4 p5 p6 p7 p8 p9 : Pos} {f' : Addr} (M : Mk X.K C f') (F : FnR X.prog X.w X.K X.mg X.base CX0 k f' (spIs X.K c 0 m)) (hr : Room (k + 1) X.A) (hC : PySem.W.nsIn X.K mainGlobals c = some (some (.ref C))) (hm : X.mg c = some (.ref C)) (so : SlotOf X.K c f 0) (he : JE X e me) (hN : X.N.Nodup)
    (hg : Gl X c := by rfl) (hdb : (c == ("__debug__" : Str)) = false := by decide) (hi : X.N[i]? = some x := by rfl) (hx : Loc X.env.scope x := by first | exact Or.inl rfl | exact Or.inr rfl) (hv : Vis X.env.scope x := by first | exact Or.inl rfl | exact Or.inr (Or.inl rfl) | exact Or.inr (Or.inr rfl)) (hd : (x == ("__debug__" : Str)) = false := by decide) (hcd : (x == ("__classdict__" : Str)) = false := by decide)
    (hf : X.fn x = true ∨ X.env.scope.names.lookup x = some .local := by first | exact .inl rfl | exact .inr rfl) (hs : swapsWith e (some (.Attribute (.Name x p5) f p6)) p7.line X.env = pure false := by rfl) :
    JSs false X [.Assign [.Name x p1] (.Call (.Name c p2) [] [] p3) p4, .Assign [.Attribute (.Name x p5) f p6] e p7, .Return (some (.Name x p8)) p9] (sMakeSet c i (unStar 0 m) me) :=
  ⟨fun E => (pss_cons (ps_set (i := i) hN hi hx (pe_makeR0 M F hr hg hm pass0 hdb) rfl hf) (pss_cons (SlX.ps_sl (pe_var hi hv hd hcd) he.pe hs) (pss_one (ps_ret (pe_var hi hv hd hcd))))).weak fun D σ H ⟨pa, S0, S, A, r, p, o, en, em, q⟩ => by
    unfold sMakeSet at em
    split at em
    · rename_i c' d0 pp1 e1
      split at em
      · rename_i hlen
        split at em
        · rename_i d pp2 e2
          cases em
          obtain ⟨ds, q1, fs, a1, a2, a3⟩ := mMake_spec e1
          cases a1
          cases a2
          obtain ⟨C', p', hC', cls, sl⟩ := so.ex
          rw [hC] at hC'
          cases hC'
          have hred := red_makeF (E := fun _ _ _ => True) (Q := fun v H1 => gName i v σ H1 fun σ2 H2 => SlX.sSl X.K (tVar i) (tM X.K me) f { D with nx := fun σ3 H3 => tRet (tVar i) D σ3 H3 } σ2 H2) hC en.cn (a := mNil) rfl ⟨Nat.le_refl _, Nat.zero_le _⟩ a3 fun x dx H' xs x1 s1 hx hdx ne h3 h4 => ?_
          · obtain ⟨pa', S', r', p', ds', pq, cn', e1', q'⟩ := hred
            cases e1'
            exact fun x dx h1 h2 h3 => q' [] H Ext.refl cn'.sta .nil x dx h1 h2 h3
          · -- the instance stands at slot i
            have e' := en.go x1 ⟨fun b hb => ⟨(s1.pool b hb).1, (en.sta.pool b hb).2⟩, fun b hb => s1.trk b ((en.hS b).mpr (.inl hb))⟩
            have hxs : xs.length = 1 := h4.length
            obtain ⟨g1, g2⟩ : H' x = some (SlX.SlO x C dx (xs.map some)) ∧ H' dx = some (.xd []) := by
              rcases h3 with ⟨_, g2⟩ | h3
              · rw [List.map_eq_nil_iff] at g2
                rw [g2] at hxs
                cases hxs
              · exact h3
            have fr2 : Same (hid S H) (hid (fun b => S b ∨ b = x ∨ b = dx) H') := fun b o hb => by
              obtain ⟨n, hb⟩ := of_hid hb
              refine hid_of (fun z => ?_) (x1 b o (fun z => n (en.staS.pool b z).2) hb)
              rcases z with z | z | z
              · exact n z
              · rw [z, hx] at hb; cases hb
              · rw [z, hdx] at hb; cases hb
            have cn2 : Cn X.K pa (fun b => S b ∨ b = x ∨ b = dx) (σ.set i (some (.ref x))) H' (shR (r.set i .no)) pp1 := ⟨⟨fun b hb => ⟨(s1.pool b hb).1, .inl (s1.pool b hb).2⟩, fun b hb => by
              rcases hb with hb | hb | hb
              · exact s1.trk b hb
              · rw [hb]; exact ⟨_, g1⟩
              · rw [hb]; exact ⟨_, g2⟩⟩, by
              have h5 := en.env.mono fr2
              refine ⟨?_, fun j dd hj => ?_⟩
              · rw [List.length_set, h5.len]; unfold shR; rw [List.length_map, List.length_map, List.length_set]
              · have hj2 := shR_get.mp hj
                by_cases hij : i = j
                · subst hij
                  rw [List.getElem?_set_self hlen] at hj2
                  cases hj2
                · rw [List.getElem?_set_ne hij] at hj2
                  obtain ⟨v, g1, g2⟩ := h5.at_ j dd (shR_get.mpr hj2)
                  exact ⟨v, by rw [List.getElem?_set_ne hij]; exact g1, g2⟩⟩
            refine ⟨pa, _, _, pp1, d, pp2, cn2, e2, fun v H2 x2 s2 r2 => ?_⟩
            have hil : i < σ.length := by have := en.env.len; unfold shR at this; rw [List.length_map] at this; omega
            have hpx : pa ≠ some x := en.staS.notpool hx
            have hpd : pa ≠ some dx := en.staS.notpool hdx
            have hsl2 : SlX.Slt H2 x C dx (xs.map some) := by
              rcases h3 with ⟨g1, g2⟩ | ⟨g1, g2⟩
              · exact .inl ⟨x2 _ _ hpx g1, g2⟩
              · exact .inr ⟨x2 _ _ hpx g1, x2 _ _ hpd g2⟩
            refine ⟨.ref x, List.getElem?_set_self hil, x, C, dx, p', xs.map some, 0, rfl, hsl2, cls, sl, ?_⟩
            refine ⟨.ref x, List.getElem?_set_self hil, ?_⟩
            have hput : SlX.putS 0 v (xs.map some) = [some v] := by
              have := h4.length
              cases xs with
              | nil => simp at this
              | cons y ys =>
                cases ys with
                | nil => rfl
                | cons _ _ => simp at this
            rw [hput]
            have hne : ∀ b, b ≠ x → b ≠ dx → SlX.slH H2 x C dx [some v] b = H2 b := fun b h1 h2 => SlX.slH_ne h1 h2
            have hEx : E.H x = none := by
              cases hh : E.H x with
              | none => rfl
              | some o => rw [en.ext x o (fun z => by rw [(en.pap rfl).1] at hpx; exact hpx z) hh] at hx; cases hx
            have hEd : E.H dx = none := by
              cases hh : E.H dx with
              | none => rfl
              | some o => rw [en.ext dx o (fun z => by rw [(en.pap rfl).1] at hpd; exact hpd z) hh] at hdx; cases hdx
            have n1 : ¬ S x := en.staS.new hx
            have n2 : ¬ S dx := en.staS.new hdx
            have hpaE := (en.pap rfl).1
            subst hpaE
            refine q (.ref x) _ (fun b o n hb => ?_) ⟨fun b hb => ⟨?_, (en.pap rfl).2 b hb⟩, fun b hb => ?_⟩ (.slt (dx := dx) hC ?_ (.cons (Rp.mono (fun b o hb => ?_) _ _ r2) .nil))
            · rw [hne b (fun z => by rw [z, hEx] at hb; cases hb) (fun z => by rw [z, hEd] at hb; cases hb)]
              exact x2 _ _ n (x1 _ _ n (en.ext b o n hb))
            · rw [hne b (fun z => hpx (by rw [← z]; exact hb)) (fun z => hpd (by rw [← z]; exact hb))]
              exact (s2.pool b hb).1
            · have hSb : S b := (en.hS b).mpr (.inl (en.sub b hb))
              rw [hne b (fun z => n1 (by rw [← z]; exact hSb)) (fun z => n2 (by rw [← z]; exact hSb))]
              exact s2.trk b (.inl hSb)
            · have m1 : ¬ E.S x := fun z => n1 ((en.hS x).mpr (.inl (en.sub x z)))
              have m2 : ¬ E.S dx := fun z => n2 ((en.hS dx).mpr (.inl (en.sub dx z)))
              rcases SlX.slH_slt (H := H2) (C := C) (vs := [some v]) ne with ⟨g1, g2⟩ | ⟨g1, g2⟩
              · cases g2
              · exact .inr ⟨hid_of m1 g1, hid_of m2 g2⟩
            · obtain ⟨n3, hb⟩ := of_hid hb
              refine hid_of (fun z => n3 (.inl ((en.hS b).mpr (.inl (en.sub b z))))) ?_
              rw [hne b (fun z => n3 (.inr (.inl z))) (fun z => n3 (.inr (.inr z)))]
              exact hb
        · cases em
      · cases em
    · cases em⟩
end
end Dt

namespace Dt
open PySem PySem.Spec PyProof.Rows L2
/-! # More of texts, repr, reversed tuples, list times int, enumerate of either, three at once -/
section
variable {X : Cx} {K : PySem.W.Frag}
def dRemovePre : D → List D → Option D
  | .str a, [.str b] => if (Txt.removeprefix a b).length ≤ lim then some (.str (Txt.removeprefix a b)) else none
  | _, _ => none
theorem md_removePre : MtD K "str" (fun x xs H Q => ∃ a b, x = .str a ∧ xs = [.str b] ∧ a.length ≤ sizeLine ∧ Q (.str (Txt.removeprefix a b)) H) dRemovePre := by
  intro pa S H p x xs d ds z Q s rx rxs h q
  unfold dRemovePre at h
  split at h
  · split at h
    · rename_i hl
      cases h
      cases rx with
      | str _ ha =>
        cases rxs with
        | cons r1 r2 => cases r2; cases r1; exact ⟨_, _, rfl, rfl, by have := lim_lt; omega, q _ H (fun _ _ h => h) (.str _ hl)⟩
    · cases h
  · cases h
theorem dRemovePre_str {d : D} {ds : List D} {z : D} (h : dRemovePre d ds = some z) : ∃ x, d = .str x := by
  unfold dRemovePre at h
  split at h
  · exact ⟨_, rfl⟩
  · cases h
def dPart : D → List D → Option D
  | .str a, [.str b] => if (b.length == 0) = false then (if (Txt.partition a b).1.length ≤ lim ∧ (Txt.partition a b).2.1.length ≤ lim ∧ (Txt.partition a b).2.2.length ≤ lim then some (.tup [.str (Txt.partition a b).1, .str (Txt.partition a b).2.1, .str (Txt.partition a b).2.2]) else none) else none
  | _, _ => none
theorem md_part : MtD K "str" (fun x xs H Q => ∃ a b, x = .str a ∧ xs = [.str b] ∧ (b.length == 0) = false ∧ a.length ≤ sizeLine ∧
    ∀ p, H p = none → Q (.ref p) (upd H p (.tup [.str (Txt.partition a b).1, .str (Txt.partition a b).2.1, .str (Txt.partition a b).2.2]))) dPart := by
  intro pa S H p x xs d ds z Q s rx rxs h q
  unfold dPart at h
  split at h
  · split at h
    · rename_i hb
      split at h
      · rename_i hl
        cases h
        cases rx with
        | str _ ha =>
          cases rxs with
          | cons r1 r2 => cases r2; cases r1; exact ⟨_, _, rfl, rfl, hb, by have := lim_lt; omega, fun n hn => q _ _ (same_upd hn) (Rp.newT s (.cons (.str _ hl.1) (.cons (.str _ hl.2.1) (.cons (.str _ hl.2.2) .nil))) hn)⟩
      · cases h
    · cases h
  · cases h
theorem dPart_str {d : D} {ds : List D} {z : D} (h : dPart d ds = some z) : ∃ x, d = .str x := by
  unfold dPart at h
  split at h
  · exact ⟨_, rfl⟩
  · cases h
section
variable {o e : Expr} {mo : M} {ms : ML} {apos cpos : Pos}
theorem je_starts {es : List Expr} (ho : JE X o mo) (ha : JA X (e :: es) ms)
    (hbase : attributeBase o "startswith" X.env (eval o X.env) = eval o X.env := by rfl)
    (hfew : ((backTo cpos (starEach (e :: es) X.env)).all (fun x => !x.1) && (backToKw cpos (keywordEach [] X.env)).all (fun x => x.1.isSome) && decide ((e :: es).length + ([] : List Keyword).length + (if ([] : List Keyword).isEmpty then 0 else 1) < 30)) = true := by rfl)
    (hline : (apos.endLine == cpos.line) = true := by rfl) (hs : starEach (e :: es) X.env = (false, eval e X.env) :: starEach es X.env := by rfl) (hplain : (backTo cpos (starEach es X.env)).any (·.1) = false := by rfl) :
    JE X (.Call (.Attribute o "startswith" apos) (e :: es) [] cpos) (mMt dStarts mo ms) := je_mt PySem.F.plainAttrs_str PySem.F.slot_str_startswith PySem.F.type_str_startswith mt_startswith md_starts (ty_str fun _ _ _ => dStarts_str) ho ha hbase hfew hline hs hplain
theorem je_removePre {es : List Expr} (ho : JE X o mo) (ha : JA X (e :: es) ms)
    (hbase : attributeBase o "removeprefix" X.env (eval o X.env) = eval o X.env := by rfl)
    (hfew : ((backTo cpos (starEach (e :: es) X.env)).all (fun x => !x.1) && (backToKw cpos (keywordEach [] X.env)).all (fun x => x.1.isSome) && decide ((e :: es).length + ([] : List Keyword).length + (if ([] : List Keyword).isEmpty then 0 else 1) < 30)) = true := by rfl)
    (hline : (apos.endLine == cpos.line) = true := by rfl) (hs : starEach (e :: es) X.env = (false, eval e X.env) :: starEach es X.env := by rfl) (hplain : (backTo cpos (starEach es X.env)).any (·.1) = false := by rfl) :
    JE X (.Call (.Attribute o "removeprefix" apos) (e :: es) [] cpos) (mMt dRemovePre mo ms) := je_mt PySem.F.plainAttrs_str PySem.F.slot_str_removeprefix PySem.F.type_str_removeprefix mt_removeprefix md_removePre (ty_str fun _ _ _ => dRemovePre_str) ho ha hbase hfew hline hs hplain
theorem je_part {es : List Expr} (ho : JE X o mo) (ha : JA X (e :: es) ms)
    (hbase : attributeBase o "partition" X.env (eval o X.env) = eval o X.env := by rfl)
    (hfew : ((backTo cpos (starEach (e :: es) X.env)).all (fun x => !x.1) && (backToKw cpos (keywordEach [] X.env)).all (fun x => x.1.isSome) && decide ((e :: es).length + ([] : List Keyword).length + (if ([] : List Keyword).isEmpty then 0 else 1) < 30)) = true := by rfl)
    (hline : (apos.endLine == cpos.line) = true := by rfl) (hs : starEach (e :: es) X.env = (false, eval e X.env) :: starEach es X.env := by rfl) (hplain : (backTo cpos (starEach es X.env)).any (·.1) = false := by rfl) :
    JE X (.Call (.Attribute o "partition" apos) (e :: es) [] cpos) (mMt dPart mo ms) := je_mt PySem.F.plainAttrs_str PySem.F.slot_str_partition PySem.F.type_str_partition mt_partition md_part (ty_str fun _ _ _ => dPart_str) ho ha hbase hfew hline hs hplain
end
/-! ## repr, str, int -/
def nSmall (i : Int) : Bool := decide (i.natAbs.log2 < 1920)
def boolText (b : Bool) : Str := if b then "True" else "False"
def dRepr : List D → Option D
  | [.int i] => if nSmall i = true ∧ (toString i : Str).length ≤ lim then some (.str (toString i)) else none
  | [.bl b] => some (.str (boolText b))
  | [.non] => some (.str "None")
  | _ => none
def rRepr : List V → Hp → VK → Prop := fun xs H Q => (∃ i, xs = [.int i] ∧ i.natAbs.log2 < 1920 ∧ Q (.str (toString i)) H) ∨ (∃ b, xs = [.bl b] ∧ Q (.str (boolText b)) H) ∨ xs = [.non] ∧ Q (.str "None") H
theorem call_reprD : CallR X (.builtin "repr") rRepr := by
  intro pins s σ H xs us Q I r h
  rcases h with h | ⟨b, rfl, q⟩ | ⟨rfl, q⟩
  · exact SkE.call_repr_int pins s σ H xs us Q I r h
  · obtain ⟨u, rfl, rb⟩ := vals1 r
    cases rb
    exact PySem.P.repr_of_bool ⟨.str _, H, I.tok _, ⟨_, rfl⟩, q⟩
  · obtain ⟨u, rfl, rb⟩ := vals1 r
    cases rb
    exact PySem.P.repr_of_none ⟨.str _, H, I.tok _, ⟨_, rfl⟩, q⟩
theorem cd_repr : CallD K rRepr dRepr := by
  intro pa S H p xs ds z Q s r h q
  cases r with
  | nil => cases h
  | cons r1 r2 =>
    cases r2 with
    | cons _ _ => cases r1 <;> cases h
    | nil =>
      cases r1 with
      | int i =>
        unfold dRepr at h
        simp only at h
        split at h
        · rename_i hh
          cases h
          exact .inl ⟨i, rfl, of_decide_eq_true hh.1, q _ H (fun _ _ h => h) (.str _ hh.2)⟩
        · cases h
      | bl b => cases h; exact .inr (.inl ⟨b, rfl, q _ H (fun _ _ h => h) (.str _ (by cases b <;> decide +kernel))⟩)
      | non => cases h; exact .inr (.inr ⟨rfl, q _ H (fun _ _ h => h) (.str _ (by decide +kernel))⟩)
      | _ => cases h
def dStr : List D → Option D
  | [.int i] => if nSmall i = true ∧ (toString i : Str).length ≤ lim then some (.str (toString i)) else none
  | [.str x] => some (.str x)
  | _ => none
def rStr : List V → Hp → VK → Prop := fun xs H Q => (∃ i, xs = [.int i] ∧ i.natAbs.log2 < 1920 ∧ Q (.str (toString i)) H) ∨ ∃ a, xs = [.str a] ∧ Q (.str a) H
theorem call_strD : CallR X (.type "str") rStr := by
  intro pins s σ H xs us Q I r h
  rcases h with h | h
  · exact call_str_int pins s σ H xs us Q I r h
  · exact SkE.call_str_str pins s σ H xs us Q I r h
theorem cd_str : CallD K rStr dStr := by
  intro pa S H p xs ds z Q s r h q
  cases r with
  | nil => cases h
  | cons r1 r2 =>
    cases r2 with
    | cons _ _ => cases r1 <;> cases h
    | nil =>
      cases r1 with
      | int i =>
        unfold dStr at h
        simp only at h
        split at h
        · rename_i hh
          cases h
          exact .inl ⟨i, rfl, of_decide_eq_true hh.1, q _ H (fun _ _ h => h) (.str _ hh.2)⟩
        · cases h
      | str x hx => cases h; exact .inr ⟨x, rfl, q _ H (fun _ _ h => h) (.str _ hx)⟩
      | _ => cases h
def dIntA : List D → Option D
  | [.str a] => if a.length ≤ 640 then (PySem.intText? a).map .int else none
  | ds => dInt ds
theorem call_intA : CallR X (.type "int") (fun xs H Q => (∃ a n, xs = [.str a] ∧ PySem.intText? a = some n ∧ a.length ≤ 640 ∧ Q (.int n) H) ∨ (∃ i, xs = [.int i] ∧ Q (.int i) H) ∨ ∃ k, xs = [.bl k] ∧ Q (.int (if k then 1 else 0)) H) := by
  intro pins s σ H xs us Q I r h
  rcases h with h | h
  · exact call_int_str pins s σ H xs us Q I r h
  · exact call_int1 pins s σ H xs us Q I r h
theorem cd_intA : CallD K (fun xs H Q => (∃ a n, xs = [.str a] ∧ PySem.intText? a = some n ∧ a.length ≤ 640 ∧ Q (.int n) H) ∨ (∃ i, xs = [.int i] ∧ Q (.int i) H) ∨ ∃ k, xs = [.bl k] ∧ Q (.int (if k then 1 else 0)) H) dIntA := by
  intro pa S H p xs ds z Q s r h q
  unfold dIntA at h
  split at h
  · rename_i a
    split at h
    · rename_i hl
      obtain ⟨n, hn, rfl⟩ := Option.map_eq_some_iff.mp h
      cases r with
      | cons r1 r2 => cases r2; cases r1; exact .inl ⟨a, n, rfl, hn, hl, q _ H (fun _ _ h => h) (.int _)⟩
    · cases h
  · exact .inr (cd_int pa S H p _ _ z Q s r h q)
/-! ## t[::-1] -/
def tRevT (K : PySem.W.Frag) (te : TE) : TE := fun σ H Q => te σ H fun x H1 => ∃ a xs, x = .ref a ∧ SqT K H1 a xs ∧ ∀ p, H1 p = none → Q (.ref p) (upd H1 p (.tup xs.reverse))
theorem pe_revA {e : Expr} {te : TE} {k : Nat} {p1 p2 p3 pos : Pos} (he : PE X e te) : PE X (.Subscript e (.Slice none none (some (.UnaryOp .USub (.Constant (.int 1) k p1) p2)) p3) pos) (fun σ H Q => te σ H fun x H1 => (∃ a xs, x = .ref a ∧ SqL X.K H1 a xs ∧ ∀ p, H1 p = none → Q (.ref p) (upd H1 p (.lst xs.reverse))) ∨ ∃ a xs, x = .ref a ∧ SqT X.K H1 a xs ∧ ∀ p, H1 p = none → Q (.ref p) (upd H1 p (.tup xs.reverse))) := by
  refine ⟨fun pins s σ H Q I h => ?_⟩
  refine Subscript_ (thn (he.run pins s σ H _ I h) fun v s1 ⟨x, H1, I1, r1, q1⟩ => ?_)
  have hst : PO X (some (.UnaryOp .USub (.Constant (.int 1) k p1) p2)) (tPart (tUn (rU fun i => .int (-i)) (tC (.int 1)))) := po_some (pe_un un_neg pe_int)
  refine wpAny_Slice (thn (po_none.run pins s1 σ H1 (fun o H2 => o = none ∧ H2 = H1) I1 ⟨rfl, rfl⟩) fun vl s2 ⟨l, H2, I2, pl, el, e2⟩ => ?_)
  subst el e2
  refine thn (po_none.run pins s2 σ H2 (fun o H3 => o = none ∧ H3 = H2) I2 ⟨rfl, rfl⟩) fun vu s3 ⟨u, H3, I3, pu, eu, e3⟩ => ?_
  subst eu e3
  refine thn (hst.run pins s3 σ H3 (fun o H4 => o = some (-1) ∧ H4 = H3) I3 ⟨1, rfl, -1, rfl, rfl, rfl⟩) fun vs s4 ⟨o, H4, I4, ps, eo, e4⟩ => ?_
  subst eo e4
  have I5 : Inv X pins σ H4 { s4 with heap := s4.heap.push { cls := .type "slice", data := .fields #[vl, vu, vs] } } := I4.kept (t' := s4.toks) fun b ob q => Heap.get?_push_of_some _ q
  rcases q1 with ⟨a, xs, ex, hx, q⟩ | ⟨a, xs, ex, hx, q⟩
  · subst ex
    cases r1
    obtain ⟨its, r, ht, hz⟩ := I5.list hx
    have hlen := r.length
    show wpAny (model X.prog X.w) X.A (subscriptTail e (.Slice none none (some (.UnaryOp .USub (.Constant (.int 1) k p1) p2)) p3) (.ref a) (.ref s4.heap.objs.size)) (EP X pins σ Q) X.xe { s4 with heap := s4.heap.push { cls := .type "slice", data := .fields #[vl, vu, vs] } }
    refine tail_any (ops := [.ref a, .ref s4.heap.objs.size]) ht.isList.typeIs (PySem.slot_list_getitem.lookup) ?_ (by with_unfolding_all rfl)
    refine wpAny_getItem_list_slice ht.isList (Heap.IsSliceOf.new _ vl vu vs) pl pu ps (by decide) ?_ (by rw [List.size_toArray]; omega)
    rw [PySem.W.krv_pick]
    refine ⟨.ref _, _, I5.laid (t' := s4.toks) (o := .lst xs.reverse) (fun b ob q => Heap.get?_push_of_some _ q) (Nat.le_refl _) ?_, rfl, q _ (I5.hok.fresh (Nat.le_refl _))⟩
    exact ⟨by rw [List.length_reverse]; exact hz, _, 0, r.reverse, Heap.get?_push_size _ rfl⟩
  · subst ex
    cases r1
    obtain ⟨its, r, ht, hz⟩ := I5.tuple hx
    have hlen := r.length
    have epl : vl = Value.none := by cases pl; rfl
    have epu : vu = Value.none := by cases pu; rfl
    subst epl epu
    show wpAny (model X.prog X.w) X.A (subscriptTail e (.Slice none none (some (.UnaryOp .USub (.Constant (.int 1) k p1) p2)) p3) (.ref a) (.ref s4.heap.objs.size)) (EP X pins σ Q) X.xe { s4 with heap := s4.heap.push { cls := .type "slice", data := .fields #[.none, .none, vs] } }
    refine tail_any (ops := [.ref a, .ref s4.heap.objs.size]) ht.typeIs (PyProof.Rows.slot_tuple_getitem.lookup) ?_ (by with_unfolding_all rfl)
    refine HT.getItem_tuple_rev ht (Heap.IsSliceOf.new _ .none .none vs) ps ?_ (by rw [List.size_toArray]; omega)
    refine ⟨.ref _, _, I5.laid (t' := s4.toks) (o := .tup xs.reverse) (fun b ob q => Heap.get?_push_of_some _ q) (Nat.le_refl _) ?_, rfl, q _ (I5.hok.fresh (Nat.le_refl _))⟩
    exact ⟨by rw [List.length_reverse]; exact hz, _, by simpa using r.reverse, _, Heap.get?_push_size _ rfl, rfl, 0, by simp⟩
def dRevA : D → Option D
  | .lst ds => some (.lst ds.reverse)
  | .tup ds => some (.tup ds.reverse)
  | _ => none
theorem je_revA {a : Expr} {ma : M} {k : Nat} {p1 p2 p3 pos : Pos} (ha : JE X a ma) : JE X (.Subscript a (.Slice none none (some (.UnaryOp .USub (.Constant (.int 1) k p1) p2)) p3) pos) (mUn dRevA ma) := ⟨(pe_revA ha.pe).weak fun σ H Q ⟨pa, S, r, p, d, p', c, e, q⟩ => by
  obtain ⟨x, p1, e1, e⟩ := bnd_some e
  obtain ⟨z, e4, rfl, rfl⟩ := lft_eq e
  refine ⟨pa, S, r, p, x, p1, c, e1, fun v1 H1 x1 s1 r1 => ?_⟩
  cases r1 with
  | lst h1 h2 =>
    cases e4
    exact .inl ⟨_, _, rfl, SqL.of (hid_sub _ _ h1), fun a n => (q.after c x1).val s1 _ _ (same_upd n) (Rp.newL s1 h2.rev n)⟩
  | tup h1 h2 =>
    cases e4
    exact .inr ⟨_, _, rfl, sameT hid_sub h1, fun a n => (q.after c x1).val s1 _ _ (same_upd n) (Rp.newT s1 h2.rev n)⟩
  | _ => cases e4⟩
/-! ## list * int -/
def dMulA : D → D → Option D
  | .lst ds, .int k => if 0 ≤ k ∧ k ≤ 1000 ∧ ds.length ≤ 1000 then some (.lst (List.replicate k.toNat ds).flatten) else none
  | x, y => dMul x y
theorem RpL.rep {pa : Option Addr} {H : Hp} {vs : List V} {ds : List D} (h : RpL K pa H vs ds) : ∀ n, RpL K pa H (List.replicate n vs).flatten (List.replicate n ds).flatten
  | 0 => .nil
  | n + 1 => by
    rw [List.replicate_succ, List.replicate_succ, List.flatten_cons, List.flatten_cons]
    exact h.append (RpL.rep h n)
theorem op_mulA : OpR X (binaryOp .Mult) (fun x y H Q => rI CMul (fun i j => .int (i * j)) x y H Q ∨ rRep x y H Q) := by
  intro pins s σ H x y v u Q I rx ry h
  rcases h with h | h
  · exact op_mul pins s σ H x y v u Q I rx ry h
  · exact op_rep pins s σ H x y v u Q I rx ry h
theorem od_mulA : OpD K (fun x y H Q => rI CMul (fun i j => .int (i * j)) x y H Q ∨ rRep x y H Q) dMulA := by
  intro pa S H p x y d e z Q s r r' h q
  unfold dMulA at h
  split at h
  · rename_i ds k
    split at h
    · rename_i hk
      cases h
      cases r with
      | lst h1 h2 =>
        cases r'
        have hl := h2.length
        refine .inr ⟨_, k, _, rfl, rfl, hid_sub _ _ h1, by omega, by omega, ?_, fun a n => q _ _ (same_upd n) (Rp.newL s (h2.rep _) n)⟩
        have h3 : k.toNat ≤ 1000 := by omega
        have h4 := Nat.mul_le_mul (hl ▸ hk.2.2) h3
        have h5 : 1000 * 1000 ≤ sizeLine := by decide +kernel
        omega
    · cases h
  · exact .inl (od_mul pa S H p x y d e z Q s r r' h q)
/-! ## enumerate of a list or a tuple -/
def mEnumA (a : ML) : ML := fun r p => bnd (a r p) fun xs p => match xs with
  | [.lst ds] => some (enumD ds, p)
  | [.tup ds] => some (enumD ds, p)
  | _ => none
end
end Dt

namespace Dt
open PySem PySem.Spec PyProof.Rows L2
section
variable {X : Cx} {K : PySem.W.Frag} {fx : Bool} {E : En}
theorem ji_enumA {a : Expr} {ma : ML} {p pos tpos : Pos} {elts : List Expr} {kk : Nat} (ha : JA X [a] ma) (hm : X.mg "enumerate" = none) (hg : Gl X "enumerate" := by rfl) (hs : starEach [a] X.env = [(false, eval a X.env)] := by rfl) : JI X (.Tuple elts kk tpos) (.Call (.Name "enumerate" p) [a] [] pos) (mEnumA ma) := by
  obtain ⟨w1, p1, i1⟩ := ji_enum (elts := elts) (kk := kk) (tpos := tpos) (p := p) (pos := pos) ha hm hg hs
  obtain ⟨w2, p2, i2⟩ := ji_enumT (elts := elts) (kk := kk) (tpos := tpos) (p := p) (pos := pos) ha hm hg hs
  refine ⟨_, p1.orW p2, fun pa S σ H r p ds p' R c e q => ?_⟩
  obtain ⟨xs, pp, e1, e2⟩ := bnd_some e
  split at e2
  · refine .inl (i1 pa S σ H r p ds p' R c ?_ q)
    unfold mEnum
    rw [e1]
    exact e2
  · refine .inr (i2 pa S σ H r p ds p' R c ?_ q)
    unfold mEnumT
    rw [e1]
    exact e2
  · cases e2
/-! ## a, b, c = e1, e2, e3 -/
def sPar3 (i j l : Nat) (ms : ML) : MS := fun r p => match ms (shR r) p with | some ([x, y, z], p) => some (.nx (((r.set i (.sh x)).set j (.sh y)).set l (.sh z)) p) | _ => none
theorem RpL.three {pa : Option Addr} {H : Hp} {vs : List V} {x y z : D} (h : RpL K pa H vs [x, y, z]) : ∃ u v w, vs = [u, v, w] ∧ Rp K pa H u x ∧ Rp K pa H v y ∧ Rp K pa H w z := by
  cases h with
  | cons a b =>
    cases b with
    | cons b c =>
      cases c with
      | cons c d => cases d; exact ⟨_, _, _, rfl, a, b, c⟩
theorem red_par3 {i j l : Nat} {ms : ML} {D : Ends} {σ : L2.St} {H : Hp} (h : tS K fx E (sPar3 i j l ms) D σ H) : tPar3 i j l (tML K ms) D σ H := by
  obtain ⟨pa, S0, S, A, r, p, o, e, m, q⟩ := h
  unfold sPar3 at m
  split at m
  · rename_i x y z p1 m1
    cases m
    refine ⟨pa, S, shR r, p, _, p1, e.cn, m1, fun vs H1 x1 s1 r1 => ?_⟩
    obtain ⟨v, w, u, rfl, rv, rw', ru⟩ := r1.three
    have e1 := e.go x1 ⟨fun a h => ⟨(s1.pool a h).1, (e.sta.pool a h).2⟩, fun a h => s1.trk a ((e.hS a).mpr (.inl h))⟩
    obtain ⟨S2, e2, f2⟩ := e1.setSh i rv
    obtain ⟨S3, e3, f3⟩ := e2.setSh j (Rp.mono f2 _ _ rw')
    obtain ⟨S4, e4, f4⟩ := e3.setSh l (Rp.mono f3 _ _ (Rp.mono f2 _ _ ru))
    exact ⟨v, w, u, rfl, q pa S0 S4 A _ H1 e4 ((((e.frm x1).trans f2).trans f3).trans f4)⟩
  · cases m
theorem js_par3 {i j l : Nat} {x y z : Str} {a b c : Expr} {ms : ML} {px py pz pt pos : Pos} {kt k2 pt2} (hc : X.calm = true) (hN : X.N.Nodup) (ha : JA X [a, b, c] ms) (hi : X.N[i]? = some x := by rfl) (hj : X.N[j]? = some y := by rfl) (hl : X.N[l]? = some z := by rfl) (hij : i ≠ j := by decide) (hil : i ≠ l := by decide) (hjl : j ≠ l := by decide)
    (hx : X.env.scope.names.lookup x = some .local := by rfl) (hy : X.env.scope.names.lookup y = some .local := by rfl) (hz : X.env.scope.names.lookup z = some .local := by rfl)
    (hw : swappedStores [.Tuple [.Name x px, .Name y py, .Name z pz] kt pt] (.Tuple [a, b, c] k2 pt2) X.env = pure (some [x, y, z]) := by rfl)
    (hs : swapsWithSole [.Tuple [.Name x px, .Name y py, .Name z pz] kt pt] (.Tuple [a, b, c] k2 pt2) pos.line X.env = pure false := by rfl) :
    JS fx X (.Assign [.Tuple [.Name x px, .Name y py, .Name z pz] kt pt] (.Tuple [a, b, c] k2 pt2) pos) (sPar3 i j l ms) := ⟨fun E => (ps_par3 hc hN hi hj hl hij hil hjl hx hy hz ha.pa hw hs).weak fun D σ H => red_par3⟩
/-! ## a, *b = t -/
def gStar (K : PySem.W.Frag) (n i : Nat) (t : TGs) : TG := fun v σ H Q => ∃ a xs, v = .ref a ∧ (SqT K H a xs ∨ SqL K H a xs) ∧ n ≤ xs.length + 1 ∧
  ∀ p, H p = none → t (xs.take i ++ [.ref p] ++ (xs.drop i).drop (xs.length + 1 - n)) σ (upd H p (.lst ((xs.drop i).take (xs.length + 1 - n)))) Q
theorem pg_star {es es' : List Expr} {k : Nat} {pos : Pos} {t : TGs} {n i : Nat} (hc : X.calm = true) (h : PGs X es' t) (hi : i < n) (hm : (assignEach es X.env).map (·.2) = (assignEach es' X.env).map (·.2))
    (hn : (assignEach es X.env).length = n := by rfl) (hst : (assignEach es X.env).findIdx? (·.1) = some i := by rfl) : PG X (.Tuple es k pos) (gStar X.K n i t) := by
  refine ⟨fun pins s σ H v u Q I r hw => ?_⟩
  obtain ⟨a, xs, e1, hq, hl, hw⟩ := hw
  subst e1
  cases r
  have fin : ∀ (its : List Value) (rv : Vals xs its) (h₂ : Heap) (tk : Nat), xs.length ≤ sizeLine → (∀ b o, s.heap.get? b = some o → h₂.get? b = some o) → wpAny (model X.prog X.w) X.A (assignInOrder ((assignEach es X.env).map (·.2)) (its.take i ++ [.ref h₂.objs.size] ++ (its.drop i).drop (its.length + 1 - n))) (fun _ s' => ∃ σ' H', Inv X pins σ' H' s' ∧ Q σ' H') X.xe { s with heap := h₂.push { cls := .type "list", data := .seq ((its.drop i).take (its.length + 1 - n)).toArray }, toks := tk } := fun its rv h₂ tk hz hk => by
    have I1 : Inv X pins σ H { s with heap := h₂, toks := tk } := I.kept (t' := tk) fun b o e => hk b o e
    have hlen := rv.length
    rw [hm]
    have rmid : Vals ((xs.drop i).take (xs.length + 1 - n)) ((its.drop i).take (its.length + 1 - n)) := by
      rw [← hlen]
      exact (rv.drop _).take _
    have I2 : Inv X pins σ (upd H h₂.objs.size (.lst ((xs.drop i).take (xs.length + 1 - n)))) { s with heap := h₂.push { cls := .type "list", data := .seq ((its.drop i).take (its.length + 1 - n)).toArray }, toks := tk } := I1.laid (t' := tk) (fun b ob q => Heap.get?_push_of_some _ q) (Nat.le_refl _) ⟨by rw [List.length_take, List.length_drop]; omega, _, 0, rmid, Heap.get?_push_size _ rfl⟩
    refine h.run pins _ σ _ _ _ Q I2 ?_ (hw _ (I1.hok.fresh (Nat.le_refl _)))
    rw [← hlen]
    exact ((rv.take _).append (.cons (show RelV (.ref h₂.objs.size) (Value.ref h₂.objs.size) from rfl) .nil)).append ((rv.drop _).drop _)
  rw [PyProof.Rows.assign_Tuple]
  refine wpAny_bind (wpAny_standAt ?_)
  unfold unpack
  rw [hn, hst]
  rcases hq with hq | hq
  · obtain ⟨its, rv, ht, hz⟩ := I.tuple hq
    have hlen := rv.length
    refine wpAny_bind (wpAny_holding (HT.starT ht (I.ok.hd hc) hi (by rw [List.size_toArray]; omega) (by rw [List.size_toArray]; omega) fun h₂ tk hk => ?_))
    have := fin its rv h₂ tk hz hk
    simpa using this
  · obtain ⟨its, rv, ht, hz⟩ := I.list hq
    have hlen := rv.length
    have hl' : s.heap.IsList a its.toArray := ht.isList
    refine wpAny_bind (wpAny_holding (HT.starL hl' (I.ok.hd hc) hi (by rw [List.size_toArray]; omega) (by rw [List.size_toArray]; omega) fun h₂ tk hk => ?_))
    have := fin its rv h₂ tk hz hk
    simpa using this
def gsStar (n i : Nat) (gs : GSs) : GS := fun d r p => match sqOf d with
  | some (_, ds) => if n ≤ ds.length + 1 then gs (ds.take i ++ [.lst ((ds.drop i).take (ds.length + 1 - n))] ++ (ds.drop i).drop (ds.length + 1 - n)) r p else none
  | none => none
theorem tgs_star {n i : Nat} {gs : TGs} {mgs : GSs} (h : TgsS K fx gs mgs) : TgS K fx (gStar K n i gs) (gsStar n i mgs) := ⟨fun E pa S0 S A σ H r p x d r' p' Q e hx m q => by
  unfold gsStar at m
  split at m
  · rename_i t ds hs
    split at m
    · rename_i hl
      have key : ∃ a xs, x = .ref a ∧ (SqT K H a xs ∨ SqL K H a xs) ∧ RpL K pa (hid S H) xs ds := by
        cases hx with
        | lst h1 h2 => cases hs; exact ⟨_, _, rfl, .inr (SqL.of (hid_sub _ _ h1)), h2⟩
        | tup h1 h2 => cases hs; exact ⟨_, _, rfl, .inl (sameT hid_sub h1), h2⟩
        | _ => cases hs
      obtain ⟨a, xs, rfl, k1, k2⟩ := key
      have hlen := k2.length
      refine ⟨a, xs, rfl, k1, by omega, fun n' hn' => ?_⟩
      have sm : Same H (upd H n' (.lst ((xs.drop i).take (xs.length + 1 - n)))) := same_upd hn'
      have e1 := e.go (Ext.of sm) (e.sta.same sm)
      have rl : RpL K pa (hid S (upd H n' (.lst ((xs.drop i).take (xs.length + 1 - n))))) (xs.take i ++ [.ref n'] ++ (xs.drop i).drop (xs.length + 1 - n)) (ds.take i ++ [.lst ((ds.drop i).take (ds.length + 1 - n))] ++ (ds.drop i).drop (ds.length + 1 - n)) := by
        have k3 := RpL.mono (Same.hid (S := S) sm) _ _ k2
        rw [← hlen]
        refine ((k3.take _).append (.cons ?_ .nil)).append ((k3.drop _).drop _)
        exact Rp.newL e.cn.sta ((k2.drop _).take _) hn'
      exact h.run E pa S0 S A σ _ r p _ _ r' p' _ e1 rl m fun S2 A2 σ2 H2 e2 f2 => q S2 A2 σ2 H2 e2 ((e.frm (Ext.of sm)).trans f2)
    · cases m
  · cases m⟩
end
end Dt

namespace Dt
open PySem PySem.Spec PyProof.Rows L2
/-! # Classes with one slot: isinstance, the slot, properties, methods, static methods -/
structure ClK (K : PySem.W.Frag) (mg : Str → Option Value) (c : Str) (C : Addr) : Prop where
  ns : PySem.W.nsIn K mainGlobals c = some (some (.ref C))
  mg : mg c = some (.ref C)
  cls : SlX.SCls K C
  isi : SlX.SIsi K C
structure PropK (K : PySem.W.Frag) (C : Addr) (f : Str) (g : Addr) : Prop where
  ex : ∃ p, PySem.W.findIn K (.ref C) f = some (some (.ref p)) ∧ PySem.W.specialIn K (.ref p) "__get__" = some (some (.builtin "property.__get__")) ∧ PySem.W.takesIn K (.ref p) = some true ∧ ∃ rest, PySem.W.recIn K p "property" = some (.ref g :: rest)
structure StatK (K : PySem.W.Frag) (C : Addr) (f : Str) (g : Addr) : Prop where
  ex : ∃ mc p, PySem.W.readsIn K C mc = true ∧ PySem.W.specialIn K (.ref C) "__getattribute__" = some (some (.builtin "type.__getattribute__")) ∧ PySem.W.findCls K (.ref C) mc f = some (.get (.builtin "staticmethod.__get__") (.ref p) .none (.ref C)) ∧ ∃ rest, PySem.W.recIn K p "staticmethod" = some (.ref g :: rest)
  kp : PySem.W.keepIn K (.ref g) = true
section
variable {X : Cx} {K : PySem.W.Frag} {c f m : Str} {C g : Addr} {e o : Expr} {es : List Expr} {me : M} {ms : ML} {p p2 pos apos : Pos} {k n : Nat} {mm : MF} {pl : Sem Bool}
/-- isinstance(x, C) of an instance of C -/
def mIsiC (c : Str) (a : M) : M := fun r p => bnd (a r p) fun x p => match x with | .slt c' _ => if c' = c then some (.bl true, p) else none | _ => none
theorem je_isiC (T : ClK X.K X.mg c C) (he : JE X e me) (hm : X.mg "isinstance" = none) (hi : bootBuiltins "isinstance" = some (.builtin "isinstance") := by decide +kernel) (hg : Gl X "isinstance" := by rfl) (hgT : Gl X c := by rfl) (hdb : (c == ("__debug__" : Str)) = false := by decide)
    (hs : starEach [e, .Name c p2] X.env = (false, eval e X.env) :: starEach [.Name c p2] X.env := by rfl) (hpl : (backTo pos (starEach [.Name c p2] X.env)).any (·.1) = false := by rfl) :
    JE X (.Call (.Name "isinstance" p) [e, .Name c p2] [] pos) (mIsiC c me) :=
  ⟨(pe_callB (x := "isinstance") (SlX.call_isiSl (.ref C)) hg hm hi (pa_cons he.pe (pa_cons (pe_glob (v := .ref C) hgT T.mg rfl hdb) pa_nil) hs) (by decide) (by decide) hs hpl).weak fun σ H Q ⟨pa, S, r, p, d, p', cc, em, q⟩ => by
    obtain ⟨x, p1, e1, em2⟩ := bnd_some em
    clear em
    refine ⟨pa, S, r, p, x, p1, cc, e1, fun v1 H1 x1 s1 r1 => ?_⟩
    split at em2
    · split at em2
      · rename_i hc
        subst hc
        obtain ⟨rfl, rfl⟩ := pr em2
        cases r1 with
        | @slt a C' dx _ xs ds hC hs hf =>
          have : C' = C := by
            rw [T.ns] at hC
            cases hC
            rfl
          subst this
          exact ⟨a, C', dx, _, .ref C', true, rfl, rfl, fun w h => h, sameS hid_sub hs, T.cls, T.isi, if_pos (beq_self_eq_true _), q _ H1 x1 s1 (.bl true)⟩
      · cases em2
    · cases em2⟩
/-- x.f, f the slot -/
def mSlt (c : Str) (i : Nat) (a : M) : M := fun r p => bnd (a r p) fun x p => match x with | .slt c' fs => if c' = c then lft fs[i]? p else none | _ => none
theorem slt_at (T : ClK X.K X.mg c C) {pa : Option Addr} {S : Addr → Prop} {H : Hp} {v : V} {fs : List D} (r : Rp X.K pa (hid S H) v (.slt c fs)) : ∃ a dx xs, v = .ref a ∧ SlX.Slt H a C dx (xs.map some) ∧ RpL X.K pa (hid S H) xs fs := by
  cases r with
  | @slt a C' dx _ xs ds hC hs hf =>
    have : C' = C := by
      have := T.ns
      rw [hC] at this
      cases this
      rfl
    subst this
    exact ⟨a, dx, xs, rfl, sameS hid_sub hs, hf⟩
theorem je_slt {i : Nat} (T : ClK X.K X.mg c C) (so : SlotOf X.K c f i) (he : JE X e me) (hb : attributeBase e f X.env (eval e X.env) = eval e X.env := by rfl) : JE X (.Attribute e f pos) (mSlt c i me) :=
  ⟨(SlX.pe_sl he.pe hb).weak fun σ H Q ⟨pa, S, r, p, d, p', cc, em, q⟩ => by
    obtain ⟨x, p1, e1, em2⟩ := bnd_some em
    clear em
    refine ⟨pa, S, r, p, x, p1, cc, e1, fun v1 H1 x1 s1 r1 => ?_⟩
    split at em2
    · split at em2
      · rename_i hc
        subst hc
        obtain ⟨d1, e3, rfl, rfl⟩ := lft_eq em2
        obtain ⟨a, dx, xs, rfl, hs, hf⟩ := slt_at T r1
        obtain ⟨C2, pp, h1, h2, h3⟩ := so.ex
        have : C2 = C := by
          have := T.ns
          rw [h1] at this
          cases this
          rfl
        subst this
        obtain ⟨v, g1, g2⟩ := hf.get e3
        exact ⟨a, C2, dx, pp, _, i, v, rfl, hs, h2, h3, by rw [List.getElem?_map, g1]; rfl, q v H1 x1 s1 g2⟩
      · cases em2
    · cases em2⟩
/-- x.f, f a property -/
def mProp (c : Str) (mm : MF) (a : M) : M := fun r p => bnd (a r p) fun x p => match x with | .slt c' fs => if c' = c then mm [.slt c fs] p else none | _ => none
theorem je_prop (T : ClK X.K X.mg c C) (pr' : PropK X.K C f g) (F : FnR X.prog X.w X.K X.mg X.base CX0 k g (spM X.K 1 mm)) (hr : Room (k + 1) X.A) (he : JE X e me) (hb : attributeBase e f X.env (eval e X.env) = eval e X.env := by rfl) : JE X (.Attribute e f pos) (mProp c mm me) := by
  obtain ⟨pp, h1, h2, h3, h4⟩ := pr'.ex
  refine ⟨(SlX.pe_propSl (E := fun _ _ _ => True) he.pe T.cls h1 h2 h3 h4 F hr (fun _ _ _ _ h => h) hb).weak fun σ H Q ⟨pa, S, r, p, d, p', cc, em, q⟩ => ?_⟩
  obtain ⟨x, p1, e1, em2⟩ := bnd_some em
  clear em
  refine ⟨pa, S, r, p, x, p1, cc, e1, fun v1 H1 x1 s1 r1 => ?_⟩
  split at em2
  · split at em2
    · rename_i hc
      subst hc
      obtain ⟨a, dx, xs, rfl, hs, hf⟩ := slt_at T r1
      exact ⟨a, dx, _, rfl, hs, pa, S, p1, _, d, p', s1, .cons r1 .nil, rfl, em2, q.after cc x1⟩
    · cases em2
  · cases em2
/-- x.m(..) -/
def mMeth (c : Str) (n : Nat) (mm : MF) (a : M) (ms : ML) : M := fun r p => bnd (a r p) fun x p => match x with | .slt c' fs => if c' = c then bnd (ms r p) fun ds p => if ds.length = n then mm (.slt c fs :: ds) p else none else none | _ => none
theorem red_meth (T : ClK X.K X.mg c C) {E : XK} {σ : L2.St} {H : Hp} {Q : VK} (h : tM X.K (mMeth c n mm me ms) σ H Q) : SlX.tMethSl C (spM X.K (n + 1) mm) E (tM X.K me) (tML X.K ms) σ H Q := by
  obtain ⟨pa, S, r, p, d, p', cc, em, q⟩ := h
  obtain ⟨x, p1, e1, em2⟩ := bnd_some em
  clear em
  refine ⟨pa, S, r, p, x, p1, cc, e1, fun v1 H1 x1 s1 r1 => ?_⟩
  split at em2
  · split at em2
    · rename_i hc
      subst hc
      obtain ⟨ds, p2, e2, em3⟩ := bnd_some em2
      split at em3
      · rename_i hl
        obtain ⟨a, dx, xs, rfl, hs, hf⟩ := slt_at T r1
        have c1 := cc.go x1 s1
        refine ⟨a, dx, _, rfl, hs, pa, S, r, p1, ds, p2, c1, e2, fun vs H2 x2 s2 r2 => ?_⟩
        exact ⟨pa, S, p2, _, d, p', s2, .cons (Rp.mono (x2.hid s1) _ _ r1) r2, by rw [List.length_cons, hl], em3, q.after cc (x1.trans x2)⟩
      · cases em3
    · cases em2
  · cases em2
theorem je_meth (T : ClK X.K X.mg c C) (hm : Meth X.K C m g) (F : FnR X.prog X.w X.K X.mg X.base CX0 k g (spM X.K (n + 1) mm)) (hr : Room k X.A) (he : JE X o me) (ha : JA X (e :: es) ms)
    (hst : starEach (e :: es) X.env = (false, eval e X.env) :: starEach es X.env := by rfl) (hpl : (backTo pos (starEach es X.env)).any (·.1) = false := by rfl)
    (ht : eval (.Call (.Attribute o m apos) (e :: es) [] pos) X.env = (do
      let ov ← eval o X.env
      standAt apos.atName
      let (f, first) ← holding [ov] (getMethod ov m pl)
      callWith pos f first (backTo pos (starEach (e :: es) X.env)) (backToKw pos (keywordEach [] X.env))) := by rfl) :
    JE X (.Call (.Attribute o m apos) (e :: es) [] pos) (mMeth c n mm me ms) :=
  ⟨(SlX.pe_methSl he.pe T.cls hm F hr pass0 ha.pa hst hpl ht).weak fun σ H Q => red_meth T⟩
/-- C.m(..), m a static method -/
theorem getmethsm_ok {pins : List (Addr × Obj)} {σ : L2.St} {H : Hp} {s : Shared} {A : Around} {E : Value → Shared → Prop} {Q : Value × List Value → Shared → Prop} (I : Inv X pins σ H s) (st : StatK X.K C m g)
    (h : ∀ s', Inv X pins σ H s' → Q (.ref g, []) s') : wpAny (model X.prog X.w) A (getMethod (.ref C) m pl) Q E s := by
  obtain ⟨mc, pp, h1, h2, h3, rest, h4⟩ := st.ex
  refine PySem.W.method_cls I.kIn h2 ?_
  refine PySem.W.cls_bind I.kIn h1 h3 (wpAny_call (PySem.W.sm_get (s := { s with toks := s.toks + 1 }) I.kIn h4 (PySem.W.handed_on rfl ?_)))
  exact h _ (I.tok _)
def tStat (C : Addr) (sp : Sp) (E : XK) (t : TA) : TE := fun σ H Q => t σ H fun vs H2 => sp vs H2 Q E
theorem pe_stat {CX : CXT} {sp : Sp} {E : XK} {t : TA} (hgC : Gl X c) (T : ClK X.K X.mg c C) (st : StatK X.K C m g) (F : FnR X.prog X.w X.K X.mg X.base CX k g sp) (hr : Room k X.A) (hx : Passes CX X E) (ha : PA X (e :: es) t) (hdb : (c == ("__debug__" : Str)) = false := by decide)
    (hst : starEach (e :: es) X.env = (false, eval e X.env) :: starEach es X.env := by rfl) (hpl : (backTo pos (starEach es X.env)).any (·.1) = false := by rfl)
    (ht : eval (.Call (.Attribute (.Name c p) m apos) (e :: es) [] pos) X.env = (do
      let ov ← eval (.Name c p) X.env
      standAt apos.atName
      let (f, first) ← holding [ov] (getMethod ov m pl)
      callWith pos f first (backTo pos (starEach (e :: es) X.env)) (backToKw pos (keywordEach [] X.env))) := by rfl) :
    PE X (.Call (.Attribute (.Name c p) m apos) (e :: es) [] pos) (tStat C sp E t) := by
  refine ⟨fun pins s σ H Q I h => ?_⟩
  have hN : PE X (.Name c p) (tC (.ref C)) := pe_glob (v := .ref C) hgC T.mg rfl hdb
  refine PySem.W.methodCall_KW (pl := pl) (thn (hN.run pins s σ H (fun v H1 => v = .ref C ∧ H1 = H) I ⟨rfl, rfl⟩) fun u s1 ⟨x, H1, I1, rx, ex, eh⟩ => ?_) ht
  subst ex eh
  obtain rfl : u = Value.ref C := rx
  refine getmethsm_ok I1 st fun s2 I2 => ?_
  refine PySem.W.callWith_K (first := []) (h₀ := X.base) I.ok.mod.kin st.kp (thn (ha.run pos pins s2 σ H1 _ I2 h) fun us s3 ⟨vs, H2, I3, r, q2⟩ => ⟨I3.kIn, ?_⟩) hst hpl
  exact wpAny_call (run_fnR (us := us) (vs := vs) F hr hx I3 r q2)
theorem je_stat (T : ClK X.K X.mg c C) (st : StatK X.K C m g) (F : FnR X.prog X.w X.K X.mg X.base CX0 k g (spM X.K n mm)) (hr : Room k X.A) (ha : JA X (e :: es) ms) (hgC : Gl X c := by rfl) (hdb : (c == ("__debug__" : Str)) = false := by decide)
    (hst : starEach (e :: es) X.env = (false, eval e X.env) :: starEach es X.env := by rfl) (hpl : (backTo pos (starEach es X.env)).any (·.1) = false := by rfl)
    (ht : eval (.Call (.Attribute (.Name c p) m apos) (e :: es) [] pos) X.env = (do
      let ov ← eval (.Name c p) X.env
      standAt apos.atName
      let (f, first) ← holding [ov] (getMethod ov m pl)
      callWith pos f first (backTo pos (starEach (e :: es) X.env)) (backToKw pos (keywordEach [] X.env))) := by rfl) :
    JE X (.Call (.Attribute (.Name c p) m apos) (e :: es) [] pos) (mCall n mm ms) :=
  ⟨(pe_stat hgC T st F hr pass0 ha.pa hdb hst hpl ht).weak fun σ H Q h => by
    obtain ⟨pa, S, r, p, ds, p1, c1, e1, q1⟩ := red_call (E := E0) h
    refine ⟨pa, S, r, p, ds, p1, c1, e1, fun vs H1 x1 s1 r1 => ?_⟩
    have h3 : spM X.K n mm (vs ++ []) H1 Q E0 := q1 vs H1 x1 s1 r1
    rw [List.append_nil] at h3
    exact h3⟩
/-- a def's promise, by place -/
theorem fnR_of {P : Program} {w : World} {mg : Str → Option Value} {base : Heap} {fd : FuncData} {ps : List Str} {sp : Sp} {f : Addr} (F : FnOk P w K mg base CX0 k f fd ps sp) (hb : Binds K fd ps []) : FnR P w K mg base CX0 k f sp :=
  (FnOk.raw F hb .nil).imp fun vs H Q E h => by rw [List.append_nil]; exact h
end
end Dt

namespace Dt
open PySem PySem.Spec PyProof.Rows L2
/-! # A def called with a new pool; with keywords -/
theorem bt_repr : bootBuiltins "repr" = some (.builtin "repr") := by decide +kernel
section
variable {X : Cx} {K : PySem.W.Frag} {k : Nat} {f : Addr} {fd : FuncData} {ps : List Str} {m : MF} {x : Str} {p pos : Pos} {e : Expr} {mf : ML}
def mCallP (m : MF) (mf : ML) : M := fun r p => match mf r p with
  | some (ds, p1) => (match asInts ds with
    | some ns => (match m [.pool] ns with
      | some (d, _) => if np d = true then some (d, p1) else none
      | none => none)
    | none => none)
  | none => none
theorem red_callP {σ : L2.St} {H : Hp} {Q : VK} {E : XK} (h : tM K (mCallP m mf) σ H Q) : tCall (spM K 1 m) [] E (tCons (tF K mf) tNil) σ H Q := by
  obtain ⟨pa, S, r, p, d, p', c, e, q⟩ := h
  unfold mCallP at e
  split at e
  · rename_i ds p1 m1
    split at e
    · rename_i ns hns
      split at e
      · rename_i d1 p2 m2
        split at e
        · rename_i hnp
          obtain ⟨rfl, rfl⟩ := pr e
          refine ⟨pa, S, r, p, ds, p1, c, m1, fun a xs H1 x1 s1 hn ha hr => ?_⟩
          rw [asInts_eq hns] at hr
          have hxs := hr.ints_of
          subst hxs
          have hpa : pa ≠ some a := c.sta.notpool hn
          refine ⟨some a, fun b => S b ∨ b = a, ns, [.pool], d1, p2, ⟨fun b hb => ?_, fun b hb => ?_⟩, .cons (.pool rfl) .nil, rfl, m2, fun v H' x2 s2 r2 => ?_⟩
          · cases hb; exact ⟨ha, .inr rfl⟩
          · rcases hb with hb | rfl
            · exact s1.trk b hb
            · exact ⟨_, ha⟩
          · have ne : ∀ b o, H b = some o → b ≠ a := fun b o hb z => by rw [z, hn] at hb; cases hb
            refine q v H' (fun b o n hb => x2 b o (fun z => ne b o hb (Option.some.inj z).symm) (x1 b o n hb)) ⟨fun b hb => ⟨x2 b _ (fun z => ne b _ (c.sta.pool b hb).1 (Option.some.inj z).symm) (s1.pool b hb).1, (s1.pool b hb).2⟩, fun b hb => s2.trk b (.inl hb)⟩ ?_
            exact Rp.mono (hid_mono (fun b o _ h => h) fun b hb o _ => .inl hb) _ _ (Rp.chg _ _ hnp r2)
        · cases e
      · cases e
    · cases e
  · cases e
theorem je_callP (F : FnOk X.prog X.w X.K X.mg X.base CX0 k f fd ps (spM X.K 1 m)) (hr : Room k X.A) (hm : X.mg x = some (.ref f)) (hk : PySem.W.keepIn X.K (.ref f) = true) (hb : Binds X.K fd ps []) (ha : JF X e mf) (hg : Gl X x := by rfl) (hdb : (x == ("__debug__" : Str)) = false := by decide)
    (he : starEach [e] X.env = (false, eval e X.env) :: starEach [] X.env := by rfl) (hpl : (backTo pos (starEach [] X.env)).any (·.1) = false := by rfl) : JE X (.Call (.Name x p) [e] [] pos) (mCallP m mf) :=
  ⟨(pe_call F hr hg hm hk hb .nil pass0 (pa_cons ha.pe pa_nil he) hdb he hpl).weak fun σ H Q => red_callP⟩
/-! ## all by keywords, in the parameters' order -/
structure JK (X : Cx) (kws : List Keyword) (ms : ML) : Prop where pk : PK X kws (tML X.K ms)
theorem jk_nil : JK X [] mNil := ⟨⟨fun pos pins s σ H Q I ⟨pa, S, r, p, ds, p', c, e, q⟩ => by
  cases e
  exact pk_nil.run pos pins s σ H Q I (q [] H Ext.refl c.sta .nil)⟩⟩
theorem jk_cons {me : M} {ms : ML} {nm : Option Str} {kpos : Pos} {kws : List Keyword} (h : JE X e me) (h' : JK X kws ms) : JK X (⟨nm, e, kpos⟩ :: kws) (mCons me ms) :=
  ⟨⟨fun pos pins s σ H Q I q => (pk_cons h.pe h'.pk).run pos pins s σ H Q I (red_cons q)⟩⟩
/-- how a def is bound by keywords alone -/
def KwB (K : PySem.W.Frag) (fd : FuncData) (ps : List Str) : Prop := ∀ (s : Shared) (ws : List Value), ws.length = ps.length → BindsTo s fd ⟨[], ps.zip ws⟩ (ps.zip ws)
theorem pe_callK0 {sp : Sp} {E : XK} {CX : CXT} {kws : List Keyword} {tk : TA} (F : FnOk X.prog X.w X.K X.mg X.base CX k f fd ps sp) (hr : Room k X.A) (hg : Gl X x) (hm : X.mg x = some (.ref f)) (hk : PySem.W.keepIn X.K (.ref f) = true) (hb : KwB X.K fd ps) (hx : Passes CX X E)
    (hkw : PK X kws tk) (hall : (backToKw pos (keywordEach kws X.env)).all (·.1.isSome) = true := by rfl) (hks : (backToKw pos (keywordEach kws X.env)).filterMap (·.1) = ps := by rfl)
    (hdb : (x == ("__debug__" : Str)) = false := by decide)
    (hpl : ((backTo pos (starEach [] X.env)).any (·.1) || (backToKw pos (keywordEach kws X.env)).any (·.1.isNone)) = false := by rfl) :
    PE X (.Call (.Name x p) [] kws pos) (tCall sp [] E tk) := by
  refine ⟨fun pins s σ H Q I h => ?_⟩
  refine wpAny_Call_Name_kw (ld_glob I hg hm ?_ hdb)
  refine PySem.W.callWith_KW0 (h₀ := X.base) I.ok.mod.kin hk hall (thn (hkw.run pos pins s σ H _ I h) fun ws s1 ⟨zs, H1, I1, rz, q⟩ => ⟨I1.kIn, ?_⟩) hpl
  rw [hks]
  have q : sp (zs ++ []) H1 Q E := q
  rw [List.append_nil] at q
  have hl : ws.length = ps.length := by rw [← rz.length]; exact F.len _ _ _ _ q
  refine wpAny_call (codeAny_mono (F.run X.A X.stack s1 H1 ⟨[], ps.zip ws⟩ ws zs Q E hr I1.env0 (hb s1 ws hl) rz q) fun r s' hq => ?_)
  cases r with
  | error e => exact hx pins σ H1 s1 e s' I1 hq
  | ok fl =>
    cases fl with
    | ret u => exact I1.after hq
    | next => exact False.elim hq
    | brk => exact False.elim hq
    | cont => exact False.elim hq
theorem je_callK0 {n : Nat} {ms : ML} {kws : List Keyword} (F : FnOk X.prog X.w X.K X.mg X.base CX0 k f fd ps (spM X.K n m)) (hr : Room k X.A) (hm : X.mg x = some (.ref f)) (hk : PySem.W.keepIn X.K (.ref f) = true) (hb : KwB X.K fd ps) (hkw : JK X kws ms) (hg : Gl X x := by rfl)
    (hall : (backToKw pos (keywordEach kws X.env)).all (·.1.isSome) = true := by rfl) (hks : (backToKw pos (keywordEach kws X.env)).filterMap (·.1) = ps := by rfl)
    (hdb : (x == ("__debug__" : Str)) = false := by decide)
    (hpl : ((backTo pos (starEach [] X.env)).any (·.1) || (backToKw pos (keywordEach kws X.env)).any (·.1.isNone)) = false := by rfl) : JE X (.Call (.Name x p) [] kws pos) (mCall n m ms) :=
  ⟨(pe_callK0 F hr hg hm hk hb pass0 hkw.pk hall hks hdb hpl).weak fun σ H Q => red_call⟩
end
/-! ## the join: defs of classes -/
section
variable {K : PySem.W.Frag} {mg : Str → Option Value} {h : Heap}
theorem kwB_of {x qual : Str} {st : Stmt} {f : Addr} {fd : FuncData} {ps : List Str} (F : Fun K x qual st f fd) (b : ∀ (kV doc pm : Value) (an : Option Addr) (cdv ct : Value) (ws : List Value), ws.length = ps.length → bindArgs (PySem.W.fnOf x qual (defArgs st) (defBody st) (defScope st) .none kV doc pm an cdv ct) ⟨[], ps.zip ws⟩ = pure (ps.zip ws)) : KwB K fd ps := by
  obtain ⟨oc, od, kV, doc, pm, an, cdv, ct, osl, rfl, _, _⟩ := F.ex
  exact fun s ws hl => .of_eq (b _ _ _ _ _ _ _ hl)
/-- a def of the class c, found where the class has it -/
theorem mkM {x qual : Str} {st : Stmt} {ps : List Str} {f : Addr} {oc : Value} {od an : Option Addr} {osl : Array (Option Value)} {kV doc pm cdv ct : Value} (l : K.lookup f = some ⟨oc, od, .func (PySem.W.fnOf x qual (defArgs st) (defBody st) (defScope st) .none kV doc pm an cdv ct), osl⟩)
    (c : PySem.W.codeIn K cdv qual = true) (k : PySem.W.keepIn K (.ref f) = true)
    (b : ∀ (kV doc pm : Value) (an : Option Addr) (cdv ct : Value) (us : List Value), us.length = ps.length → bindArgs (PySem.W.fnOf x qual (defArgs st) (defBody st) (defScope st) .none kV doc pm an cdv ct) ⟨us, []⟩ = pure (ps.zip us)) :
    ∃ fd, Fun K x qual st f fd ∧ Binds K fd ps [] :=
  have F := fun_mk (st := st) l c k
  ⟨_, F, F.binds b⟩
end
end Dt

namespace Dt
open PySem PySem.Spec PyProof.Rows L2
/-! # The join: classes with one slot -/
section
variable {K : PySem.W.Frag} {mg : Str → Option Value} {h : Heap} {c : Str} {C : Addr}
theorem mkK (X : K.In h) (G : h.Ns mainGlobals mg) (a : PySem.W.nsIn K mainGlobals c = some (some (.ref C)))
    (s1 : PySem.W.plainGet K C Str.empty = true) (s2 : PySem.W.isClsIn K C = true) (s3 : PySem.W.plainOver K C = true) (s4 : PySem.W.findIn K (.ref C) "__setattr__" = some (some (.builtin "object.__setattr__")))
    (i1 : PySem.W.findIn K (.ref C) "__class__" = some (some (.builtin "object.__class__"))) (i2 : PySem.W.specialIn K (.builtin "object.__class__") "__get__" = some (some (.builtin "getset_descriptor.__get__"))) (i3 : PySem.W.takesIn K (.builtin "object.__class__") = some true) (i4 : PySem.W.mroIn K C (.type "object") = some true) : ClK K mg c C :=
  ⟨a, PySem.W.mg_of X G a, ⟨s1, s2, s3, s4⟩, ⟨i1, i2, i3, i4⟩⟩
theorem mkMk {f : Addr} (k : ClK K mg c C) (m1 : PySem.W.makesIn K C = true) (m2 : PySem.W.findIn K (.ref C) "__init__" = some (some (.ref f))) (m3 : PySem.W.isFn K (.ref f) = true) (m4 : PySem.W.keepIn K (.ref C) = true) : Mk K C f := ⟨m1, m2, m3, m4⟩
theorem mkSl {p : Addr} {i : Nat} (f : Str) (k : ClK K mg c C) (h1 : PySem.W.findIn K (.ref C) f = some (some (.ref p))) (h2 : PySem.W.specialIn K (.ref p) "__get__" = some (some (.builtin "member_descriptor.__get__"))) (h3 : PySem.W.takesIn K (.ref p) = some true) (h4 : PySem.W.typeIn K (.ref p) = some (.type "member_descriptor")) (h5 : PySem.W.slotIn K p C = some i) (h6 : i < 1000) : SlotOf K c f i :=
  ⟨⟨C, p, k.ns, k.cls, ⟨h1, h2, h3, h4, h5, h6⟩⟩⟩
theorem mkProp {p g : Addr} {rest : List Value} (f : Str) (k : ClK K mg c C) (h1 : PySem.W.findIn K (.ref C) f = some (some (.ref p))) (h2 : PySem.W.specialIn K (.ref p) "__get__" = some (some (.builtin "property.__get__"))) (h3 : PySem.W.takesIn K (.ref p) = some true) (h4 : PySem.W.recIn K p "property" = some (.ref g :: rest)) : PropK K C f g := ⟨⟨p, h1, h2, h3, rest, h4⟩⟩
theorem mkStat {p g : Addr} {rest : List Value} (f : Str) (k : ClK K mg c C) (h1 : PySem.W.readsIn K C (.type "type") = true) (h2 : PySem.W.specialIn K (.ref C) "__getattribute__" = some (some (.builtin "type.__getattribute__"))) (h3 : PySem.W.findCls K (.ref C) (.type "type") f = some (.get (.builtin "staticmethod.__get__") (.ref p) .none (.ref C))) (h4 : PySem.W.recIn K p "staticmethod" = some (.ref g :: rest)) (h5 : PySem.W.keepIn K (.ref g) = true) : StatK K C f g := ⟨⟨.type "type", p, h1, h2, h3, rest, h4⟩, h5⟩
section
variable {x qual m : Str} {st : Stmt} {ps : List Str} {f : Addr} {oc : Value} {od an : Option Addr} {osl : Array (Option Value)} {kV doc pm cdv ct : Value}
theorem mkMp (q : PropK K C m f) (l : K.lookup f = some ⟨oc, od, .func (PySem.W.fnOf x qual (defArgs st) (defBody st) (defScope st) .none kV doc pm an cdv ct), osl⟩) (c : PySem.W.codeIn K cdv qual = true) (k : PySem.W.keepIn K (.ref f) = true)
    (b : ∀ (kV doc pm : Value) (an : Option Addr) (cdv ct : Value) (us : List Value), us.length = ps.length → bindArgs (PySem.W.fnOf x qual (defArgs st) (defBody st) (defScope st) .none kV doc pm an cdv ct) ⟨us, []⟩ = pure (ps.zip us)) :
    ∃ fd, Fun K x qual st f fd ∧ Binds K fd ps [] := mkM l c k b
theorem mkMs (q : StatK K C m f) (l : K.lookup f = some ⟨oc, od, .func (PySem.W.fnOf x qual (defArgs st) (defBody st) (defScope st) .none kV doc pm an cdv ct), osl⟩) (c : PySem.W.codeIn K cdv qual = true) (k : PySem.W.keepIn K (.ref f) = true)
    (b : ∀ (kV doc pm : Value) (an : Option Addr) (cdv ct : Value) (us : List Value), us.length = ps.length → bindArgs (PySem.W.fnOf x qual (defArgs st) (defBody st) (defScope st) .none kV doc pm an cdv ct) ⟨us, []⟩ = pure (ps.zip us)) :
    ∃ fd, Fun K x qual st f fd ∧ Binds K fd ps [] := mkM l c k b
theorem mkMi (q : Mk K C f) (l : K.lookup f = some ⟨oc, od, .func (PySem.W.fnOf x qual (defArgs st) (defBody st) (defScope st) .none kV doc pm an cdv ct), osl⟩) (c : PySem.W.codeIn K cdv qual = true) (k : PySem.W.keepIn K (.ref f) = true) :
    ∃ fd, Fun K x qual st f fd := ⟨_, fun_mk (st := st) l c k⟩
end
end
end Dt

namespace Dt
open PySem PySem.Spec PyProof.Rows L2
/-! # x = x + e, x an owned list: a new list, no longer owned -/
def sCatO (i : Nat) (me : M) : MS := fun r p => match owL r i, me (shR r) p with | some ds, some (.lst es, p) => if ds.length + es.length ≤ lim then some (.nx (r.set i (.sh (.lst (ds ++ es)))) p) else none | _, _ => none
section
variable {K : PySem.W.Frag} {fx : Bool} {E : En}
theorem red_catO {i : Nat} {me : M} {D : Ends} {σ : L2.St} {H : Hp} (h : tS K fx E (sCatO i me) D σ H) : tAsg (tOp (rAddD K) (tVar i) (tM K me)) (gName i) D σ H := by
  obtain ⟨pa, S0, S, A, r, p, o, e, m, q⟩ := h
  unfold sCatO at m
  split at m
  · rename_i ds es p1 hr m1
    split at m
    · rename_i hl
      cases m
      have hi := owL_eq hr
      obtain ⟨h1, h2, h3, u0, h5, h60⟩ := e.own i _ hi
      refine ⟨_, h1, ?_⟩
      refine ⟨pa, S, shR r, p, _, p1, e.cn, m1, fun v H1 x1 s1 r1 => ?_⟩
      have e1 := e.go x1 ⟨fun a h => ⟨(s1.pool a h).1, (e.sta.pool a h).2⟩, fun a h => s1.trk a ((e.hS a).mpr (.inl h))⟩
      obtain ⟨_, _, _, u1, k5, k60⟩ := e1.own i _ hi
      obtain ⟨xs1, rfl, k6⟩ := k60.lst
      cases r1 with
      | @lst b zs _ g1 g2 =>
        refine .inr (.inr (.inl ⟨_, _, xs1, _, rfl, rfl, k5, hid_sub _ _ g1, by rw [k6.length, g2.length]; exact lim_sz hl, fun n hn => ?_⟩))
        have sm := same_upd (o := .lst (xs1 ++ zs)) hn
        have e2 := e1.go (Ext.of sm) (e1.sta.same sm)
        obtain ⟨S', e3, f3⟩ := e2.setSh (x := .ref n) (d := .lst (ds ++ es)) i (Rp.newL s1 (k6.append g2) hn)
        exact q pa S0 S' A _ _ e3 (((e.frm x1).trans (e1.frm (Ext.of sm))).trans f3)
    · cases m
  · cases m
end
theorem js_catO {fx : Bool} {X : Cx} {i : Nat} {x : Str} {e : Expr} {me : M} {pos pos' p2 p3 : Pos} (h : JE X e me) (hN : X.N.Nodup) (hi : X.N[i]? = some x := by rfl) (hx : Loc X.env.scope x := by first | exact Or.inl rfl | exact Or.inr rfl) (hv : Vis X.env.scope x := by first | exact Or.inl rfl | exact Or.inr (Or.inl rfl) | exact Or.inr (Or.inr rfl)) (hd : (x == ("__debug__" : Str)) = false := by decide) (hcd : (x == ("__classdict__" : Str)) = false := by decide)
    (hs : swapsWith (.BinOp (.Name x p2) .Add e p3) (some (.Name x pos')) pos.line X.env = pure false := by rfl) (hf : X.fn x = true ∨ X.env.scope.names.lookup x = some .local := by first | exact .inl rfl | exact .inr rfl) : JS fx X (.Assign [.Name x pos'] (.BinOp (.Name x p2) .Add e p3) pos) (sCatO i me) :=
  ⟨fun E => (ps_set (i := i) hN hi hx (pe_op op_addD (pe_var hi hv hd hcd) h.pe) hs hf).weak fun D σ H h => red_catO h⟩
/-! # The new mirrors, backwards -/
section
variable {r : Ev} {p : List Int} {Q : D → List Int → Prop} {QB : Bool → List Int → Prop} {QL : List D → List Int → Prop}
theorem wi_enumA {a : ML} (h : Wp (a r p) fun xs p => ∃ ds, (xs = [.lst ds] ∨ xs = [.tup ds]) ∧ QL (enumD ds) p) : Wp (mEnumA a r p) QL := by
  unfold mEnumA
  refine wp_bnd.mpr (h.mono fun xs p ⟨ds, h1, h2⟩ => ?_)
  rcases h1 with rfl | rfl
  · exact wp_some.mpr h2
  · exact wp_some.mpr h2
theorem wi_slt {c : Str} {i : Nat} {a : M} (h : Wp (a r p) fun x p => ∃ fs d, x = .slt c fs ∧ fs[i]? = some d ∧ Q d p) : Wp (mSlt c i a r p) Q := by
  unfold mSlt
  refine wp_bnd.mpr (h.mono fun x p ⟨fs, d, h1, h2, h3⟩ => ?_)
  subst h1
  simp only [if_pos rfl, h2, lft_some]
  exact wp_some.mpr h3
theorem wi_isiC {c : Str} {a : M} (h : Wp (a r p) fun x p => ∃ fs, x = .slt c fs ∧ Q (.bl true) p) : Wp (mIsiC c a r p) Q := by
  unfold mIsiC
  refine wp_bnd.mpr (h.mono fun x p ⟨fs, h1, h2⟩ => ?_)
  subst h1
  simp only [if_pos rfl]
  exact wp_some.mpr h2
theorem wi_prop {c : Str} {mm : MF} {a : M} (h : Wp (a r p) fun x p => ∃ fs, x = .slt c fs ∧ Wp (mm [.slt c fs] p) Q) : Wp (mProp c mm a r p) Q := by
  unfold mProp
  refine wp_bnd.mpr (h.mono fun x p ⟨fs, h1, h2⟩ => ?_)
  subst h1
  simp only [if_pos rfl]
  exact h2
theorem wi_callP {m : MF} {mf : ML} (h : Wp (mf r p) fun ds p => ∃ ns, asInts ds = some ns ∧ Wp (m [.pool] ns) fun d _ => np d = true ∧ Q d p) : Wp (mCallP m mf r p) Q := by
  obtain ⟨ds, p1, e1, ns, e2, d, p2, e3, h1, h2⟩ := h
  unfold mCallP
  rw [e1]
  simp only [e2, e3, if_pos h1]
  exact wp_some.mpr h2
theorem wi_dc {vs : List Nat} {mi : ML} {mg : D → Ev → Option Ev} {mt : MB} {mk mv : M} (h : Wp (mi r p) fun ds p => ds.length ≤ lim ∧ Wp (dcGo mg mt mk mv (wipeR r vs) ds [] p) fun m p => Q (dkv m) p) : Wp (mDc vs mi mg mt mk mv r p) Q := by
  unfold mDc
  refine wp_bnd.mpr (h.mono fun ds p ⟨h1, h2⟩ => ?_)
  rw [if_pos h1]
  exact wp_bnd.mpr (h2.mono fun m p h => wp_some.mpr h)
theorem wi_sortIt {a : M} (h : Wp (a r p) fun x p => ∃ qs, (itemsD x).bind asSI = some qs ∧ Q (.lst ((psort qs).map dPr)) p) : Wp (mSortIt a r p) Q := by
  unfold mSortIt
  refine wp_bnd.mpr (h.mono fun x p ⟨qs, h1, h2⟩ => ?_)
  rw [h1]
  exact wp_some.mpr h2
theorem wi_listIt {a : M} (h : Wp (a r p) fun x p => ∃ m, itemsD x = some m ∧ Q (.lst (m.map fun q => .tup [dKey q.1, q.2])) p) : Wp (mListIt a r p) Q := by
  unfold mListIt
  refine wp_bnd.mpr (h.mono fun x p ⟨m, h1, h2⟩ => ?_)
  rw [h1]
  exact wp_some.mpr h2
end
section
variable {r : Sv} {p : List Int} {nx bk ct : Sv → List Int → Prop} {rt : D → List Int → Prop}
theorem si_catO {i : Nat} {me : M} {ds : List D} (h1 : owL r i = some ds) (h : Wp (me (shR r) p) fun d p => ∃ es, d = .lst es ∧ ds.length + es.length ≤ lim ∧ nx (r.set i (.sh (.lst (ds ++ es)))) p) : Ws (sCatO i me r p) nx rt bk ct := by
  obtain ⟨d, p1, e1, es, rfl, h2, h3⟩ := h
  unfold sCatO
  rw [h1, e1]
  simp only [if_pos h2]
  exact h3
theorem si_par3 {i j l : Nat} {ms : ML} (h : Wp (ms (shR r) p) fun ds p => ∃ x y z, ds = [x, y, z] ∧ nx (((r.set i (.sh x)).set j (.sh y)).set l (.sh z)) p) : Ws (sPar3 i j l ms r p) nx rt bk ct := by
  obtain ⟨ds, p1, e1, x, y, z, rfl, h2⟩ := h
  unfold sPar3
  rw [e1]
  exact h2
end
/-- dict comprehensions whose parts leave the pool alone -/
theorem dcGo_map {α : Type} {mg : D → Ev → Option Ev} {mt : MB} {mk mv : M} {r0 : Ev} {p : List Int} (g : α → D) (t : α → Bool) (k : α → Key) (kd : α → D) (v : α → D) : ∀ {xs : List α} {acc : List (Key × D)}, (∀ x ∈ xs, keyOf (kd x) = some (k x) ∧ ∃ r1, mg (g x) r0 = some r1 ∧ mt r1 p = some (t x, p) ∧ (t x = true → mk r1 p = some (kd x, p) ∧ mv r1 p = some (v x, p))) →
    dcGo mg mt mk mv r0 (xs.map g) acc p = some (mergeG acc ((xs.filter t).map fun x => (k x, v x)), p)
  | [], acc, _ => rfl
  | x :: xs, acc, h => by
    obtain ⟨hk, r1, h1, h2, h3⟩ := h x List.mem_cons_self
    rw [List.map_cons]
    unfold dcGo
    rw [h1]
    simp only [h2, bnd_eq]
    cases ht : t x with
    | true =>
      obtain ⟨h4, h5⟩ := h3 ht
      rw [if_pos rfl, h4]
      simp only [bnd_eq, h5, hk]
      rw [dcGo_map g t k kd v fun y hy => h y (List.mem_cons_of_mem _ hy), List.filter_cons_of_pos ht, List.map_cons]
      rfl
    | false =>
      rw [if_neg (by decide), dcGo_map g t k kd v fun y hy => h y (List.mem_cons_of_mem _ hy), List.filter_cons_of_neg (by rw [ht]; decide)]
end Dt

namespace K36
open PySem PySem.Spec PyProof.Rows L2 Dt
noncomputable section
def topS (i : Nat) : Stmt := PySem.Challenge.pw_keymoves_k36_contradictory_premises.main.body.getD i (.Pass ⟨0, 0, 0, 0⟩)
def clsBody : Stmt → List Stmt
  | .ClassDef (body := b) .. => b
  | _ => []
def fuel : Nat := 100000
/-- what the module holds -/
structure Fs (K : PySem.W.Frag) (mg : Str → Option Value) where
  a__law_draw : Addr
  f__law_draw : FuncData
  F__law_draw : Fun K "_law_draw" "_law_draw" (topS 42) a__law_draw f__law_draw
  g__law_draw : mg "_law_draw" = some (.ref a__law_draw)
  b__law_draw : Binds K f__law_draw ["_law_pool_here", "_law_many"] []
  a__law_names : Addr
  f__law_names : FuncData
  F__law_names : Fun K "_law_names" "_law_names" (topS 45) a__law_names f__law_names
  g__law_names : mg "_law_names" = some (.ref a__law_names)
  b__law_names : Binds K f__law_names ["_law_pool_here"] []
  a__law_path : Addr
  f__law_path : FuncData
  F__law_path : Fun K "_law_path" "_law_path" (topS 44) a__law_path f__law_path
  g__law_path : mg "_law_path" = some (.ref a__law_path)
  b__law_path : Binds K f__law_path ["_law_pool_here", "_law_some", "_law_deep"] []
  a__law_premise : Addr
  f__law_premise : FuncData
  F__law_premise : Fun K "_law_premise" "_law_premise" (topS 49) a__law_premise f__law_premise
  g__law_premise : mg "_law_premise" = some (.ref a__law_premise)
  b__law_premise : Binds K f__law_premise ["_law_pool_here", "_law_some"] []
  a__law_premises : Addr
  f__law_premises : FuncData
  F__law_premises : Fun K "_law_premises" "_law_premises" (topS 50) a__law_premises f__law_premises
  g__law_premises : mg "_law_premises" = some (.ref a__law_premises)
  b__law_premises : Binds K f__law_premises ["_law_pool_here", "_law_some", "_law_most"] []
  a__law_under : Addr
  f__law_under : FuncData
  F__law_under : Fun K "_law_under" "_law_under" (topS 43) a__law_under f__law_under
  g__law_under : mg "_law_under" = some (.ref a__law_under)
  b__law_under : Binds K f__law_under ["_law_k", "_law_p"] []
  a__law_clash : Addr
  f__law_clash : FuncData
  F__law_clash : Fun K "_law_clash" "_law_clash" (topS 51) a__law_clash f__law_clash
  g__law_clash : mg "_law_clash" = some (.ref a__law_clash)
  b__law_clash : Binds K f__law_clash ["_law_known"] []
  a_is_name : Addr
  f_is_name : FuncData
  F_is_name : Fun K "is_name" "is_name" (topS 15) a_is_name f_is_name
  g_is_name : mg "is_name" = some (.ref a_is_name)
  b_is_name : Binds K f_is_name ["value"] []
  a_names_in : Addr
  f_names_in : FuncData
  F_names_in : Fun K "names_in" "names_in" (topS 16) a_names_in f_names_in
  g_names_in : mg "names_in" = some (.ref a_names_in)
  b_names_in : Binds K f_names_in ["key"] []
  a_is_key : Addr
  f_is_key : FuncData
  F_is_key : Fun K "is_key" "is_key" (topS 17) a_is_key f_is_key
  g_is_key : mg "is_key" = some (.ref a_is_key)
  b_is_key : Binds K f_is_key ["value"] []
  a_is_path : Addr
  f_is_path : FuncData
  F_is_path : Fun K "is_path" "is_path" (topS 18) a_is_path f_is_path
  g_is_path : mg "is_path" = some (.ref a_is_path)
  b_is_path : Binds K f_is_path ["value"] []
  a_is_premise : Addr
  f_is_premise : FuncData
  F_is_premise : Fun K "is_premise" "is_premise" (topS 31) a_is_premise f_is_premise
  g_is_premise : mg "is_premise" = some (.ref a_is_premise)
  b_is_premise : Binds K f_is_premise ["value"] []
  a_check_form : Addr
  f_check_form : FuncData
  F_check_form : Fun K "check_form" "check_form" (topS 32) a_check_form f_check_form
  g_check_form : mg "check_form" = some (.ref a_check_form)
  b_check_form : Binds K f_check_form ["premises"] []
  a_nevers_in : Addr
  f_nevers_in : FuncData
  F_nevers_in : Fun K "nevers_in" "nevers_in" (topS 33) a_nevers_in f_nevers_in
  g_nevers_in : mg "nevers_in" = some (.ref a_nevers_in)
  b_nevers_in : Binds K f_nevers_in ["premises"] []
  a_lies_under : Addr
  f_lies_under : FuncData
  F_lies_under : Fun K "lies_under" "lies_under" (topS 19) a_lies_under f_lies_under
  g_lies_under : mg "lies_under" = some (.ref a_lies_under)
  b_lies_under : Binds K f_lies_under ["key", "path"] []
  a_pairs_in : Addr
  f_pairs_in : FuncData
  F_pairs_in : Fun K "pairs_in" "pairs_in" (topS 35) a_pairs_in f_pairs_in
  g_pairs_in : mg "pairs_in" = some (.ref a_pairs_in)
  b_pairs_in : Binds K f_pairs_in ["premises"] []
  a_fit : Addr
  f_fit : FuncData
  F_fit : Fun K "fit" "fit" (topS 36) a_fit f_fit
  g_fit : mg "fit" = some (.ref a_fit)
  b_fit : Binds K f_fit ["keys", "premises"] []
  a_always_in : Addr
  f_always_in : FuncData
  F_always_in : Fun K "always_in" "always_in" (topS 34) a_always_in f_always_in
  g_always_in : mg "always_in" = some (.ref a_always_in)
  b_always_in : Binds K f_always_in ["premises"] []
  a_is_contradictory : Addr
  f_is_contradictory : FuncData
  F_is_contradictory : Fun K "is_contradictory" "is_contradictory" (topS 38) a_is_contradictory f_is_contradictory
  g_is_contradictory : mg "is_contradictory" = some (.ref a_is_contradictory)
  b_is_contradictory : Binds K f_is_contradictory ["premises"] []
  kw_is_contradictory : KwB K f_is_contradictory ["premises"]
  a_check_record : Addr
  f_check_record : FuncData
  F_check_record : Fun K "check_record" "check_record" (topS 29) a_check_record f_check_record
  g_check_record : mg "check_record" = some (.ref a_check_record)
  b_check_record : Binds K f_check_record ["value"] []
  a_Record_entries : Addr
  f_Record_entries : FuncData
  F_Record_entries : Fun K "entries" "Record.entries" ((clsBody (topS 27)).getD 3 (.Pass ⟨0, 0, 0, 0⟩)) a_Record_entries f_Record_entries
  b_Record_entries : Binds K f_Record_entries ["self"] []
  a_meets : Addr
  f_meets : FuncData
  F_meets : Fun K "meets" "meets" (topS 37) a_meets f_meets
  g_meets : mg "meets" = some (.ref a_meets)
  b_meets : Binds K f_meets ["record", "premises"] []
  a_is_integer : Addr
  f_is_integer : FuncData
  F_is_integer : Fun K "is_integer" "is_integer" (topS 23) a_is_integer f_is_integer
  g_is_integer : mg "is_integer" = some (.ref a_is_integer)
  b_is_integer : Binds K f_is_integer ["value"] []
  a_is_entry : Addr
  f_is_entry : FuncData
  F_is_entry : Fun K "is_entry" "is_entry" (topS 25) a_is_entry f_is_entry
  g_is_entry : mg "is_entry" = some (.ref a_is_entry)
  b_is_entry : Binds K f_is_entry ["value"] []
  a_Record___init__ : Addr
  f_Record___init__ : FuncData
  F_Record___init__ : Fun K "__init__" "Record.__init__" ((clsBody (topS 27)).getD 1 (.Pass ⟨0, 0, 0, 0⟩)) a_Record___init__ f_Record___init__
  a_record_of : Addr
  f_record_of : FuncData
  F_record_of : Fun K "record_of" "record_of" (topS 28) a_record_of f_record_of
  g_record_of : mg "record_of" = some (.ref a_record_of)
  b_record_of : Binds K f_record_of ["pairs"] []
  a_read_integer : Addr
  f_read_integer : FuncData
  F_read_integer : Fun K "read_integer" "read_integer" (topS 24) a_read_integer f_read_integer
  g_read_integer : mg "read_integer" = some (.ref a_read_integer)
  b_read_integer : Binds K f_read_integer ["word"] []
  a_read_entry : Addr
  f_read_entry : FuncData
  F_read_entry : Fun K "read_entry" "read_entry" (topS 26) a_read_entry f_read_entry
  g_read_entry : mg "read_entry" = some (.ref a_read_entry)
  b_read_entry : Binds K f_read_entry ["word"] []
  a_Record_read : Addr
  f_Record_read : FuncData
  F_Record_read : Fun K "read" "Record.read" ((clsBody (topS 27)).getD 2 (.Pass ⟨0, 0, 0, 0⟩)) a_Record_read f_Record_read
  b_Record_read : Binds K f_Record_read ["text"] []
  a__law_rows : Addr
  f__law_rows : FuncData
  F__law_rows : Fun K "_law_rows" "_law_rows" (topS 46) a__law_rows f__law_rows
  g__law_rows : mg "_law_rows" = some (.ref a__law_rows)
  b__law_rows : Binds K f__law_rows ["_law_box"] []
  a__law_line : Addr
  f__law_line : FuncData
  F__law_line : Fun K "_law_line" "_law_line" (topS 47) a__law_line f__law_line
  g__law_line : mg "_law_line" = some (.ref a__law_line)
  b__law_line : Binds K f__law_line ["_law_box"] []
  a__law_record : Addr
  f__law_record : FuncData
  F__law_record : Fun K "_law_record" "_law_record" (topS 48) a__law_record f__law_record
  g__law_record : mg "_law_record" = some (.ref a__law_record)
  b__law_record : Binds K f__law_record ["_law_box"] []
  a__law_told_right : Addr
  f__law_told_right : FuncData
  F__law_told_right : Fun K "_law_told_right" "_law_told_right" (topS 54) a__law_told_right f__law_told_right
  g__law_told_right : mg "_law_told_right" = some (.ref a__law_told_right)
  b__law_told_right : Binds K f__law_told_right ["_law_known"] []
  a__law_beside : Addr
  f__law_beside : FuncData
  F__law_beside : Fun K "_law_beside" "_law_beside" (topS 52) a__law_beside f__law_beside
  g__law_beside : mg "_law_beside" = some (.ref a__law_beside)
  b__law_beside : Binds K f__law_beside ["_law_p"] []
  a__law_near : Addr
  f__law_near : FuncData
  F__law_near : Fun K "_law_near" "_law_near" (topS 53) a__law_near f__law_near
  g__law_near : mg "_law_near" = some (.ref a__law_near)
  b__law_near : Binds K f__law_near ["_law_pool_here", "_law_some"] []
  a__law_right : Addr
  f__law_right : FuncData
  F__law_right : Fun K "_law_right" "_law_right" (topS 55) a__law_right f__law_right
  g__law_right : mg "_law_right" = some (.ref a__law_right)
  b__law_right : Binds K f__law_right ["_law_pool_here"] []
  a__law_pool : Addr
  f__law_pool : FuncData
  F__law_pool : Fun K "_law_pool" "_law_pool" (topS 41) a__law_pool f__law_pool
  g__law_pool : mg "_law_pool" = some (.ref a__law_pool)
  b__law_pool : Binds K f__law_pool ["_law_cell_here"] []
  a__law_cell : Addr
  f__law_cell : FuncData
  F__law_cell : Fun K "_law_cell" "_law_cell" (topS 40) a__law_cell f__law_cell
  g__law_cell : mg "_law_cell" = some (.ref a__law_cell)
  b__law_cell : Binds K f__law_cell ["_law_cells", "_law_k"] []
  a_law : Addr
  f_law : FuncData
  F_law : Fun K "law" "law" (topS 56) a_law f_law
  g_law : mg "law" = some (.ref a_law)
  b_law : Binds K f_law ["_law_cells"] []
  C_Record : Addr
  k_Record : ClK K mg "Record" C_Record
  mk_Record : Mk K C_Record a_Record___init__
  sl_Record : SlotOf K "Record" "pairs" 0
  p_Record_entries : PropK K C_Record "entries" a_Record_entries
  st_Record_read : StatK K C_Record "read" a_Record_read
  c_DIGITS : ∃ t, mg "DIGITS" = some (.str "0123456789" t)
  c_EMPTY : ∃ t, mg "EMPTY" = some (.str "empty" t)
  c_LETTERS : ∃ t, mg "LETTERS" = some (.str "abcdefghijklmnopqrstuvwxyz" t)
  c_LONGEST : ∃ t, mg "LONGEST" = some (.int 8 t)
  c_MAX_PATH : ∃ t, mg "MAX_PATH" = some (.int 3 t)
  c_MAX_PREMISES : ∃ t, mg "MAX_PREMISES" = some (.int 10 t)
  c_SLASH : ∃ t, mg "SLASH" = some (.str "/" t)
  n_abs : mg "abs" = none
  n_all : mg "all" = none
  n_any : mg "any" = none
  n_bool : mg "bool" = none
  n_dict : mg "dict" = none
  n_divmod : mg "divmod" = none
  n_enumerate : mg "enumerate" = none
  n_int : mg "int" = none
  n_isinstance : mg "isinstance" = none
  n_len : mg "len" = none
  n_list : mg "list" = none
  n_max : mg "max" = none
  n_min : mg "min" = none
  n_range : mg "range" = none
  n_repr : mg "repr" = none
  n_sorted : mg "sorted" = none
  n_str : mg "str" = none
  n_tuple : mg "tuple" = none
  n_zip : mg "zip" = none

abbrev s__law_draw : Stmt := topS 42
theorem sc__law_draw : FnScope ["_law_pool_here", "_law_many", "_law_seed", "_law_digit"] ["_law_pool_here", "_law_many"] (defScope s__law_draw) := ⟨rfl, rfl, rfl, by decide +kernel, rfl, by decide +kernel, by decide +kernel⟩
def b__law_draw : MS := sSeq (sAsgG (mOp dAdd (mIx (mVar 0) (mC (.int 2))) (mC (.int 1))) (gsP (mVar 0) (mC (.int 2))))
  (sSeq (sAsg 2 (mCB dIntA (mCons (mIx (mVar 0) (mC (.int 0))) (mNil))))
  (sSeq (sAsgG (mOp dMod (mCB dIntA (mCons (mOp dAdd (mOp dAdd (mOp dMulA (mVar 2) (mOp dAdd (mOp dMod (mCB dIntA (mCons (mVar 2) (mNil))) (mC (.int 39979))) (mC (.int 30011)))) (mOp dMulA (mC (.int 80021)) (mIx (mVar 0) (mC (.int 2))))) (mC (.int 11))) (mNil))) (mC (.int 2147482873))) (gsP (mVar 0) (mC (.int 0))))
  (sSeq (sIf (mTst (mOp dGt (mIx (mVar 0) (mC (.int 1))) (mC (.int 0)))) (sSeq (sAsgG (mCB dDivmod (mCons (mIx (mVar 0) (mC (.int 1))) (mCons (mVar 1) (mNil)))) (gsT 2 (gssC (gsP (mVar 0) (mC (.int 1))) (gssC (gsN 3) (gss0)))))
  (sRet false (mVar 3))) (sNext))
  (sRet false (mOp dMod (mCB dIntA (mCons (mOp dDiv (mIx (mVar 0) (mC (.int 0))) (mC (.int 64))) (mNil))) (mVar 1))))))
def m__law_draw : MF := runF 4 2 b__law_draw
theorem ok__law_draw {P : Program} {w : World} {K : PySem.W.Frag} {mg : Str → Option Value} {base : Heap} (T : Fs K mg) : FnOk P w K mg base CX0 1 T.a__law_draw T.f__law_draw ["_law_pool_here", "_law_many"] (spM K 2 m__law_draw) :=
  fn_ok (N := ["_law_pool_here", "_law_many", "_law_seed", "_law_digit"]) (ps := ["_law_pool_here", "_law_many"]) (m := b__law_draw) T.F__law_draw sc__law_draw (by decide) fun cdv A outer s H E hr =>
  (jss_cons (js_asgG (je_op op_addD od_add (je_ix hr.units (je_var 0) je_int) je_int) (pg_sub (JE.pe (je_var 0)) (JE.pe je_int) set_list) tgs_pool)
  (jss_cons (js_asg (je_callTy call_intA cd_intA T.n_int bt_int (ja_cons (je_ix hr.units (je_var 0) je_int) ja_nil)) sc__law_draw.nd)
  (jss_cons (js_asgG (je_op op_mod od_mod (je_callTy call_intA cd_intA T.n_int bt_int (ja_cons (je_op op_addD od_add (je_op op_addD od_add (je_op op_mulA od_mulA (je_var 2) (je_op op_addD od_add (je_op op_mod od_mod (je_callTy call_intA cd_intA T.n_int bt_int (ja_cons (je_var 2) ja_nil)) je_int) je_int)) (je_op op_mulA od_mulA je_int (je_ix hr.units (je_var 0) je_int))) je_int) ja_nil)) je_int) (pg_sub (JE.pe (je_var 0)) (JE.pe je_int) set_list) tgs_pool)
  (jss_cons (js_if (jt_cmp op_gtD od_gt (je_ix hr.units (je_var 0) je_int) je_int (by rfl)) (jss_cons (js_asgG (je_callB call_divmod cd_divmod T.n_divmod bt_divmod (ja_cons (je_ix hr.units (je_var 0) je_int) (ja_cons (je_var 1) ja_nil))) (pg_tup rfl (pgs_cons (pg_sub (JE.pe (je_var 0)) (JE.pe je_int) set_list) (pgs_cons (pg_name (i := 3) sc__law_draw.nd rfl (.inl rfl)) pgs_nil))) (tgs_tup (tgss_cons tgs_pool (tgss_cons (tgs_name 3) tgss_nil))))
  (jss_one (js_ret (je_var 3)))) jss_nil)
  (jss_one (js_ret (je_op op_mod od_mod (je_callTy call_intA cd_intA T.n_int bt_int (ja_cons (je_op op_fdiv od_div (je_ix hr.units (je_var 0) je_int) je_int) ja_nil)) (je_var 1))))))))

abbrev s__law_names : Stmt := topS 45
theorem sc__law_names : FnScope ["_law_pool_here", "_law_menu", "_law_way", "_law_found", "_law_k", "_law_word", "_law_at"] ["_law_pool_here"] (defScope s__law_names) := ⟨rfl, rfl, rfl, by decide +kernel, rfl, by decide +kernel, by decide +kernel⟩
def c1__law_namest : MB := tYesM
def c1__law_names : M := mIx (mC (.str "abcdefghijklmnopqrstuvwxyz")) (mCall 2 m__law_draw (mCons (mVar 0) (mCons (mC (.int 26)) (mNil))))
def l2__law_names : MS := sSeq (sAsg 5 (mMt dJoin (mC (.str "")) (mCons (mOfF (mLc [6] (mRng1 (mCons (mCall 2 m__law_draw (mCons (mVar 0) (mCons (mC (.int 8)) (mNil)))) (mNil))) (gN 6) c1__law_namest c1__law_names)) (mNil))))
  (sApp 3 (mOp dAdd (mVar 5) (mIx (mC (.str "abc")) (mVar 4))))
def b__law_names : MS := sSeq (sAsg 1 (mLst (mCons (mLst (mCons (mC (.str "a")) (mCons (mC (.str "b")) (mNil)))) (mCons (mLst (mCons (mC (.str "a")) (mCons (mC (.str "b")) (mCons (mC (.str "c")) (mNil))))) (mCons (mLst (mCons (mC (.str "x")) (mCons (mC (.str "xx")) (mNil)))) (mCons (mLst (mCons (mC (.str "db")) (mCons (mC (.str "host")) (mCons (mC (.str "port")) (mNil))))) (mCons (mLst (mCons (mC (.str "k")) (mCons (mC (.str "zzzzzzzz")) (mNil)))) (mNil))))))))
  (sSeq (sParO 2 3 (mCall 2 m__law_draw (mCons (mVar 0) (mCons (mC (.int 7)) (mNil)))) (mFresh (mNil)))
  (sSeq (sIf (mTst (mOp dLt (mVar 2) (mC (.int 5)))) (sRet false (mIx (mVar 1) (mVar 2))) (sNext))
  (sSeq (sFor false (mRng1 (mCons (mC (.int 3)) (mNil))) (gsN 4) l2__law_names)
  (sRet false (mVar 3)))))
def m__law_names : MF := runF 7 1 b__law_names
theorem ok__law_names {P : Program} {w : World} {K : PySem.W.Frag} {mg : Str → Option Value} {base : Heap} (T : Fs K mg) : FnOk P w K mg base CX0 2 T.a__law_names T.f__law_names ["_law_pool_here"] (spM K 1 m__law_names) :=
  fn_ok (N := ["_law_pool_here", "_law_menu", "_law_way", "_law_found", "_law_k", "_law_word", "_law_at"]) (ps := ["_law_pool_here"]) (m := b__law_names) T.F__law_names sc__law_names (by decide) fun cdv A outer s H E hr =>
  (jss_cons (js_asg (je_lst (ja_cons (je_lst (ja_cons je_str (ja_cons je_str ja_nil))) (ja_cons (je_lst (ja_cons je_str (ja_cons je_str (ja_cons je_str ja_nil)))) (ja_cons (je_lst (ja_cons je_str (ja_cons je_str ja_nil))) (ja_cons (je_lst (ja_cons je_str (ja_cons je_str (ja_cons je_str ja_nil)))) (ja_cons (je_lst (ja_cons je_str (ja_cons je_str ja_nil))) ja_nil)))))) sc__law_names.nd)
  (jss_cons (js_parO rfl sc__law_names.nd (je_call (ok__law_draw T) (hr.mono (by decide)) T.g__law_draw T.F__law_draw.kp T.b__law_draw (ja_cons (je_var 0) (ja_cons je_int ja_nil))) (jf_lst ja_nil))
  (jss_cons (js_if (jt_cmp op_ltD od_lt (je_var 2) je_int (by rfl)) (jss_one (js_ret (je_ix hr.units (je_var 1) (je_var 2)))) jss_nil)
  (jss_cons (js_for PassesOwn.never rfl (ji_rng1 (ja_cons je_int ja_nil) T.n_range) (pg_name (i := 4) sc__law_names.nd rfl (.inl rfl)) (tgs_name 4) (id (α := JSs _ _ _ l2__law_names) (jss_cons (js_asg (je_join je_str (ja_cons (JF.je (jf_lcN (mt := c1__law_namest) (me := c1__law_names) ["_law_pool_here", "_law_menu", "_law_way", "_law_found", "_law_k", "_law_word", "_law_at"] (defScope s__law_names) [("_law_at", 6)] rfl sc__law_names.nd (ji_rng1 (ja_cons (je_call (ok__law_draw T) (hr.mono (by decide)) T.g__law_draw T.F__law_draw.kp T.b__law_draw (ja_cons (je_var 0) (ja_cons je_int ja_nil))) ja_nil) T.n_range) (blkOk_by (by decide +kernel)) (fun _ _ _ _ _ => (pg_name (i := 6) sc__law_names.nd rfl (.inl rfl))) (tg_name 6) (by decide) (fun _ _ _ _ _ => jts_nil) (fun _ _ _ _ _ => (je_ix hr.units je_str (je_call (ok__law_draw T) (hr.mono (by decide)) T.g__law_draw T.F__law_draw.kp T.b__law_draw (ja_cons (je_var 0) (ja_cons je_int ja_nil))))))) ja_nil)) sc__law_names.nd)
  (jss_one (js_app (je_op op_addD od_add (je_var 5) (je_ix hr.units je_str (je_var 4))))))))
  (jss_one (js_ret (je_var 3)))))))

abbrev s__law_path : Stmt := topS 44
theorem sc__law_path : FnScope ["_law_pool_here", "_law_some", "_law_deep", "_law_k"] ["_law_pool_here", "_law_some", "_law_deep"] (defScope s__law_path) := ⟨rfl, rfl, rfl, by decide +kernel, rfl, by decide +kernel, by decide +kernel⟩
def c1__law_patht : MB := tYesM
def c1__law_path : M := mIx (mVar 1) (mCall 2 m__law_draw (mCons (mVar 0) (mCons (mCB dLen (mCons (mVar 1) (mNil))) (mNil))))
def b__law_path : MS := sRet false (mMt dJoin (mC (.str "/")) (mCons (mOfF (mLc [3] (mRng1 (mCons (mOp dAdd (mC (.int 1)) (mCall 2 m__law_draw (mCons (mVar 0) (mCons (mVar 2) (mNil))))) (mNil))) (gN 3) c1__law_patht c1__law_path)) (mNil)))
def m__law_path : MF := runF 4 3 b__law_path
theorem ok__law_path {P : Program} {w : World} {K : PySem.W.Frag} {mg : Str → Option Value} {base : Heap} (T : Fs K mg) : FnOk P w K mg base CX0 2 T.a__law_path T.f__law_path ["_law_pool_here", "_law_some", "_law_deep"] (spM K 3 m__law_path) :=
  fn_ok (N := ["_law_pool_here", "_law_some", "_law_deep", "_law_k"]) (ps := ["_law_pool_here", "_law_some", "_law_deep"]) (m := b__law_path) T.F__law_path sc__law_path (by decide) fun cdv A outer s H E hr =>
  (jss_one (js_ret (je_join je_str (ja_cons (JF.je (jf_lcN (mt := c1__law_patht) (me := c1__law_path) ["_law_pool_here", "_law_some", "_law_deep", "_law_k"] (defScope s__law_path) [("_law_k", 3)] rfl sc__law_path.nd (ji_rng1 (ja_cons (je_op op_addD od_add je_int (je_call (ok__law_draw T) (hr.mono (by decide)) T.g__law_draw T.F__law_draw.kp T.b__law_draw (ja_cons (je_var 0) (ja_cons (je_var 2) ja_nil)))) ja_nil) T.n_range) (blkOk_by (by decide +kernel)) (fun _ _ _ _ _ => (pg_name (i := 3) sc__law_path.nd rfl (.inl rfl))) (tg_name 3) (by decide) (fun _ _ _ _ _ => jts_nil) (fun _ _ _ _ _ => (je_ix hr.units (je_var 1) (je_call (ok__law_draw T) (hr.mono (by decide)) T.g__law_draw T.F__law_draw.kp T.b__law_draw (ja_cons (je_var 0) (ja_cons (je_callB call_lenA cd_len T.n_len bt_len (ja_cons (je_var 1) ja_nil)) ja_nil))))))) ja_nil))))

abbrev s__law_premise : Stmt := topS 49
theorem sc__law_premise : FnScope ["_law_pool_here", "_law_some", "_law_way", "_law_p", "_law_q"] ["_law_pool_here", "_law_some"] (defScope s__law_premise) := ⟨rfl, rfl, rfl, by decide +kernel, rfl, by decide +kernel, by decide +kernel⟩
def b__law_premise : MS := sSeq (sPar3 2 3 4 (mCons (mCall 2 m__law_draw (mCons (mVar 0) (mCons (mC (.int 5)) (mNil)))) (mCons (mCall 3 m__law_path (mCons (mVar 0) (mCons (mVar 1) (mCons (mC (.int 3)) (mNil))))) (mCons (mCall 3 m__law_path (mCons (mVar 0) (mCons (mVar 1) (mCons (mC (.int 3)) (mNil))))) (mNil)))))
  (sSeq (sIf (mAnd (mTst (mOp dGt (mVar 2) (mC (.int 2)))) (mTst (mOp dNe (mVar 3) (mVar 4)))) (sRet false (mTup (mCons (mC (.str "not both")) (mCons (mVar 3) (mCons (mVar 4) (mNil)))))) (sNext))
  (sRet false (mTup (mCons (mIx (mLst (mCons (mC (.str "never")) (mCons (mC (.str "always")) (mCons (mC (.str "always")) (mNil))))) (mCall 2 m__law_draw (mCons (mVar 0) (mCons (mC (.int 3)) (mNil))))) (mCons (mVar 3) (mNil))))))
def m__law_premise : MF := runF 5 2 b__law_premise
theorem ok__law_premise {P : Program} {w : World} {K : PySem.W.Frag} {mg : Str → Option Value} {base : Heap} (T : Fs K mg) : FnOk P w K mg base CX0 3 T.a__law_premise T.f__law_premise ["_law_pool_here", "_law_some"] (spM K 2 m__law_premise) :=
  fn_ok (N := ["_law_pool_here", "_law_some", "_law_way", "_law_p", "_law_q"]) (ps := ["_law_pool_here", "_law_some"]) (m := b__law_premise) T.F__law_premise sc__law_premise (by decide) fun cdv A outer s H E hr =>
  (jss_cons (js_par3 rfl sc__law_premise.nd (ja_cons (je_call (ok__law_draw T) (hr.mono (by decide)) T.g__law_draw T.F__law_draw.kp T.b__law_draw (ja_cons (je_var 0) (ja_cons je_int ja_nil))) (ja_cons (je_call (ok__law_path T) (hr.mono (by decide)) T.g__law_path T.F__law_path.kp T.b__law_path (ja_cons (je_var 0) (ja_cons (je_var 1) (ja_cons je_int ja_nil)))) (ja_cons (je_call (ok__law_path T) (hr.mono (by decide)) T.g__law_path T.F__law_path.kp T.b__law_path (ja_cons (je_var 0) (ja_cons (je_var 1) (ja_cons je_int ja_nil)))) ja_nil))))
  (jss_cons (js_if (JW.jt (jw_and (jt_cmp op_gtD od_gt (je_var 2) je_int (by rfl)) (jw_and1 (jt_cmp (op_neX hr.units) od_ne (je_var 3) (je_var 4) (by rfl))))) (jss_one (js_ret (je_tup (ja_cons je_str (ja_cons (je_var 3) (ja_cons (je_var 4) ja_nil)))))) jss_nil)
  (jss_one (js_ret (je_tup (ja_cons (je_ix hr.units (je_lst (ja_cons je_str (ja_cons je_str (ja_cons je_str ja_nil)))) (je_call (ok__law_draw T) (hr.mono (by decide)) T.g__law_draw T.F__law_draw.kp T.b__law_draw (ja_cons (je_var 0) (ja_cons je_int ja_nil)))) (ja_cons (je_var 3) ja_nil)))))))

abbrev s__law_premises : Stmt := topS 50
theorem sc__law_premises : FnScope ["_law_pool_here", "_law_some", "_law_most", "_law_found", "_law_turn"] ["_law_pool_here", "_law_some", "_law_most"] (defScope s__law_premises) := ⟨rfl, rfl, rfl, by decide +kernel, rfl, by decide +kernel, by decide +kernel⟩
def l1__law_premises : MS := sAsg 3 (mOp dAdd (mVar 3) (mTup (mCons (mCall 2 m__law_premise (mCons (mVar 0) (mCons (mVar 1) (mNil)))) (mNil))))
def b__law_premises : MS := sSeq (sAsg 3 (mTup (mNil)))
  (sSeq (sFor false (mRng1 (mCons (mCall 2 m__law_draw (mCons (mVar 0) (mCons (mOp dAdd (mVar 2) (mC (.int 1))) (mNil)))) (mNil))) (gsN 4) l1__law_premises)
  (sRet false (mOp dAdd (mVar 3) (mSl (mVar 3) (oNone) (oSome (mCB dIntA (mCons (mAndV (mOp dEq (mCall 2 m__law_draw (mCons (mVar 0) (mCons (mC (.int 5)) (mNil)))) (mC (.int 0))) (mOp dLt (mCB dLen (mCons (mVar 3) (mNil))) (mC (.int 10)))) (mNil))))))))
def m__law_premises : MF := runF 5 3 b__law_premises
theorem ok__law_premises {P : Program} {w : World} {K : PySem.W.Frag} {mg : Str → Option Value} {base : Heap} (T : Fs K mg) : FnOk P w K mg base CX0 4 T.a__law_premises T.f__law_premises ["_law_pool_here", "_law_some", "_law_most"] (spM K 3 m__law_premises) :=
  fn_ok (N := ["_law_pool_here", "_law_some", "_law_most", "_law_found", "_law_turn"]) (ps := ["_law_pool_here", "_law_some", "_law_most"]) (m := b__law_premises) T.F__law_premises sc__law_premises (by decide) fun cdv A outer s H E hr =>
  (jss_cons (js_asg (je_tup ja_nil) sc__law_premises.nd)
  (jss_cons (js_for PassesOwn.never rfl (ji_rng1 (ja_cons (je_call (ok__law_draw T) (hr.mono (by decide)) T.g__law_draw T.F__law_draw.kp T.b__law_draw (ja_cons (je_var 0) (ja_cons (je_op op_addD od_add (je_var 2) je_int) ja_nil))) ja_nil) T.n_range) (pg_name (i := 4) sc__law_premises.nd rfl (.inl rfl)) (tgs_name 4) (id (α := JSs _ _ _ l1__law_premises) (jss_one (js_asg (je_op op_addD od_add (je_var 3) (je_tup (ja_cons (je_call (ok__law_premise T) (hr.mono (by decide)) T.g__law_premise T.F__law_premise.kp T.b__law_premise (ja_cons (je_var 0) (ja_cons (je_var 1) ja_nil))) ja_nil))) sc__law_premises.nd))))
  (jss_one (js_ret (je_op op_addD od_add (je_var 3) (je_sl (je_var 3) jo_none (jo_some (je_callTy call_intA cd_intA T.n_int bt_int (ja_cons (je_and (je_cmp (op_eqX hr.units) od_eq (je_call (ok__law_draw T) (hr.mono (by decide)) T.g__law_draw T.F__law_draw.kp T.b__law_draw (ja_cons (je_var 0) (ja_cons je_int ja_nil))) je_int (by rfl)) (je_one (je_cmp op_ltD od_lt (je_callB call_lenA cd_len T.n_len bt_len (ja_cons (je_var 3) ja_nil)) je_int (by rfl)))) ja_nil)))))))))

abbrev s__law_under : Stmt := topS 43
theorem sc__law_under : FnScope ["_law_k", "_law_p"] ["_law_k", "_law_p"] (defScope s__law_under) := ⟨rfl, rfl, rfl, by decide +kernel, rfl, by decide +kernel, by decide +kernel⟩
def b__law_under : MS := sRet false (mOrV (mOp dEq (mVar 0) (mVar 1)) (mOp dEq (mSl (mVar 0) (oNone) (oSome (mOp dAdd (mCB dLen (mCons (mVar 1) (mNil))) (mC (.int 1))))) (mOp dAdd (mVar 1) (mC (.str "/")))))
def m__law_under : MF := runF 2 2 b__law_under
theorem ok__law_under {P : Program} {w : World} {K : PySem.W.Frag} {mg : Str → Option Value} {base : Heap} (T : Fs K mg) : FnOk P w K mg base CX0 1 T.a__law_under T.f__law_under ["_law_k", "_law_p"] (spM K 2 m__law_under) :=
  fn_ok (N := ["_law_k", "_law_p"]) (ps := ["_law_k", "_law_p"]) (m := b__law_under) T.F__law_under sc__law_under (by decide) fun cdv A outer s H E hr =>
  (jss_one (js_ret (je_or (je_cmp (op_eqX hr.units) od_eq (je_var 0) (je_var 1) (by rfl)) (je_one (je_cmp (op_eqX hr.units) od_eq (je_sl (je_var 0) jo_none (jo_some (je_op op_addD od_add (je_callB call_lenA cd_len T.n_len bt_len (ja_cons (je_var 1) ja_nil)) je_int))) (je_op op_addD od_add (je_var 1) je_str) (by rfl))))))

abbrev s__law_clash : Stmt := topS 51
theorem sc__law_clash : FnScope ["_law_known", "_law_kept_keys", "_law_each", "_law_k"] ["_law_known"] (defScope s__law_clash) := ⟨rfl, rfl, rfl, by decide +kernel, rfl, by decide +kernel, by decide +kernel⟩
def c1__law_clasht : MB := mTst (mOp dEq (mIx (mVar 2) (mC (.int 0))) (mC (.str "always")))
def c1__law_clash : M := mIx (mVar 2) (mC (.int 1))
def c2__law_clasht : MB := tYesM
def c2__law_clash : M := mCall 2 m__law_under (mCons (mVar 3) (mCons (mIx (mVar 2) (mC (.int 1))) (mNil)))
def l3__law_clash : MS := sSeq (sIf (mAnd (mTst (mOp dEq (mIx (mVar 2) (mC (.int 0))) (mC (.str "never")))) (mTru (mCB dAny (mCons (mOfF (mLc [3] (mItems (mVar 1)) (gN 3) c2__law_clasht c2__law_clash)) (mNil))))) (sRet false (mC (.bl true))) (sNext))
  (sIf (mAnd (mTst (mOp dEq (mIx (mVar 2) (mC (.int 0))) (mC (.str "not both")))) (mAnd (mTst (mOp dIn (mIx (mVar 2) (mC (.int 1))) (mVar 1))) (mTst (mOp dIn (mIx (mVar 2) (mC (.int 2))) (mVar 1))))) (sRet false (mC (.bl true))) (sNext))
def b__law_clash : MS := sSeq (sAsg 1 (mOfF (mLc [2] (mItems (mVar 0)) (gN 2) c1__law_clasht c1__law_clash)))
  (sSeq (sFor false (mItems (mVar 0)) (gsN 2) l3__law_clash)
  (sRet false (mC (.bl false))))
def m__law_clash : MF := runF 4 1 b__law_clash
theorem ok__law_clash {P : Program} {w : World} {K : PySem.W.Frag} {mg : Str → Option Value} {base : Heap} (T : Fs K mg) : FnOk P w K mg base CX0 2 T.a__law_clash T.f__law_clash ["_law_known"] (spM K 1 m__law_clash) :=
  fn_ok (N := ["_law_known", "_law_kept_keys", "_law_each", "_law_k"]) (ps := ["_law_known"]) (m := b__law_clash) T.F__law_clash sc__law_clash (by decide) fun cdv A outer s H E hr =>
  (jss_cons (js_setLc (mt := c1__law_clasht) (me := c1__law_clash) ["_law_known", "_law_kept_keys", "_law_each", "_law_k"] (defScope s__law_clash) [("_law_each", 2)] rfl sc__law_clash.nd (ji_e (je_var 0)) (blkOk_by (by decide +kernel)) (fun _ _ _ _ _ => (pg_name (i := 2) sc__law_clash.nd rfl (.inl rfl))) (tg_name 2) (by decide) (fun _ _ _ _ _ => (jts_one (jt_cmp (op_eqX hr.units) od_eq (je_ix hr.units (je_var 2) je_int) je_str (by rfl)))) (fun _ _ _ _ _ => (je_ix hr.units (je_var 2) je_int)))
  (jss_cons (js_for PassesOwn.never rfl (ji_e (je_var 0)) (pg_name (i := 2) sc__law_clash.nd rfl (.inr rfl)) (tgs_name 2) (id (α := JSs _ _ _ l3__law_clash) (jss_cons (js_if (JW.jt (jw_and (jt_cmp (op_eqX hr.units) od_eq (je_ix hr.units (je_var 2) je_int) je_str (by rfl)) (jw_and1 (jt_tru (je_callB (cr_any rfl) cd_any T.n_any bt_any (ja_cons (JF.je (jf_lcN (mt := c2__law_clasht) (me := c2__law_clash) ["_law_known", "_law_kept_keys", "_law_each", "_law_k"] (defScope s__law_clash) [("_law_k", 3)] rfl sc__law_clash.nd (ji_e (je_var 1)) (blkOk_by (by decide +kernel)) (fun _ _ _ _ _ => (pg_name (i := 3) sc__law_clash.nd rfl (.inl rfl))) (tg_name 3) (by decide) (fun _ _ _ _ _ => jts_nil) (fun _ _ _ _ _ => (je_call (ok__law_under T) (hr.mono (by decide)) T.g__law_under T.F__law_under.kp T.b__law_under (ja_cons (je_var 3) (ja_cons (je_ix hr.units (je_var 2) je_int) ja_nil)))))) ja_nil)))))) (jss_one (js_ret je_bl)) jss_nil)
  (jss_one (js_if (JW.jt (jw_and (jt_cmp (op_eqX hr.units) od_eq (je_ix hr.units (je_var 2) je_int) je_str (by rfl)) (jw_and (jt_cmp (op_inX hr.units) od_in (je_ix hr.units (je_var 2) je_int) (je_var 1) (by rfl)) (jw_and1 (jt_cmp (op_inX hr.units) od_in (je_ix hr.units (je_var 2) je_int) (je_var 1) (by rfl)))))) (jss_one (js_ret je_bl)) jss_nil)))))
  (jss_one (js_ret je_bl))))

abbrev s_is_name : Stmt := topS 15
theorem sc_is_name : FnScope ["value", "sign"] ["value"] (defScope s_is_name) := ⟨rfl, rfl, rfl, by decide +kernel, rfl, by decide +kernel, by decide +kernel⟩
def c1_is_namet : MB := tYesM
def c1_is_name : M := mOp dIn (mVar 1) (mC (.str "abcdefghijklmnopqrstuvwxyz"))
def b_is_name : MS := sRet false (mAndV (mIsi "str" (mVar 0)) (mAndV (mChain dLe dLe (mC (.int 1)) (mCB dLen (mCons (mVar 0) (mNil))) (mC (.int 8))) (mCB dAll (mCons (mOfF (mLc [1] (mItems (mVar 0)) (gN 1) c1_is_namet c1_is_name)) (mNil)))))
def m_is_name : MF := runF 2 1 b_is_name
theorem ok_is_name {P : Program} {w : World} {K : PySem.W.Frag} {mg : Str → Option Value} {base : Heap} (T : Fs K mg) : FnOk P w K mg base CX0 1 T.a_is_name T.f_is_name ["value"] (spM K 1 m_is_name) :=
  fn_ok (N := ["value", "sign"]) (ps := ["value"]) (m := b_is_name) T.F_is_name sc_is_name (by decide) fun cdv A outer s H E hr =>
  (jss_one (js_ret (je_and (je_isi (je_var 0) T.n_isinstance T.n_str bt_str) (je_and (je_chain op_leD od_le op_leD od_le je_int (je_callB call_lenA cd_len T.n_len bt_len (ja_cons (je_var 0) ja_nil)) (je_gint T.c_LONGEST)) (je_one (je_callB (cr_all rfl) cd_all T.n_all bt_all (ja_cons (JF.je (jf_lcN (mt := c1_is_namet) (me := c1_is_name) ["value", "sign"] (defScope s_is_name) [("sign", 1)] rfl sc_is_name.nd (ji_e (je_var 0)) (blkOk_by (by decide +kernel)) (fun _ _ _ _ _ => (pg_name (i := 1) sc_is_name.nd rfl (.inl rfl))) (tg_name 1) (by decide) (fun _ _ _ _ _ => jts_nil) (fun _ _ _ _ _ => (je_cmp (op_inX hr.units) od_in (je_var 1) (je_gstr T.c_LETTERS) (by rfl))))) ja_nil)))))))

abbrev s_names_in : Stmt := topS 16
theorem sc_names_in : FnScope ["key"] ["key"] (defScope s_names_in) := ⟨rfl, rfl, rfl, by decide +kernel, rfl, by decide +kernel, by decide +kernel⟩
def b_names_in : MS := sRet false (mCB dTuple (mCons (mMt dSplit (mVar 0) (mCons (mC (.str "/")) (mNil))) (mNil)))
def m_names_in : MF := runF 1 1 b_names_in
theorem ok_names_in {P : Program} {w : World} {K : PySem.W.Frag} {mg : Str → Option Value} {base : Heap} (T : Fs K mg) : FnOk P w K mg base CX0 1 T.a_names_in T.f_names_in ["key"] (spM K 1 m_names_in) :=
  fn_ok (N := ["key"]) (ps := ["key"]) (m := b_names_in) T.F_names_in sc_names_in (by decide) fun cdv A outer s H E hr =>
  (jss_one (js_ret (je_callTy call_tuple_of cd_tuple T.n_tuple bt_tuple (ja_cons (je_split (je_var 0) (ja_cons (je_gstr T.c_SLASH) ja_nil)) ja_nil))))

abbrev s_is_key : Stmt := topS 17
theorem sc_is_key : FnScope ["value", "part"] ["value"] (defScope s_is_key) := ⟨rfl, rfl, rfl, by decide +kernel, rfl, by decide +kernel, by decide +kernel⟩
def c1_is_keyt : MB := tYesM
def c1_is_key : M := mCall 1 m_is_name (mCons (mVar 1) (mNil))
def b_is_key : MS := sRet false (mAndV (mIsi "str" (mVar 0)) (mCB dAll (mCons (mOfF (mLc [1] (mItems (mCall 1 m_names_in (mCons (mVar 0) (mNil)))) (gN 1) c1_is_keyt c1_is_key)) (mNil))))
def m_is_key : MF := runF 2 1 b_is_key
theorem ok_is_key {P : Program} {w : World} {K : PySem.W.Frag} {mg : Str → Option Value} {base : Heap} (T : Fs K mg) : FnOk P w K mg base CX0 2 T.a_is_key T.f_is_key ["value"] (spM K 1 m_is_key) :=
  fn_ok (N := ["value", "part"]) (ps := ["value"]) (m := b_is_key) T.F_is_key sc_is_key (by decide) fun cdv A outer s H E hr =>
  (jss_one (js_ret (je_and (je_isi (je_var 0) T.n_isinstance T.n_str bt_str) (je_one (je_callB (cr_all rfl) cd_all T.n_all bt_all (ja_cons (JF.je (jf_lcN (mt := c1_is_keyt) (me := c1_is_key) ["value", "part"] (defScope s_is_key) [("part", 1)] rfl sc_is_key.nd (ji_e (je_call (ok_names_in T) (hr.mono (by decide)) T.g_names_in T.F_names_in.kp T.b_names_in (ja_cons (je_var 0) ja_nil))) (blkOk_by (by decide +kernel)) (fun _ _ _ _ _ => (pg_name (i := 1) sc_is_key.nd rfl (.inl rfl))) (tg_name 1) (by decide) (fun _ _ _ _ _ => jts_nil) (fun _ _ _ _ _ => (je_call (ok_is_name T) (hr.mono (by decide)) T.g_is_name T.F_is_name.kp T.b_is_name (ja_cons (je_var 1) ja_nil))))) ja_nil))))))

abbrev s_is_path : Stmt := topS 18
theorem sc_is_path : FnScope ["value"] ["value"] (defScope s_is_path) := ⟨rfl, rfl, rfl, by decide +kernel, rfl, by decide +kernel, by decide +kernel⟩
def b_is_path : MS := sRet false (mAndV (mCall 1 m_is_key (mCons (mVar 0) (mNil))) (mOp dLe (mCB dLen (mCons (mCall 1 m_names_in (mCons (mVar 0) (mNil))) (mNil))) (mC (.int 3))))
def m_is_path : MF := runF 1 1 b_is_path
theorem ok_is_path {P : Program} {w : World} {K : PySem.W.Frag} {mg : Str → Option Value} {base : Heap} (T : Fs K mg) : FnOk P w K mg base CX0 3 T.a_is_path T.f_is_path ["value"] (spM K 1 m_is_path) :=
  fn_ok (N := ["value"]) (ps := ["value"]) (m := b_is_path) T.F_is_path sc_is_path (by decide) fun cdv A outer s H E hr =>
  (jss_one (js_ret (je_and (je_call (ok_is_key T) (hr.mono (by decide)) T.g_is_key T.F_is_key.kp T.b_is_key (ja_cons (je_var 0) ja_nil)) (je_one (je_cmp op_leD od_le (je_callB call_lenA cd_len T.n_len bt_len (ja_cons (je_call (ok_names_in T) (hr.mono (by decide)) T.g_names_in T.F_names_in.kp T.b_names_in (ja_cons (je_var 0) ja_nil)) ja_nil)) (je_gint T.c_MAX_PATH) (by rfl))))))

abbrev s_is_premise : Stmt := topS 31
theorem sc_is_premise : FnScope ["value", "word", "paths", "path"] ["value"] (defScope s_is_premise) := ⟨rfl, rfl, rfl, by decide +kernel, rfl, by decide +kernel, by decide +kernel⟩
def c1_is_premiset : MB := tYesM
def c1_is_premise : M := mCall 1 m_is_path (mCons (mVar 3) (mNil))
def b_is_premise : MS := sSeq (sIf (mOr (mNot (mTru (mIsi "tuple" (mVar 0)))) (mOr (mTst (mOp dEq (mVar 0) (mTup (mNil)))) (mNot (mTru (mIsi "str" (mIx (mVar 0) (mC (.int 0)))))))) (sRet false (mC (.bl false))) (sNext))
  (sSeq (sAsgG (mVar 0) (gsStar 2 1 (gssC (gsN 1) (gssC (gsN 2) (gss0)))))
  (sSeq (sIf (mNot (mTru (mCB dAll (mCons (mOfF (mLc [3] (mItems (mVar 2)) (gN 3) c1_is_premiset c1_is_premise)) (mNil))))) (sRet false (mC (.bl false))) (sNext))
  (sSeq (sIf (mTst (mOp dIn (mVar 1) (mTup (mCons (mC (.str "never")) (mCons (mC (.str "always")) (mNil)))))) (sRet false (mOp dEq (mCB dLen (mCons (mVar 2) (mNil))) (mC (.int 1)))) (sNext))
  (sRet false (mAndV (mOp dEq (mVar 1) (mC (.str "not both"))) (mAndV (mOp dEq (mCB dLen (mCons (mVar 2) (mNil))) (mC (.int 2))) (mOp dNe (mIx (mVar 2) (mC (.int 0))) (mIx (mVar 2) (mC (.int 1))))))))))
def m_is_premise : MF := runF 4 1 b_is_premise
theorem ok_is_premise {P : Program} {w : World} {K : PySem.W.Frag} {mg : Str → Option Value} {base : Heap} (T : Fs K mg) : FnOk P w K mg base CX0 4 T.a_is_premise T.f_is_premise ["value"] (spM K 1 m_is_premise) :=
  fn_ok (N := ["value", "word", "paths", "path"]) (ps := ["value"]) (m := b_is_premise) T.F_is_premise sc_is_premise (by decide) fun cdv A outer s H E hr =>
  (jss_cons (js_if (JW.jt (jw_or (jt_not (jt_tru (je_isi (je_var 0) T.n_isinstance T.n_tuple bt_tuple))) (jw_or (jt_cmp (op_eqX hr.units) od_eq (je_var 0) (je_tup ja_nil) (by rfl)) (jw_or1 (jt_not (jt_tru (je_isi (je_ix hr.units (je_var 0) je_int) T.n_isinstance T.n_str bt_str))))))) (jss_one (js_ret je_bl)) jss_nil)
  (jss_cons (js_asgG (je_var 0) (pg_star rfl (pgs_cons (pg_name (i := 1) sc_is_premise.nd rfl (.inl rfl)) (pgs_cons (pg_name (i := 2) sc_is_premise.nd rfl (.inl rfl)) pgs_nil)) (by decide) rfl) (tgs_star (tgss_cons (tgs_name 1) (tgss_cons (tgs_name 2) tgss_nil))))
  (jss_cons (js_if (jt_not (jt_tru (je_callB (cr_all rfl) cd_all T.n_all bt_all (ja_cons (JF.je (jf_lcN (mt := c1_is_premiset) (me := c1_is_premise) ["value", "word", "paths", "path"] (defScope s_is_premise) [("path", 3)] rfl sc_is_premise.nd (ji_e (je_var 2)) (blkOk_by (by decide +kernel)) (fun _ _ _ _ _ => (pg_name (i := 3) sc_is_premise.nd rfl (.inl rfl))) (tg_name 3) (by decide) (fun _ _ _ _ _ => jts_nil) (fun _ _ _ _ _ => (je_call (ok_is_path T) (hr.mono (by decide)) T.g_is_path T.F_is_path.kp T.b_is_path (ja_cons (je_var 3) ja_nil))))) ja_nil)))) (jss_one (js_ret je_bl)) jss_nil)
  (jss_cons (js_if (jt_cmp (op_inX hr.units) od_in (je_var 1) (je_tup (ja_cons je_str (ja_cons je_str ja_nil))) (by rfl)) (jss_one (js_ret (je_cmp (op_eqX hr.units) od_eq (je_callB call_lenA cd_len T.n_len bt_len (ja_cons (je_var 2) ja_nil)) je_int (by rfl)))) jss_nil)
  (jss_one (js_ret (je_and (je_cmp (op_eqX hr.units) od_eq (je_var 1) je_str (by rfl)) (je_and (je_cmp (op_eqX hr.units) od_eq (je_callB call_lenA cd_len T.n_len bt_len (ja_cons (je_var 2) ja_nil)) je_int (by rfl)) (je_one (je_cmp (op_neX hr.units) od_ne (je_ix hr.units (je_var 2) je_int) (je_ix hr.units (je_var 2) je_int) (by rfl)))))))))))

abbrev s_check_form : Stmt := topS 32
theorem sc_check_form : FnScope ["premises", "index", "premise"] ["premises"] (defScope s_check_form) := ⟨rfl, rfl, rfl, by decide +kernel, rfl, by decide +kernel, by decide +kernel⟩
def l1_check_form : MS := sIf (mNot (mTru (mCall 1 m_is_premise (mCons (mVar 2) (mNil))))) (sNev) (sNext)
def b_check_form : MS := sSeq (sIf (mOr (mNot (mTru (mIsi "tuple" (mVar 0)))) (mTst (mOp dGt (mCB dLen (mCons (mVar 0) (mNil))) (mC (.int 10))))) (sNev) (sNext))
  (sFor false (mEnumA (mCons (mVar 0) (mNil))) (gsT 2 (gssC (gsN 1) (gssC (gsN 2) (gss0)))) l1_check_form)
def m_check_form : MF := runF 3 1 b_check_form
theorem ok_check_form {P : Program} {w : World} {K : PySem.W.Frag} {mg : Str → Option Value} {base : Heap} (T : Fs K mg) : FnOk P w K mg base CX0 5 T.a_check_form T.f_check_form ["premises"] (spM K 1 m_check_form) :=
  fn_ok (N := ["premises", "index", "premise"]) (ps := ["premises"]) (m := b_check_form) T.F_check_form sc_check_form (by decide) fun cdv A outer s H E hr =>
  (jss_cons (js_if (JW.jt (jw_or (jt_not (jt_tru (je_isi (je_var 0) T.n_isinstance T.n_tuple bt_tuple))) (jw_or1 (jt_cmp op_gtD od_gt (je_callB call_lenA cd_len T.n_len bt_len (ja_cons (je_var 0) ja_nil)) (je_gint T.c_MAX_PREMISES) (by rfl))))) (jss_one js_nev) jss_nil)
  (jss_one (js_for PassesOwn.never rfl (ji_enumA (ja_cons (je_var 0) ja_nil) T.n_enumerate) (pg_tup rfl (pgs_cons (pg_name (i := 1) sc_check_form.nd rfl (.inl rfl)) (pgs_cons (pg_name (i := 2) sc_check_form.nd rfl (.inl rfl)) pgs_nil))) (tgs_tup (tgss_cons (tgs_name 1) (tgss_cons (tgs_name 2) tgss_nil))) (id (α := JSs _ _ _ l1_check_form) (jss_one (js_if (jt_not (jt_tru (je_call (ok_is_premise T) (hr.mono (by decide)) T.g_is_premise T.F_is_premise.kp T.b_is_premise (ja_cons (je_var 2) ja_nil)))) (jss_one js_nev) jss_nil))))))

abbrev s_nevers_in : Stmt := topS 33
theorem sc_nevers_in : FnScope ["premises", "premise"] ["premises"] (defScope s_nevers_in) := ⟨rfl, rfl, rfl, by decide +kernel, rfl, by decide +kernel, by decide +kernel⟩
def c1_nevers_int : MB := mTst (mOp dEq (mIx (mVar 1) (mC (.int 0))) (mC (.str "never")))
def c1_nevers_in : M := mIx (mVar 1) (mC (.int 1))
def b_nevers_in : MS := sRet false (mOfF (mLc [1] (mItems (mVar 0)) (gN 1) c1_nevers_int c1_nevers_in))
def m_nevers_in : MF := runF 2 1 b_nevers_in
theorem ok_nevers_in {P : Program} {w : World} {K : PySem.W.Frag} {mg : Str → Option Value} {base : Heap} (T : Fs K mg) : FnOk P w K mg base CX0 1 T.a_nevers_in T.f_nevers_in ["premises"] (spM K 1 m_nevers_in) :=
  fn_ok (N := ["premises", "premise"]) (ps := ["premises"]) (m := b_nevers_in) T.F_nevers_in sc_nevers_in (by decide) fun cdv A outer s H E hr =>
  (jss_one (js_ret (JF.je (jf_lcN (mt := c1_nevers_int) (me := c1_nevers_in) ["premises", "premise"] (defScope s_nevers_in) [("premise", 1)] rfl sc_nevers_in.nd (ji_e (je_var 0)) (blkOk_by (by decide +kernel)) (fun _ _ _ _ _ => (pg_name (i := 1) sc_nevers_in.nd rfl (.inl rfl))) (tg_name 1) (by decide) (fun _ _ _ _ _ => (jts_one (jt_cmp (op_eqX hr.units) od_eq (je_ix hr.units (je_var 1) je_int) je_str (by rfl)))) (fun _ _ _ _ _ => (je_ix hr.units (je_var 1) je_int))))))

abbrev s_lies_under : Stmt := topS 19
theorem sc_lies_under : FnScope ["key", "path"] ["key", "path"] (defScope s_lies_under) := ⟨rfl, rfl, rfl, by decide +kernel, rfl, by decide +kernel, by decide +kernel⟩
def b_lies_under : MS := sRet false (mOrV (mOp dEq (mVar 0) (mVar 1)) (mMt dStarts (mVar 0) (mCons (mOp dAdd (mVar 1) (mC (.str "/"))) (mNil))))
def m_lies_under : MF := runF 2 2 b_lies_under
theorem ok_lies_under {P : Program} {w : World} {K : PySem.W.Frag} {mg : Str → Option Value} {base : Heap} (T : Fs K mg) : FnOk P w K mg base CX0 1 T.a_lies_under T.f_lies_under ["key", "path"] (spM K 2 m_lies_under) :=
  fn_ok (N := ["key", "path"]) (ps := ["key", "path"]) (m := b_lies_under) T.F_lies_under sc_lies_under (by decide) fun cdv A outer s H E hr =>
  (jss_one (js_ret (je_or (je_cmp (op_eqX hr.units) od_eq (je_var 0) (je_var 1) (by rfl)) (je_one (je_starts (je_var 0) (ja_cons (je_op op_addD od_add (je_var 1) (je_gstr T.c_SLASH)) ja_nil))))))

abbrev s_pairs_in : Stmt := topS 35
theorem sc_pairs_in : FnScope ["premises", "premise"] ["premises"] (defScope s_pairs_in) := ⟨rfl, rfl, rfl, by decide +kernel, rfl, by decide +kernel, by decide +kernel⟩
def c1_pairs_int : MB := mTst (mOp dEq (mIx (mVar 1) (mC (.int 0))) (mC (.str "not both")))
def c1_pairs_in : M := mSl (mVar 1) (oSome (mC (.int 1))) (oNone)
def b_pairs_in : MS := sRet false (mOfF (mLc [1] (mItems (mVar 0)) (gN 1) c1_pairs_int c1_pairs_in))
def m_pairs_in : MF := runF 2 1 b_pairs_in
theorem ok_pairs_in {P : Program} {w : World} {K : PySem.W.Frag} {mg : Str → Option Value} {base : Heap} (T : Fs K mg) : FnOk P w K mg base CX0 1 T.a_pairs_in T.f_pairs_in ["premises"] (spM K 1 m_pairs_in) :=
  fn_ok (N := ["premises", "premise"]) (ps := ["premises"]) (m := b_pairs_in) T.F_pairs_in sc_pairs_in (by decide) fun cdv A outer s H E hr =>
  (jss_one (js_ret (JF.je (jf_lcN (mt := c1_pairs_int) (me := c1_pairs_in) ["premises", "premise"] (defScope s_pairs_in) [("premise", 1)] rfl sc_pairs_in.nd (ji_e (je_var 0)) (blkOk_by (by decide +kernel)) (fun _ _ _ _ _ => (pg_name (i := 1) sc_pairs_in.nd rfl (.inl rfl))) (tg_name 1) (by decide) (fun _ _ _ _ _ => (jts_one (jt_cmp (op_eqX hr.units) od_eq (je_ix hr.units (je_var 1) je_int) je_str (by rfl)))) (fun _ _ _ _ _ => (je_sl (je_var 1) (jo_some je_int) jo_none))))))

abbrev s_fit : Stmt := topS 36
theorem sc_fit : FnScope ["keys", "premises", "path", "key", "one", "other"] ["keys", "premises"] (defScope s_fit) := ⟨rfl, rfl, rfl, by decide +kernel, rfl, by decide +kernel, by decide +kernel⟩
def c1_fitt : MB := tYesM
def c1_fit : M := mCall 2 m_lies_under (mCons (mVar 3) (mCons (mVar 2) (mNil)))
def l2_fit : MS := sIf (mTru (mCB dAny (mCons (mOfF (mLc [3] (mItems (mVar 0)) (gN 3) c1_fitt c1_fit)) (mNil)))) (sRet false (mC (.bl false))) (sNext)
def c3_fitt : MB := tYesM
def c3_fit : M := mAndV (mOp dIn (mVar 4) (mVar 0)) (mOp dIn (mVar 5) (mVar 0))
def b_fit : MS := sSeq (sFor false (mItems (mCall 1 m_nevers_in (mCons (mVar 1) (mNil)))) (gsN 2) l2_fit)
  (sRet false (mNotV (mCB dAny (mCons (mOfF (mLc [4, 5] (mItems (mCall 1 m_pairs_in (mCons (mVar 1) (mNil)))) (gT 2 (gNsC (gN 4) (gNsC (gN 5) (gNs0)))) c3_fitt c3_fit)) (mNil)))))
def m_fit : MF := runF 6 2 b_fit
theorem ok_fit {P : Program} {w : World} {K : PySem.W.Frag} {mg : Str → Option Value} {base : Heap} (T : Fs K mg) : FnOk P w K mg base CX0 2 T.a_fit T.f_fit ["keys", "premises"] (spM K 2 m_fit) :=
  fn_ok (N := ["keys", "premises", "path", "key", "one", "other"]) (ps := ["keys", "premises"]) (m := b_fit) T.F_fit sc_fit (by decide) fun cdv A outer s H E hr =>
  (jss_cons (js_for PassesOwn.never rfl (ji_e (je_call (ok_nevers_in T) (hr.mono (by decide)) T.g_nevers_in T.F_nevers_in.kp T.b_nevers_in (ja_cons (je_var 1) ja_nil))) (pg_name (i := 2) sc_fit.nd rfl (.inr rfl)) (tgs_name 2) (id (α := JSs _ _ _ l2_fit) (jss_one (js_if (jt_tru (je_callB (cr_any rfl) cd_any T.n_any bt_any (ja_cons (JF.je (jf_lcN (mt := c1_fitt) (me := c1_fit) ["keys", "premises", "path", "key", "one", "other"] (defScope s_fit) [("key", 3)] rfl sc_fit.nd (ji_e (je_var 0)) (blkOk_by (by decide +kernel)) (fun _ _ _ _ _ => (pg_name (i := 3) sc_fit.nd rfl (.inl rfl))) (tg_name 3) (by decide) (fun _ _ _ _ _ => jts_nil) (fun _ _ _ _ _ => (je_call (ok_lies_under T) (hr.mono (by decide)) T.g_lies_under T.F_lies_under.kp T.b_lies_under (ja_cons (je_var 3) (ja_cons (je_var 2) ja_nil)))))) ja_nil))) (jss_one (js_ret je_bl)) jss_nil))))
  (jss_one (js_ret (je_not (je_callB (cr_any rfl) cd_any T.n_any bt_any (ja_cons (JF.je (jf_lcN (mt := c3_fitt) (me := c3_fit) ["keys", "premises", "path", "key", "one", "other"] (defScope s_fit) [("one", 4), ("other", 5)] rfl sc_fit.nd (ji_e (je_call (ok_pairs_in T) (hr.mono (by decide)) T.g_pairs_in T.F_pairs_in.kp T.b_pairs_in (ja_cons (je_var 1) ja_nil))) (blkOk_by (by decide +kernel)) (fun _ _ _ _ _ => (pg_tup rfl (pgs_cons (pg_name (i := 4) sc_fit.nd rfl (.inl rfl)) (pgs_cons (pg_name (i := 5) sc_fit.nd rfl (.inl rfl)) pgs_nil)))) (tg_tup (tgs_cons (tg_name 4) (tgs_cons (tg_name 5) tgs_nil))) (by decide) (fun _ _ _ _ _ => jts_nil) (fun _ _ _ _ _ => (je_and (je_cmp (op_inX hr.units) od_in (je_var 4) (je_var 0) (by rfl)) (je_one (je_cmp (op_inX hr.units) od_in (je_var 5) (je_var 0) (by rfl))))))) ja_nil))))))

abbrev s_always_in : Stmt := topS 34
theorem sc_always_in : FnScope ["premises", "found", "premise"] ["premises"] (defScope s_always_in) := ⟨rfl, rfl, rfl, by decide +kernel, rfl, by decide +kernel, by decide +kernel⟩
def c1_always_int : MB := mTst (mOp dEq (mIx (mVar 2) (mC (.int 0))) (mC (.str "always")))
def c1_always_ink : M := mIx (mVar 2) (mC (.int 1))
def c1_always_inv : M := mC (.bl true)
def b_always_in : MS := sSeq (sAsg 1 (mDc [2] (mItems (mVar 0)) (gN 2) c1_always_int c1_always_ink c1_always_inv))
  (sRet false (mCB dSortedP (mCons (mVar 1) (mNil))))
def m_always_in : MF := runF 3 1 b_always_in
theorem ok_always_in {P : Program} {w : World} {K : PySem.W.Frag} {mg : Str → Option Value} {base : Heap} (T : Fs K mg) : FnOk P w K mg base CX0 1 T.a_always_in T.f_always_in ["premises"] (spM K 1 m_always_in) :=
  fn_ok (N := ["premises", "found", "premise"]) (ps := ["premises"]) (m := b_always_in) T.F_always_in sc_always_in (by decide) fun cdv A outer s H E hr =>
  (jss_cons (js_setDc (mt := c1_always_int) (mk := c1_always_ink) (mv := c1_always_inv) ["premises", "found", "premise"] (defScope s_always_in) [("premise", 2)] rfl sc_always_in.nd (ji_e (je_var 0)) (blkOk_by (by decide +kernel)) (fun _ _ _ _ _ => (pg_name (i := 2) sc_always_in.nd rfl (.inl rfl))) (tg_name 2) (by decide) (fun _ _ _ _ _ => (jts_one (jt_cmp (op_eqX hr.units) od_eq (je_ix hr.units (je_var 2) je_int) je_str (by rfl)))) (fun _ _ _ _ _ => (je_ix hr.units (je_var 2) je_int)) (fun _ _ _ _ _ => je_bl))
  (jss_one (js_ret (je_callB (cr_sortA rfl) cd_sortA T.n_sorted bt_sorted (ja_cons (je_var 1) ja_nil)))))

abbrev s_is_contradictory : Stmt := topS 38
theorem sc_is_contradictory : FnScope ["premises"] ["premises"] (defScope s_is_contradictory) := ⟨rfl, rfl, rfl, by decide +kernel, rfl, by decide +kernel, by decide +kernel⟩
def b_is_contradictory : MS := sSeq (sDrop (mCall 1 m_check_form (mCons (mVar 0) (mNil))))
  (sRet false (mNotV (mCall 2 m_fit (mCons (mCall 1 m_always_in (mCons (mVar 0) (mNil))) (mCons (mVar 0) (mNil))))))
def m_is_contradictory : MF := runF 1 1 b_is_contradictory
theorem ok_is_contradictory {P : Program} {w : World} {K : PySem.W.Frag} {mg : Str → Option Value} {base : Heap} (T : Fs K mg) : FnOk P w K mg base CX0 6 T.a_is_contradictory T.f_is_contradictory ["premises"] (spM K 1 m_is_contradictory) :=
  fn_ok (N := ["premises"]) (ps := ["premises"]) (m := b_is_contradictory) T.F_is_contradictory sc_is_contradictory (by decide) fun cdv A outer s H E hr =>
  (jss_cons (js_drop (je_call (ok_check_form T) (hr.mono (by decide)) T.g_check_form T.F_check_form.kp T.b_check_form (ja_cons (je_var 0) ja_nil)))
  (jss_one (js_ret (je_not (je_call (ok_fit T) (hr.mono (by decide)) T.g_fit T.F_fit.kp T.b_fit (ja_cons (je_call (ok_always_in T) (hr.mono (by decide)) T.g_always_in T.F_always_in.kp T.b_always_in (ja_cons (je_var 0) ja_nil)) (ja_cons (je_var 0) ja_nil)))))))

abbrev s_check_record : Stmt := topS 29
theorem sc_check_record : FnScope ["value"] ["value"] (defScope s_check_record) := ⟨rfl, rfl, rfl, by decide +kernel, rfl, by decide +kernel, by decide +kernel⟩
def b_check_record : MS := sIf (mNot (mTru (mIsiC "Record" (mVar 0)))) (sNev) (sNext)
def m_check_record : MF := runF 1 1 b_check_record
theorem ok_check_record {P : Program} {w : World} {K : PySem.W.Frag} {mg : Str → Option Value} {base : Heap} (T : Fs K mg) : FnOk P w K mg base CX0 1 T.a_check_record T.f_check_record ["value"] (spM K 1 m_check_record) :=
  fn_ok (N := ["value"]) (ps := ["value"]) (m := b_check_record) T.F_check_record sc_check_record (by decide) fun cdv A outer s H E hr =>
  (jss_one (js_if (jt_not (jt_tru (je_isiC T.k_Record (je_var 0) T.n_isinstance))) (jss_one js_nev) jss_nil))

abbrev s_Record_entries : Stmt := (clsBody (topS 27)).getD 3 (.Pass ⟨0, 0, 0, 0⟩)
theorem sc_Record_entries : FnScope ["self"] ["self"] (defScope s_Record_entries) := ⟨rfl, rfl, rfl, by decide +kernel, rfl, by decide +kernel, by decide +kernel⟩
def b_Record_entries : MS := sRet false (mCB dTuple (mCons (mSortIt (mSlt "Record" 0 (mVar 0))) (mNil)))
def m_Record_entries : MF := runF 1 1 b_Record_entries
theorem ok_Record_entries {P : Program} {w : World} {K : PySem.W.Frag} {mg : Str → Option Value} {base : Heap} (T : Fs K mg) : FnOk P w K mg base CX0 1 T.a_Record_entries T.f_Record_entries ["self"] (spM K 1 m_Record_entries) :=
  fn_ok (N := ["self"]) (ps := ["self"]) (m := b_Record_entries) T.F_Record_entries sc_Record_entries (by decide) fun cdv A outer s H E hr =>
  (jss_one (js_ret (je_callTy call_tuple_of cd_tuple T.n_tuple bt_tuple (ja_cons (je_sortIt T.n_sorted (je_slt T.k_Record T.sl_Record (je_var 0))) ja_nil))))

abbrev s_meets : Stmt := topS 37
theorem sc_meets : FnScope ["record", "premises", "keys", "key", "value"] ["record", "premises"] (defScope s_meets) := ⟨rfl, rfl, rfl, by decide +kernel, rfl, by decide +kernel, by decide +kernel⟩
def c1_meetst : MB := tYesM
def c1_meets : M := mVar 3
def c2_meetst : MB := tYesM
def c2_meets : M := mOp dIn (mVar 3) (mVar 2)
def b_meets : MS := sSeq (sDrop (mCall 1 m_check_record (mCons (mVar 0) (mNil))))
  (sSeq (sDrop (mCall 1 m_check_form (mCons (mVar 1) (mNil))))
  (sSeq (sAsg 2 (mOfF (mLc [3, 4] (mItems (mProp "Record" m_Record_entries (mVar 0))) (gT 2 (gNsC (gN 3) (gNsC (gN 4) (gNs0)))) c1_meetst c1_meets)))
  (sRet false (mAndV (mCall 2 m_fit (mCons (mVar 2) (mCons (mVar 1) (mNil)))) (mCB dAll (mCons (mOfF (mLc [3] (mItems (mCall 1 m_always_in (mCons (mVar 1) (mNil)))) (gN 3) c2_meetst c2_meets)) (mNil)))))))
def m_meets : MF := runF 5 2 b_meets
theorem ok_meets {P : Program} {w : World} {K : PySem.W.Frag} {mg : Str → Option Value} {base : Heap} (T : Fs K mg) : FnOk P w K mg base CX0 6 T.a_meets T.f_meets ["record", "premises"] (spM K 2 m_meets) :=
  fn_ok (N := ["record", "premises", "keys", "key", "value"]) (ps := ["record", "premises"]) (m := b_meets) T.F_meets sc_meets (by decide) fun cdv A outer s H E hr =>
  (jss_cons (js_drop (je_call (ok_check_record T) (hr.mono (by decide)) T.g_check_record T.F_check_record.kp T.b_check_record (ja_cons (je_var 0) ja_nil)))
  (jss_cons (js_drop (je_call (ok_check_form T) (hr.mono (by decide)) T.g_check_form T.F_check_form.kp T.b_check_form (ja_cons (je_var 1) ja_nil)))
  (jss_cons (js_asg (JF.je (jf_lcN (mt := c1_meetst) (me := c1_meets) ["record", "premises", "keys", "key", "value"] (defScope s_meets) [("key", 3), ("value", 4)] rfl sc_meets.nd (ji_e (je_prop T.k_Record T.p_Record_entries (fnR_of (ok_Record_entries T) T.b_Record_entries) (hr.mono (by decide)) (je_var 0))) (blkOk_by (by decide +kernel)) (fun _ _ _ _ _ => (pg_tup rfl (pgs_cons (pg_name (i := 3) sc_meets.nd rfl (.inl rfl)) (pgs_cons (pg_name (i := 4) sc_meets.nd rfl (.inl rfl)) pgs_nil)))) (tg_tup (tgs_cons (tg_name 3) (tgs_cons (tg_name 4) tgs_nil))) (by decide) (fun _ _ _ _ _ => jts_nil) (fun _ _ _ _ _ => (je_var 3)))) sc_meets.nd)
  (jss_one (js_ret (je_and (je_call (ok_fit T) (hr.mono (by decide)) T.g_fit T.F_fit.kp T.b_fit (ja_cons (je_var 2) (ja_cons (je_var 1) ja_nil))) (je_one (je_callB (cr_all rfl) cd_all T.n_all bt_all (ja_cons (JF.je (jf_lcN (mt := c2_meetst) (me := c2_meets) ["record", "premises", "keys", "key", "value"] (defScope s_meets) [("key", 3)] rfl sc_meets.nd (ji_e (je_call (ok_always_in T) (hr.mono (by decide)) T.g_always_in T.F_always_in.kp T.b_always_in (ja_cons (je_var 1) ja_nil))) (blkOk_by (by decide +kernel)) (fun _ _ _ _ _ => (pg_name (i := 3) sc_meets.nd rfl (.inl rfl))) (tg_name 3) (by decide) (fun _ _ _ _ _ => jts_nil) (fun _ _ _ _ _ => (je_cmp (op_inX hr.units) od_in (je_var 3) (je_var 2) (by rfl))))) ja_nil)))))))))

abbrev s_is_integer : Stmt := topS 23
theorem sc_is_integer : FnScope ["value"] ["value"] (defScope s_is_integer) := ⟨rfl, rfl, rfl, by decide +kernel, rfl, by decide +kernel, by decide +kernel⟩
def b_is_integer : MS := sRet false (mAndV (mIsi "int" (mVar 0)) (mNotV (mIsi "bool" (mVar 0))))
def m_is_integer : MF := runF 1 1 b_is_integer
theorem ok_is_integer {P : Program} {w : World} {K : PySem.W.Frag} {mg : Str → Option Value} {base : Heap} (T : Fs K mg) : FnOk P w K mg base CX0 1 T.a_is_integer T.f_is_integer ["value"] (spM K 1 m_is_integer) :=
  fn_ok (N := ["value"]) (ps := ["value"]) (m := b_is_integer) T.F_is_integer sc_is_integer (by decide) fun cdv A outer s H E hr =>
  (jss_one (js_ret (je_and (je_isi (je_var 0) T.n_isinstance T.n_int bt_int) (je_one (je_not (je_isi (je_var 0) T.n_isinstance T.n_bool bt_bool))))))

abbrev s_is_entry : Stmt := topS 25
theorem sc_is_entry : FnScope ["value"] ["value"] (defScope s_is_entry) := ⟨rfl, rfl, rfl, by decide +kernel, rfl, by decide +kernel, by decide +kernel⟩
def b_is_entry : MS := sRet false (mAndV (mIsi "tuple" (mVar 0)) (mAndV (mOp dEq (mCB dLen (mCons (mVar 0) (mNil))) (mC (.int 2))) (mAndV (mCall 1 m_is_key (mCons (mIx (mVar 0) (mC (.int 0))) (mNil))) (mCall 1 m_is_integer (mCons (mIx (mVar 0) (mC (.int 1))) (mNil))))))
def m_is_entry : MF := runF 1 1 b_is_entry
theorem ok_is_entry {P : Program} {w : World} {K : PySem.W.Frag} {mg : Str → Option Value} {base : Heap} (T : Fs K mg) : FnOk P w K mg base CX0 3 T.a_is_entry T.f_is_entry ["value"] (spM K 1 m_is_entry) :=
  fn_ok (N := ["value"]) (ps := ["value"]) (m := b_is_entry) T.F_is_entry sc_is_entry (by decide) fun cdv A outer s H E hr =>
  (jss_one (js_ret (je_and (je_isi (je_var 0) T.n_isinstance T.n_tuple bt_tuple) (je_and (je_cmp (op_eqX hr.units) od_eq (je_callB call_lenA cd_len T.n_len bt_len (ja_cons (je_var 0) ja_nil)) je_int (by rfl)) (je_and (je_call (ok_is_key T) (hr.mono (by decide)) T.g_is_key T.F_is_key.kp T.b_is_key (ja_cons (je_ix hr.units (je_var 0) je_int) ja_nil)) (je_one (je_call (ok_is_integer T) (hr.mono (by decide)) T.g_is_integer T.F_is_integer.kp T.b_is_integer (ja_cons (je_ix hr.units (je_var 0) je_int) ja_nil))))))))

abbrev s_Record___init__ : Stmt := (clsBody (topS 27)).getD 1 (.Pass ⟨0, 0, 0, 0⟩)
theorem sc_Record___init__ : FnScope ["self", "entries", "found", "index", "entry"] ["self", "entries"] (defScope s_Record___init__) := ⟨rfl, rfl, rfl, by decide +kernel, rfl, by decide +kernel, by decide +kernel⟩
def l1_Record___init__ : MS := sSeq (sIf (mOr (mNot (mTru (mCall 1 m_is_entry (mCons (mVar 4) (mNil))))) (mTst (mOp dIn (mIx (mVar 4) (mC (.int 0))) (mVar 2)))) (sNev) (sNext))
  (sPutK 2 (mIx (mVar 4) (mC (.int 0))) (mIx (mVar 4) (mC (.int 1))))
def b_Record___init__ : MSi := iSeq (sNewK 2)
  (iSeq (sFor false (mEnumA (mCons (mVar 1) (mNil))) (gsT 2 (gssC (gsN 3) (gssC (gsN 4) (gss0)))) l1_Record___init__)
  (iSet (mVar 2)))
theorem ok_Record___init__ {P : Program} {w : World} {K : PySem.W.Frag} {mg : Str → Option Value} {base : Heap} (T : Fs K mg) : FnR P w K mg base CX0 4 T.a_Record___init__ (spIs K "Record" 0 (runI 5 2 b_Record___init__)) :=
  fn_initS (N := ["self", "entries", "found", "index", "entry"]) (m := b_Record___init__) T.F_Record___init__ sc_Record___init__ (by decide) (fun _ _ _ _ _ _ us rest hl => match us, rest, hl with | [_], [], _ => rfl | [_], _ :: _, _ => rfl) fun cdv A outer s H E hr =>
  (ji_cons (js_newK sc_Record___init__.nd)
  (ji_cons (js_for PassesOwn.never rfl (ji_enumA (ja_cons (je_var 1) ja_nil) T.n_enumerate) (pg_tup rfl (pgs_cons (pg_name (i := 3) sc_Record___init__.nd rfl (.inl rfl)) (pgs_cons (pg_name (i := 4) sc_Record___init__.nd rfl (.inl rfl)) pgs_nil))) (tgs_tup (tgss_cons (tgs_name 3) (tgss_cons (tgs_name 4) tgss_nil))) (id (α := JSs _ _ _ l1_Record___init__) (jss_cons (js_if (JW.jt (jw_or (jt_not (jt_tru (je_call (ok_is_entry T) (hr.mono (by decide)) T.g_is_entry T.F_is_entry.kp T.b_is_entry (ja_cons (je_var 4) ja_nil)))) (jw_or1 (jt_cmp (op_inX hr.units) od_in (je_ix hr.units (je_var 4) je_int) (je_var 2) (by rfl))))) (jss_one js_nev) jss_nil)
  (jss_one (js_putK hr.units (je_ix hr.units (je_var 4) je_int) (je_ix hr.units (je_var 4) je_int))))))
  (ji_set T.sl_Record (je_var 2))))

abbrev s_record_of : Stmt := topS 28
theorem sc_record_of : FnScope ["pairs", "record"] ["pairs"] (defScope s_record_of) := ⟨rfl, rfl, rfl, by decide +kernel, rfl, by decide +kernel, by decide +kernel⟩
def b_record_of : MS := sMakeSet "Record" 1 (unStar 0 (runI 5 2 b_Record___init__)) (mVar 0)
def m_record_of : MF := runF 2 1 b_record_of
theorem ok_record_of {P : Program} {w : World} {K : PySem.W.Frag} {mg : Str → Option Value} {base : Heap} (T : Fs K mg) : FnOk P w K mg base CX0 6 T.a_record_of T.f_record_of ["pairs"] (spM K 1 m_record_of) :=
  fn_ok (N := ["pairs", "record"]) (ps := ["pairs"]) (m := b_record_of) T.F_record_of sc_record_of (by decide) fun cdv A outer s H E hr =>
  (jss_makeSet T.mk_Record (ok_Record___init__ T) (hr.mono (by decide)) T.k_Record.ns T.k_Record.mg T.sl_Record (je_var 0) sc_record_of.nd)

abbrev s_read_integer : Stmt := topS 24
theorem sc_read_integer : FnScope ["word", "digits", "sign"] ["word"] (defScope s_read_integer) := ⟨rfl, rfl, rfl, by decide +kernel, rfl, by decide +kernel, by decide +kernel⟩
def c1_read_integert : MB := tYesM
def c1_read_integer : M := mOp dIn (mVar 2) (mC (.str "0123456789"))
def b_read_integer : MS := sSeq (sAsg 1 (mMt dRemovePre (mVar 0) (mCons (mC (.str "-")) (mNil))))
  (sSeq (sIf (mOr (mTst (mOp dEq (mVar 1) (mC (.str "")))) (mOr (mNot (mTru (mCB dAll (mCons (mOfF (mLc [2] (mItems (mVar 1)) (gN 2) c1_read_integert c1_read_integer)) (mNil))))) (mTst (mOp dEq (mVar 0) (mC (.str "-0")))))) (sRet false (mC .non)) (sNext))
  (sRet false (mIf (mOr (mTst (mOp dNe (mIx (mVar 1) (mC (.int 0))) (mC (.str "0")))) (mTst (mOp dEq (mVar 1) (mC (.str "0"))))) (mCB dIntA (mCons (mVar 0) (mNil))) (mC .non))))
def m_read_integer : MF := runF 3 1 b_read_integer
theorem ok_read_integer {P : Program} {w : World} {K : PySem.W.Frag} {mg : Str → Option Value} {base : Heap} (T : Fs K mg) : FnOk P w K mg base CX0 1 T.a_read_integer T.f_read_integer ["word"] (spM K 1 m_read_integer) :=
  fn_ok (N := ["word", "digits", "sign"]) (ps := ["word"]) (m := b_read_integer) T.F_read_integer sc_read_integer (by decide) fun cdv A outer s H E hr =>
  (jss_cons (js_asg (je_removePre (je_var 0) (ja_cons je_str ja_nil)) sc_read_integer.nd)
  (jss_cons (js_if (JW.jt (jw_or (jt_cmp (op_eqX hr.units) od_eq (je_var 1) je_str (by rfl)) (jw_or (jt_not (jt_tru (je_callB (cr_all rfl) cd_all T.n_all bt_all (ja_cons (JF.je (jf_lcN (mt := c1_read_integert) (me := c1_read_integer) ["word", "digits", "sign"] (defScope s_read_integer) [("sign", 2)] rfl sc_read_integer.nd (ji_e (je_var 1)) (blkOk_by (by decide +kernel)) (fun _ _ _ _ _ => (pg_name (i := 2) sc_read_integer.nd rfl (.inl rfl))) (tg_name 2) (by decide) (fun _ _ _ _ _ => jts_nil) (fun _ _ _ _ _ => (je_cmp (op_inX hr.units) od_in (je_var 2) (je_gstr T.c_DIGITS) (by rfl))))) ja_nil)))) (jw_or1 (jt_cmp (op_eqX hr.units) od_eq (je_var 0) je_str (by rfl)))))) (jss_one (js_ret je_non)) jss_nil)
  (jss_one (js_ret (je_if (JW.jt (jw_or (jt_cmp (op_neX hr.units) od_ne (je_ix hr.units (je_var 1) je_int) je_str (by rfl)) (jw_or1 (jt_cmp (op_eqX hr.units) od_eq (je_var 1) je_str (by rfl))))) (je_callTy call_intA cd_intA T.n_int bt_int (ja_cons (je_var 0) ja_nil)) je_non)))))

abbrev s_read_entry : Stmt := topS 26
theorem sc_read_entry : FnScope ["word", "key", "sign", "digits", "value"] ["word"] (defScope s_read_entry) := ⟨rfl, rfl, rfl, by decide +kernel, rfl, by decide +kernel, by decide +kernel⟩
def b_read_entry : MS := sSeq (sAsgG (mMt dPart (mVar 0) (mCons (mC (.str "=")) (mNil))) (gsT 3 (gssC (gsN 1) (gssC (gsN 2) (gssC (gsN 3) (gss0))))))
  (sSeq (sAsg 4 (mCall 1 m_read_integer (mCons (mVar 3) (mNil))))
  (sRet false (mIf (mAnd (mTst (mOp dNe (mVar 2) (mC (.str "")))) (mAnd (mTst (mOp dNotN (mVar 4) (mC .non))) (mTru (mCall 1 m_is_key (mCons (mVar 1) (mNil)))))) (mTup (mCons (mVar 1) (mCons (mVar 4) (mNil)))) (mC .non))))
def m_read_entry : MF := runF 5 1 b_read_entry
theorem ok_read_entry {P : Program} {w : World} {K : PySem.W.Frag} {mg : Str → Option Value} {base : Heap} (T : Fs K mg) : FnOk P w K mg base CX0 3 T.a_read_entry T.f_read_entry ["word"] (spM K 1 m_read_entry) :=
  fn_ok (N := ["word", "key", "sign", "digits", "value"]) (ps := ["word"]) (m := b_read_entry) T.F_read_entry sc_read_entry (by decide) fun cdv A outer s H E hr =>
  (jss_cons (js_asgG (je_part (je_var 0) (ja_cons je_str ja_nil)) (pg_tup rfl (pgs_cons (pg_name (i := 1) sc_read_entry.nd rfl (.inl rfl)) (pgs_cons (pg_name (i := 2) sc_read_entry.nd rfl (.inl rfl)) (pgs_cons (pg_name (i := 3) sc_read_entry.nd rfl (.inl rfl)) pgs_nil)))) (tgs_tup (tgss_cons (tgs_name 1) (tgss_cons (tgs_name 2) (tgss_cons (tgs_name 3) tgss_nil)))))
  (jss_cons (js_asg (je_call (ok_read_integer T) (hr.mono (by decide)) T.g_read_integer T.F_read_integer.kp T.b_read_integer (ja_cons (je_var 3) ja_nil)) sc_read_entry.nd)
  (jss_one (js_ret (je_if (JW.jt (jw_and (jt_cmp (op_neX hr.units) od_ne (je_var 2) je_str (by rfl)) (jw_and (jt_cmp op_notN od_notN (je_var 4) je_non (by rfl)) (jw_and1 (jt_tru (je_call (ok_is_key T) (hr.mono (by decide)) T.g_is_key T.F_is_key.kp T.b_is_key (ja_cons (je_var 1) ja_nil))))))) (je_tup (ja_cons (je_var 1) (ja_cons (je_var 4) ja_nil))) je_non)))))

abbrev s_Record_read : Stmt := (clsBody (topS 27)).getD 2 (.Pass ⟨0, 0, 0, 0⟩)
theorem sc_Record_read : FnScope ["text", "entries", "word", "left", "right"] ["text"] (defScope s_Record_read) := ⟨rfl, rfl, rfl, by decide +kernel, rfl, by decide +kernel, by decide +kernel⟩
def c1_Record_readt : MB := tYesM
def c1_Record_read : M := mCall 1 m_read_entry (mCons (mVar 2) (mNil))
def c2_Record_readt : MB := tYesM
def c2_Record_read : M := mOp dLt (mIx (mVar 3) (mC (.int 0))) (mIx (mVar 4) (mC (.int 0)))
def b_Record_read : MS := sSeq (sIf (mNot (mTru (mIsi "str" (mVar 0)))) (sNev) (sNext))
  (sSeq (sAsg 1 (mIf (mTst (mOp dEq (mVar 0) (mC (.str "empty")))) (mLst (mNil)) (mOfF (mLc [2] (mItems (mMt dSplit (mVar 0) (mCons (mC (.str " ")) (mNil)))) (gN 2) c1_Record_readt c1_Record_read))))
  (sSeq (sIf (mOr (mTst (mOp dIn (mC .non) (mVar 1))) (mNot (mTru (mCB dAll (mCons (mOfF (mLc [3, 4] (mZipK false (mCons (mVar 1) (mCons (mSl (mVar 1) (oSome (mC (.int 1))) (oNone)) (mNil)))) (gT 2 (gNsC (gN 3) (gNsC (gN 4) (gNs0)))) c2_Record_readt c2_Record_read)) (mNil)))))) (sNev) (sNext))
  (sRet false (mCall 1 m_record_of (mCons (mCB dDict (mCons (mVar 1) (mNil))) (mNil))))))
def m_Record_read : MF := runF 5 1 b_Record_read
theorem ok_Record_read {P : Program} {w : World} {K : PySem.W.Frag} {mg : Str → Option Value} {base : Heap} (T : Fs K mg) : FnOk P w K mg base CX0 7 T.a_Record_read T.f_Record_read ["text"] (spM K 1 m_Record_read) :=
  fn_ok (N := ["text", "entries", "word", "left", "right"]) (ps := ["text"]) (m := b_Record_read) T.F_Record_read sc_Record_read (by decide) fun cdv A outer s H E hr =>
  (jss_cons (js_if (jt_not (jt_tru (je_isi (je_var 0) T.n_isinstance T.n_str bt_str))) (jss_one js_nev) jss_nil)
  (jss_cons (js_asg (je_if (jt_cmp (op_eqX hr.units) od_eq (je_var 0) (je_gstr T.c_EMPTY) (by rfl)) (je_lst ja_nil) (JF.je (jf_lcN (mt := c1_Record_readt) (me := c1_Record_read) ["text", "entries", "word", "left", "right"] (defScope s_Record_read) [("word", 2)] rfl sc_Record_read.nd (ji_e (je_split (je_var 0) (ja_cons je_str ja_nil))) (blkOk_by (by decide +kernel)) (fun _ _ _ _ _ => (pg_name (i := 2) sc_Record_read.nd rfl (.inl rfl))) (tg_name 2) (by decide) (fun _ _ _ _ _ => jts_nil) (fun _ _ _ _ _ => (je_call (ok_read_entry T) (hr.mono (by decide)) T.g_read_entry T.F_read_entry.kp T.b_read_entry (ja_cons (je_var 2) ja_nil)))))) sc_Record_read.nd)
  (jss_cons (js_if (JW.jt (jw_or (jt_cmp (op_inX hr.units) od_in je_non (je_var 1) (by rfl)) (jw_or1 (jt_not (jt_tru (je_callB (cr_all rfl) cd_all T.n_all bt_all (ja_cons (JF.je (jf_lcN (mt := c2_Record_readt) (me := c2_Record_read) ["text", "entries", "word", "left", "right"] (defScope s_Record_read) [("left", 3), ("right", 4)] rfl sc_Record_read.nd (ji_zipK (ja_cons (je_var 1) (ja_cons (je_sl (je_var 1) (jo_some je_int) jo_none) ja_nil)) T.n_zip) (blkOk_by (by decide +kernel)) (fun _ _ _ _ _ => (pg_tup rfl (pgs_cons (pg_name (i := 3) sc_Record_read.nd rfl (.inl rfl)) (pgs_cons (pg_name (i := 4) sc_Record_read.nd rfl (.inl rfl)) pgs_nil)))) (tg_tup (tgs_cons (tg_name 3) (tgs_cons (tg_name 4) tgs_nil))) (by decide) (fun _ _ _ _ _ => jts_nil) (fun _ _ _ _ _ => (je_cmp op_ltD od_lt (je_ix hr.units (je_var 3) je_int) (je_ix hr.units (je_var 4) je_int) (by rfl))))) ja_nil))))))) (jss_one js_nev) jss_nil)
  (jss_one (js_ret (je_call (ok_record_of T) (hr.mono (by decide)) T.g_record_of T.F_record_of.kp T.b_record_of (ja_cons (je_callTy (call_dictA rfl) cd_dict T.n_dict bt_dict (ja_cons (je_var 1) ja_nil)) ja_nil)))))))

abbrev s__law_rows : Stmt := topS 46
theorem sc__law_rows : FnScope ["_law_box"] ["_law_box"] (defScope s__law_rows) := ⟨rfl, rfl, rfl, by decide +kernel, rfl, by decide +kernel, by decide +kernel⟩
def b__law_rows : MS := sRet false (mCB dTuple (mCons (mCB dSortedP (mCons (mListIt (mVar 0)) (mNil))) (mNil)))
def m__law_rows : MF := runF 1 1 b__law_rows
theorem ok__law_rows {P : Program} {w : World} {K : PySem.W.Frag} {mg : Str → Option Value} {base : Heap} (T : Fs K mg) : FnOk P w K mg base CX0 1 T.a__law_rows T.f__law_rows ["_law_box"] (spM K 1 m__law_rows) :=
  fn_ok (N := ["_law_box"]) (ps := ["_law_box"]) (m := b__law_rows) T.F__law_rows sc__law_rows (by decide) fun cdv A outer s H E hr =>
  (jss_one (js_ret (je_callTy call_tuple_of cd_tuple T.n_tuple bt_tuple (ja_cons (je_callB (cr_sortA rfl) cd_sortA T.n_sorted bt_sorted (ja_cons (je_listIt T.n_list (je_var 0)) ja_nil)) ja_nil))))

abbrev s__law_line : Stmt := topS 47
theorem sc__law_line : FnScope ["_law_box", "_law_k", "_law_v"] ["_law_box"] (defScope s__law_line) := ⟨rfl, rfl, rfl, by decide +kernel, rfl, by decide +kernel, by decide +kernel⟩
def c1__law_linet : MB := tYesM
def c1__law_line : M := mOp dAdd (mOp dAdd (mVar 1) (mC (.str "="))) (mCB dStr (mCons (mVar 2) (mNil)))
def b__law_line : MS := sRet false (mIf (mTst (mOp dNe (mVar 0) (mC (.dk [] [])))) (mMt dJoin (mC (.str " ")) (mCons (mOfF (mLc [1, 2] (mItems (mCall 1 m__law_rows (mCons (mVar 0) (mNil)))) (gT 2 (gNsC (gN 1) (gNsC (gN 2) (gNs0)))) c1__law_linet c1__law_line)) (mNil))) (mC (.str "empty")))
def m__law_line : MF := runF 3 1 b__law_line
theorem ok__law_line {P : Program} {w : World} {K : PySem.W.Frag} {mg : Str → Option Value} {base : Heap} (T : Fs K mg) : FnOk P w K mg base CX0 2 T.a__law_line T.f__law_line ["_law_box"] (spM K 1 m__law_line) :=
  fn_ok (N := ["_law_box", "_law_k", "_law_v"]) (ps := ["_law_box"]) (m := b__law_line) T.F__law_line sc__law_line (by decide) fun cdv A outer s H E hr =>
  (jss_one (js_ret (je_if (jt_cmp (op_neX hr.units) od_ne (je_var 0) je_dict0 (by rfl)) (je_join je_str (ja_cons (JF.je (jf_lcN (mt := c1__law_linet) (me := c1__law_line) ["_law_box", "_law_k", "_law_v"] (defScope s__law_line) [("_law_k", 1), ("_law_v", 2)] rfl sc__law_line.nd (ji_e (je_call (ok__law_rows T) (hr.mono (by decide)) T.g__law_rows T.F__law_rows.kp T.b__law_rows (ja_cons (je_var 0) ja_nil))) (blkOk_by (by decide +kernel)) (fun _ _ _ _ _ => (pg_tup rfl (pgs_cons (pg_name (i := 1) sc__law_line.nd rfl (.inl rfl)) (pgs_cons (pg_name (i := 2) sc__law_line.nd rfl (.inl rfl)) pgs_nil)))) (tg_tup (tgs_cons (tg_name 1) (tgs_cons (tg_name 2) tgs_nil))) (by decide) (fun _ _ _ _ _ => jts_nil) (fun _ _ _ _ _ => (je_op op_addD od_add (je_op op_addD od_add (je_var 1) je_str) (je_callTy call_strD cd_str T.n_str bt_str (ja_cons (je_var 2) ja_nil)))))) ja_nil)) je_str)))

abbrev s__law_record : Stmt := topS 48
theorem sc__law_record : FnScope ["_law_box"] ["_law_box"] (defScope s__law_record) := ⟨rfl, rfl, rfl, by decide +kernel, rfl, by decide +kernel, by decide +kernel⟩
def b__law_record : MS := sRet false (mCall 1 m_Record_read (mCons (mCall 1 m__law_line (mCons (mVar 0) (mNil))) (mNil)))
def m__law_record : MF := runF 1 1 b__law_record
theorem ok__law_record {P : Program} {w : World} {K : PySem.W.Frag} {mg : Str → Option Value} {base : Heap} (T : Fs K mg) : FnOk P w K mg base CX0 8 T.a__law_record T.f__law_record ["_law_box"] (spM K 1 m__law_record) :=
  fn_ok (N := ["_law_box"]) (ps := ["_law_box"]) (m := b__law_record) T.F__law_record sc__law_record (by decide) fun cdv A outer s H E hr =>
  (jss_one (js_ret (je_stat T.k_Record T.st_Record_read (fnR_of (ok_Record_read T) T.b_Record_read) (hr.mono (by decide)) (ja_cons (je_call (ok__law_line T) (hr.mono (by decide)) T.g__law_line T.F__law_line.kp T.b__law_line (ja_cons (je_var 0) ja_nil)) ja_nil))))

abbrev s__law_told_right : Stmt := topS 54
theorem sc__law_told_right : FnScope ["_law_known", "_law_due", "_law_told", "_law_each", "_law_box", "_law_at"] ["_law_known"] (defScope s__law_told_right) := ⟨rfl, rfl, rfl, by decide +kernel, rfl, by decide +kernel, by decide +kernel⟩
def c1__law_told_rightt : MB := tYesM
def c1__law_told_right : M := mCB dRepr (mCons (mVar 3) (mNil))
def c2__law_told_rightt : MB := mTst (mOp dEq (mIx (mVar 3) (mC (.int 0))) (mC (.str "always")))
def c2__law_told_right : M := mTup (mCons (mIx (mVar 3) (mC (.int 1))) (mCons (mVar 5) (mNil)))
def c3__law_told_rightt : MB := tYesM
def c3__law_told_right : M := mCall 1 m_is_contradictory (mCons (mOp dAdd (mSl (mVar 0) (oNone) (oSome (mVar 5))) (mSl (mVar 0) (oSome (mOp dAdd (mVar 5) (mC (.int 1)))) (oNone))) (mNil))
def b__law_told_right : MS := sSeq (sAsg 1 (mCall 1 m__law_clash (mCons (mVar 0) (mNil))))
  (sSeq (sAsg 2 (mLst (mCons (mCall 1 m_is_contradictory (mCons (mVar 0) (mNil))) (mCons (mCall 1 m_is_contradictory (mCons (mVar 0) (mNil))) (mCons (mCall 1 m_is_contradictory (mCons (mUn dRevA (mVar 0)) (mNil))) (mNil))))))
  (sSeq (sIf (mTst (mOp dNe (mOfF (mLc [3] (mItems (mOp dAdd (mVar 2) (mLst (mCons (mCall 1 m_is_contradictory (mCons (mVar 0) (mNil))) (mNil))))) (gN 3) c1__law_told_rightt c1__law_told_right)) (mOp dMulA (mLst (mCons (mCB dRepr (mCons (mVar 1) (mNil))) (mNil))) (mC (.int 4))))) (sRet false (mC (.bl false))) (sNext))
  (sSeq (sIf (mAnd (mTst (mOp dLt (mCB dLen (mCons (mVar 0) (mNil))) (mC (.int 6)))) (mTst (mOp dNe (mCall 1 m_is_contradictory (mCons (mOp dAdd (mVar 0) (mVar 0)) (mNil))) (mVar 1)))) (sRet false (mC (.bl false))) (sNext))
  (sSeq (sIf (mTru (mVar 1)) (sRet false (mC (.bl true))) (sNext))
  (sSeq (sAsg 4 (mCB dDict (mCons (mOfF (mLc [5, 3] (mEnumA (mCons (mVar 0) (mNil))) (gT 2 (gNsC (gN 5) (gNsC (gN 3) (gNs0)))) c2__law_told_rightt c2__law_told_right)) (mNil))))
  (sSeq (sIf (mNot (mTru (mCall 2 m_meets (mCons (mCall 1 m__law_record (mCons (mVar 4) (mNil))) (mCons (mVar 0) (mNil)))))) (sRet false (mC (.bl false))) (sNext))
  (sRet false (mNotV (mCB dAny (mCons (mOfF (mLc [5] (mRng1 (mCons (mCB dLen (mCons (mVar 0) (mNil))) (mNil))) (gN 5) c3__law_told_rightt c3__law_told_right)) (mNil)))))))))))
def m__law_told_right : MF := runF 6 1 b__law_told_right
theorem ok__law_told_right {P : Program} {w : World} {K : PySem.W.Frag} {mg : Str → Option Value} {base : Heap} (T : Fs K mg) : FnOk P w K mg base CX0 9 T.a__law_told_right T.f__law_told_right ["_law_known"] (spM K 1 m__law_told_right) :=
  fn_ok (N := ["_law_known", "_law_due", "_law_told", "_law_each", "_law_box", "_law_at"]) (ps := ["_law_known"]) (m := b__law_told_right) T.F__law_told_right sc__law_told_right (by decide) fun cdv A outer s H E hr =>
  (jss_cons (js_asg (je_call (ok__law_clash T) (hr.mono (by decide)) T.g__law_clash T.F__law_clash.kp T.b__law_clash (ja_cons (je_var 0) ja_nil)) sc__law_told_right.nd)
  (jss_cons (js_asg (je_lst (ja_cons (je_call (ok_is_contradictory T) (hr.mono (by decide)) T.g_is_contradictory T.F_is_contradictory.kp T.b_is_contradictory (ja_cons (je_var 0) ja_nil)) (ja_cons (je_callK0 (ok_is_contradictory T) (hr.mono (by decide)) T.g_is_contradictory T.F_is_contradictory.kp T.kw_is_contradictory (jk_cons (je_var 0) jk_nil)) (ja_cons (je_call (ok_is_contradictory T) (hr.mono (by decide)) T.g_is_contradictory T.F_is_contradictory.kp T.b_is_contradictory (ja_cons (je_revA (je_var 0)) ja_nil)) ja_nil)))) sc__law_told_right.nd)
  (jss_cons (js_if (jt_cmp (op_neX hr.units) od_ne (JF.je (jf_lcN (mt := c1__law_told_rightt) (me := c1__law_told_right) ["_law_known", "_law_due", "_law_told", "_law_each", "_law_box", "_law_at"] (defScope s__law_told_right) [("_law_each", 3)] rfl sc__law_told_right.nd (ji_e (je_op op_addD od_add (je_var 2) (je_lst (ja_cons (je_call (ok_is_contradictory T) (hr.mono (by decide)) T.g_is_contradictory T.F_is_contradictory.kp T.b_is_contradictory (ja_cons (je_var 0) ja_nil)) ja_nil)))) (blkOk_by (by decide +kernel)) (fun _ _ _ _ _ => (pg_name (i := 3) sc__law_told_right.nd rfl (.inl rfl))) (tg_name 3) (by decide) (fun _ _ _ _ _ => jts_nil) (fun _ _ _ _ _ => (je_callB call_reprD cd_repr T.n_repr bt_repr (ja_cons (je_var 3) ja_nil))))) (je_op op_mulA od_mulA (je_lst (ja_cons (je_callB call_reprD cd_repr T.n_repr bt_repr (ja_cons (je_var 1) ja_nil)) ja_nil)) je_int) (by rfl)) (jss_one (js_ret je_bl)) jss_nil)
  (jss_cons (js_if (JW.jt (jw_and (jt_cmp op_ltD od_lt (je_callB call_lenA cd_len T.n_len bt_len (ja_cons (je_var 0) ja_nil)) je_int (by rfl)) (jw_and1 (jt_cmp (op_neX hr.units) od_ne (je_call (ok_is_contradictory T) (hr.mono (by decide)) T.g_is_contradictory T.F_is_contradictory.kp T.b_is_contradictory (ja_cons (je_op op_addD od_add (je_var 0) (je_var 0)) ja_nil)) (je_var 1) (by rfl))))) (jss_one (js_ret je_bl)) jss_nil)
  (jss_cons (js_if (jt_tru (je_var 1)) (jss_one (js_ret je_bl)) jss_nil)
  (jss_cons (js_asg (je_callTy (call_dictA rfl) cd_dict T.n_dict bt_dict (ja_cons (JF.je (jf_lcN (mt := c2__law_told_rightt) (me := c2__law_told_right) ["_law_known", "_law_due", "_law_told", "_law_each", "_law_box", "_law_at"] (defScope s__law_told_right) [("_law_at", 5), ("_law_each", 3)] rfl sc__law_told_right.nd (ji_enumA (ja_cons (je_var 0) ja_nil) T.n_enumerate) (blkOk_by (by decide +kernel)) (fun _ _ _ _ _ => (pg_tup rfl (pgs_cons (pg_name (i := 5) sc__law_told_right.nd rfl (.inl rfl)) (pgs_cons (pg_name (i := 3) sc__law_told_right.nd rfl (.inl rfl)) pgs_nil)))) (tg_tup (tgs_cons (tg_name 5) (tgs_cons (tg_name 3) tgs_nil))) (by decide) (fun _ _ _ _ _ => (jts_one (jt_cmp (op_eqX hr.units) od_eq (je_ix hr.units (je_var 3) je_int) je_str (by rfl)))) (fun _ _ _ _ _ => (je_tup (ja_cons (je_ix hr.units (je_var 3) je_int) (ja_cons (je_var 5) ja_nil)))))) ja_nil)) sc__law_told_right.nd)
  (jss_cons (js_if (jt_not (jt_tru (je_call (ok_meets T) (hr.mono (by decide)) T.g_meets T.F_meets.kp T.b_meets (ja_cons (je_call (ok__law_record T) (hr.mono (by decide)) T.g__law_record T.F__law_record.kp T.b__law_record (ja_cons (je_var 4) ja_nil)) (ja_cons (je_var 0) ja_nil))))) (jss_one (js_ret je_bl)) jss_nil)
  (jss_one (js_ret (je_not (je_callB (cr_any rfl) cd_any T.n_any bt_any (ja_cons (JF.je (jf_lcN (mt := c3__law_told_rightt) (me := c3__law_told_right) ["_law_known", "_law_due", "_law_told", "_law_each", "_law_box", "_law_at"] (defScope s__law_told_right) [("_law_at", 5)] rfl sc__law_told_right.nd (ji_rng1 (ja_cons (je_callB call_lenA cd_len T.n_len bt_len (ja_cons (je_var 0) ja_nil)) ja_nil) T.n_range) (blkOk_by (by decide +kernel)) (fun _ _ _ _ _ => (pg_name (i := 5) sc__law_told_right.nd rfl (.inl rfl))) (tg_name 5) (by decide) (fun _ _ _ _ _ => jts_nil) (fun _ _ _ _ _ => (je_call (ok_is_contradictory T) (hr.mono (by decide)) T.g_is_contradictory T.F_is_contradictory.kp T.b_is_contradictory (ja_cons (je_op op_addD od_add (je_sl (je_var 0) jo_none (jo_some (je_var 5))) (je_sl (je_var 0) (jo_some (je_op op_addD od_add (je_var 5) je_int)) jo_none)) ja_nil))))) ja_nil))))))))))))

abbrev s__law_beside : Stmt := topS 52
theorem sc__law_beside : FnScope ["_law_p"] ["_law_p"] (defScope s__law_beside) := ⟨rfl, rfl, rfl, by decide +kernel, rfl, by decide +kernel, by decide +kernel⟩
def b__law_beside : MS := sRet false (mIf (mTst (mOp dLt (mCB dLen (mCons (mIx (mMt dSplit (mVar 0) (mCons (mC (.str "/")) (mNil))) (mUn dNeg (mC (.int 1)))) (mNil))) (mC (.int 8)))) (mOp dAdd (mVar 0) (mC (.str "x"))) (mSl (mVar 0) (oNone) (oSome (mUn dNeg (mC (.int 1))))))
def m__law_beside : MF := runF 1 1 b__law_beside
theorem ok__law_beside {P : Program} {w : World} {K : PySem.W.Frag} {mg : Str → Option Value} {base : Heap} (T : Fs K mg) : FnOk P w K mg base CX0 1 T.a__law_beside T.f__law_beside ["_law_p"] (spM K 1 m__law_beside) :=
  fn_ok (N := ["_law_p"]) (ps := ["_law_p"]) (m := b__law_beside) T.F__law_beside sc__law_beside (by decide) fun cdv A outer s H E hr =>
  (jss_one (js_ret (je_if (jt_cmp op_ltD od_lt (je_callB call_lenA cd_len T.n_len bt_len (ja_cons (je_ix hr.units (je_split (je_var 0) (ja_cons je_str ja_nil)) (je_un un_neg ud_neg je_int)) ja_nil)) je_int (by rfl)) (je_op op_addD od_add (je_var 0) je_str) (je_sl (je_var 0) jo_none (jo_some (je_un un_neg ud_neg je_int))))))

abbrev s__law_near : Stmt := topS 53
theorem sc__law_near : FnScope ["_law_pool_here", "_law_some", "_law_p", "_law_q", "_law_far", "_law_menu"] ["_law_pool_here", "_law_some"] (defScope s__law_near) := ⟨rfl, rfl, rfl, by decide +kernel, rfl, by decide +kernel, by decide +kernel⟩
def b__law_near : MS := sSeq (sPar 2 3 (mCons (mCall 3 m__law_path (mCons (mVar 0) (mCons (mVar 1) (mCons (mC (.int 2)) (mNil))))) (mCons (mCall 3 m__law_path (mCons (mVar 0) (mCons (mVar 1) (mCons (mC (.int 3)) (mNil))))) (mNil))))
  (sSeq (sAsg 4 (mOp dAdd (mOp dAdd (mVar 2) (mC (.str "/"))) (mIx (mVar 1) (mCall 2 m__law_draw (mCons (mVar 0) (mCons (mCB dLen (mCons (mVar 1) (mNil))) (mNil)))))))
  (sSeq (sNew 5 (mFresh (mCons (mTup (mCons (mTup (mCons (mC (.str "always")) (mCons (mVar 4) (mNil)))) (mCons (mTup (mCons (mC (.str "never")) (mCons (mVar 2) (mNil)))) (mNil)))) (mCons (mTup (mCons (mTup (mCons (mC (.str "never")) (mCons (mVar 4) (mNil)))) (mCons (mTup (mCons (mC (.str "always")) (mCons (mVar 2) (mNil)))) (mNil)))) (mNil)))))
  (sSeq (sApp 5 (mTup (mCons (mTup (mCons (mC (.str "always")) (mCons (mCall 1 m__law_beside (mCons (mVar 2) (mNil))) (mNil)))) (mCons (mTup (mCons (mC (.str "never")) (mCons (mVar 2) (mNil)))) (mNil)))))
  (sSeq (sCatO 5 (mLst (mCons (mTup (mCons (mTup (mCons (mC (.str "always")) (mCons (mVar 2) (mNil)))) (mCons (mTup (mCons (mC (.str "not both")) (mCons (mVar 2) (mCons (mVar 4) (mNil))))) (mNil)))) (mCons (mTup (mCons (mTup (mCons (mC (.str "always")) (mCons (mVar 4) (mNil)))) (mCons (mTup (mCons (mC (.str "not both")) (mCons (mVar 2) (mCons (mVar 4) (mNil))))) (mCons (mTup (mCons (mC (.str "always")) (mCons (mVar 2) (mNil)))) (mNil))))) (mNil)))))
  (sSeq (sAsg 5 (mOp dAdd (mVar 5) (mLst (mCons (mTup (mCons (mTup (mCons (mC (.str "never")) (mCons (mVar 2) (mNil)))) (mCons (mTup (mCons (mC (.str "not both")) (mCons (mVar 2) (mCons (mVar 4) (mNil))))) (mNil)))) (mCons (mTup (mCons (mTup (mCons (mC (.str "always")) (mCons (mVar 2) (mNil)))) (mCons (mTup (mCons (mC (.str "never")) (mCons (mVar 2) (mNil)))) (mNil)))) (mCons (mTup (mCons (mTup (mCons (mC (.str "always")) (mCons (mVar 3) (mNil)))) (mCons (mTup (mCons (mC (.str "never")) (mCons (mVar 4) (mNil)))) (mNil)))) (mNil)))))))
  (sRet false (mIx (mVar 5) (mCall 2 m__law_draw (mCons (mVar 0) (mCons (mC (.int 8)) (mNil)))))))))))
def m__law_near : MF := runF 6 2 b__law_near
theorem ok__law_near {P : Program} {w : World} {K : PySem.W.Frag} {mg : Str → Option Value} {base : Heap} (T : Fs K mg) : FnOk P w K mg base CX0 3 T.a__law_near T.f__law_near ["_law_pool_here", "_law_some"] (spM K 2 m__law_near) :=
  fn_ok (N := ["_law_pool_here", "_law_some", "_law_p", "_law_q", "_law_far", "_law_menu"]) (ps := ["_law_pool_here", "_law_some"]) (m := b__law_near) T.F__law_near sc__law_near (by decide) fun cdv A outer s H E hr =>
  (jss_cons (js_par rfl sc__law_near.nd (ja_cons (je_call (ok__law_path T) (hr.mono (by decide)) T.g__law_path T.F__law_path.kp T.b__law_path (ja_cons (je_var 0) (ja_cons (je_var 1) (ja_cons je_int ja_nil)))) (ja_cons (je_call (ok__law_path T) (hr.mono (by decide)) T.g__law_path T.F__law_path.kp T.b__law_path (ja_cons (je_var 0) (ja_cons (je_var 1) (ja_cons je_int ja_nil)))) ja_nil)))
  (jss_cons (js_asg (je_op op_addD od_add (je_op op_addD od_add (je_var 2) je_str) (je_ix hr.units (je_var 1) (je_call (ok__law_draw T) (hr.mono (by decide)) T.g__law_draw T.F__law_draw.kp T.b__law_draw (ja_cons (je_var 0) (ja_cons (je_callB call_lenA cd_len T.n_len bt_len (ja_cons (je_var 1) ja_nil)) ja_nil))))) sc__law_near.nd)
  (jss_cons (js_new (jf_lst (ja_cons (je_tup (ja_cons (je_tup (ja_cons je_str (ja_cons (je_var 4) ja_nil))) (ja_cons (je_tup (ja_cons je_str (ja_cons (je_var 2) ja_nil))) ja_nil))) (ja_cons (je_tup (ja_cons (je_tup (ja_cons je_str (ja_cons (je_var 4) ja_nil))) (ja_cons (je_tup (ja_cons je_str (ja_cons (je_var 2) ja_nil))) ja_nil))) ja_nil))) sc__law_near.nd)
  (jss_cons (js_app (je_tup (ja_cons (je_tup (ja_cons je_str (ja_cons (je_call (ok__law_beside T) (hr.mono (by decide)) T.g__law_beside T.F__law_beside.kp T.b__law_beside (ja_cons (je_var 2) ja_nil)) ja_nil))) (ja_cons (je_tup (ja_cons je_str (ja_cons (je_var 2) ja_nil))) ja_nil))))
  (jss_cons (js_catO (je_lst (ja_cons (je_tup (ja_cons (je_tup (ja_cons je_str (ja_cons (je_var 2) ja_nil))) (ja_cons (je_tup (ja_cons je_str (ja_cons (je_var 2) (ja_cons (je_var 4) ja_nil)))) ja_nil))) (ja_cons (je_tup (ja_cons (je_tup (ja_cons je_str (ja_cons (je_var 4) ja_nil))) (ja_cons (je_tup (ja_cons je_str (ja_cons (je_var 2) (ja_cons (je_var 4) ja_nil)))) (ja_cons (je_tup (ja_cons je_str (ja_cons (je_var 2) ja_nil))) ja_nil)))) ja_nil))) sc__law_near.nd)
  (jss_cons (js_asg (je_op op_addD od_add (je_var 5) (je_lst (ja_cons (je_tup (ja_cons (je_tup (ja_cons je_str (ja_cons (je_var 2) ja_nil))) (ja_cons (je_tup (ja_cons je_str (ja_cons (je_var 2) (ja_cons (je_var 4) ja_nil)))) ja_nil))) (ja_cons (je_tup (ja_cons (je_tup (ja_cons je_str (ja_cons (je_var 2) ja_nil))) (ja_cons (je_tup (ja_cons je_str (ja_cons (je_var 2) ja_nil))) ja_nil))) (ja_cons (je_tup (ja_cons (je_tup (ja_cons je_str (ja_cons (je_var 3) ja_nil))) (ja_cons (je_tup (ja_cons je_str (ja_cons (je_var 4) ja_nil))) ja_nil))) ja_nil))))) sc__law_near.nd)
  (jss_one (js_ret (je_ix hr.units (je_var 5) (je_call (ok__law_draw T) (hr.mono (by decide)) T.g__law_draw T.F__law_draw.kp T.b__law_draw (ja_cons (je_var 0) (ja_cons je_int ja_nil))))))))))))

abbrev s__law_right : Stmt := topS 55
theorem sc__law_right : FnScope ["_law_pool_here", "_law_some", "_law_turn", "_law_known"] ["_law_pool_here"] (defScope s__law_right) := ⟨rfl, rfl, rfl, by decide +kernel, rfl, by decide +kernel, by decide +kernel⟩
def l1__law_right : MS := sSeq (sAsg 3 (mCall 3 m__law_premises (mCons (mVar 0) (mCons (mVar 1) (mCons (mC (.int 8)) (mNil))))))
  (sSeq (sIf (mTst (mOp dEq (mCall 2 m__law_draw (mCons (mVar 0) (mCons (mC (.int 2)) (mNil)))) (mC (.int 0)))) (sAsg 3 (mOp dAdd (mCall 2 m__law_near (mCons (mVar 0) (mCons (mVar 1) (mNil)))) (mSl (mVar 3) (oNone) (oSome (mC (.int 7)))))) (sNext))
  (sIf (mNot (mTru (mCall 1 m__law_told_right (mCons (mSl (mVar 3) (oNone) (oSome (mC (.int 10)))) (mNil))))) (sRet false (mC (.bl false))) (sNext)))
def b__law_right : MS := sSeq (sAsg 1 (mCall 1 m__law_names (mCons (mVar 0) (mNil))))
  (sSeq (sFor false (mRng1 (mCons (mC (.int 8)) (mNil))) (gsN 2) l1__law_right)
  (sRet false (mOp dEq (mCB dRepr (mCons (mCall 1 m_is_contradictory (mCons (mTup (mNil)) (mNil))) (mNil))) (mC (.str "False")))))
def m__law_right : MF := runF 4 1 b__law_right
theorem ok__law_right {P : Program} {w : World} {K : PySem.W.Frag} {mg : Str → Option Value} {base : Heap} (T : Fs K mg) : FnOk P w K mg base CX0 10 T.a__law_right T.f__law_right ["_law_pool_here"] (spM K 1 m__law_right) :=
  fn_ok (N := ["_law_pool_here", "_law_some", "_law_turn", "_law_known"]) (ps := ["_law_pool_here"]) (m := b__law_right) T.F__law_right sc__law_right (by decide) fun cdv A outer s H E hr =>
  (jss_cons (js_asg (je_call (ok__law_names T) (hr.mono (by decide)) T.g__law_names T.F__law_names.kp T.b__law_names (ja_cons (je_var 0) ja_nil)) sc__law_right.nd)
  (jss_cons (js_for PassesOwn.never rfl (ji_rng1 (ja_cons je_int ja_nil) T.n_range) (pg_name (i := 2) sc__law_right.nd rfl (.inl rfl)) (tgs_name 2) (id (α := JSs _ _ _ l1__law_right) (jss_cons (js_asg (je_call (ok__law_premises T) (hr.mono (by decide)) T.g__law_premises T.F__law_premises.kp T.b__law_premises (ja_cons (je_var 0) (ja_cons (je_var 1) (ja_cons je_int ja_nil)))) sc__law_right.nd)
  (jss_cons (js_if (jt_cmp (op_eqX hr.units) od_eq (je_call (ok__law_draw T) (hr.mono (by decide)) T.g__law_draw T.F__law_draw.kp T.b__law_draw (ja_cons (je_var 0) (ja_cons je_int ja_nil))) je_int (by rfl)) (jss_one (js_asg (je_op op_addD od_add (je_call (ok__law_near T) (hr.mono (by decide)) T.g__law_near T.F__law_near.kp T.b__law_near (ja_cons (je_var 0) (ja_cons (je_var 1) ja_nil))) (je_sl (je_var 3) jo_none (jo_some je_int))) sc__law_right.nd)) jss_nil)
  (jss_one (js_if (jt_not (jt_tru (je_call (ok__law_told_right T) (hr.mono (by decide)) T.g__law_told_right T.F__law_told_right.kp T.b__law_told_right (ja_cons (je_sl (je_var 3) jo_none (jo_some je_int)) ja_nil)))) (jss_one (js_ret je_bl)) jss_nil))))))
  (jss_one (js_ret (je_cmp (op_eqX hr.units) od_eq (je_callB call_reprD cd_repr T.n_repr bt_repr (ja_cons (je_call (ok_is_contradictory T) (hr.mono (by decide)) T.g_is_contradictory T.F_is_contradictory.kp T.b_is_contradictory (ja_cons (je_tup ja_nil) ja_nil)) ja_nil)) je_str (by rfl))))))

abbrev s__law_pool : Stmt := topS 41
theorem sc__law_pool : FnScope ["_law_cell_here", "_law_figures"] ["_law_cell_here"] (defScope s__law_pool) := ⟨rfl, rfl, rfl, by decide +kernel, rfl, by decide +kernel, by decide +kernel⟩
def b__law_pool : MSl := rSeq (sAsg 1 (mIf (mOr (mTst (mOp dLt (mVar 0) (mC (.int 0)))) (mTst (mOp dGe (mVar 0) (mOp dPow (mC (.int 10)) (mC (.int 18)))))) (mCB dAbs (mCons (mVar 0) (mNil))) (mC (.int 0))))
  (rRet (mFresh (mCons (mOp dMod (mCB dIntA (mCons (mVar 0) (mNil))) (mC (.int 2147482873))) (mCons (mVar 1) (mCons (mC (.int 0)) (mNil))))))
def m__law_pool : MFl := runR 2 1 b__law_pool
theorem ok__law_pool {P : Program} {w : World} {K : PySem.W.Frag} {mg : Str → Option Value} {base : Heap} (T : Fs K mg) : FnOk P w K mg base CX0 1 T.a__law_pool T.f__law_pool ["_law_cell_here"] (spFr K 1 m__law_pool) :=
  fn_okFr (N := ["_law_cell_here", "_law_figures"]) (ps := ["_law_cell_here"]) (m := b__law_pool) T.F__law_pool sc__law_pool (by decide) fun cdv A outer s H E hr =>
  (jr_cons (js_asg (je_if (JW.jt (jw_or (jt_cmp op_ltD od_lt (je_var 0) je_int (by rfl)) (jw_or1 (jt_cmp op_geD od_ge (je_var 0) (je_op op_pow od_pow je_int je_int) (by rfl))))) (je_callB call_abs cd_abs T.n_abs bt_abs (ja_cons (je_var 0) ja_nil)) je_int) sc__law_pool.nd)
  (jr_ret (jf_lst (ja_cons (je_op op_mod od_mod (je_callTy call_intA cd_intA T.n_int bt_int (ja_cons (je_var 0) ja_nil)) je_int) (ja_cons (je_var 1) (ja_cons je_int ja_nil))))))

abbrev s__law_cell : Stmt := topS 40
theorem sc__law_cell : FnScope ["_law_cells", "_law_k", "_law_seed", "_law_part_here"] ["_law_cells", "_law_k"] (defScope s__law_cell) := ⟨rfl, rfl, rfl, by decide +kernel, rfl, by decide +kernel, by decide +kernel⟩
def l1__law_cell : MS := sAsg 2 (mOp dMod (mCB dIntA (mCons (mOp dAdd (mOp dMulA (mVar 2) (mC (.int 44017))) (mVar 3)) (mNil))) (mC (.int 2147482873)))
def b__law_cell : MS := sSeq (sIf (mTst (mOp dLt (mVar 1) (mCB dLen (mCons (mVar 0) (mNil))))) (sRet false (mIx (mVar 0) (mVar 1))) (sNext))
  (sSeq (sAsg 2 (mOp dMod (mCB dIntA (mCons (mOp dMulA (mC (.int 59753)) (mOp dAdd (mOp dAdd (mOp dMulA (mVar 1) (mVar 1)) (mOp dMulA (mC (.int 13)) (mVar 1))) (mC (.int 29)))) (mNil))) (mC (.int 2147482873))))
  (sSeq (sFor false (mItems (mSl (mVar 0) (oNone) (oSome (mC (.int 3))))) (gsN 3) l1__law_cell)
  (sRet false (mVar 2))))
def m__law_cell : MF := runF 4 2 b__law_cell
theorem ok__law_cell {P : Program} {w : World} {K : PySem.W.Frag} {mg : Str → Option Value} {base : Heap} (T : Fs K mg) : FnOk P w K mg base CX0 1 T.a__law_cell T.f__law_cell ["_law_cells", "_law_k"] (spM K 2 m__law_cell) :=
  fn_ok (N := ["_law_cells", "_law_k", "_law_seed", "_law_part_here"]) (ps := ["_law_cells", "_law_k"]) (m := b__law_cell) T.F__law_cell sc__law_cell (by decide) fun cdv A outer s H E hr =>
  (jss_cons (js_if (jt_cmp op_ltD od_lt (je_var 1) (je_callB call_lenA cd_len T.n_len bt_len (ja_cons (je_var 0) ja_nil)) (by rfl)) (jss_one (js_ret (je_ix hr.units (je_var 0) (je_var 1)))) jss_nil)
  (jss_cons (js_asg (je_op op_mod od_mod (je_callTy call_intA cd_intA T.n_int bt_int (ja_cons (je_op op_mulA od_mulA je_int (je_op op_addD od_add (je_op op_addD od_add (je_op op_mulA od_mulA (je_var 1) (je_var 1)) (je_op op_mulA od_mulA je_int (je_var 1))) je_int)) ja_nil)) je_int) sc__law_cell.nd)
  (jss_cons (js_for PassesOwn.never rfl (ji_e (je_sl (je_var 0) jo_none (jo_some je_int))) (pg_name (i := 3) sc__law_cell.nd rfl (.inl rfl)) (tgs_name 3) (id (α := JSs _ _ _ l1__law_cell) (jss_one (js_asg (je_op op_mod od_mod (je_callTy call_intA cd_intA T.n_int bt_int (ja_cons (je_op op_addD od_add (je_op op_mulA od_mulA (je_var 2) je_int) (je_var 3)) ja_nil)) je_int) sc__law_cell.nd))))
  (jss_one (js_ret (je_var 2))))))

abbrev s_law : Stmt := topS 56
theorem sc_law : FnScope ["_law_cells", "_law_k"] ["_law_cells"] (defScope s_law) := ⟨rfl, rfl, rfl, by decide +kernel, rfl, by decide +kernel, by decide +kernel⟩
def l1_law : MS := sIf (mNot (mTru (mCallP m__law_right (mCallF 1 m__law_pool (mCons (mCall 2 m__law_cell (mCons (mVar 0) (mCons (mVar 1) (mNil)))) (mNil)))))) (sRet true (mC (.bl false))) (sNext)
def b_law : MS := sSeq (sFor true (mRng1 (mCons (mCB dMax2 (mCons (mC (.int 2)) (mCons (mCB dMin2 (mCons (mCB dLen (mCons (mVar 0) (mNil))) (mCons (mC (.int 5)) (mNil)))) (mNil)))) (mNil))) (gsN 1) l1_law)
  (sRet true (mC (.bl true)))
def m_law : MF := runF 2 1 b_law
theorem ok_law {P : Program} {w : World} {K : PySem.W.Frag} {mg : Str → Option Value} {base : Heap} (T : Fs K mg) : FnOk P w K mg base CX0 11 T.a_law T.f_law ["_law_cells"] (spL K 1 m_law) :=
  fn_okL (N := ["_law_cells", "_law_k"]) (ps := ["_law_cells"]) (m := b_law) T.F_law sc_law (by decide) fun cdv A outer s H E hr =>
  (jss_cons (js_for PassesOwn.never rfl (ji_rng1 (ja_cons (je_callB (call_max2 rfl) cd_max2 T.n_max bt_max (ja_cons je_int (ja_cons (je_callB (call_min2 rfl) cd_min2 T.n_min bt_min (ja_cons (je_callB call_lenA cd_len T.n_len bt_len (ja_cons (je_var 0) ja_nil)) (ja_cons je_int ja_nil))) ja_nil))) ja_nil) T.n_range) (pg_name (i := 1) sc_law.nd rfl (.inl rfl)) (tgs_name 1) (id (α := JSs _ _ _ l1_law) (jss_one (js_if (jt_not (jt_tru (je_callP (ok__law_right T) (hr.mono (by decide)) T.g__law_right T.F__law_right.kp T.b__law_right (jf_call (ok__law_pool T) (hr.mono (by decide)) T.g__law_pool T.F__law_pool.kp T.b__law_pool (ja_cons (je_call (ok__law_cell T) (hr.mono (by decide)) T.g__law_cell T.F__law_cell.kp T.b__law_cell (ja_cons (je_var 0) (ja_cons (je_var 1) ja_nil))) ja_nil))))) (jss_one (js_ret je_bl)) jss_nil))))
  (jss_one (js_ret je_bl)))

end
end K36

namespace Dt
open PySem PySem.Spec PyProof.Rows L2
theorem beq_dec {α : Type} [DecidableEq α] [BEq α] [LawfulBEq α] (a b : α) : (a == b) = decide (a = b) := by
  by_cases h : a = b <;> simp [h]
/-! # Data made of texts -/
abbrev TS (r : List Str) : D := .tup (r.map .str)
abbrev LS (r : List Str) : D := .lst (r.map .str)
@[simp] theorem flat_str (n : Nat) (x : Str) : flat n (.str x) = true := by unfold flat; rfl
@[simp] theorem flat_int (n : Nat) (x : Int) : flat n (.int x) = true := by unfold flat; rfl
@[simp] theorem flat_bl (n : Nat) (x : Bool) : flat n (.bl x) = true := by unfold flat; rfl
@[simp] theorem flat_non (n : Nat) : flat n .non = true := by unfold flat; rfl
@[simp] theorem flats_nil (n : Nat) : flats n [] = true := by unfold flats; rfl
@[simp] theorem flats_cons (n : Nat) (x : D) (xs : List D) : flats n (x :: xs) = (flat n x && flats n xs) := by rw [flats]
@[simp] theorem flat_tup (n : Nat) (xs : List D) : flat (n + 1) (.tup xs) = flats n xs := by rw [flat]
@[simp] theorem flat_lst (n : Nat) (xs : List D) : flat (n + 1) (.lst xs) = flats n xs := by rw [flat]
@[simp] theorem flats_strs (n : Nat) : ∀ xs : List Str, flats n (xs.map .str) = true
  | [] => flats_nil n
  | x :: xs => by rw [List.map_cons, flats_cons, flats_strs n xs]; simp
@[simp] theorem flats_bls (n : Nat) : ∀ xs : List Bool, flats n (xs.map .bl) = true
  | [] => flats_nil n
  | x :: xs => by rw [List.map_cons, flats_cons, flats_bls n xs]; simp
theorem flats_all {α : Type} (n : Nat) (f : α → D) (h : ∀ x, flat n (f x) = true) : ∀ xs : List α, flats n (xs.map f) = true
  | [] => flats_nil n
  | x :: xs => by rw [List.map_cons, flats_cons, flats_all n f h xs, h]; rfl
@[simp] theorem flats_TS (n : Nat) (xs : List (List Str)) : flats (n + 1) (xs.map TS) = true := flats_all _ _ (fun x => by rw [flat_tup]; exact flats_strs n x) xs
@[simp] theorem deqv_str (a b : Str) : deqv (.str a) (.str b) = (a == b) := by simp [deqv]
theorem deqvs_map {α : Type} [DecidableEq α] (f : α → D) (h : ∀ a b, deqv (f a) (f b) = decide (a = b)) : ∀ xs ys : List α, deqvs (xs.map f) (ys.map f) = decide (xs = ys)
  | [], [] => by simp [deqvs]
  | [], y :: ys => by simp [deqvs]
  | x :: xs, [] => by simp [deqvs]
  | x :: xs, y :: ys => by
    rw [List.map_cons, List.map_cons, deqvs, h, deqvs_map f h xs ys]
    simp
theorem deqvs_strs (xs ys : List Str) : deqvs (xs.map .str) (ys.map .str) = decide (xs = ys) := deqvs_map _ (fun a b => by rw [deqv_str]; simp [beq_dec]) xs ys
theorem deqvs_bls (xs ys : List Bool) : deqvs (xs.map .bl) (ys.map .bl) = decide (xs = ys) := deqvs_map _ (fun a b => by rw [deqv]; simp [beq_dec]) xs ys
theorem deqv_TS (xs ys : List Str) : deqv (TS xs) (TS ys) = decide (xs = ys) := by unfold TS; rw [deqv]; exact deqvs_strs xs ys
theorem ev_eqS {a b : Str} : dEq (.str a) (.str b) = some (.bl (decide (a = b))) := by
  unfold dEq; simp [beq_dec]
theorem ev_neS {a b : Str} : dNe (.str a) (.str b) = some (.bl (!decide (a = b))) := by
  unfold dNe; simp [beq_dec]
theorem ev_eqI {a b : Int} : dEq (.int a) (.int b) = some (.bl (decide (a = b))) := by
  unfold dEq; simp [deqv, beq_dec]
theorem ev_neI {a b : Int} : dNe (.int a) (.int b) = some (.bl (!decide (a = b))) := by
  unfold dNe; simp [deqv, beq_dec]
theorem ev_eqT {a b : List Str} : dEq (.tup (a.map .str)) (.tup (b.map .str)) = some (.bl (decide (a = b))) := by
  unfold dEq deep; rw [flat_tup, flat_tup, flats_strs, flats_strs, deqv, deqvs_strs]; rfl
theorem ev_eqT1 {a : List Str} {b : Str} : dEq (.tup (a.map .str)) (.tup [.str b]) = some (.bl (decide (a = [b]))) := ev_eqT (b := [b])
theorem ev_eqL {a b : List Str} : dEq (.lst (a.map .str)) (.lst (b.map .str)) = some (.bl (decide (a = b))) := by
  unfold dEq deep; rw [flat_lst, flat_lst, flats_strs, flats_strs, deqv, deqvs_strs]; rfl
theorem ev_neB {a b : List Bool} : dNe (.lst (a.map .bl)) (.lst (b.map .bl)) = some (.bl (!decide (a = b))) := by
  unfold dNe deep; rw [flat_lst, flat_lst, flats_bls, flats_bls, deqv, deqvs_bls]; rfl
theorem any_map {α : Type} [DecidableEq α] (f : α → D) (h : ∀ a b, deqv (f a) (f b) = decide (a = b)) (x : α) : ∀ xs : List α, ((xs.map f).any fun e => deqv e (f x)) = decide (x ∈ xs)
  | [] => by simp
  | y :: ys => by
    rw [List.map_cons, List.any_cons, h, any_map f h x ys]
    by_cases e : y = x
    · subst e; simp
    · have e2 : ¬ x = y := fun z => e z.symm
      simp [e, e2]
theorem ev_inL {a : Str} {xs : List Str} : dIn (.str a) (.lst (xs.map .str)) = some (.bl (decide (a ∈ xs))) := by
  unfold dIn; simp only [flat_str, flats_strs, Bool.and_self, if_true]
  rw [any_map _ (fun a b => by rw [deqv_str]; simp [beq_dec])]
theorem ev_inT {a : Str} {xs : List Str} : dIn (.str a) (.tup (xs.map .str)) = some (.bl (decide (a ∈ xs))) := by
  unfold dIn; simp only [flat_str, flats_strs, Bool.and_self, if_true]
  rw [any_map _ (fun a b => by rw [deqv_str]; simp [beq_dec])]
theorem ev_ninL {a : Str} {xs : List Str} : dNotIn (.str a) (.lst (xs.map .str)) = some (.bl (!decide (a ∈ xs))) := by
  unfold dNotIn; rw [ev_inL]
theorem ev_ninT {a : Str} {xs : List Str} : dNotIn (.str a) (.tup (xs.map .str)) = some (.bl (!decide (a ∈ xs))) := by
  unfold dNotIn; rw [ev_inT]
theorem ev_inTL {a : List Str} {xs : List (List Str)} : dIn (.tup (a.map .str)) (.lst (xs.map TS)) = some (.bl (decide (a ∈ xs))) := by
  unfold dIn; simp only [flat_tup, flats_strs, flats_TS, Bool.and_self, if_true]
  rw [any_map TS deqv_TS]
  exact congrArg some (congrArg D.bl (decide_eq_decide.mpr Iff.rfl))
theorem ev_ninTL {a : List Str} {xs : List (List Str)} : dNotIn (.tup (a.map .str)) (.lst (xs.map TS)) = some (.bl (!decide (a ∈ xs))) := by
  unfold dNotIn; rw [ev_inTL]
/-! # Slices and places -/
theorem dcut_take {α : Type} (xs : List α) {i : Int} (h : 0 ≤ i) : dcut xs none (some i) = xs.take i.toNat := by
  obtain ⟨n, rfl⟩ := Int.eq_ofNat_of_zero_le h
  unfold dcut
  rw [HT.sIx_none, HT.sIx_nat, List.drop_zero, Nat.sub_zero, Int.toNat_natCast]
  rcases Nat.le_total n xs.length with h | h
  · rw [Nat.min_eq_left h]
  · rw [Nat.min_eq_right h, List.take_length, List.take_of_length_le h]
theorem dcut_drop {α : Type} (xs : List α) {i : Int} (h : 0 ≤ i) : dcut xs (some i) none = xs.drop i.toNat := by
  obtain ⟨n, rfl⟩ := Int.eq_ofNat_of_zero_le h
  unfold dcut
  rw [HT.sIx_none, HT.sIx_nat, Int.toNat_natCast]
  rcases Nat.le_total n xs.length with h | h
  · rw [Nat.min_eq_left h, List.take_of_length_le (by rw [List.length_drop]; exact Nat.le_refl _)]
  · rw [Nat.min_eq_right h, List.drop_length, List.drop_of_length_le h, List.take_nil]
theorem sIx_neg (n d : Nat) {k : Nat} (h : 0 < k) : HT.sIx n d (some (-(k : Int))) = n - k := by
  show (if (-(k : Int)) < 0 then (-(k : Int) + (n : Int)).toNat else _) = _
  rw [if_pos (by omega)]
  omega
theorem dcut_init {α : Type} (xs : List α) {k : Nat} (h : 0 < k) : dcut xs none (some (-(k : Int))) = xs.take (xs.length - k) := by
  unfold dcut
  rw [HT.sIx_none, sIx_neg _ _ h, List.drop_zero, Nat.sub_zero]
theorem dcut_last {α : Type} (xs : List α) {k : Nat} (h : 0 < k) : dcut xs (some (-(k : Int))) none = xs.drop (xs.length - k) := by
  unfold dcut
  rw [HT.sIx_none, sIx_neg _ _ h, List.take_of_length_le (by rw [List.length_drop]; exact Nat.le_refl _)]
theorem dcut_init1 {α : Type} (xs : List α) (x : α) : dcut (xs ++ [x]) none (some (-1)) = xs := by
  have h := dcut_init (xs ++ [x]) (k := 1) (by decide)
  rw [List.length_append, List.length_singleton, Nat.add_sub_cancel, List.take_left'] at h
  · exact h
  · rfl
theorem cutS_tl (z : Str) (lo hi : Option Int) : (cutS z lo hi).cps.toList = dcut z.cps.toList lo hi := by
  unfold cutS dcut
  rw [TL.len_tl]
theorem cutS_take3 (h z : Str) (hz : z.length = 3) : cutS (h ++ z) none (some (-3)) = h := by
  refine TL.ext_tl ?_
  show (cutS (h ++ z) none (some (-3))).cps.toList = TL.tl h
  rw [cutS_tl]
  have e := dcut_init ((h ++ z).cps.toList) (k := 3) (by decide)
  have e2 : (h ++ z).cps.toList = TL.tl h ++ TL.tl z := TL.tl_append h z
  rw [e2] at e ⊢
  rw [show (some (-3) : Option Int) = some (-((3 : Nat) : Int)) from rfl, e, List.length_append, ← TL.len_tl z, hz, Nat.add_sub_cancel, List.take_left']
  rfl
theorem cutS_drop3 (h z : Str) (hz : z.length = 3) : cutS (h ++ z) (some (-3)) none = z := by
  refine TL.ext_tl ?_
  show (cutS (h ++ z) (some (-3)) none).cps.toList = TL.tl z
  rw [cutS_tl]
  have e := dcut_last ((h ++ z).cps.toList) (k := 3) (by decide)
  have e2 : (h ++ z).cps.toList = TL.tl h ++ TL.tl z := TL.tl_append h z
  rw [e2] at e ⊢
  rw [show (some (-3) : Option Int) = some (-((3 : Nat) : Int)) from rfl, e, List.length_append, ← TL.len_tl z, hz, Nat.add_sub_cancel, List.drop_left']
  rfl
theorem cutS_take1 (h z : Str) (hz : z.length = 1) : cutS (h ++ z) none (some (-1)) = h := by
  refine TL.ext_tl ?_
  show (cutS (h ++ z) none (some (-1))).cps.toList = TL.tl h
  rw [cutS_tl]
  have e := dcut_init ((h ++ z).cps.toList) (k := 1) (by decide)
  have e2 : (h ++ z).cps.toList = TL.tl h ++ TL.tl z := TL.tl_append h z
  rw [e2] at e ⊢
  rw [show (some (-1) : Option Int) = some (-((1 : Nat) : Int)) from rfl, e, List.length_append, ← TL.len_tl z, hz, Nat.add_sub_cancel, List.take_left']
  rfl
theorem atI_at {α : Type} {xs : List α} {i : Int} {v : α} (h0 : 0 ≤ i) (h : xs[i.toNat]? = some v) : atI xs i = some v := by
  obtain ⟨n, rfl⟩ := Int.eq_ofNat_of_zero_le h0
  exact atI_nat (by simpa using h)
theorem ix_str {x : Str} {i : Int} {c : Nat} (h0 : 0 ≤ i) (h : x.cps.toList[i.toNat]? = some c) (p : List Int) : ixD (.str x) (.int i) p = some (.str ⟨#[c]⟩) := by
  show (atI x.cps.toList i).map _ = _
  rw [atI_at h0 h]
  rfl
theorem ix_lst {xs : List D} {i : Int} {d : D} (h0 : 0 ≤ i) (h : xs[i.toNat]? = some d) (p : List Int) : ixD (.lst xs) (.int i) p = some d := atI_at h0 h
theorem ix_tup {xs : List D} {i : Int} {d : D} (h0 : 0 ≤ i) (h : xs[i.toNat]? = some d) (p : List Int) : ixD (.tup xs) (.int i) p = some d := atI_at h0 h
theorem ix_lstS {xs : List Str} {i : Int} {d : Str} (h0 : 0 ≤ i) (h : xs[i.toNat]? = some d) (p : List Int) : ixD (.lst (xs.map .str)) (.int i) p = some (.str d) := ix_lst h0 (by rw [List.getElem?_map, h]; rfl) p
theorem ix_lastT (xs : List Str) (x : Str) (p : List Int) : ixD (.tup ((xs ++ [x]).map .str)) (.int (-1)) p = some (.str x) := by
  rw [List.map_append]
  exact atI_last _ _
theorem ix_lastL (xs : List Str) (x : Str) (p : List Int) : ixD (.lst ((xs ++ [x]).map .str)) (.int (-1)) p = some (.str x) := by
  rw [List.map_append]
  exact atI_last _ _
/-! # Built-in words -/
theorem ev_all {bs : List Bool} : dAll [.lst (bs.map .bl)] = some (.bl (bs.all id)) := by
  show (asBls (bs.map .bl)).map _ = _
  rw [asBls_map]
  rfl
theorem ev_any {bs : List Bool} : dAny [.lst (bs.map .bl)] = some (.bl (bs.any id)) := by
  show (asBls (bs.map .bl)).map _ = _
  rw [asBls_map]
  rfl
theorem np_str (x : Str) : np (.str x) = true := by simp [np]
@[simp] theorem nps_strs : ∀ xs : List Str, nps (xs.map .str) = true
  | [] => by simp [nps]
  | x :: xs => by rw [List.map_cons, nps, nps_strs xs]; simp [np]
theorem lcGo_map {α : Type} {mg : D → Ev → Option Ev} {mt : MB} {me : M} {r0 : Ev} {p : List Int} (g : α → D) (t : α → Bool) (f : α → D) : ∀ {xs : List α}, (∀ x ∈ xs, ∃ r1, mg (g x) r0 = some r1 ∧ mt r1 p = some (t x, p) ∧ (t x = true → me r1 p = some (f x, p))) → lcGo mg mt me r0 (xs.map g) p = some ((xs.filter t).map f, p)
  | [], _ => rfl
  | x :: xs, h => by
    obtain ⟨r1, e1, e2, e3⟩ := h x List.mem_cons_self
    have ih := lcGo_map g t f (xs := xs) fun d hd => h d (List.mem_cons_of_mem _ hd)
    rw [List.map_cons]
    unfold lcGo
    simp only [e1, e2, bnd]
    cases ht : t x with
    | true => simp only [if_true, e3 ht, ih, List.filter_cons, ht, List.map_cons]
    | false => simp [ih, List.filter_cons, ht]
theorem lcGo_all {α : Type} {mg : D → Ev → Option Ev} {me : M} {mt : MB} {r0 : Ev} {p : List Int} (g : α → D) (f : α → D) {xs : List α} (h : ∀ x ∈ xs, ∃ r1, mg (g x) r0 = some r1 ∧ mt r1 p = some (true, p) ∧ me r1 p = some (f x, p)) : lcGo mg mt me r0 (xs.map g) p = some (xs.map f, p) := by
  have := lcGo_map (mg := mg) (mt := mt) (me := me) (r0 := r0) (p := p) g (fun _ => true) f (xs := xs) fun x hx => by
    obtain ⟨r1, a, b, c⟩ := h x hx
    exact ⟨r1, a, b, fun _ => c⟩
  rwa [List.filter_eq_self.mpr fun _ _ => rfl] at this
theorem Wp.eq {α : Type} {x : MR α} {d : α} {p : List Int} (h : Wp x fun a q => a = d ∧ q = p) : x = some (d, p) := by
  obtain ⟨a, q, e, rfl, rfl⟩ := h
  exact e
theorem ev_inC {c : Nat} {z : Str} : dIn (.str ⟨#[c]⟩) (.str z) = some (.bl (decide (c ∈ z.cps.toList))) := rfl
theorem ev_all_map {α : Type} {f : α → Bool} {xs : List α} : dAll [.lst (xs.map fun x => .bl (f x))] = some (.bl (xs.all f)) := by
  have e : (xs.map fun x => D.bl (f x)) = (xs.map f).map .bl := by rw [List.map_map]; rfl
  rw [e, ev_all, List.all_map]
  rfl
theorem ev_any_map {α : Type} {f : α → Bool} {xs : List α} : dAny [.lst (xs.map fun x => .bl (f x))] = some (.bl (xs.any f)) := by
  have e : (xs.map fun x => D.bl (f x)) = (xs.map f).map .bl := by rw [List.map_map]; rfl
  rw [e, ev_any, List.any_map]
  rfl
/-- enumerate's items from a number on -/
def enumF {α : Type} (f : α → D) (k : Nat) : List α → List D
  | [] => []
  | x :: xs => .tup [.int (k : Nat), f x] :: enumF f (k + 1) xs
theorem enumD_map {α : Type} (f : α → D) (xs : List α) : enumD (xs.map f) = enumF f 0 xs := by
  have key : ∀ (xs : List α) (k : Nat), ((xs.map f).zipIdx k).map (fun x : D × Nat => D.tup [.int (x.2 : Nat), x.1]) = enumF f k xs := by
    intro xs
    induction xs with
    | nil => intro k; rfl
    | cons x xs ih =>
      intro k
      rw [List.map_cons, List.zipIdx_cons, List.map_cons, ih (k + 1)]
      rfl
  exact key xs 0
theorem bl_i {c : Bool} {P : Bool → Prop} (h : P c) : ∃ b, D.bl c = .bl b ∧ P b := ⟨c, rfl, h⟩
theorem int_i {c : Int} {P : Int → Prop} (h : P c) : ∃ b, D.int c = .int b ∧ P b := ⟨c, rfl, h⟩
theorem tru_bl {c : Bool} {P : Bool → Prop} (h : P c) : ∃ b, dTru (.bl c) = some b ∧ P b := ⟨c, rfl, h⟩
theorem neg_i {c : Int} {P : D → Prop} (h : P (.int (-c))) : ∃ z, dNeg (.int c) = some z ∧ P z := ⟨_, rfl, h⟩
theorem len_l {xs : List D} {P : D → Prop} (h : P (.int xs.length)) : ∃ z, dLen [.lst xs] = some z ∧ P z := ⟨_, rfl, h⟩
theorem len_t {xs : List D} {P : D → Prop} (h : P (.int xs.length)) : ∃ z, dLen [.tup xs] = some z ∧ P z := ⟨_, rfl, h⟩
theorem tup_l {xs : List D} {P : D → Prop} (h : P (.tup xs)) : ∃ z, dTuple [.lst xs] = some z ∧ P z := ⟨_, rfl, h⟩
theorem it_l {xs : List D} {P : List D → Prop} (h : P xs) : ∃ z, itemsOf (.lst xs) = some z ∧ P z := ⟨_, rfl, h⟩
theorem it_t {xs : List D} {P : List D → Prop} (h : P xs) : ∃ z, itemsOf (.tup xs) = some z ∧ P z := ⟨_, rfl, h⟩
theorem ev_inTL1 {a : Str} {xs : List (List Str)} : dIn (.tup [.str a]) (.lst (xs.map TS)) = some (.bl (decide ([a] ∈ xs))) := ev_inTL (a := [a])
theorem ev_ninTL1 {a : Str} {xs : List (List Str)} : dNotIn (.tup [.str a]) (.lst (xs.map TS)) = some (.bl (!decide ([a] ∈ xs))) := ev_ninTL (a := [a])
theorem ev_ninTL0 {xs : List (List Str)} : dNotIn (.tup []) (.lst (xs.map TS)) = some (.bl (!decide ([] ∈ xs))) := ev_ninTL (a := [])
theorem sl_take1 {xs : List Str} : dSl (.tup (xs.map .str)) none (some 1) = some (.tup ((xs.take 1).map .str)) := by
  show some (D.tup (dcut (xs.map D.str) none (some 1))) = _
  rw [dcut_take _ (by decide), List.map_take]
  rfl
theorem sl_drop1 {xs : List Str} : dSl (.tup (xs.map .str)) (some 1) none = some (.tup ((xs.drop 1).map .str)) := by
  show some (D.tup (dcut (xs.map D.str) (some 1) none)) = _
  rw [dcut_drop _ (by decide), List.map_drop]
  rfl
theorem sl_takeN {xs : List Str} {i : Int} (h : 0 ≤ i) : dSl (.tup (xs.map .str)) none (some i) = some (.tup ((xs.take i.toNat).map .str)) := by
  show some (D.tup (dcut (xs.map D.str) none (some i))) = _
  rw [dcut_take _ h, List.map_take]
theorem sl_takeL {α : Type} (f : α → D) {xs : List α} {i : Int} (h : 0 ≤ i) : dSl (.lst (xs.map f)) none (some i) = some (.lst ((xs.take i.toNat).map f)) := by
  show some (D.lst (dcut (xs.map f) none (some i))) = _
  rw [dcut_take _ h, List.map_take]
theorem sl_dropL {α : Type} (f : α → D) {xs : List α} {i : Int} (h : 0 ≤ i) : dSl (.lst (xs.map f)) (some i) none = some (.lst ((xs.drop i.toNat).map f)) := by
  show some (D.lst (dcut (xs.map f) (some i) none)) = _
  rw [dcut_drop _ h, List.map_drop]
theorem ev_addL {a b : List D} (h : a.length + b.length ≤ lim) : dAdd (.lst a) (.lst b) = some (.lst (a ++ b)) := if_pos h
theorem ev_addT {a b : List D} (h : a.length + b.length ≤ lim) : dAdd (.tup a) (.tup b) = some (.tup (a ++ b)) := if_pos h
theorem ev_addS {a b : Str} (h : a.length + b.length ≤ lim) : dAdd (.str a) (.str b) = some (.str (a ++ b)) := if_pos h
theorem ev_addI {a b : Int} : dAdd (.int a) (.int b) = some (.int (a + b)) := rfl
theorem ev_subI {a b : Int} : dSub (.int a) (.int b) = some (.int (a - b)) := rfl
end Dt

namespace Tx
open PySem PySem.Spec PyProof.Rows L2 Dt
/-! # Texts: names, paths, joined names -/
def sSl : Str := "/"
def sLet : Str := "abcdefghijklmnopqrstuvwxyz"
abbrev tl (x : Str) : List Nat := x.cps.toList
structure Nm (s : Str) : Prop where
  pos : 1 ≤ s.length
  le : s.length ≤ 8
  lets : ∀ c ∈ tl s, c ∈ tl sLet
theorem let_no {c : Nat} (h : c ∈ tl sLet) : c ≠ 47 ∧ c ≠ 42 ∧ c ≠ 46 ∧ c ≠ 32 ∧ c ≠ 61 ∧ 97 ≤ c ∧ c ≤ 122 := by
  have : ∀ c ∈ tl sLet, c ≠ 47 ∧ c ≠ 42 ∧ c ≠ 46 ∧ c ≠ 32 ∧ c ≠ 61 ∧ 97 ≤ c ∧ c ≤ 122 := by decide +kernel
  exact this c h
theorem Nm.ne_nil {s : Str} (h : Nm s) : tl s ≠ [] := fun e => by
  have h1 := h.pos
  have : s.length = (tl s).length := TL.len_tl s
  rw [e] at this
  simp at this
  omega
theorem Nm.nosl {s : Str} (h : Nm s) : 47 ∉ tl s := fun z => (let_no (h.lets _ z)).1 rfl
def J (ps : List Str) : Str := Txt.join sSl ps
def noSl (s : Str) : Prop := 47 ∉ TL.tl s
theorem split_J {ps : List Str} (h : ps ≠ []) (hp : ∀ p ∈ ps, noSl p) : Txt.split (J ps) sSl = ps :=
  TL.split_join (y := sSl) (s := 47) (S := []) (by decide +kernel) (by decide +kernel) h hp
theorem J_inj {ps qs : List Str} (h : ps ≠ []) (hp : ∀ p ∈ ps, noSl p) (h' : qs ≠ []) (hq : ∀ p ∈ qs, noSl p) (e : J ps = J qs) : ps = qs := by
  rw [← split_J h hp, ← split_J h' hq, e]
theorem len_sl : sSl.length = 1 := by decide +kernel
/-- short names, few of them -/
structure Sml (n : Nat) (ps : List Str) : Prop where
  cnt : ps.length ≤ n
  ech : ∀ s ∈ ps, s.length ≤ 8
theorem sum_le {α : Type} (f : α → Nat) (b : Nat) : ∀ l : List α, (∀ x ∈ l, f x ≤ b) → (l.map f).sum ≤ l.length * b
  | [], _ => by simp
  | x :: l, h => by
    have h1 := h x List.mem_cons_self
    have h2 := sum_le f b l fun y hy => h y (List.mem_cons_of_mem _ hy)
    rw [List.map_cons, List.sum_cons, List.length_cons, Nat.add_mul, Nat.one_mul]
    omega
theorem Sml.sz {n : Nat} {ps : List Str} (h : Sml n ps) (hn : n ≤ 100000) : joinSz sSl ps ≤ lim := by
  unfold joinSz
  have h1 := sum_le (·.length) 8 ps h.ech
  have h2 := h.cnt
  rw [len_sl]
  unfold lim
  have : ps.length * 8 ≤ 100000 * 8 := Nat.mul_le_mul_right 8 (by omega)
  omega
theorem Sml.len {n : Nat} {ps : List Str} (h : Sml n ps) (hn : n ≤ 100000) : (J ps).length ≤ lim := by
  have h1 := h.sz hn
  have h2 := joinLen sSl ps
  unfold J
  rw [TL.join_eq]
  omega
theorem J_snoc {ps : List Str} (h : ps ≠ []) (x : Str) : J (ps ++ [x]) = J ps ++ sSl ++ x := by
  unfold J
  rw [TL.join_eq, TL.join_eq]
  refine TL.ext_tl ?_
  rw [TL.tl_join, TL.tl_append, TL.tl_append, TL.tl_join]
  induction ps with
  | nil => exact absurd rfl h
  | cons p ps ih =>
    cases ps with
    | nil => simp [TL.joinL]
    | cons q qs =>
      have ih := ih (by simp)
      simp only [List.cons_append, List.map_cons, TL.joinL] at ih ⊢
      rw [ih]
      simp
theorem J_one (x : Str) : J [x] = x := by
  unfold J
  rw [TL.join_eq]
  rfl

/-! # Paths -/
structure PsOk (ps : List Str) : Prop where
  ne : ps ≠ []
  le : ps.length ≤ 3
  nm : ∀ n ∈ ps, Nm n
def Pth (s : Str) : Prop := ∃ ps, PsOk ps ∧ s = J ps
theorem PsOk.nosl {ps : List Str} (h : PsOk ps) : ∀ p ∈ ps, noSl p := fun p hp => (h.nm p hp).nosl
theorem PsOk.sml {ps : List Str} (h : PsOk ps) : Sml 3 ps := ⟨h.le, fun s hs => (h.nm s hs).le⟩
theorem PsOk.split {ps : List Str} (h : PsOk ps) : Txt.split (J ps) sSl = ps := split_J h.ne h.nosl
theorem PsOk.len {ps : List Str} (h : PsOk ps) : (J ps).length ≤ 27 := by
  have h2 := joinLen sSl ps
  have h3 : joinSz sSl ps ≤ 27 := by
    unfold joinSz
    have h1 := sum_le (·.length) 8 ps fun s hs => (h.nm s hs).le
    have h4 := h.le
    rw [len_sl]
    omega
  unfold J
  rw [TL.join_eq]
  omega
theorem Pth.len {s : Str} (h : Pth s) : s.length ≤ 27 := by
  obtain ⟨ps, h1, rfl⟩ := h
  exact h1.len
theorem mem_joinL {S : List Nat} {c : Nat} : ∀ {ls : List (List Nat)}, c ∈ TL.joinL S ls → c ∈ S ∨ ∃ l ∈ ls, c ∈ l
  | [], h => by cases h
  | [l], h => .inr ⟨l, by simp, h⟩
  | l :: l2 :: ls, h => by
    have h : c ∈ l ++ (S ++ TL.joinL S (l2 :: ls)) := by simpa [TL.joinL] using h
    rcases List.mem_append.mp h with h | h
    · exact .inr ⟨l, by simp, h⟩
    · rcases List.mem_append.mp h with h | h
      · exact .inl h
      · rcases mem_joinL h with h | ⟨l', h1, h2⟩
        · exact .inl h
        · exact .inr ⟨l', List.mem_cons_of_mem _ h1, h2⟩
theorem Pth.chars {s : Str} (h : Pth s) : ∀ c ∈ tl s, c ∈ tl sLet ∨ c = 47 := by
  obtain ⟨ps, h1, rfl⟩ := h
  intro c hc
  have e : tl (J ps) = TL.joinL (tl sSl) (ps.map tl) := by
    unfold J
    rw [TL.join_eq]
    exact TL.tl_join sSl ps
  rw [e] at hc
  rcases mem_joinL hc with h | ⟨l, h2, h3⟩
  · have : tl sSl = [47] := by decide +kernel
    rw [this] at h
    exact .inr (List.mem_singleton.mp h)
  · obtain ⟨w, hw, rfl⟩ := List.mem_map.mp h2
    exact .inl ((h1.nm w hw).lets c h3)
theorem Pth.no {s : Str} (h : Pth s) : 32 ∉ tl s ∧ 61 ∉ tl s := by
  refine ⟨fun z => ?_, fun z => ?_⟩
  · rcases h.chars _ z with e | e
    · exact (let_no e).2.2.2.1 rfl
    · cases e
  · rcases h.chars _ z with e | e
    · exact (let_no e).2.2.2.2.1 rfl
    · cases e
/-- the last name may be another one -/
theorem J_pre (init : List Str) : ∃ pre : Str, ∀ l, J (init ++ [l]) = pre ++ l := by
  by_cases h : init = []
  · subst h
    refine ⟨"", fun l => ?_⟩
    rw [List.nil_append, J_one]
    exact TL.ext_tl (by rw [TL.tl_append]; rfl)
  · exact ⟨J init ++ sSl, fun l => J_snoc h l⟩
theorem app_assoc (a b c : Str) : a ++ b ++ c = a ++ (b ++ c) := TL.ext_tl (by rw [TL.tl_append, TL.tl_append, TL.tl_append, TL.tl_append, List.append_assoc])
theorem Pth.snoc {p : List Str} {n : Str} (h : PsOk p) (h2 : p.length ≤ 2) (hn : Nm n) : PsOk (p ++ [n]) ∧ J (p ++ [n]) = J p ++ sSl ++ n := by
  refine ⟨⟨by simp, by rw [List.length_append, List.length_singleton]; omega, fun s hs => ?_⟩, J_snoc h.ne n⟩
  rcases List.mem_append.mp hs with h1 | h1
  · exact h.nm s h1
  · rw [List.mem_singleton.mp h1]; exact hn
theorem PsOk.last {ps : List Str} (h : PsOk ps) : ∃ init l, ps = init ++ [l] := ⟨ps.dropLast, ps.getLast h.ne, (List.dropLast_concat_getLast h.ne).symm⟩
theorem PsOk.relast {init : List Str} {l m : Str} (h : PsOk (init ++ [l])) (hm : Nm m) : PsOk (init ++ [m]) := by
  refine ⟨by simp, by have := h.le; simpa using this, fun s hs => ?_⟩
  rcases List.mem_append.mp hs with h1 | h1
  · exact h.nm s (List.mem_append_left _ h1)
  · rw [List.mem_singleton.mp h1]; exact hm
/-! # Letters, drawn names -/
def lt1 (k : Nat) : Str := ⟨#[97 + k]⟩
theorem lt1_tl (k : Nat) : tl (lt1 k) = [97 + k] := rfl
theorem let_at {k : Nat} (h : k < 26) : (tl sLet)[k]? = some (97 + k) := by
  have : ∀ k : Fin 26, (tl sLet)[k.val]? = some (97 + k.val) := by decide +kernel
  exact this ⟨k, h⟩
theorem lt1_nm {k : Nat} (h : k < 26) : Nm (lt1 k) where
  pos := by show 1 ≤ 1; decide
  le := by show 1 ≤ 8; decide
  lets := fun c hc => by
    rw [lt1_tl] at hc
    rw [List.mem_singleton.mp hc]
    exact List.mem_of_getElem? (let_at h)
theorem mem_joinL0 {c : Nat} : ∀ {ls : List (List Nat)}, c ∈ TL.joinL [] ls → ∃ l ∈ ls, c ∈ l
  | [], h => by cases h
  | [l], h => ⟨l, by simp, h⟩
  | l :: l2 :: ls, h => by
    have h : c ∈ l ++ ([] ++ TL.joinL [] (l2 :: ls)) := h
    rw [List.nil_append] at h
    rcases List.mem_append.mp h with h | h
    · exact ⟨l, by simp, h⟩
    · obtain ⟨l', h1, h2⟩ := mem_joinL0 h
      exact ⟨l', List.mem_cons_of_mem _ h1, h2⟩
def sEm : Str := ""
structure GoodW (ws : List Str) : Prop where
  ne : ws ≠ []
  nm : ∀ s ∈ ws, Nm s
  ln : ws.length ≤ 3
def nmB (s : Str) : Bool := decide (1 ≤ s.length) && decide (s.length ≤ 8) && (tl s).all fun c => decide (c ∈ tl sLet)
def goodB (ws : List Str) : Bool := decide (ws ≠ []) && ws.all nmB && decide (ws.length ≤ 3)
theorem good_of {ws : List Str} (h : goodB ws = true) : GoodW ws := by
  unfold goodB at h
  rw [Bool.and_eq_true, Bool.and_eq_true] at h
  refine ⟨of_decide_eq_true h.1.1, fun s hs => ?_, of_decide_eq_true h.2⟩
  have h2 := List.all_eq_true.mp h.1.2 s hs
  unfold nmB at h2
  rw [Bool.and_eq_true, Bool.and_eq_true] at h2
  exact ⟨of_decide_eq_true h2.1.1, of_decide_eq_true h2.1.2, fun c hc => of_decide_eq_true (List.all_eq_true.mp h2.2 c hc)⟩
theorem join1 {ws : List Str} (h : ∀ w ∈ ws, w.length ≤ 1) (hn : ws.length ≤ 7) (hA : ∀ w ∈ ws, ∀ c ∈ tl w, c ∈ tl sLet) : ∃ z, dJoin (.str "") [.lst (ws.map .str)] = some (.str z) ∧ z.length ≤ 7 ∧ ∀ c ∈ tl z, c ∈ tl sLet := by
  have hz : joinSz sEm ws ≤ 7 := by
    unfold joinSz
    have h1 := sum_le (·.length) 1 ws h
    have h2 : sEm.length = 0 := by decide +kernel
    rw [h2, Nat.mul_zero, Nat.add_zero]
    omega
  refine ⟨Txt.join sEm ws, ?_, ?_, ?_⟩
  · show (match asStrs (ws.map D.str) with | some ys => if joinSz sEm ys ≤ lim then some (D.str (Txt.join sEm ys)) else none | none => none) = _
    rw [asStrs_map]
    refine if_pos ?_
    unfold lim
    omega
  · have := joinLen sEm ws
    rw [TL.join_eq]
    omega
  · intro c hc
    have e : tl (Txt.join sEm ws) = TL.joinL [] (ws.map tl) := by
      rw [TL.join_eq]
      exact TL.tl_join sEm ws
    rw [e] at hc
    obtain ⟨l, h1, h2⟩ := mem_joinL0 hc
    obtain ⟨w, hw, rfl⟩ := List.mem_map.mp h1
    exact hA w hw c h2
/-! # A key under a path -/
def under (k p : Str) : Bool := decide (k = p) || decide ((tl k).take (p.length + 1) = tl p ++ [47])
theorem str_beq_iff {a b : Str} : (a = b) ↔ tl a = tl b := ⟨fun h => by rw [h], fun h => TL.ext_tl h⟩
theorem dec_iff {p q : Prop} [Decidable p] [Decidable q] (h : p ↔ q) : decide p = decide q := by
  by_cases hp : p
  · rw [decide_eq_true hp, decide_eq_true (h.mp hp)]
  · rw [decide_eq_false hp, decide_eq_false fun z => hp (h.mpr z)]
theorem tl_sl : tl sSl = [47] := by decide +kernel
theorem starts_eq (k p : Str) : Txt.startswith k (p ++ "/") = decide ((tl k).take (p.length + 1) = tl p ++ [47]) := by
  have hl : (p ++ "/" : Str).length = p.length + 1 := by rw [str_app_len]; rfl
  have ht : tl (p ++ "/" : Str) = tl p ++ [47] := TL.tl_append _ _
  unfold Txt.startswith
  rw [hl]
  unfold Builtin.Str.subAt
  rw [hl, Nat.zero_add]
  have e : (k.cps.extract 0 (p.length + 1)).toList = (tl k).take (p.length + 1) := by simp
  by_cases h : (tl k).take (p.length + 1) = tl p ++ [47]
  · rw [decide_eq_true h]
    have h1 : p.length + 1 ≤ k.length := by
      have := congrArg List.length h
      rw [List.length_take, List.length_append, List.length_singleton, ← TL.len_tl, ← TL.len_tl] at this
      omega
    have h2 : k.cps.extract 0 (p.length + 1) = (p ++ "/" : Str).cps := Array.toList_inj.mp (by rw [e, h]; exact ht.symm)
    rw [h2]
    simp [h1]
  · rw [decide_eq_false h, Bool.and_eq_false_iff]
    refine .inr ?_
    rw [beq_eq_false_iff_ne]
    intro z
    refine h ?_
    rw [← e, z]
    exact ht
end Tx

namespace Tx
open PySem PySem.Spec PyProof.Rows L2 Dt
/-! # Dicts of texts and integers; their rows -/
def fK (q : Str × Int) : Key × D := (Sum.inr q.1, .int q.2)
abbrev box (qs : List (Str × Int)) : D := dkv (qs.map fK)
theorem putG_fK (acc : List (Str × Int)) (q : Str × Int) : putG (acc.map fK) (fK q).1 (fK q).2 = (putG acc q.1 q.2).map fK := by
  unfold putG
  have e : (acc.map fK).any (fun x => decide (x.1 = (fK q).1)) = acc.any fun x => decide (x.1 = q.1) := by
    rw [List.any_map]
    congr 1
    funext x
    show decide ((Sum.inr x.1 : Key) = Sum.inr q.1) = _
    exact dec_iff ⟨fun h => by injection h, fun h => by rw [h]⟩
  rw [e]
  split
  · rw [List.map_map, List.map_map]
    refine List.map_congr_left fun x _ => ?_
    show (if (Sum.inr x.1 : Key) = Sum.inr q.1 then ((Sum.inr x.1 : Key), (fK q).2) else fK x) = fK (if x.1 = q.1 then (x.1, q.2) else x)
    by_cases h : x.1 = q.1
    · rw [if_pos h, if_pos (by rw [h])]; rfl
    · rw [if_neg h, if_neg (fun z => h (by injection z))]
  · rw [List.map_append]
    rfl
theorem mergeG_fK : ∀ (l acc : List (Str × Int)), mergeG (acc.map fK) (l.map fK) = (mergeG acc l).map fK
  | [], _ => rfl
  | q :: l, acc => by
    rw [List.map_cons]
    show mergeG (putG (acc.map fK) (fK q).1 (fK q).2) (l.map fK) = (mergeG (putG acc q.1 q.2) l).map fK
    rw [putG_fK, mergeG_fK l]
section
variable {κ α : Type} [DecidableEq κ]
theorem putG_keys {acc : List (κ × α)} {k : κ} {v : α} (h : (acc.any fun q => decide (q.1 = k)) = true) : (acc.map fun q => if q.1 = k then (q.1, v) else q).map (·.1) = acc.map (·.1) := by
  rw [List.map_map]
  refine List.map_congr_left fun q _ => ?_
  show (if q.1 = k then (q.1, v) else q).1 = q.1
  split <;> rfl
theorem putG_mem_key {acc : List (κ × α)} {k : κ} {v : α} (j : κ) : j ∈ (putG acc k v).map (·.1) ↔ j ∈ acc.map (·.1) ∨ j = k := by
  unfold putG
  split
  · rename_i h
    rw [putG_keys h]
    constructor
    · exact .inl
    · rintro (h1 | rfl)
      · exact h1
      · obtain ⟨q, hq, e⟩ := List.any_eq_true.mp h
        exact List.mem_map.mpr ⟨q, hq, of_decide_eq_true e⟩
  · simp
theorem putG_nd {acc : List (κ × α)} {k : κ} {v : α} (h : (acc.map (·.1)).Nodup) : ((putG acc k v).map (·.1)).Nodup := by
  unfold putG
  split
  · rename_i hh
    rw [putG_keys hh]
    exact h
  · rename_i hh
    rw [List.map_append, List.nodup_append]
    refine ⟨h, by simp, fun a ha b hb => ?_⟩
    have hb : b = k := by simpa using hb
    subst hb
    intro e
    subst e
    obtain ⟨q, hq, e⟩ := List.mem_map.mp ha
    exact hh (List.any_eq_true.mpr ⟨q, hq, decide_eq_true e⟩)
theorem putG_mem {acc : List (κ × α)} {k : κ} {v : α} {q : κ × α} (h : q ∈ putG acc k v) : q ∈ acc ∨ q = (k, v) := by
  unfold putG at h
  split at h
  · obtain ⟨x, hx, rfl⟩ := List.mem_map.mp h
    split
    · rename_i e
      exact .inr (by rw [e])
    · exact .inl hx
  · rcases List.mem_append.mp h with h | h
    · exact .inl h
    · exact .inr (List.mem_singleton.mp h)
theorem mergeG_all : ∀ (l acc : List (κ × α)), (acc.map (·.1)).Nodup → ((mergeG acc l).map (·.1)).Nodup ∧ (∀ j, j ∈ (mergeG acc l).map (·.1) ↔ j ∈ acc.map (·.1) ∨ j ∈ l.map (·.1)) ∧ ∀ q ∈ mergeG acc l, q ∈ acc ∨ q ∈ l
  | [], acc, h => ⟨h, fun j => by simp [mergeG], fun q hq => .inl hq⟩
  | x :: l, acc, h => by
    obtain ⟨h1, h2, h3⟩ := mergeG_all l (putG acc x.1 x.2) (putG_nd h)
    refine ⟨h1, fun j => ?_, fun q hq => ?_⟩
    · show j ∈ (mergeG (putG acc x.1 x.2) l).map (·.1) ↔ _
      rw [h2, putG_mem_key, List.map_cons, List.mem_cons]
      constructor
      · rintro ((h | h) | h)
        · exact .inl h
        · exact .inr (.inl h)
        · exact .inr (.inr h)
      · rintro (h | h | h)
        · exact .inl (.inl h)
        · exact .inl (.inr h)
        · exact .inr h
    · rcases h3 q hq with h | h
      · rcases putG_mem h with h | h
        · exact .inl h
        · exact .inr (by rw [h]; exact List.mem_cons_self)
      · exact .inr (List.mem_cons_of_mem _ h)
theorem mergeG_new : ∀ (l acc : List (κ × α)), ((acc ++ l).map (·.1)).Nodup → mergeG acc l = acc ++ l
  | [], acc, _ => by simp [mergeG]
  | x :: l, acc, h => by
    show mergeG (putG acc x.1 x.2) l = _
    have hx : putG acc x.1 x.2 = acc ++ [x] := by
      unfold putG
      refine if_neg fun z => ?_
      obtain ⟨q, hq, e⟩ := List.any_eq_true.mp z
      rw [List.map_append, List.nodup_append] at h
      exact h.2.2 q.1 (List.mem_map.mpr ⟨q, hq, rfl⟩) x.1 (by simp) (of_decide_eq_true e)
    rw [hx, mergeG_new l (acc ++ [x]) (by rw [List.append_assoc]; exact h), List.append_assoc]
    rfl
end
theorem mem_fK (qs : List (Str × Int)) : itemsD (box qs) = some (qs.map fK) := by
  show some (((qs.map fK).map (·.1)).zip ((qs.map fK).map (·.2))) = _
  rw [zip_pairs]
theorem asSI_fK (qs : List (Str × Int)) : (itemsD (box qs)).bind asSI = some qs := by
  rw [mem_fK]
  exact asSI_map qs
theorem asKV_dPr : ∀ qs : List (Str × Int), asKV (qs.map dPr) = some (qs.map fK)
  | [] => rfl
  | q :: qs => by
    rw [List.map_cons, List.map_cons]
    unfold asKV
    rw [asKV_dPr qs]
    rfl
theorem dict_rows {qs : List (Str × Int)} (h : (qs.map (·.1)).Nodup) : dDict [.lst (qs.map dPr)] = some (box qs) := by
  show (asKV (qs.map dPr)).map (fun m => dkv (mergeG [] m)) = _
  rw [asKV_dPr]
  show some (dkv (mergeG ([] : List (Key × D)) (qs.map fK))) = _
  have e : mergeG ([] : List (Key × D)) (qs.map fK) = (mergeG [] qs).map fK := mergeG_fK qs []
  rw [e, mergeG_new qs [] (by simpa using h)]
  rfl
/-- a dict of any pairs -/
theorem dict_any (qs : List (Str × Int)) : dDict [.lst (qs.map dPr)] = some (box (mergeG [] qs)) := by
  show (asKV (qs.map dPr)).map (fun m => dkv (mergeG [] m)) = _
  rw [asKV_dPr]
  show some (dkv (mergeG ([] : List (Key × D)) (qs.map fK))) = _
  have e : mergeG ([] : List (Key × D)) (qs.map fK) = (mergeG [] qs).map fK := mergeG_fK qs []
  rw [e]
theorem psort_perm (qs : List (Str × Int)) : (psort qs).Perm qs := List.mergeSort_perm qs lexLe
theorem psort_asc {qs : List (Str × Int)} (h : (qs.map (·.1)).Nodup) : (psort qs).Pairwise fun a b => sLt a.1 b.1 = true := by
  have hs : (psort qs).Pairwise fun a b => lexLe a b = true := List.pairwise_mergeSort lexLe_trans lexLe_total qs
  have hn : ((psort qs).map (·.1)).Nodup := ((psort_perm qs).map _).nodup_iff.mpr h
  rw [List.nodup_iff_pairwise_ne, List.pairwise_map] at hn
  refine (hs.and hn).imp fun {a b} ⟨h1, h2⟩ => ?_
  unfold lexLe at h1
  rw [Bool.not_eq_true', lexS_iff] at h1
  rcases h1 with ⟨e, _⟩ | ⟨_, h1⟩
  · exact absurd e.symm h2
  · unfold sLt
    refine decide_eq_true ?_
    rcases List.le_iff_lt_or_eq.mp h1 with h3 | h3
    · exact h3
    · exact absurd (str_cps_inj h3) h2
theorem psort_nd {qs : List (Str × Int)} (h : (qs.map (·.1)).Nodup) : ((psort qs).map (·.1)).Nodup := ((psort_perm qs).map _).nodup_iff.mpr h
theorem asc_zip {α : Type} {R : α → α → Prop} : ∀ {l : List α}, l.Pairwise R → ∀ q ∈ l.zip (l.drop 1), R q.1 q.2
  | [], _, q, hq => by simp at hq
  | [x], _, q, hq => by simp at hq
  | x :: y :: l, h, q, hq => by
    rw [List.pairwise_cons] at h
    have hq : q ∈ (x, y) :: (y :: l).zip l := by simpa using hq
    rcases List.mem_cons.mp hq with rfl | hq
    · exact h.1 y List.mem_cons_self
    · exact asc_zip h.2 q (by simpa using hq)
theorem zipD_map {α : Type} (f : α → D) : ∀ (a b : List α), zipD (a.map f) (b.map f) = (a.zip b).map fun q => .tup [f q.1, f q.2]
  | [], b => by simp [zipD]
  | x :: a, [] => by simp [zipD]
  | x :: a, y :: b => by
    have := zipD_map f a b
    unfold zipD at this ⊢
    rw [List.map_cons, List.map_cons, List.zipWith_cons_cons, this]
    rfl
/-! # One row as a word -/
def dg (n : Nat) : Str := ⟨#[48 + n]⟩
def word (q : Str × Int) : Str := q.1 ++ "=" ++ dg q.2.toNat
theorem dStr_dg {n : Nat} (h : n < 10) : dStr [.int (n : Nat)] = some (.str (dg n)) := by
  have : ∀ n : Fin 10, (toString ((n.val : Nat) : Int) : Str) = dg n.val ∧ nSmall (n.val : Nat) = true := by decide +kernel
  obtain ⟨h1, h2⟩ := this ⟨n, h⟩
  show (if nSmall ((n : Nat) : Int) = true ∧ (toString ((n : Nat) : Int) : Str).length ≤ lim then some (D.str (toString ((n : Nat) : Int))) else none) = _
  rw [show (toString ((n : Nat) : Int) : Str) = dg n from h1]
  exact if_pos ⟨h2, by show 1 ≤ lim; decide⟩
structure RowOk (q : Str × Int) : Prop where
  pth : Pth q.1
  lo : 0 ≤ q.2
  hi : q.2 < 10
theorem tl_word (q : Str × Int) : tl (word q) = tl q.1 ++ [61] ++ [48 + q.2.toNat] := by
  unfold word
  rw [show tl (q.1 ++ "=" ++ dg q.2.toNat : Str) = _ from TL.tl_append _ _, show TL.tl (q.1 ++ "=" : Str) = _ from TL.tl_append _ _]
  rfl
theorem word_len {q : Str × Int} (h : RowOk q) : (word q).length ≤ 29 := by
  have := h.pth.len
  rw [TL.len_tl, show TL.tl (word q) = _ from tl_word q]
  rw [List.length_append, List.length_append, ← TL.len_tl]
  simp
  omega
theorem word_nosp {q : Str × Int} (h : RowOk q) : 32 ∉ TL.tl (word q) := fun z => by
  rw [show TL.tl (word q) = _ from tl_word q] at z
  rcases List.mem_append.mp z with z | z
  · rcases List.mem_append.mp z with z | z
    · exact h.pth.no.1 z
    · simp at z
  · have := h.lo
    have := h.hi
    have z : 32 = 48 + q.2.toNat := by simpa using z
    omega
theorem word_eq {q : Str × Int} (h : RowOk q) : 61 ∈ tl (word q) := by
  rw [tl_word]
  simp
theorem split_words {qs : List (Str × Int)} (h : ∀ q ∈ qs, RowOk q) (hne : qs ≠ []) : Txt.split (Txt.join " " (qs.map word)) " " = qs.map word :=
  TL.split_join (y := " ") (s := 32) (S := []) (by decide +kernel) (by decide +kernel) (by simpa using hne) fun p hp => by
    obtain ⟨q, hq, rfl⟩ := List.mem_map.mp hp
    exact word_nosp (h q hq)
theorem words_sz {qs : List (Str × Int)} (h : ∀ q ∈ qs, RowOk q) (hl : qs.length ≤ 1000) : joinSz " " (qs.map word) ≤ lim := by
  unfold joinSz
  have h1 := sum_le (·.length) 29 (qs.map word) fun s hs => by
    obtain ⟨q, hq, rfl⟩ := List.mem_map.mp hs
    exact word_len (h q hq)
  have e : (" " : Str).length = 1 := rfl
  rw [List.length_map] at *
  rw [e]
  unfold lim
  omega
theorem words_ne {qs : List (Str × Int)} (h : ∀ q ∈ qs, RowOk q) (hne : qs ≠ []) : Txt.join " " (qs.map word) ≠ "empty" := fun z => by
  have e := split_words h hne
  rw [z] at e
  have e2 : Txt.split ("empty" : Str) " " = [("empty" : Str)] := by
    have := TL.split_join (y := " ") (s := 32) (S := []) (by decide +kernel) (by decide +kernel) (parts := [("empty" : Str)]) (by simp) (by decide +kernel)
    rw [TL.join_eq] at this
    exact this
  rw [e2] at e
  cases qs with
  | nil => exact hne rfl
  | cons q qs =>
    rw [List.map_cons] at e
    injection e with e3 _
    have := word_eq (h q List.mem_cons_self)
    rw [← e3] at this
    revert this
    decide +kernel
end Tx

namespace K36
open PySem PySem.Spec PyProof.Rows L2 Dt Tx
local macro_rules
  | `(tactic| walk_at "VC") => `(tactic| repeat (first
        | (with_reducible refine si_seq ?_)
        | (with_reducible refine si_for ?_)
        | (with_reducible refine si_forX ?_)
        | ((with_reducible apply si_app); rfl)
        | (with_reducible refine si_pool ?_)
        | (with_reducible refine si_asg ?_)
        | (with_reducible refine si_asgV ?_)
        | (with_reducible refine si_new ?_)
        | (with_reducible refine si_drop ?_)
        | (with_reducible refine si_ret ?_)
        | (with_reducible refine si_retX ?_)
        | (with_reducible refine si_if ?_)
        | ((with_reducible apply si_aug); rfl)
        | (with_reducible refine si_par ?_)
        | (with_reducible refine si_parO ?_)
        | (with_reducible refine si_asgG ?_)
        | (with_reducible refine si_next ?_)
        | (with_reducible refine si_brk ?_)
        | (with_reducible refine si_cnt ?_)
        | (with_reducible refine si_retN ?_)
        | ((with_reducible apply si_catO); rfl)
        | (with_reducible refine si_par3 ?_)
        | ((with_reducible apply wi_var); rfl)
        | (with_reducible refine wi_c ?_)
        | (with_reducible refine wi_op ?_)
        | (with_reducible refine wi_un ?_)
        | (with_reducible refine wi_nil ?_)
        | (with_reducible refine wi_cons ?_)
        | (with_reducible refine wi_cb ?_)
        | (with_reducible refine wi_mt ?_)
        | (with_reducible refine wi_tst ?_)
        | (with_reducible refine wi_tru ?_)
        | (with_reducible refine wi_and ?_)
        | (with_reducible refine wi_or ?_)
        | (with_reducible refine wi_not ?_)
        | (with_reducible refine wi_if ?_)
        | (with_reducible refine wi_andV ?_)
        | (with_reducible refine wi_orV ?_)
        | (with_reducible refine wi_notV ?_)
        | (with_reducible refine wi_tup ?_)
        | (with_reducible refine wi_lst ?_)
        | (with_reducible refine wi_ofF ?_)
        | (with_reducible refine wi_fresh ?_)
        | (with_reducible refine wi_isi ?_)
        | (with_reducible refine wi_sl ?_)
        | (with_reducible refine wi_oNone ?_)
        | (with_reducible refine wi_oSome ?_)
        | (with_reducible refine wi_call ?_)
        | (with_reducible refine wi_callF ?_)
        | (with_reducible refine wi_items ?_)
        | (with_reducible refine wi_lc ?_)
        | (with_reducible refine wi_star ?_)
        | (with_reducible refine wi_ix ?_)
        | (with_reducible refine wi_chain ?_)
        | (with_reducible refine wi_rng1 ?_)
        | (with_reducible refine wi_rng2 ?_)
        | (with_reducible refine wi_enum ?_)
        | (with_reducible refine wi_enumT ?_)
        | (with_reducible refine wi_zip ?_)
        | (with_reducible refine wi_zipK ?_)
        | (with_reducible refine wi_yes ?_)
        | (with_reducible refine wi_enumA ?_)
        | (with_reducible refine wi_slt ?_)
        | (with_reducible refine wi_isiC ?_)
        | (with_reducible refine wi_prop ?_)
        | (with_reducible refine wi_callP ?_)
        | (with_reducible refine wi_dc ?_)
        | (with_reducible refine wi_sortIt ?_)
        | (with_reducible refine wi_listIt ?_)
        | (with_reducible refine star_l ?_)
        | (with_reducible refine star_t ?_)
        | (with_reducible refine (pr2 (x := _) (y := _)).mpr ?_)
        | (with_reducible refine ⟨_, ev_eqS, ?_⟩)
        | (with_reducible refine ⟨_, ev_neS, ?_⟩)
        | (with_reducible refine ⟨_, ev_eqI, ?_⟩)
        | (with_reducible refine ⟨_, ev_neI, ?_⟩)
        | (with_reducible refine ⟨_, ev_eqT1, ?_⟩)
        | (with_reducible refine ⟨_, ev_eqT, ?_⟩)
        | (with_reducible refine ⟨_, ev_eqL, ?_⟩)
        | (with_reducible refine ⟨_, ev_neB, ?_⟩)
        | (with_reducible refine ⟨_, ev_inL, ?_⟩)
        | (with_reducible refine ⟨_, ev_inT, ?_⟩)
        | (with_reducible refine ⟨_, ev_ninL, ?_⟩)
        | (with_reducible refine ⟨_, ev_ninT, ?_⟩)
        | (with_reducible refine ⟨_, ev_inTL1, ?_⟩)
        | (with_reducible refine ⟨_, ev_ninTL1, ?_⟩)
        | (with_reducible refine ⟨_, ev_ninTL0, ?_⟩)
        | (with_reducible refine ⟨_, ev_inTL, ?_⟩)
        | (with_reducible refine ⟨_, ev_ninTL, ?_⟩)
        | (with_reducible refine ⟨_, sl_take1, ?_⟩)
        | (with_reducible refine ⟨_, sl_drop1, ?_⟩)
        | (with_reducible refine ⟨_, ev_all_map, ?_⟩)
        | (with_reducible refine ⟨_, ev_any_map, ?_⟩)
        | (with_reducible refine ⟨_, ev_all, ?_⟩)
        | (with_reducible refine ⟨_, ev_any, ?_⟩)
        | (with_reducible refine bl_i ?_)
        | (with_reducible refine int_i ?_)
        | (with_reducible refine tru_bl ?_)
        | (with_reducible refine neg_i ?_)
        | (with_reducible refine len_l ?_)
        | (with_reducible refine len_t ?_)
        | (with_reducible refine tup_l ?_)
        | (with_reducible refine it_l ?_)
        | (with_reducible refine it_t ?_)
        | (refine ite_t (by rfl) ?_)
        | (refine ite_f (by rfl) ?_)
        | (refine ⟨_, ev_mod (by omega), ?_⟩)
        | (refine ⟨_, ev_div (by omega) (by omega), ?_⟩)
        | (refine ⟨_, ev_divmod (by omega) (by omega), ?_⟩)
        | (refine ⟨_, ev_mulR (by omega) (by omega), ?_⟩)
        | (refine ⟨_, ev_mulL (by omega) (by omega), ?_⟩)
        | (refine ⟨_, rfl, ?_⟩)
        | (exact ⟨rfl, rfl⟩)
        | (refine ⟨rfl, ?_⟩)
        | (refine ⟨by decide, ?_⟩)
        | (refine ⟨(by simp only [List.length_cons, List.length_nil, lim]; decide), ?_⟩)
        | (refine ⟨of_decide_eq_true (by rfl), ?_⟩)))
local macro_rules
  | `(tactic| walk_at "VX") => `(tactic| repeat (first
        | (with_reducible refine si_seq ?_)
        | (with_reducible refine si_for ?_)
        | (with_reducible refine si_forX ?_)
        | ((with_reducible apply si_app); rfl)
        | (with_reducible refine si_pool ?_)
        | (with_reducible refine si_asg ?_)
        | (with_reducible refine si_asgV ?_)
        | (with_reducible refine si_new ?_)
        | (with_reducible refine si_drop ?_)
        | (with_reducible refine si_ret ?_)
        | (with_reducible refine si_retX ?_)
        | (with_reducible refine si_if ?_)
        | ((with_reducible apply si_aug); rfl)
        | (with_reducible refine si_par ?_)
        | (with_reducible refine si_parO ?_)
        | (with_reducible refine si_asgG ?_)
        | (with_reducible refine si_next ?_)
        | (with_reducible refine si_brk ?_)
        | (with_reducible refine si_cnt ?_)
        | (with_reducible refine si_retN ?_)
        | ((with_reducible apply si_catO); rfl)
        | (with_reducible refine si_par3 ?_)
        | ((with_reducible apply wi_var); rfl)
        | (with_reducible refine wi_c ?_)
        | (with_reducible refine wi_op ?_)
        | (with_reducible refine wi_un ?_)
        | (with_reducible refine wi_nil ?_)
        | (with_reducible refine wi_cons ?_)
        | (with_reducible refine wi_cb ?_)
        | (with_reducible refine wi_mt ?_)
        | (with_reducible refine wi_tst ?_)
        | (with_reducible refine wi_tru ?_)
        | (with_reducible refine wi_and ?_)
        | (with_reducible refine wi_or ?_)
        | (with_reducible refine wi_not ?_)
        | (with_reducible refine wi_if ?_)
        | (with_reducible refine wi_andV ?_)
        | (with_reducible refine wi_orV ?_)
        | (with_reducible refine wi_notV ?_)
        | (with_reducible refine wi_tup ?_)
        | (with_reducible refine wi_lst ?_)
        | (with_reducible refine wi_ofF ?_)
        | (with_reducible refine wi_fresh ?_)
        | (with_reducible refine wi_isi ?_)
        | (with_reducible refine wi_sl ?_)
        | (with_reducible refine wi_oNone ?_)
        | (with_reducible refine wi_oSome ?_)
        | (with_reducible refine wi_call ?_)
        | (with_reducible refine wi_callF ?_)
        | (with_reducible refine wi_items ?_)
        | (with_reducible refine wi_lc ?_)
        | (with_reducible refine wi_star ?_)
        | (with_reducible refine wi_ix ?_)
        | (with_reducible refine wi_chain ?_)
        | (with_reducible refine wi_rng1 ?_)
        | (with_reducible refine wi_rng2 ?_)
        | (with_reducible refine wi_enum ?_)
        | (with_reducible refine wi_enumT ?_)
        | (with_reducible refine wi_zip ?_)
        | (with_reducible refine wi_zipK ?_)
        | (with_reducible refine wi_yes ?_)
        | (with_reducible refine wi_enumA ?_)
        | (with_reducible refine wi_slt ?_)
        | (with_reducible refine wi_isiC ?_)
        | (with_reducible refine wi_prop ?_)
        | (with_reducible refine wi_callP ?_)
        | (with_reducible refine wi_dc ?_)
        | (with_reducible refine wi_sortIt ?_)
        | (with_reducible refine wi_listIt ?_)
        | (with_reducible refine star_l ?_)
        | (with_reducible refine star_t ?_)
        | (with_reducible refine (pr2 (x := _) (y := _)).mpr ?_)
        | (with_reducible refine ⟨_, ev_eqS, ?_⟩)
        | (with_reducible refine ⟨_, ev_neS, ?_⟩)
        | (with_reducible refine ⟨_, ev_eqI, ?_⟩)
        | (with_reducible refine ⟨_, ev_neI, ?_⟩)
        | (with_reducible refine ⟨_, ev_eqT1, ?_⟩)
        | (with_reducible refine ⟨_, ev_eqT, ?_⟩)
        | (with_reducible refine ⟨_, ev_eqL, ?_⟩)
        | (with_reducible refine ⟨_, ev_neB, ?_⟩)
        | (with_reducible refine ⟨_, ev_inL, ?_⟩)
        | (with_reducible refine ⟨_, ev_inT, ?_⟩)
        | (with_reducible refine ⟨_, ev_ninL, ?_⟩)
        | (with_reducible refine ⟨_, ev_ninT, ?_⟩)
        | (with_reducible refine ⟨_, ev_inTL1, ?_⟩)
        | (with_reducible refine ⟨_, ev_ninTL1, ?_⟩)
        | (with_reducible refine ⟨_, ev_ninTL0, ?_⟩)
        | (with_reducible refine ⟨_, ev_inTL, ?_⟩)
        | (with_reducible refine ⟨_, ev_ninTL, ?_⟩)
        | (with_reducible refine ⟨_, sl_take1, ?_⟩)
        | (with_reducible refine ⟨_, sl_drop1, ?_⟩)
        | (with_reducible refine ⟨_, ev_all_map, ?_⟩)
        | (with_reducible refine ⟨_, ev_any_map, ?_⟩)
        | (with_reducible refine ⟨_, ev_all, ?_⟩)
        | (with_reducible refine ⟨_, ev_any, ?_⟩)
        | (with_reducible refine bl_i ?_)
        | (with_reducible refine int_i ?_)
        | (with_reducible refine tru_bl ?_)
        | (with_reducible refine neg_i ?_)
        | (with_reducible refine len_l ?_)
        | (with_reducible refine len_t ?_)
        | (with_reducible refine tup_l ?_)
        | (with_reducible refine it_l ?_)
        | (with_reducible refine it_t ?_)
        | (refine ite_t (by rfl) ?_)
        | (refine ite_f (by rfl) ?_)
        | (refine ⟨_, ev_mod (by omega), ?_⟩)
        | (refine ⟨_, ev_div (by omega) (by omega), ?_⟩)
        | (refine ⟨_, ev_divmod (by omega) (by omega), ?_⟩)
        | (refine ⟨_, ev_mulR (by omega) (by omega), ?_⟩)
        | (refine ⟨_, ev_mulL (by omega) (by omega), ?_⟩)
        | (exact ⟨rfl, rfl⟩)
        | (refine ⟨rfl, ?_⟩)
        | (refine ⟨by decide, ?_⟩)
        | (refine ⟨(by simp only [List.length_cons, List.length_nil, lim]; decide), ?_⟩)
        | (refine ⟨of_decide_eq_true (by rfl), ?_⟩)))
theorem draw_ok {n : Int} (h : 0 < n) (hn : n < 1073741824) (a b c : Int) : Wp (m__law_draw [.pool, .int n] [a, b, c]) fun d p => ∃ k a' b' c', d = .int k ∧ p = [a', b', c'] ∧ 0 ≤ k ∧ k < n := by
  unfold m__law_draw
  refine fi_run ?_
  unfold b__law_draw
  walk_at "VC"
  refine ite_b (fun h1 => ?_) fun h1 => ?_
  · walk_at "VC"
    exact ⟨_, _, _, _, rfl, rfl, Int.emod_nonneg _ (by omega), Int.emod_lt_of_pos _ h⟩
  · walk_at "VC"
    exact ⟨_, _, _, _, rfl, rfl, Int.emod_nonneg _ (by omega), Int.emod_lt_of_pos _ h⟩
theorem is_name_ok {s : Str} (h : Nm s) (p : List Int) : m_is_name [.str s] p = some (.bl true, p) := by
  refine Wp.eq ?_
  unfold m_is_name
  refine fi_run ?_
  unfold b_is_name
  walk_at "VC"
  refine ite_t (decide_eq_true (by have := h.pos; omega)) ?_
  walk_at "VC"
  refine ite_t (decide_eq_true (by have := h.le; omega)) ?_
  walk_at "VC"
  refine ⟨?_, Wp.of_eq (lcGo_all (fun c => D.str ⟨#[c]⟩) (fun c => .bl (decide (c ∈ tl sLet))) fun c hc => ⟨_, rfl, rfl, rfl⟩) ?_⟩
  · unfold chars
    rw [List.length_map, ← TL.len_tl]
    have := h.le
    unfold lim
    omega
  walk_at "VC"
  refine ⟨congrArg D.bl ?_, rfl⟩
  rw [List.all_eq_true]
  intro c hc
  exact decide_eq_true (h.lets c hc)
end K36

namespace K36
open PySem PySem.Spec PyProof.Rows L2 Dt Tx
local macro_rules
  | `(tactic| walk_at "VC") => `(tactic| repeat (first
        | (with_reducible refine si_seq ?_)
        | (with_reducible refine si_for ?_)
        | (with_reducible refine si_forX ?_)
        | ((with_reducible apply si_app); rfl)
        | (with_reducible refine si_pool ?_)
        | (with_reducible refine si_asg ?_)
        | (with_reducible refine si_asgV ?_)
        | (with_reducible refine si_new ?_)
        | (with_reducible refine si_drop ?_)
        | (with_reducible refine si_ret ?_)
        | (with_reducible refine si_retX ?_)
        | (with_reducible refine si_if ?_)
        | ((with_reducible apply si_aug); rfl)
        | (with_reducible refine si_par ?_)
        | (with_reducible refine si_parO ?_)
        | (with_reducible refine si_asgG ?_)
        | (with_reducible refine si_next ?_)
        | (with_reducible refine si_brk ?_)
        | (with_reducible refine si_cnt ?_)
        | (with_reducible refine si_retN ?_)
        | ((with_reducible apply si_catO); rfl)
        | (with_reducible refine si_par3 ?_)
        | ((with_reducible apply wi_var); rfl)
        | (with_reducible refine wi_c ?_)
        | (with_reducible refine wi_op ?_)
        | (with_reducible refine wi_un ?_)
        | (with_reducible refine wi_nil ?_)
        | (with_reducible refine wi_cons ?_)
        | (with_reducible refine wi_cb ?_)
        | (with_reducible refine wi_mt ?_)
        | (with_reducible refine wi_tst ?_)
        | (with_reducible refine wi_tru ?_)
        | (with_reducible refine wi_and ?_)
        | (with_reducible refine wi_or ?_)
        | (with_reducible refine wi_not ?_)
        | (with_reducible refine wi_if ?_)
        | (with_reducible refine wi_andV ?_)
        | (with_reducible refine wi_orV ?_)
        | (with_reducible refine wi_notV ?_)
        | (with_reducible refine wi_tup ?_)
        | (with_reducible refine wi_lst ?_)
        | (with_reducible refine wi_ofF ?_)
        | (with_reducible refine wi_fresh ?_)
        | (with_reducible refine wi_isi ?_)
        | (with_reducible refine wi_sl ?_)
        | (with_reducible refine wi_oNone ?_)
        | (with_reducible refine wi_oSome ?_)
        | (with_reducible refine wi_call ?_)
        | (with_reducible refine wi_callF ?_)
        | (with_reducible refine wi_items ?_)
        | (with_reducible refine wi_lc ?_)
        | (with_reducible refine wi_star ?_)
        | (with_reducible refine wi_ix ?_)
        | (with_reducible refine wi_chain ?_)
        | (with_reducible refine wi_rng1 ?_)
        | (with_reducible refine wi_rng2 ?_)
        | (with_reducible refine wi_enum ?_)
        | (with_reducible refine wi_enumT ?_)
        | (with_reducible refine wi_zip ?_)
        | (with_reducible refine wi_zipK ?_)
        | (with_reducible refine wi_yes ?_)
        | (with_reducible refine wi_enumA ?_)
        | (with_reducible refine wi_slt ?_)
        | (with_reducible refine wi_isiC ?_)
        | (with_reducible refine wi_prop ?_)
        | (with_reducible refine wi_callP ?_)
        | (with_reducible refine wi_dc ?_)
        | (with_reducible refine wi_sortIt ?_)
        | (with_reducible refine wi_listIt ?_)
        | (with_reducible refine star_l ?_)
        | (with_reducible refine star_t ?_)
        | (with_reducible refine (pr2 (x := _) (y := _)).mpr ?_)
        | (with_reducible refine ⟨_, ev_eqS, ?_⟩)
        | (with_reducible refine ⟨_, ev_neS, ?_⟩)
        | (with_reducible refine ⟨_, ev_eqI, ?_⟩)
        | (with_reducible refine ⟨_, ev_neI, ?_⟩)
        | (with_reducible refine ⟨_, ev_eqT1, ?_⟩)
        | (with_reducible refine ⟨_, ev_eqT, ?_⟩)
        | (with_reducible refine ⟨_, ev_eqL, ?_⟩)
        | (with_reducible refine ⟨_, ev_neB, ?_⟩)
        | (with_reducible refine ⟨_, ev_inL, ?_⟩)
        | (with_reducible refine ⟨_, ev_inT, ?_⟩)
        | (with_reducible refine ⟨_, ev_ninL, ?_⟩)
        | (with_reducible refine ⟨_, ev_ninT, ?_⟩)
        | (with_reducible refine ⟨_, ev_inTL1, ?_⟩)
        | (with_reducible refine ⟨_, ev_ninTL1, ?_⟩)
        | (with_reducible refine ⟨_, ev_ninTL0, ?_⟩)
        | (with_reducible refine ⟨_, ev_inTL, ?_⟩)
        | (with_reducible refine ⟨_, ev_ninTL, ?_⟩)
        | (with_reducible refine ⟨_, sl_take1, ?_⟩)
        | (with_reducible refine ⟨_, sl_drop1, ?_⟩)
        | (with_reducible refine ⟨_, ev_all_map, ?_⟩)
        | (with_reducible refine ⟨_, ev_any_map, ?_⟩)
        | (with_reducible refine ⟨_, ev_all, ?_⟩)
        | (with_reducible refine ⟨_, ev_any, ?_⟩)
        | (with_reducible refine bl_i ?_)
        | (with_reducible refine int_i ?_)
        | (with_reducible refine tru_bl ?_)
        | (with_reducible refine neg_i ?_)
        | (with_reducible refine len_l ?_)
        | (with_reducible refine len_t ?_)
        | (with_reducible refine tup_l ?_)
        | (with_reducible refine it_l ?_)
        | (with_reducible refine it_t ?_)
        | (refine ite_t (by rfl) ?_)
        | (refine ite_f (by rfl) ?_)
        | (refine ⟨_, ev_mod (by omega), ?_⟩)
        | (refine ⟨_, ev_div (by omega) (by omega), ?_⟩)
        | (refine ⟨_, ev_divmod (by omega) (by omega), ?_⟩)
        | (refine ⟨_, ev_mulR (by omega) (by omega), ?_⟩)
        | (refine ⟨_, ev_mulL (by omega) (by omega), ?_⟩)
        | (refine ⟨_, rfl, ?_⟩)
        | (exact ⟨rfl, rfl⟩)
        | (refine ⟨rfl, ?_⟩)
        | (refine ⟨by decide, ?_⟩)
        | (refine ⟨(by simp only [List.length_cons, List.length_nil, lim]; decide), ?_⟩)
        | (refine ⟨of_decide_eq_true (by rfl), ?_⟩)))
local macro_rules
  | `(tactic| walk_at "VX") => `(tactic| repeat (first
        | (with_reducible refine si_seq ?_)
        | (with_reducible refine si_for ?_)
        | (with_reducible refine si_forX ?_)
        | ((with_reducible apply si_app); rfl)
        | (with_reducible refine si_pool ?_)
        | (with_reducible refine si_asg ?_)
        | (with_reducible refine si_asgV ?_)
        | (with_reducible refine si_new ?_)
        | (with_reducible refine si_drop ?_)
        | (with_reducible refine si_ret ?_)
        | (with_reducible refine si_retX ?_)
        | (with_reducible refine si_if ?_)
        | ((with_reducible apply si_aug); rfl)
        | (with_reducible refine si_par ?_)
        | (with_reducible refine si_parO ?_)
        | (with_reducible refine si_asgG ?_)
        | (with_reducible refine si_next ?_)
        | (with_reducible refine si_brk ?_)
        | (with_reducible refine si_cnt ?_)
        | (with_reducible refine si_retN ?_)
        | ((with_reducible apply si_catO); rfl)
        | (with_reducible refine si_par3 ?_)
        | ((with_reducible apply wi_var); rfl)
        | (with_reducible refine wi_c ?_)
        | (with_reducible refine wi_op ?_)
        | (with_reducible refine wi_un ?_)
        | (with_reducible refine wi_nil ?_)
        | (with_reducible refine wi_cons ?_)
        | (with_reducible refine wi_cb ?_)
        | (with_reducible refine wi_mt ?_)
        | (with_reducible refine wi_tst ?_)
        | (with_reducible refine wi_tru ?_)
        | (with_reducible refine wi_and ?_)
        | (with_reducible refine wi_or ?_)
        | (with_reducible refine wi_not ?_)
        | (with_reducible refine wi_if ?_)
        | (with_reducible refine wi_andV ?_)
        | (with_reducible refine wi_orV ?_)
        | (with_reducible refine wi_notV ?_)
        | (with_reducible refine wi_tup ?_)
        | (with_reducible refine wi_lst ?_)
        | (with_reducible refine wi_ofF ?_)
        | (with_reducible refine wi_fresh ?_)
        | (with_reducible refine wi_isi ?_)
        | (with_reducible refine wi_sl ?_)
        | (with_reducible refine wi_oNone ?_)
        | (with_reducible refine wi_oSome ?_)
        | (with_reducible refine wi_call ?_)
        | (with_reducible refine wi_callF ?_)
        | (with_reducible refine wi_items ?_)
        | (with_reducible refine wi_lc ?_)
        | (with_reducible refine wi_star ?_)
        | (with_reducible refine wi_ix ?_)
        | (with_reducible refine wi_chain ?_)
        | (with_reducible refine wi_rng1 ?_)
        | (with_reducible refine wi_rng2 ?_)
        | (with_reducible refine wi_enum ?_)
        | (with_reducible refine wi_enumT ?_)
        | (with_reducible refine wi_zip ?_)
        | (with_reducible refine wi_zipK ?_)
        | (with_reducible refine wi_yes ?_)
        | (with_reducible refine wi_enumA ?_)
        | (with_reducible refine wi_slt ?_)
        | (with_reducible refine wi_isiC ?_)
        | (with_reducible refine wi_prop ?_)
        | (with_reducible refine wi_callP ?_)
        | (with_reducible refine wi_dc ?_)
        | (with_reducible refine wi_sortIt ?_)
        | (with_reducible refine wi_listIt ?_)
        | (with_reducible refine star_l ?_)
        | (with_reducible refine star_t ?_)
        | (with_reducible refine (pr2 (x := _) (y := _)).mpr ?_)
        | (with_reducible refine ⟨_, ev_eqS, ?_⟩)
        | (with_reducible refine ⟨_, ev_neS, ?_⟩)
        | (with_reducible refine ⟨_, ev_eqI, ?_⟩)
        | (with_reducible refine ⟨_, ev_neI, ?_⟩)
        | (with_reducible refine ⟨_, ev_eqT1, ?_⟩)
        | (with_reducible refine ⟨_, ev_eqT, ?_⟩)
        | (with_reducible refine ⟨_, ev_eqL, ?_⟩)
        | (with_reducible refine ⟨_, ev_neB, ?_⟩)
        | (with_reducible refine ⟨_, ev_inL, ?_⟩)
        | (with_reducible refine ⟨_, ev_inT, ?_⟩)
        | (with_reducible refine ⟨_, ev_ninL, ?_⟩)
        | (with_reducible refine ⟨_, ev_ninT, ?_⟩)
        | (with_reducible refine ⟨_, ev_inTL1, ?_⟩)
        | (with_reducible refine ⟨_, ev_ninTL1, ?_⟩)
        | (with_reducible refine ⟨_, ev_ninTL0, ?_⟩)
        | (with_reducible refine ⟨_, ev_inTL, ?_⟩)
        | (with_reducible refine ⟨_, ev_ninTL, ?_⟩)
        | (with_reducible refine ⟨_, sl_take1, ?_⟩)
        | (with_reducible refine ⟨_, sl_drop1, ?_⟩)
        | (with_reducible refine ⟨_, ev_all_map, ?_⟩)
        | (with_reducible refine ⟨_, ev_any_map, ?_⟩)
        | (with_reducible refine ⟨_, ev_all, ?_⟩)
        | (with_reducible refine ⟨_, ev_any, ?_⟩)
        | (with_reducible refine bl_i ?_)
        | (with_reducible refine int_i ?_)
        | (with_reducible refine tru_bl ?_)
        | (with_reducible refine neg_i ?_)
        | (with_reducible refine len_l ?_)
        | (with_reducible refine len_t ?_)
        | (with_reducible refine tup_l ?_)
        | (with_reducible refine it_l ?_)
        | (with_reducible refine it_t ?_)
        | (refine ite_t (by rfl) ?_)
        | (refine ite_f (by rfl) ?_)
        | (refine ⟨_, ev_mod (by omega), ?_⟩)
        | (refine ⟨_, ev_div (by omega) (by omega), ?_⟩)
        | (refine ⟨_, ev_divmod (by omega) (by omega), ?_⟩)
        | (refine ⟨_, ev_mulR (by omega) (by omega), ?_⟩)
        | (refine ⟨_, ev_mulL (by omega) (by omega), ?_⟩)
        | (exact ⟨rfl, rfl⟩)
        | (refine ⟨rfl, ?_⟩)
        | (refine ⟨by decide, ?_⟩)
        | (refine ⟨(by simp only [List.length_cons, List.length_nil, lim]; decide), ?_⟩)
        | (refine ⟨of_decide_eq_true (by rfl), ?_⟩)))
theorem law_pool_ok (z : Int) (p : List Int) : ∃ y, m__law_pool [.int z] p = some ([.int (z % 2147482873), .int y, .int 0], p) := by
  unfold m__law_pool runR b__law_pool rSeq
  by_cases h1 : z < 0
  · exact ⟨if z < 0 then -z else z, by simp [startR, sAsg, shR, Cl.s, mIf, mOr, mTst, mOp, mVar, mC, bnd, lft, dLt, dCmp, h1, mCB, mCons, mNil, dAbs, rRet, mFresh, viR, Cl.v, dMod, dII, dInt, dIntA, lim]⟩
  · by_cases h2 : z ≥ 1000000000000000000
    · exact ⟨if z < 0 then -z else z, by simp [startR, sAsg, shR, Cl.s, mIf, mOr, mTst, mOp, mVar, mC, bnd, lft, dLt, dGe, dPow, dCmp, h1, h2, mCB, mCons, mNil, dAbs, rRet, mFresh, viR, Cl.v, dMod, dII, dInt, dIntA, lim]⟩
    · exact ⟨0, by simp [startR, sAsg, shR, Cl.s, mIf, mOr, mTst, mOp, mVar, mC, bnd, lft, dLt, dGe, dPow, dCmp, h1, h2, mCB, mCons, mNil, dAbs, rRet, mFresh, viR, Cl.v, dMod, dII, dInt, dIntA, lim]⟩
theorem sl_scr {ns : List Int} : dSl (.scr ns) none (some 3) = some (.lst ((ns.take 3).map .int)) := by
  show some (D.lst ((dcut ns none (some 3)).map .int)) = _
  rw [dcut_take _ (by decide)]
  rfl
theorem law_cell_ok (ns : List Int) {k : Int} (h0 : 0 ≤ k) (h4 : k < 64) (p : List Int) : Wp (m__law_cell [.scr ns, .int k] p) fun d q => ∃ z, d = .int z ∧ q = p := by
  unfold m__law_cell
  refine fi_run ?_
  unfold b__law_cell
  walk_at "VC"
  refine ite_b (fun h => ?_) fun h => ?_
  · have h : k < ns.length := of_decide_eq_true h
    walk_at "VX"
    refine ⟨.int (ns[k.toNat]'(by omega)), ?_, _, rfl, rfl⟩
    show (atI ns k).map D.int = _
    rw [atI_at h0 (List.getElem?_eq_getElem (by omega))]
    rfl
  · walk_at "VX"
    refine ⟨_, ev_addI, ?_⟩
    walk_at "VX"
    refine ⟨_, ev_addI, ?_⟩
    refine ⟨_, ev_mulL (by decide) (by decide), ?_⟩
    walk_at "VX"
    refine ⟨_, rfl, ?_⟩
    walk_at "VX"
    refine ⟨_, sl_scr, ?_⟩
    walk_at "VX"
    refine ws_forGo (fun ds r q => ∃ z c3, (∃ ms : List Int, ds = ms.map .int) ∧ r = [.sh (.scr ns), .sh (.int k), .sh (.int z), c3] ∧ q = p) ⟨_, .no, ⟨_, rfl⟩, rfl, rfl⟩ ?_ ?_
    · rintro d ds r q ⟨z, c3, ⟨ms, e⟩, rfl, rfl⟩
      cases ms with
      | nil => cases e
      | cons m ms =>
        cases e
        refine ⟨_, _, rfl, ?_⟩
        unfold l1__law_cell
        walk_at "VC"
        exact ⟨_, _, ⟨ms, rfl⟩, rfl, rfl⟩
    · rintro r q ⟨z, c3, _, rfl, rfl⟩
      walk_at "VC"
      rfl
theorem law_names_ok (a b c : Int) : Wp (m__law_names [.pool] [a, b, c]) fun d q => ∃ ws a' b' c', GoodW ws ∧ d = .lst (ws.map .str) ∧ q = [a', b', c'] := by
  unfold m__law_names
  refine fi_run ?_
  unfold b__law_names
  walk_at "VC"
  refine (draw_ok (n := 7) (by decide) (by decide) a b c).mono fun d q hd => ?_
  obtain ⟨k, a, b, c, rfl, rfl, hk0, hk⟩ := hd
  walk_at "VC"
  refine ite_b (fun h => ?_) fun h => ?_
  · have h5 : k < 5 := of_decide_eq_true h
    have hc : k = 0 ∨ k = 1 ∨ k = 2 ∨ k = 3 ∨ k = 4 := by omega
    rcases hc with rfl | rfl | rfl | rfl | rfl
    · walk_at "VC"
      exact ⟨["a", "b"], a, b, c, good_of (by decide +kernel), rfl, rfl⟩
    · walk_at "VC"
      exact ⟨["a", "b", "c"], a, b, c, good_of (by decide +kernel), rfl, rfl⟩
    · walk_at "VC"
      exact ⟨["x", "xx"], a, b, c, good_of (by decide +kernel), rfl, rfl⟩
    · walk_at "VC"
      exact ⟨["db", "host", "port"], a, b, c, good_of (by decide +kernel), rfl, rfl⟩
    · walk_at "VC"
      exact ⟨["k", "zzzzzzzz"], a, b, c, good_of (by decide +kernel), rfl, rfl⟩
  walk_at "VC"
  refine ws_forGo (fun ds r q => ∃ ws c1 c2 c4 c5 c6 a b c, ds = (rngD 0 3).drop ws.length ∧ ws.length ≤ 3 ∧ (∀ s ∈ ws, Nm s) ∧ r = [.sh .pool, c1, c2, .ow (.lst (ws.map .str)), c4, c5, c6] ∧ q = [a, b, c])
    ⟨[], _, _, .no, .no, .no, a, b, c, rfl, by decide, fun s hs => (by cases hs), rfl, rfl⟩ ?_ ?_
  · rintro d ds r q ⟨ws, c1, c2, c4, c5, c6, a, b, c, hds, hl3, hnm, rfl, rfl⟩
    have hlt : ws.length < 3 := by
      rcases Nat.lt_or_ge ws.length 3 with h | h
      · exact h
      · rw [List.drop_of_length_le (by simp [rngD]; exact h)] at hds
        cases hds
    have hd : d = .int (ws.length : Nat) ∧ ds = (rngD 0 3).drop (ws.length + 1) := by
      have e1 : (rngD 0 3)[ws.length]? = some (.int (0 + (ws.length : Int))) := by
        unfold rngD
        rw [List.getElem?_map, List.getElem?_range hlt]
        rfl
      obtain ⟨hj, e2⟩ := List.getElem?_eq_some_iff.mp e1
      rw [List.drop_eq_getElem_cons hj, e2] at hds
      injection hds with h1 h2
      exact ⟨by rw [h1, Int.zero_add], h2⟩
    obtain ⟨rfl, rfl⟩ := hd
    refine ⟨_, _, rfl, ?_⟩
    unfold l2__law_names
    walk_at "VC"
    refine (draw_ok (n := 8) (by decide) (by decide) a b c).mono fun d q hd => ?_
    obtain ⟨k, a, b, c, rfl, rfl, hk0, hk⟩ := hd
    walk_at "VC"
    refine ⟨by unfold rngOk; simp; omega, ?_⟩
    have hrl : (rngD 0 k.toNat).length = k.toNat := by simp [rngD]
    refine ⟨by rw [hrl]; unfold lim; omega, ?_⟩
    refine (wp_lcGo (acc := []) (fun ds acc q => ∃ ls a b c, acc = ls.map D.str ∧ (∀ s ∈ ls, s.length ≤ 1 ∧ ∀ c ∈ tl s, c ∈ tl sLet) ∧ ls.length + ds.length = k.toNat ∧ q = [a, b, c]) ⟨[], a, b, c, rfl, fun s hs => (by cases hs), by rw [hrl]; simp, rfl⟩ ?_).mono fun ys q hI => ?_
    · rintro d ds acc q ⟨ls, a, b, c, rfl, hls, hlen, rfl⟩
      refine ⟨_, rfl, ?_⟩
      unfold c1__law_namest c1__law_names
      walk_at "VC"
      refine (draw_ok (n := 26) (by decide) (by decide) a b c).mono fun d q hd => ?_
      obtain ⟨i, a, b, c, rfl, rfl, hi0, hi⟩ := hd
      refine ⟨.str (lt1 i.toNat), ix_str (x := sLet) hi0 (let_at (by omega)) _, ls ++ [lt1 i.toNat], a, b, c, by rw [List.map_append]; rfl, fun s hs => ?_, ?_, rfl⟩
      · rcases List.mem_append.mp hs with h | h
        · exact hls s h
        · rw [List.mem_singleton.mp h]
          exact ⟨by show 1 ≤ 1; decide, (lt1_nm (by omega)).lets⟩
      · rw [List.length_append, List.length_singleton]
        rw [List.length_cons] at hlen
        omega
    obtain ⟨ls, a, b, c, e, hls, hlen, rfl⟩ := hI
    rw [List.nil_append] at e
    subst e
    rw [List.length_nil] at hlen
    obtain ⟨z, hz1, hz2, hz3⟩ := join1 (fun w hw => (hls w hw).1) (by omega) fun w hw => (hls w hw).2
    walk_at "VX"
    refine ⟨_, hz1, ?_⟩
    walk_at "VX"
    have habc : ixD (.str "abc") (.int (ws.length : Nat)) [a, b, c] = some (.str (lt1 ws.length)) := by
      refine ix_str (by omega) ?_ _
      have : ∀ j : Fin 3, (("abc" : Str).cps.toList)[(((j.val : Nat) : Int)).toNat]? = some (97 + j.val) := by decide +kernel
      exact this ⟨ws.length, hlt⟩
    refine ⟨_, habc, ?_⟩
    have h11 : (lt1 ws.length).length = 1 := rfl
    refine ⟨_, ev_addS (by rw [h11]; unfold lim; omega), ?_⟩
    refine ⟨by rw [List.length_map]; unfold lim; omega, ?_⟩
    have htl : tl (z ++ lt1 ws.length) = tl z ++ [97 + ws.length] := TL.tl_append _ _
    refine ⟨ws ++ [z ++ lt1 ws.length], c1, c2, .sh (.int (ws.length : Nat)), .sh (.str z), c6, a, b, c, by rw [List.length_append, List.length_singleton], by rw [List.length_append, List.length_singleton]; omega, fun s hs => ?_, ?_, rfl⟩
    · rcases List.mem_append.mp hs with h | h
      · exact hnm s h
      · rw [List.mem_singleton.mp h]
        refine ⟨by rw [str_app_len, h11]; omega, by rw [str_app_len, h11]; omega, fun c hc => ?_⟩
        rw [htl] at hc
        rcases List.mem_append.mp hc with h | h
        · exact hz3 c h
        · exact (lt1_nm (k := ws.length) (by omega)).lets c h
    · rw [List.map_append]
      rfl
  · rintro r q ⟨ws, c1, c2, c4, c5, c6, a, b, c, hds, hl3, hnm, rfl, rfl⟩
    walk_at "VC"
    have h3 : ws.length = 3 := by
      rcases Nat.lt_or_ge ws.length 3 with h | h
      · exfalso
        have := congrArg List.length hds
        simp [rngD] at this
        omega
      · omega
    exact ⟨ws, a, b, c, ⟨fun e => (by rw [e] at h3; cases h3), hnm, hl3⟩, rfl, rfl⟩
/-- a drawn path -/
theorem law_path_ok {ws : List Str} (hW : GoodW ws) {n : Int} (h0 : 0 < n) (hn : n ≤ 3) (a b c : Int) : Wp (m__law_path [.pool, .lst (ws.map .str), .int n] [a, b, c]) fun d q => ∃ ps a' b' c', PsOk ps ∧ (ps.length : Int) ≤ n ∧ d = .str (J ps) ∧ q = [a', b', c'] := by
  have hwl : 1 ≤ ws.length := List.length_pos_iff.mpr hW.ne
  have hw3 := hW.ln
  unfold m__law_path
  refine fi_run ?_
  unfold b__law_path
  walk_at "VC"
  refine (draw_ok h0 (by omega) a b c).mono fun d q hd => ?_
  obtain ⟨k, a, b, c, rfl, rfl, hk0, hk⟩ := hd
  walk_at "VX"
  refine ⟨_, ev_addI, ?_⟩
  walk_at "VX"
  refine ⟨_, rfl, by unfold rngOk; simp; omega, ?_⟩
  have hrl : (rngD 0 (1 + k).toNat).length = (1 + k).toNat := by simp [rngD]
  refine ⟨by rw [hrl]; unfold lim; omega, ?_⟩
  refine (wp_lcGo (acc := []) (fun ds acc q => ∃ ls a b c, acc = ls.map D.str ∧ (∀ s ∈ ls, Nm s) ∧ ls.length + ds.length = (1 + k).toNat ∧ q = [a, b, c]) ⟨[], a, b, c, rfl, fun s hs => (by cases hs), by rw [hrl]; simp, rfl⟩ ?_).mono fun ys q hI => ?_
  · rintro d ds acc q ⟨ls, a, b, c, rfl, hls, hlen, rfl⟩
    refine ⟨_, rfl, ?_⟩
    unfold c1__law_patht c1__law_path
    walk_at "VC"
    refine (draw_ok (by rw [List.length_map]; omega) (by rw [List.length_map]; omega) a b c).mono fun d q hd => ?_
    obtain ⟨i, a, b, c, rfl, rfl, hi0, hi⟩ := hd
    rw [List.length_map] at hi
    obtain ⟨w, hw⟩ : ∃ w, ws[i.toNat]? = some w := ⟨_, List.getElem?_eq_getElem (by omega)⟩
    refine ⟨.str w, ix_lstS hi0 hw _, ls ++ [w], a, b, c, by rw [List.map_append]; rfl, fun s hs => ?_, ?_, rfl⟩
    · rcases List.mem_append.mp hs with h | h
      · exact hls s h
      · rw [List.mem_singleton.mp h]
        exact hW.nm w (List.mem_of_getElem? hw)
    · rw [List.length_append, List.length_singleton]
      rw [List.length_cons] at hlen
      omega
  obtain ⟨ls, a, b, c, e, hls, hlen, rfl⟩ := hI
  rw [List.nil_append] at e
  subst e
  rw [List.length_nil] at hlen
  have ok : PsOk ls := ⟨fun e => (by rw [e] at hlen; simp at hlen; omega), by omega, hls⟩
  walk_at "VX"
  refine ⟨.str (J ls), ?_, ?_⟩
  · show (match asStrs (ls.map D.str) with | some ys => if joinSz "/" ys ≤ lim then some (D.str (Txt.join "/" ys)) else none | none => none) = _
    rw [asStrs_map]
    exact if_pos (ok.sml.sz (by decide))
  · exact ⟨ls, a, b, c, ok, by omega, rfl, rfl⟩
/-! # Keys and paths -/
theorem ev_split {ps : List Str} (h : PsOk ps) : dSplit (.str (J ps)) [.str "/"] = some (.lst (ps.map .str)) := by
  have e : dSplit (.str (J ps)) [.str "/"] = some (.lst ((Txt.split (J ps) sSl).map .str)) := rfl
  rw [e, h.split]
theorem names_in_ok {ps : List Str} (h : PsOk ps) (p : List Int) : m_names_in [.str (J ps)] p = some (TS ps, p) := by
  refine Wp.eq ?_
  unfold m_names_in
  refine fi_run ?_
  unfold b_names_in
  walk_at "VX"
  refine ⟨_, ev_split h, ?_⟩
  walk_at "VC"
theorem is_key_ok {s : Str} (h : Pth s) (p : List Int) : m_is_key [.str s] p = some (.bl true, p) := by
  obtain ⟨ps, h, rfl⟩ := h
  refine Wp.eq ?_
  unfold m_is_key
  refine fi_run ?_
  unfold b_is_key
  walk_at "VC"
  refine Wp.of_eq (names_in_ok h _) ?_
  walk_at "VC"
  refine ⟨by rw [List.length_map]; have := h.le; unfold lim; omega, Wp.of_eq (lcGo_all D.str (fun _ => .bl true) fun s hs => ⟨_, rfl, rfl, Wp.eq ?_⟩) ?_⟩
  · unfold c1_is_key
    walk_at "VC"
    refine Wp.of_eq (is_name_ok (h.nm s hs) _) ?_
    exact ⟨rfl, rfl⟩
  · walk_at "VC"
    exact ⟨congrArg D.bl (by rw [List.all_eq_true]; exact fun _ _ => rfl), rfl⟩
theorem is_path_ok {s : Str} (h : Pth s) (p : List Int) : m_is_path [.str s] p = some (.bl true, p) := by
  refine Wp.eq ?_
  unfold m_is_path
  refine fi_run ?_
  unfold b_is_path
  walk_at "VC"
  refine Wp.of_eq (is_key_ok h _) ?_
  obtain ⟨ps, h, rfl⟩ := h
  walk_at "VC"
  refine Wp.of_eq (names_in_ok h _) ?_
  walk_at "VC"
  exact ⟨congrArg D.bl (by have := h.le; simp; omega), rfl⟩
end K36

namespace K36
open PySem PySem.Spec PyProof.Rows L2 Dt Tx
local macro_rules
  | `(tactic| walk_at "VC") => `(tactic| repeat (first
        | (with_reducible refine si_seq ?_)
        | (with_reducible refine si_for ?_)
        | (with_reducible refine si_forX ?_)
        | ((with_reducible apply si_app); rfl)
        | (with_reducible refine si_pool ?_)
        | (with_reducible refine si_asg ?_)
        | (with_reducible refine si_asgV ?_)
        | (with_reducible refine si_new ?_)
        | (with_reducible refine si_drop ?_)
        | (with_reducible refine si_ret ?_)
        | (with_reducible refine si_retX ?_)
        | (with_reducible refine si_if ?_)
        | ((with_reducible apply si_aug); rfl)
        | (with_reducible refine si_par ?_)
        | (with_reducible refine si_parO ?_)
        | (with_reducible refine si_asgG ?_)
        | (with_reducible refine si_next ?_)
        | (with_reducible refine si_brk ?_)
        | (with_reducible refine si_cnt ?_)
        | (with_reducible refine si_retN ?_)
        | ((with_reducible apply si_catO); rfl)
        | (with_reducible refine si_par3 ?_)
        | ((with_reducible apply wi_var); rfl)
        | (with_reducible refine wi_c ?_)
        | (with_reducible refine wi_op ?_)
        | (with_reducible refine wi_un ?_)
        | (with_reducible refine wi_nil ?_)
        | (with_reducible refine wi_cons ?_)
        | (with_reducible refine wi_cb ?_)
        | (with_reducible refine wi_mt ?_)
        | (with_reducible refine wi_tst ?_)
        | (with_reducible refine wi_tru ?_)
        | (with_reducible refine wi_and ?_)
        | (with_reducible refine wi_or ?_)
        | (with_reducible refine wi_not ?_)
        | (with_reducible refine wi_if ?_)
        | (with_reducible refine wi_andV ?_)
        | (with_reducible refine wi_orV ?_)
        | (with_reducible refine wi_notV ?_)
        | (with_reducible refine wi_tup ?_)
        | (with_reducible refine wi_lst ?_)
        | (with_reducible refine wi_ofF ?_)
        | (with_reducible refine wi_fresh ?_)
        | (with_reducible refine wi_isi ?_)
        | (with_reducible refine wi_sl ?_)
        | (with_reducible refine wi_oNone ?_)
        | (with_reducible refine wi_oSome ?_)
        | (with_reducible refine wi_call ?_)
        | (with_reducible refine wi_callF ?_)
        | (with_reducible refine wi_items ?_)
        | (with_reducible refine wi_lc ?_)
        | (with_reducible refine wi_star ?_)
        | (with_reducible refine wi_ix ?_)
        | (with_reducible refine wi_chain ?_)
        | (with_reducible refine wi_rng1 ?_)
        | (with_reducible refine wi_rng2 ?_)
        | (with_reducible refine wi_enum ?_)
        | (with_reducible refine wi_enumT ?_)
        | (with_reducible refine wi_zip ?_)
        | (with_reducible refine wi_zipK ?_)
        | (with_reducible refine wi_yes ?_)
        | (with_reducible refine wi_enumA ?_)
        | (with_reducible refine wi_slt ?_)
        | (with_reducible refine wi_isiC ?_)
        | (with_reducible refine wi_prop ?_)
        | (with_reducible refine wi_callP ?_)
        | (with_reducible refine wi_dc ?_)
        | (with_reducible refine wi_sortIt ?_)
        | (with_reducible refine wi_listIt ?_)
        | (with_reducible refine star_l ?_)
        | (with_reducible refine star_t ?_)
        | (with_reducible refine (pr2 (x := _) (y := _)).mpr ?_)
        | (with_reducible refine ⟨_, ev_eqS, ?_⟩)
        | (with_reducible refine ⟨_, ev_neS, ?_⟩)
        | (with_reducible refine ⟨_, ev_eqI, ?_⟩)
        | (with_reducible refine ⟨_, ev_neI, ?_⟩)
        | (with_reducible refine ⟨_, ev_eqT1, ?_⟩)
        | (with_reducible refine ⟨_, ev_eqT, ?_⟩)
        | (with_reducible refine ⟨_, ev_eqL, ?_⟩)
        | (with_reducible refine ⟨_, ev_neB, ?_⟩)
        | (with_reducible refine ⟨_, ev_inL, ?_⟩)
        | (with_reducible refine ⟨_, ev_inT, ?_⟩)
        | (with_reducible refine ⟨_, ev_ninL, ?_⟩)
        | (with_reducible refine ⟨_, ev_ninT, ?_⟩)
        | (with_reducible refine ⟨_, ev_inTL1, ?_⟩)
        | (with_reducible refine ⟨_, ev_ninTL1, ?_⟩)
        | (with_reducible refine ⟨_, ev_ninTL0, ?_⟩)
        | (with_reducible refine ⟨_, ev_inTL, ?_⟩)
        | (with_reducible refine ⟨_, ev_ninTL, ?_⟩)
        | (with_reducible refine ⟨_, sl_take1, ?_⟩)
        | (with_reducible refine ⟨_, sl_drop1, ?_⟩)
        | (with_reducible refine ⟨_, ev_all_map, ?_⟩)
        | (with_reducible refine ⟨_, ev_any_map, ?_⟩)
        | (with_reducible refine ⟨_, ev_all, ?_⟩)
        | (with_reducible refine ⟨_, ev_any, ?_⟩)
        | (with_reducible refine bl_i ?_)
        | (with_reducible refine int_i ?_)
        | (with_reducible refine tru_bl ?_)
        | (with_reducible refine neg_i ?_)
        | (with_reducible refine len_l ?_)
        | (with_reducible refine len_t ?_)
        | (with_reducible refine tup_l ?_)
        | (with_reducible refine it_l ?_)
        | (with_reducible refine it_t ?_)
        | (refine ite_t (by rfl) ?_)
        | (refine ite_f (by rfl) ?_)
        | (refine ⟨_, ev_mod (by omega), ?_⟩)
        | (refine ⟨_, ev_div (by omega) (by omega), ?_⟩)
        | (refine ⟨_, ev_divmod (by omega) (by omega), ?_⟩)
        | (refine ⟨_, ev_mulR (by omega) (by omega), ?_⟩)
        | (refine ⟨_, ev_mulL (by omega) (by omega), ?_⟩)
        | (refine ⟨_, rfl, ?_⟩)
        | (exact ⟨rfl, rfl⟩)
        | (refine ⟨rfl, ?_⟩)
        | (refine ⟨by decide, ?_⟩)
        | (refine ⟨(by simp only [List.length_cons, List.length_nil, lim]; decide), ?_⟩)
        | (refine ⟨of_decide_eq_true (by rfl), ?_⟩)))
local macro_rules
  | `(tactic| walk_at "VX") => `(tactic| repeat (first
        | (with_reducible refine si_seq ?_)
        | (with_reducible refine si_for ?_)
        | (with_reducible refine si_forX ?_)
        | ((with_reducible apply si_app); rfl)
        | (with_reducible refine si_pool ?_)
        | (with_reducible refine si_asg ?_)
        | (with_reducible refine si_asgV ?_)
        | (with_reducible refine si_new ?_)
        | (with_reducible refine si_drop ?_)
        | (with_reducible refine si_ret ?_)
        | (with_reducible refine si_retX ?_)
        | (with_reducible refine si_if ?_)
        | ((with_reducible apply si_aug); rfl)
        | (with_reducible refine si_par ?_)
        | (with_reducible refine si_parO ?_)
        | (with_reducible refine si_asgG ?_)
        | (with_reducible refine si_next ?_)
        | (with_reducible refine si_brk ?_)
        | (with_reducible refine si_cnt ?_)
        | (with_reducible refine si_retN ?_)
        | ((with_reducible apply si_catO); rfl)
        | (with_reducible refine si_par3 ?_)
        | ((with_reducible apply wi_var); rfl)
        | (with_reducible refine wi_c ?_)
        | (with_reducible refine wi_op ?_)
        | (with_reducible refine wi_un ?_)
        | (with_reducible refine wi_nil ?_)
        | (with_reducible refine wi_cons ?_)
        | (with_reducible refine wi_cb ?_)
        | (with_reducible refine wi_mt ?_)
        | (with_reducible refine wi_tst ?_)
        | (with_reducible refine wi_tru ?_)
        | (with_reducible refine wi_and ?_)
        | (with_reducible refine wi_or ?_)
        | (with_reducible refine wi_not ?_)
        | (with_reducible refine wi_if ?_)
        | (with_reducible refine wi_andV ?_)
        | (with_reducible refine wi_orV ?_)
        | (with_reducible refine wi_notV ?_)
        | (with_reducible refine wi_tup ?_)
        | (with_reducible refine wi_lst ?_)
        | (with_reducible refine wi_ofF ?_)
        | (with_reducible refine wi_fresh ?_)
        | (with_reducible refine wi_isi ?_)
        | (with_reducible refine wi_sl ?_)
        | (with_reducible refine wi_oNone ?_)
        | (with_reducible refine wi_oSome ?_)
        | (with_reducible refine wi_call ?_)
        | (with_reducible refine wi_callF ?_)
        | (with_reducible refine wi_items ?_)
        | (with_reducible refine wi_lc ?_)
        | (with_reducible refine wi_star ?_)
        | (with_reducible refine wi_ix ?_)
        | (with_reducible refine wi_chain ?_)
        | (with_reducible refine wi_rng1 ?_)
        | (with_reducible refine wi_rng2 ?_)
        | (with_reducible refine wi_enum ?_)
        | (with_reducible refine wi_enumT ?_)
        | (with_reducible refine wi_zip ?_)
        | (with_reducible refine wi_zipK ?_)
        | (with_reducible refine wi_yes ?_)
        | (with_reducible refine wi_enumA ?_)
        | (with_reducible refine wi_slt ?_)
        | (with_reducible refine wi_isiC ?_)
        | (with_reducible refine wi_prop ?_)
        | (with_reducible refine wi_callP ?_)
        | (with_reducible refine wi_dc ?_)
        | (with_reducible refine wi_sortIt ?_)
        | (with_reducible refine wi_listIt ?_)
        | (with_reducible refine star_l ?_)
        | (with_reducible refine star_t ?_)
        | (with_reducible refine (pr2 (x := _) (y := _)).mpr ?_)
        | (with_reducible refine ⟨_, ev_eqS, ?_⟩)
        | (with_reducible refine ⟨_, ev_neS, ?_⟩)
        | (with_reducible refine ⟨_, ev_eqI, ?_⟩)
        | (with_reducible refine ⟨_, ev_neI, ?_⟩)
        | (with_reducible refine ⟨_, ev_eqT1, ?_⟩)
        | (with_reducible refine ⟨_, ev_eqT, ?_⟩)
        | (with_reducible refine ⟨_, ev_eqL, ?_⟩)
        | (with_reducible refine ⟨_, ev_neB, ?_⟩)
        | (with_reducible refine ⟨_, ev_inL, ?_⟩)
        | (with_reducible refine ⟨_, ev_inT, ?_⟩)
        | (with_reducible refine ⟨_, ev_ninL, ?_⟩)
        | (with_reducible refine ⟨_, ev_ninT, ?_⟩)
        | (with_reducible refine ⟨_, ev_inTL1, ?_⟩)
        | (with_reducible refine ⟨_, ev_ninTL1, ?_⟩)
        | (with_reducible refine ⟨_, ev_ninTL0, ?_⟩)
        | (with_reducible refine ⟨_, ev_inTL, ?_⟩)
        | (with_reducible refine ⟨_, ev_ninTL, ?_⟩)
        | (with_reducible refine ⟨_, sl_take1, ?_⟩)
        | (with_reducible refine ⟨_, sl_drop1, ?_⟩)
        | (with_reducible refine ⟨_, ev_all_map, ?_⟩)
        | (with_reducible refine ⟨_, ev_any_map, ?_⟩)
        | (with_reducible refine ⟨_, ev_all, ?_⟩)
        | (with_reducible refine ⟨_, ev_any, ?_⟩)
        | (with_reducible refine bl_i ?_)
        | (with_reducible refine int_i ?_)
        | (with_reducible refine tru_bl ?_)
        | (with_reducible refine neg_i ?_)
        | (with_reducible refine len_l ?_)
        | (with_reducible refine len_t ?_)
        | (with_reducible refine tup_l ?_)
        | (with_reducible refine it_l ?_)
        | (with_reducible refine it_t ?_)
        | (refine ite_t (by rfl) ?_)
        | (refine ite_f (by rfl) ?_)
        | (refine ⟨_, ev_mod (by omega), ?_⟩)
        | (refine ⟨_, ev_div (by omega) (by omega), ?_⟩)
        | (refine ⟨_, ev_divmod (by omega) (by omega), ?_⟩)
        | (refine ⟨_, ev_mulR (by omega) (by omega), ?_⟩)
        | (refine ⟨_, ev_mulL (by omega) (by omega), ?_⟩)
        | (exact ⟨rfl, rfl⟩)
        | (refine ⟨rfl, ?_⟩)
        | (refine ⟨by decide, ?_⟩)
        | (refine ⟨(by simp only [List.length_cons, List.length_nil, lim]; decide), ?_⟩)
        | (refine ⟨of_decide_eq_true (by rfl), ?_⟩)))
/-! # Premises -/
inductive Prem where
  | nev (p : Str) | alw (p : Str) | both (p q : Str)
def Prem.ss : Prem → List Str
  | .nev p => ["never", p] | .alw p => ["always", p] | .both p q => ["not both", p, q]
def pD (x : Prem) : D := .tup (x.ss.map .str)
def POk : Prem → Prop
  | .nev p => Pth p | .alw p => Pth p | .both p q => Pth p ∧ Pth q ∧ p ≠ q
abbrev XT (xs : List Prem) : D := .tup (xs.map pD)
theorem dec_in {a : Str} {xs : List Str} {b : Bool} (h : decide (a ∈ xs) = b) : dIn (.str a) (.tup (xs.map .str)) = some (.bl b) := by rw [ev_inT, h]
theorem is_premise_ok {x : Prem} (h : POk x) (p : List Int) : m_is_premise [pD x] p = some (.bl true, p) := by
  refine Wp.eq ?_
  unfold m_is_premise
  refine fi_run ?_
  unfold b_is_premise
  cases x with
  | nev a =>
    have h : Pth a := h
    walk_at "VX"
    refine ⟨.bl true, rfl, ?_⟩
    walk_at "VX"
    refine ⟨_, ev_eqT (a := ["never", a]) (b := []), ?_⟩
    walk_at "VX"
    walk_at "VC"
    refine Wp.of_eq (lcGo_all D.str (fun _ => .bl true) (xs := [a]) fun s hs => ⟨_, rfl, rfl, ?_⟩) ?_
    · have hs : s = a := List.mem_singleton.mp hs
      subst hs
      refine Wp.eq ?_
      unfold c1_is_premise
      walk_at "VC"
      refine Wp.of_eq (is_path_ok h _) ?_
      exact ⟨rfl, rfl⟩
    · walk_at "VC"
  | alw a =>
    have h : Pth a := h
    walk_at "VX"
    refine ⟨.bl true, rfl, ?_⟩
    walk_at "VX"
    refine ⟨_, ev_eqT (a := ["always", a]) (b := []), ?_⟩
    walk_at "VX"
    walk_at "VC"
    refine Wp.of_eq (lcGo_all D.str (fun _ => .bl true) (xs := [a]) fun s hs => ⟨_, rfl, rfl, ?_⟩) ?_
    · have hs : s = a := List.mem_singleton.mp hs
      subst hs
      refine Wp.eq ?_
      unfold c1_is_premise
      walk_at "VC"
      refine Wp.of_eq (is_path_ok h _) ?_
      exact ⟨rfl, rfl⟩
    · walk_at "VC"
  | both a b =>
    obtain ⟨h1, h2, h3⟩ : Pth a ∧ Pth b ∧ a ≠ b := h
    walk_at "VX"
    refine ⟨.bl true, rfl, ?_⟩
    walk_at "VX"
    refine ⟨_, ev_eqT (a := ["not both", a, b]) (b := []), ?_⟩
    walk_at "VX"
    walk_at "VC"
    refine Wp.of_eq (lcGo_all D.str (fun _ => .bl true) (xs := [a, b]) fun s hs => ⟨_, rfl, rfl, ?_⟩) ?_
    · refine Wp.eq ?_
      unfold c1_is_premise
      walk_at "VC"
      have hp : Pth s := by
        rcases List.mem_cons.mp hs with rfl | hs
        · exact h1
        · rw [List.mem_singleton.mp hs]; exact h2
      refine Wp.of_eq (is_path_ok hp _) ?_
      exact ⟨rfl, rfl⟩
    · walk_at "VC"
      exact ⟨congrArg D.bl (by simp [h3]), rfl⟩
theorem check_form_ok {xs : List Prem} (h : ∀ x ∈ xs, POk x) (hl : xs.length ≤ 10) (p : List Int) : m_check_form [XT xs] p = some (.non, p) := by
  refine Wp.eq ?_
  unfold m_check_form
  refine fi_run ?_
  unfold b_check_form
  walk_at "VX"
  refine ⟨.bl true, rfl, ?_⟩
  walk_at "VC"
  refine ite_f (decide_eq_false (by rw [List.length_map]; omega)) ?_
  walk_at "VC"
  refine ⟨_, .inr rfl, ?_⟩
  refine ws_forGo (fun ds r q => ∃ k suf c1 c2, (∀ x ∈ suf, POk x) ∧ ds = enumF pD k suf ∧ r = [.sh (XT xs), c1, c2] ∧ q = p) ⟨0, xs, .no, .no, h, enumD_map _ _, rfl, rfl⟩ ?_ ?_
  · rintro d ds r q ⟨k, suf, c1, c2, e1, e2, rfl, rfl⟩
    cases suf with
    | nil => cases e2
    | cons x suf =>
      cases e2
      refine ⟨_, _, rfl, ?_⟩
      unfold l1_check_form
      walk_at "VC"
      refine Wp.of_eq (is_premise_ok (e1 x List.mem_cons_self) _) ?_
      walk_at "VC"
      exact ⟨k + 1, suf, _, _, fun y hy => e1 y (List.mem_cons_of_mem _ hy), rfl, rfl, rfl⟩
  · rintro r q ⟨_, _, _, _, _, _, _, e⟩
    exact ⟨rfl, e⟩
/-! # What is in them -/
def isN : Prem → Bool | .nev _ => true | _ => false
def isA : Prem → Bool | .alw _ => true | _ => false
def isB : Prem → Bool | .both _ _ => true | _ => false
def p1 : Prem → Str | .nev p => p | .alw p => p | .both p _ => p
def p2 : Prem → Str | .both _ q => q | _ => ""
theorem ix0 (x : Prem) (p : List Int) : ixD (pD x) (.int 0) p = some (.str (match x with | .nev _ => "never" | .alw _ => "always" | .both _ _ => "not both")) := by cases x <;> rfl
theorem ix1 (x : Prem) (p : List Int) : ixD (pD x) (.int 1) p = some (.str (p1 x)) := by cases x <;> rfl
theorem nevers_in_ok (xs : List Prem) (hl : xs.length ≤ 1000) (p : List Int) : m_nevers_in [XT xs] p = some (.lst (((xs.filter isN).map p1).map .str), p) := by
  refine Wp.eq ?_
  unfold m_nevers_in
  refine fi_run ?_
  unfold b_nevers_in
  walk_at "VC"
  refine ⟨by rw [List.length_map]; unfold lim; omega, Wp.of_eq (lcGo_map pD isN (fun x => .str (p1 x)) fun x hx => ⟨_, rfl, ?_, fun _ => ?_⟩) ?_⟩
  · refine Wp.eq ?_
    unfold c1_nevers_int
    walk_at "VX"
    refine ⟨_, ix0 x _, ?_⟩
    walk_at "VC"
    exact ⟨by cases x <;> rfl, rfl⟩
  · refine Wp.eq ?_
    unfold c1_nevers_in
    walk_at "VX"
    refine ⟨_, ix1 x _, ?_⟩
    exact ⟨rfl, rfl⟩
  · exact ⟨by rw [List.map_map]; rfl, rfl⟩
theorem pairs_in_ok (xs : List Prem) (hl : xs.length ≤ 1000) (p : List Int) : m_pairs_in [XT xs] p = some (.lst ((xs.filter isB).map fun x => .tup [.str (p1 x), .str (p2 x)]), p) := by
  refine Wp.eq ?_
  unfold m_pairs_in
  refine fi_run ?_
  unfold b_pairs_in
  walk_at "VC"
  refine ⟨by rw [List.length_map]; unfold lim; omega, Wp.of_eq (lcGo_map pD isB (fun x => .tup [.str (p1 x), .str (p2 x)]) fun x hx => ⟨_, rfl, ?_, fun hb => ?_⟩) ?_⟩
  · refine Wp.eq ?_
    unfold c1_pairs_int
    walk_at "VX"
    refine ⟨_, ix0 x _, ?_⟩
    walk_at "VC"
    exact ⟨by cases x <;> rfl, rfl⟩
  · refine Wp.eq ?_
    unfold c1_pairs_in
    cases x with
    | both a b =>
      walk_at "VC"
    | _ => cases hb
  · exact ⟨rfl, rfl⟩
/-- the paths that shall have a key -/
def alws (xs : List Prem) : List Str := (xs.filter isA).map p1
theorem mem_alws {xs : List Prem} {s : Str} : s ∈ alws xs ↔ Prem.alw s ∈ xs := by
  unfold alws
  rw [List.mem_map]
  constructor
  · rintro ⟨x, hx, rfl⟩
    rw [List.mem_filter] at hx
    cases x with
    | alw a => exact hx.1
    | _ => cases hx.2
  · intro h
    exact ⟨.alw s, List.mem_filter.mpr ⟨h, rfl⟩, rfl⟩
def kS (s : Str) : Key := .inr s
theorem mergeG_keys {α β : Type} [DecidableEq α] (v : α → β) : ∀ (ss : List α) (acc : List (α × β)) (k : α), k ∈ (mergeG acc (ss.map fun s => (s, v s))).map (·.1) ↔ k ∈ acc.map (·.1) ∨ k ∈ ss
  | [], acc, k => by simp [mergeG]
  | s :: ss, acc, k => by
    rw [List.map_cons]
    show k ∈ (mergeG (putG acc s (v s)) (ss.map fun s => (s, v s))).map (·.1) ↔ _
    rw [mergeG_keys v ss]
    have : k ∈ (putG acc s (v s)).map (·.1) ↔ k ∈ acc.map (·.1) ∨ k = s := by
      unfold putG
      split
      · rename_i h
        have e : (acc.map fun q => if q.1 = s then (q.1, v s) else q).map (·.1) = acc.map (·.1) := by
          rw [List.map_map]
          refine List.map_congr_left fun q _ => ?_
          show (if q.1 = s then (q.1, v s) else q).1 = q.1
          split <;> rfl
        rw [e]
        constructor
        · exact .inl
        · rintro (h1 | rfl)
          · exact h1
          · obtain ⟨q, hq, e⟩ := List.any_eq_true.mp h
            exact List.mem_map.mpr ⟨q, hq, of_decide_eq_true e⟩
      · simp
    rw [this, List.mem_cons]
    constructor
    · rintro ((h | h) | h)
      · exact .inl h
      · exact .inr (.inl h)
      · exact .inr (.inr h)
    · rintro (h | h | h)
      · exact .inl (.inl h)
      · exact .inl (.inr h)
      · exact .inr h
end K36

namespace K36
open PySem PySem.Spec PyProof.Rows L2 Dt Tx
local macro_rules
  | `(tactic| walk_at "VC") => `(tactic| repeat (first
        | (with_reducible refine si_seq ?_)
        | (with_reducible refine si_for ?_)
        | (with_reducible refine si_forX ?_)
        | ((with_reducible apply si_app); rfl)
        | (with_reducible refine si_pool ?_)
        | (with_reducible refine si_asg ?_)
        | (with_reducible refine si_asgV ?_)
        | (with_reducible refine si_new ?_)
        | (with_reducible refine si_drop ?_)
        | (with_reducible refine si_ret ?_)
        | (with_reducible refine si_retX ?_)
        | (with_reducible refine si_if ?_)
        | ((with_reducible apply si_aug); rfl)
        | (with_reducible refine si_par ?_)
        | (with_reducible refine si_parO ?_)
        | (with_reducible refine si_asgG ?_)
        | (with_reducible refine si_next ?_)
        | (with_reducible refine si_brk ?_)
        | (with_reducible refine si_cnt ?_)
        | (with_reducible refine si_retN ?_)
        | ((with_reducible apply si_catO); rfl)
        | (with_reducible refine si_par3 ?_)
        | ((with_reducible apply wi_var); rfl)
        | (with_reducible refine wi_c ?_)
        | (with_reducible refine wi_op ?_)
        | (with_reducible refine wi_un ?_)
        | (with_reducible refine wi_nil ?_)
        | (with_reducible refine wi_cons ?_)
        | (with_reducible refine wi_cb ?_)
        | (with_reducible refine wi_mt ?_)
        | (with_reducible refine wi_tst ?_)
        | (with_reducible refine wi_tru ?_)
        | (with_reducible refine wi_and ?_)
        | (with_reducible refine wi_or ?_)
        | (with_reducible refine wi_not ?_)
        | (with_reducible refine wi_if ?_)
        | (with_reducible refine wi_andV ?_)
        | (with_reducible refine wi_orV ?_)
        | (with_reducible refine wi_notV ?_)
        | (with_reducible refine wi_tup ?_)
        | (with_reducible refine wi_lst ?_)
        | (with_reducible refine wi_ofF ?_)
        | (with_reducible refine wi_fresh ?_)
        | (with_reducible refine wi_isi ?_)
        | (with_reducible refine wi_sl ?_)
        | (with_reducible refine wi_oNone ?_)
        | (with_reducible refine wi_oSome ?_)
        | (with_reducible refine wi_call ?_)
        | (with_reducible refine wi_callF ?_)
        | (with_reducible refine wi_items ?_)
        | (with_reducible refine wi_lc ?_)
        | (with_reducible refine wi_star ?_)
        | (with_reducible refine wi_ix ?_)
        | (with_reducible refine wi_chain ?_)
        | (with_reducible refine wi_rng1 ?_)
        | (with_reducible refine wi_rng2 ?_)
        | (with_reducible refine wi_enum ?_)
        | (with_reducible refine wi_enumT ?_)
        | (with_reducible refine wi_zip ?_)
        | (with_reducible refine wi_zipK ?_)
        | (with_reducible refine wi_yes ?_)
        | (with_reducible refine wi_enumA ?_)
        | (with_reducible refine wi_slt ?_)
        | (with_reducible refine wi_isiC ?_)
        | (with_reducible refine wi_prop ?_)
        | (with_reducible refine wi_callP ?_)
        | (with_reducible refine wi_dc ?_)
        | (with_reducible refine wi_sortIt ?_)
        | (with_reducible refine wi_listIt ?_)
        | (with_reducible refine star_l ?_)
        | (with_reducible refine star_t ?_)
        | (with_reducible refine (pr2 (x := _) (y := _)).mpr ?_)
        | (with_reducible refine ⟨_, ev_eqS, ?_⟩)
        | (with_reducible refine ⟨_, ev_neS, ?_⟩)
        | (with_reducible refine ⟨_, ev_eqI, ?_⟩)
        | (with_reducible refine ⟨_, ev_neI, ?_⟩)
        | (with_reducible refine ⟨_, ev_eqT1, ?_⟩)
        | (with_reducible refine ⟨_, ev_eqT, ?_⟩)
        | (with_reducible refine ⟨_, ev_eqL, ?_⟩)
        | (with_reducible refine ⟨_, ev_neB, ?_⟩)
        | (with_reducible refine ⟨_, ev_inL, ?_⟩)
        | (with_reducible refine ⟨_, ev_inT, ?_⟩)
        | (with_reducible refine ⟨_, ev_ninL, ?_⟩)
        | (with_reducible refine ⟨_, ev_ninT, ?_⟩)
        | (with_reducible refine ⟨_, ev_inTL1, ?_⟩)
        | (with_reducible refine ⟨_, ev_ninTL1, ?_⟩)
        | (with_reducible refine ⟨_, ev_ninTL0, ?_⟩)
        | (with_reducible refine ⟨_, ev_inTL, ?_⟩)
        | (with_reducible refine ⟨_, ev_ninTL, ?_⟩)
        | (with_reducible refine ⟨_, sl_take1, ?_⟩)
        | (with_reducible refine ⟨_, sl_drop1, ?_⟩)
        | (with_reducible refine ⟨_, ev_all_map, ?_⟩)
        | (with_reducible refine ⟨_, ev_any_map, ?_⟩)
        | (with_reducible refine ⟨_, ev_all, ?_⟩)
        | (with_reducible refine ⟨_, ev_any, ?_⟩)
        | (with_reducible refine bl_i ?_)
        | (with_reducible refine int_i ?_)
        | (with_reducible refine tru_bl ?_)
        | (with_reducible refine neg_i ?_)
        | (with_reducible refine len_l ?_)
        | (with_reducible refine len_t ?_)
        | (with_reducible refine tup_l ?_)
        | (with_reducible refine it_l ?_)
        | (with_reducible refine it_t ?_)
        | (refine ite_t (by rfl) ?_)
        | (refine ite_f (by rfl) ?_)
        | (refine ⟨_, ev_mod (by omega), ?_⟩)
        | (refine ⟨_, ev_div (by omega) (by omega), ?_⟩)
        | (refine ⟨_, ev_divmod (by omega) (by omega), ?_⟩)
        | (refine ⟨_, ev_mulR (by omega) (by omega), ?_⟩)
        | (refine ⟨_, ev_mulL (by omega) (by omega), ?_⟩)
        | (refine ⟨_, rfl, ?_⟩)
        | (exact ⟨rfl, rfl⟩)
        | (refine ⟨rfl, ?_⟩)
        | (refine ⟨by decide, ?_⟩)
        | (refine ⟨(by simp only [List.length_cons, List.length_nil, lim]; decide), ?_⟩)
        | (refine ⟨of_decide_eq_true (by rfl), ?_⟩)))
local macro_rules
  | `(tactic| walk_at "VX") => `(tactic| repeat (first
        | (with_reducible refine si_seq ?_)
        | (with_reducible refine si_for ?_)
        | (with_reducible refine si_forX ?_)
        | ((with_reducible apply si_app); rfl)
        | (with_reducible refine si_pool ?_)
        | (with_reducible refine si_asg ?_)
        | (with_reducible refine si_asgV ?_)
        | (with_reducible refine si_new ?_)
        | (with_reducible refine si_drop ?_)
        | (with_reducible refine si_ret ?_)
        | (with_reducible refine si_retX ?_)
        | (with_reducible refine si_if ?_)
        | ((with_reducible apply si_aug); rfl)
        | (with_reducible refine si_par ?_)
        | (with_reducible refine si_parO ?_)
        | (with_reducible refine si_asgG ?_)
        | (with_reducible refine si_next ?_)
        | (with_reducible refine si_brk ?_)
        | (with_reducible refine si_cnt ?_)
        | (with_reducible refine si_retN ?_)
        | ((with_reducible apply si_catO); rfl)
        | (with_reducible refine si_par3 ?_)
        | ((with_reducible apply wi_var); rfl)
        | (with_reducible refine wi_c ?_)
        | (with_reducible refine wi_op ?_)
        | (with_reducible refine wi_un ?_)
        | (with_reducible refine wi_nil ?_)
        | (with_reducible refine wi_cons ?_)
        | (with_reducible refine wi_cb ?_)
        | (with_reducible refine wi_mt ?_)
        | (with_reducible refine wi_tst ?_)
        | (with_reducible refine wi_tru ?_)
        | (with_reducible refine wi_and ?_)
        | (with_reducible refine wi_or ?_)
        | (with_reducible refine wi_not ?_)
        | (with_reducible refine wi_if ?_)
        | (with_reducible refine wi_andV ?_)
        | (with_reducible refine wi_orV ?_)
        | (with_reducible refine wi_notV ?_)
        | (with_reducible refine wi_tup ?_)
        | (with_reducible refine wi_lst ?_)
        | (with_reducible refine wi_ofF ?_)
        | (with_reducible refine wi_fresh ?_)
        | (with_reducible refine wi_isi ?_)
        | (with_reducible refine wi_sl ?_)
        | (with_reducible refine wi_oNone ?_)
        | (with_reducible refine wi_oSome ?_)
        | (with_reducible refine wi_call ?_)
        | (with_reducible refine wi_callF ?_)
        | (with_reducible refine wi_items ?_)
        | (with_reducible refine wi_lc ?_)
        | (with_reducible refine wi_star ?_)
        | (with_reducible refine wi_ix ?_)
        | (with_reducible refine wi_chain ?_)
        | (with_reducible refine wi_rng1 ?_)
        | (with_reducible refine wi_rng2 ?_)
        | (with_reducible refine wi_enum ?_)
        | (with_reducible refine wi_enumT ?_)
        | (with_reducible refine wi_zip ?_)
        | (with_reducible refine wi_zipK ?_)
        | (with_reducible refine wi_yes ?_)
        | (with_reducible refine wi_enumA ?_)
        | (with_reducible refine wi_slt ?_)
        | (with_reducible refine wi_isiC ?_)
        | (with_reducible refine wi_prop ?_)
        | (with_reducible refine wi_callP ?_)
        | (with_reducible refine wi_dc ?_)
        | (with_reducible refine wi_sortIt ?_)
        | (with_reducible refine wi_listIt ?_)
        | (with_reducible refine star_l ?_)
        | (with_reducible refine star_t ?_)
        | (with_reducible refine (pr2 (x := _) (y := _)).mpr ?_)
        | (with_reducible refine ⟨_, ev_eqS, ?_⟩)
        | (with_reducible refine ⟨_, ev_neS, ?_⟩)
        | (with_reducible refine ⟨_, ev_eqI, ?_⟩)
        | (with_reducible refine ⟨_, ev_neI, ?_⟩)
        | (with_reducible refine ⟨_, ev_eqT1, ?_⟩)
        | (with_reducible refine ⟨_, ev_eqT, ?_⟩)
        | (with_reducible refine ⟨_, ev_eqL, ?_⟩)
        | (with_reducible refine ⟨_, ev_neB, ?_⟩)
        | (with_reducible refine ⟨_, ev_inL, ?_⟩)
        | (with_reducible refine ⟨_, ev_inT, ?_⟩)
        | (with_reducible refine ⟨_, ev_ninL, ?_⟩)
        | (with_reducible refine ⟨_, ev_ninT, ?_⟩)
        | (with_reducible refine ⟨_, ev_inTL1, ?_⟩)
        | (with_reducible refine ⟨_, ev_ninTL1, ?_⟩)
        | (with_reducible refine ⟨_, ev_ninTL0, ?_⟩)
        | (with_reducible refine ⟨_, ev_inTL, ?_⟩)
        | (with_reducible refine ⟨_, ev_ninTL, ?_⟩)
        | (with_reducible refine ⟨_, sl_take1, ?_⟩)
        | (with_reducible refine ⟨_, sl_drop1, ?_⟩)
        | (with_reducible refine ⟨_, ev_all_map, ?_⟩)
        | (with_reducible refine ⟨_, ev_any_map, ?_⟩)
        | (with_reducible refine ⟨_, ev_all, ?_⟩)
        | (with_reducible refine ⟨_, ev_any, ?_⟩)
        | (with_reducible refine bl_i ?_)
        | (with_reducible refine int_i ?_)
        | (with_reducible refine tru_bl ?_)
        | (with_reducible refine neg_i ?_)
        | (with_reducible refine len_l ?_)
        | (with_reducible refine len_t ?_)
        | (with_reducible refine tup_l ?_)
        | (with_reducible refine it_l ?_)
        | (with_reducible refine it_t ?_)
        | (refine ite_t (by rfl) ?_)
        | (refine ite_f (by rfl) ?_)
        | (refine ⟨_, ev_mod (by omega), ?_⟩)
        | (refine ⟨_, ev_div (by omega) (by omega), ?_⟩)
        | (refine ⟨_, ev_divmod (by omega) (by omega), ?_⟩)
        | (refine ⟨_, ev_mulR (by omega) (by omega), ?_⟩)
        | (refine ⟨_, ev_mulL (by omega) (by omega), ?_⟩)
        | (exact ⟨rfl, rfl⟩)
        | (refine ⟨rfl, ?_⟩)
        | (refine ⟨by decide, ?_⟩)
        | (refine ⟨(by simp only [List.length_cons, List.length_nil, lim]; decide), ?_⟩)
        | (refine ⟨of_decide_eq_true (by rfl), ?_⟩)))
theorem asStrs_keys' : ∀ ss : List Str, asStrs ((ss.map kS).map dKey) = some ss
  | [] => rfl
  | s :: ss => by
    rw [List.map_cons, List.map_cons]
    show (asStrs ((ss.map kS).map dKey)).map (s :: ·) = _
    rw [asStrs_keys' ss]
    rfl
theorem keys_strs {α : Type} {m : List (Key × α)} (h : ∀ q ∈ m, ∃ s, q.1 = kS s) : ∃ ss : List Str, m.map (·.1) = ss.map kS := by
  induction m with
  | nil => exact ⟨[], rfl⟩
  | cons q m ih =>
    obtain ⟨s, hs⟩ := h q List.mem_cons_self
    obtain ⟨ss, e⟩ := ih fun q hq => h q (List.mem_cons_of_mem _ hq)
    exact ⟨s :: ss, by rw [List.map_cons, List.map_cons, e, hs]⟩
theorem mergeG_len {α β : Type} [DecidableEq α] : ∀ (m acc : List (α × β)), (mergeG acc m).length ≤ acc.length + m.length
  | [], acc => by simp [mergeG]
  | q :: m, acc => by
    show (mergeG (putG acc q.1 q.2) m).length ≤ _
    have := mergeG_len m (putG acc q.1 q.2)
    have := putG_len acc q.1 q.2
    rw [List.length_cons]
    omega
/-- the always paths, ascending, each once -/
theorem always_in_ok (xs : List Prem) (hl : xs.length ≤ 60) (p : List Int) : ∃ ks : List Str, m_always_in [XT xs] p = some (.lst (ks.map .str), p) ∧ ks.length ≤ 60 ∧ ∀ s, s ∈ ks ↔ s ∈ alws xs := by
  obtain ⟨m, hm⟩ : ∃ m : List (Key × D), m = mergeG [] ((xs.filter isA).map fun x => (kS (p1 x), D.bl true)) := ⟨_, rfl⟩
  have hm2 : m = mergeG [] (((alws xs).map kS).map fun s => (s, (fun _ => D.bl true) s)) := by
    rw [hm]
    unfold alws
    rw [List.map_map, List.map_map]
    rfl
  have hk : ∀ k, k ∈ m.map (·.1) ↔ k ∈ (alws xs).map kS := fun k => by
    rw [hm2, mergeG_keys]
    simp
  obtain ⟨ss, hss⟩ : ∃ ss : List Str, m.map (·.1) = ss.map kS := keys_strs fun q hq => by
    obtain ⟨s, _, e⟩ := List.mem_map.mp ((hk q.1).mp (List.mem_map.mpr ⟨q, hq, rfl⟩))
    exact ⟨s, e.symm⟩
  have hlen : ss.length ≤ 60 := by
    have h1 := congrArg List.length hss
    rw [List.length_map, List.length_map] at h1
    have h2 := mergeG_len ((xs.filter isA).map fun x => (kS (p1 x), D.bl true)) []
    rw [← hm, List.length_map] at h2
    have h3 := List.length_filter_le isA xs
    rw [List.length_nil] at h2
    omega
  have hp : (ssort ss).Perm ss := List.mergeSort_perm ss sLe
  refine ⟨ssort ss, Wp.eq ?_, by rw [hp.length_eq]; exact hlen, fun s => ?_⟩
  · unfold m_always_in
    refine fi_run ?_
    unfold b_always_in
    walk_at "VC"
    refine ⟨by rw [List.length_map]; unfold lim; omega, Wp.of_eq (dcGo_map pD isA (fun x => kS (p1 x)) (fun x => .str (p1 x)) (fun _ => .bl true) fun x hx => ⟨rfl, _, rfl, ?_, fun _ => ⟨?_, ?_⟩⟩) ?_⟩
    · refine Wp.eq ?_
      unfold c1_always_int
      walk_at "VX"
      refine ⟨_, ix0 x _, ?_⟩
      walk_at "VC"
      exact ⟨by cases x <;> rfl, rfl⟩
    · refine Wp.eq ?_
      unfold c1_always_ink
      walk_at "VX"
      refine ⟨_, ix1 x _, ?_⟩
      exact ⟨rfl, rfl⟩
    · rfl
    · rw [← hm]
      walk_at "VX"
      refine ⟨.lst ((ssort ss).map .str), ?_, rfl, rfl⟩
      show (match asStrs ((m.map (·.1)).map dKey) with | some xs => if xs.length < 64 then some (D.lst ((ssort xs).map .str)) else none | none => none) = _
      rw [hss, asStrs_keys']
      exact if_pos (by omega)
  · rw [hp.mem_iff]
    have := hk (kS s)
    rw [hss] at this
    have inj : ∀ l : List Str, kS s ∈ l.map kS ↔ s ∈ l := fun l => by
      constructor
      · intro h
        obtain ⟨t, ht, e⟩ := List.mem_map.mp h
        cases e
        exact ht
      · exact fun h => List.mem_map.mpr ⟨s, h, rfl⟩
    rw [inj, inj] at this
    exact this
/-! # What clashes -/
def badIn (ks : List Str) : Prem → Bool
  | .nev p => ks.any fun k => under k p
  | .alw _ => false
  | .both p q => decide (p ∈ ks) && decide (q ∈ ks)
theorem badIn_congr {ks js : List Str} (h : ∀ s, s ∈ ks ↔ s ∈ js) (x : Prem) : badIn ks x = badIn js x := by
  cases x with
  | nev p =>
    show (ks.any _) = js.any _
    rw [Bool.eq_iff_iff, List.any_eq_true, List.any_eq_true]
    exact ⟨fun ⟨k, a, b⟩ => ⟨k, (h k).mp a, b⟩, fun ⟨k, a, b⟩ => ⟨k, (h k).mpr a, b⟩⟩
  | alw _ => rfl
  | both p q =>
    show (decide (p ∈ ks) && decide (q ∈ ks)) = (decide (p ∈ js) && decide (q ∈ js))
    rw [dec_iff (h p), dec_iff (h q)]
def clash (xs : List Prem) : Bool := xs.any (badIn (alws xs))
theorem lies_under_ok {k p : Str} (hp : p.length ≤ 100) (q : List Int) : m_lies_under [.str k, .str p] q = some (.bl (under k p), q) := by
  refine Wp.eq ?_
  unfold m_lies_under
  refine fi_run ?_
  unfold b_lies_under
  walk_at "VC"
  refine ite_b (fun h => ?_) fun h => ?_
  · have e : k = p := of_decide_eq_true h
    exact ⟨by unfold Tx.under; rw [h]; rfl, rfl⟩
  · walk_at "VX"
    refine ⟨_, ev_addS (by have : ("/" : Str).length = 1 := rfl; rw [this]; unfold lim; omega), ?_⟩
    walk_at "VX"
    refine ⟨.bl (Txt.startswith k (p ++ "/")), rfl, ?_, rfl⟩
    rw [starts_eq]
    unfold Tx.under
    rw [h]
    rfl
theorem fit_ok (ks : List Str) (hk : ks.length ≤ 1000) {xs : List Prem} (h : ∀ x ∈ xs, POk x) (hl : xs.length ≤ 1000) (p : List Int) : m_fit [.lst (ks.map .str), XT xs] p = some (.bl (!(xs.any (badIn ks))), p) := by
  refine Wp.eq ?_
  unfold m_fit
  refine fi_run ?_
  unfold b_fit
  walk_at "VC"
  refine Wp.of_eq (nevers_in_ok xs hl _) ?_
  walk_at "VC"
  have hN : ∀ s ∈ (xs.filter isN).map p1, s.length ≤ 100 := fun s hs => by
    obtain ⟨x, hx, rfl⟩ := List.mem_map.mp hs
    rw [List.mem_filter] at hx
    cases x with
    | nev a => exact Nat.le_trans (Pth.len (h _ hx.1)) (by decide)
    | _ => cases hx.2
  refine ws_forGo (fun ds r q => ∃ pre suf c1 c2 c3 c4, (xs.filter isN).map p1 = pre ++ suf ∧ (∀ s ∈ pre, (ks.any fun k => under k s) = false) ∧ ds = suf.map D.str ∧ r = [.sh (.lst (ks.map .str)), .sh (XT xs), c1, c2, c3, c4] ∧ q = p) ⟨[], _, .no, .no, .no, .no, rfl, fun _ h => (by cases h), rfl, rfl, rfl⟩ ?_ ?_
  · rintro d ds r q ⟨pre, suf, c1, c2, c3, c4, e1, e2, e3, rfl, rfl⟩
    cases suf with
    | nil => cases e3
    | cons s suf =>
      cases e3
      have hs : s ∈ (xs.filter isN).map p1 := by rw [e1]; simp
      refine ⟨_, _, rfl, ?_⟩
      unfold l2_fit
      walk_at "VC"
      refine ⟨by rw [List.length_map]; unfold lim; omega, Wp.of_eq (lcGo_all D.str (fun k => .bl (under k s)) fun k hk => ⟨_, rfl, rfl, Wp.eq ?_⟩) ?_⟩
      · unfold c1_fit
        walk_at "VC"
        refine Wp.of_eq (lies_under_ok (hN s hs) _) ?_
        exact ⟨rfl, rfl⟩
      · walk_at "VC"
        refine ite_b (fun hb => ?_) fun hb => ?_
        · walk_at "VC"
          refine ⟨congrArg D.bl ?_, rfl⟩
          obtain ⟨x, hx, rfl⟩ := List.mem_map.mp hs
          rw [List.mem_filter] at hx
          have : xs.any (badIn ks) = true := List.any_eq_true.mpr ⟨x, hx.1, by
            cases x with
            | nev a => exact hb
            | _ => cases hx.2⟩
          rw [this]
          rfl
        · walk_at "VC"
          refine ⟨pre ++ [s], suf, _, _, _, _, by rw [e1]; simp, fun t ht => ?_, rfl, rfl, rfl⟩
          rcases List.mem_append.mp ht with h1 | h1
          · exact e2 t h1
          · rw [List.mem_singleton.mp h1]; exact hb
  · rintro r q ⟨pre, suf, c1, c2, c3, c4, e1, e2, e3, rfl, rfl⟩
    have hsuf : suf = [] := by
      cases suf with
      | nil => rfl
      | cons _ _ => cases e3
    subst hsuf
    rw [List.append_nil] at e1
    walk_at "VC"
    refine Wp.of_eq (pairs_in_ok xs hl _) ?_
    walk_at "VC"
    refine ⟨by rw [List.length_map]; have := List.length_filter_le isB xs; unfold lim; omega, Wp.of_eq (lcGo_all (fun x => .tup [.str (p1 x), .str (p2 x)]) (fun x => .bl (decide (p1 x ∈ ks) && decide (p2 x ∈ ks))) fun x hx => ⟨_, rfl, rfl, Wp.eq ?_⟩) ?_⟩
    · unfold c3_fit
      walk_at "VC"
      refine ite_b (fun hb => ?_) fun hb => ?_
      · walk_at "VC"
        exact ⟨by rw [hb]; rfl, rfl⟩
      · walk_at "VC"
        exact ⟨by rw [hb]; rfl, rfl⟩
    · walk_at "VC"
      refine ⟨congrArg D.bl (congrArg (!·) ?_), rfl⟩
      rw [Bool.eq_iff_iff, List.any_eq_true, List.any_eq_true]
      constructor
      · rintro ⟨x, hx, hb⟩
        rw [List.mem_filter] at hx
        refine ⟨x, hx.1, ?_⟩
        cases x with
        | both a b => exact hb
        | _ => cases hx.2
      · rintro ⟨x, hx, hb⟩
        cases x with
        | nev a =>
          have := e2 a (by rw [← e1]; exact List.mem_map.mpr ⟨_, List.mem_filter.mpr ⟨hx, rfl⟩, rfl⟩)
          rw [show badIn ks (.nev a) = _ from this] at hb
          cases hb
        | alw a => cases hb
        | both a b => exact ⟨_, List.mem_filter.mpr ⟨hx, rfl⟩, hb⟩
theorem contr_ok {xs : List Prem} (h : ∀ x ∈ xs, POk x) (hl : xs.length ≤ 10) (p : List Int) : m_is_contradictory [XT xs] p = some (.bl (clash xs), p) := by
  obtain ⟨ks, e1, e2, e3⟩ := always_in_ok xs (by omega) p
  refine Wp.eq ?_
  unfold m_is_contradictory
  refine fi_run ?_
  unfold b_is_contradictory
  walk_at "VC"
  refine Wp.of_eq (check_form_ok h hl _) ?_
  walk_at "VC"
  refine Wp.of_eq e1 ?_
  walk_at "VC"
  refine Wp.of_eq (fit_ok ks (by omega) h (by omega) _) ?_
  walk_at "VC"
  refine ⟨congrArg D.bl ?_, rfl⟩
  rw [Bool.not_not]
  unfold clash
  rw [Bool.eq_iff_iff, List.any_eq_true, List.any_eq_true]
  exact ⟨fun ⟨x, a, b⟩ => ⟨x, a, by rw [← badIn_congr e3]; exact b⟩, fun ⟨x, a, b⟩ => ⟨x, a, by rw [badIn_congr e3]; exact b⟩⟩
end K36

namespace K36
open PySem PySem.Spec PyProof.Rows L2 Dt Tx
local macro_rules
  | `(tactic| walk_at "VC") => `(tactic| repeat (first
        | (with_reducible refine si_seq ?_)
        | (with_reducible refine si_for ?_)
        | (with_reducible refine si_forX ?_)
        | ((with_reducible apply si_app); rfl)
        | (with_reducible refine si_pool ?_)
        | (with_reducible refine si_asg ?_)
        | (with_reducible refine si_asgV ?_)
        | (with_reducible refine si_new ?_)
        | (with_reducible refine si_drop ?_)
        | (with_reducible refine si_ret ?_)
        | (with_reducible refine si_retX ?_)
        | (with_reducible refine si_if ?_)
        | ((with_reducible apply si_aug); rfl)
        | (with_reducible refine si_par ?_)
        | (with_reducible refine si_parO ?_)
        | (with_reducible refine si_asgG ?_)
        | (with_reducible refine si_next ?_)
        | (with_reducible refine si_brk ?_)
        | (with_reducible refine si_cnt ?_)
        | (with_reducible refine si_retN ?_)
        | ((with_reducible apply si_catO); rfl)
        | (with_reducible refine si_par3 ?_)
        | ((with_reducible apply wi_var); rfl)
        | (with_reducible refine wi_c ?_)
        | (with_reducible refine wi_op ?_)
        | (with_reducible refine wi_un ?_)
        | (with_reducible refine wi_nil ?_)
        | (with_reducible refine wi_cons ?_)
        | (with_reducible refine wi_cb ?_)
        | (with_reducible refine wi_mt ?_)
        | (with_reducible refine wi_tst ?_)
        | (with_reducible refine wi_tru ?_)
        | (with_reducible refine wi_and ?_)
        | (with_reducible refine wi_or ?_)
        | (with_reducible refine wi_not ?_)
        | (with_reducible refine wi_if ?_)
        | (with_reducible refine wi_andV ?_)
        | (with_reducible refine wi_orV ?_)
        | (with_reducible refine wi_notV ?_)
        | (with_reducible refine wi_tup ?_)
        | (with_reducible refine wi_lst ?_)
        | (with_reducible refine wi_ofF ?_)
        | (with_reducible refine wi_fresh ?_)
        | (with_reducible refine wi_isi ?_)
        | (with_reducible refine wi_sl ?_)
        | (with_reducible refine wi_oNone ?_)
        | (with_reducible refine wi_oSome ?_)
        | (with_reducible refine wi_call ?_)
        | (with_reducible refine wi_callF ?_)
        | (with_reducible refine wi_items ?_)
        | (with_reducible refine wi_lc ?_)
        | (with_reducible refine wi_star ?_)
        | (with_reducible refine wi_ix ?_)
        | (with_reducible refine wi_chain ?_)
        | (with_reducible refine wi_rng1 ?_)
        | (with_reducible refine wi_rng2 ?_)
        | (with_reducible refine wi_enum ?_)
        | (with_reducible refine wi_enumT ?_)
        | (with_reducible refine wi_zip ?_)
        | (with_reducible refine wi_zipK ?_)
        | (with_reducible refine wi_yes ?_)
        | (with_reducible refine wi_enumA ?_)
        | (with_reducible refine wi_slt ?_)
        | (with_reducible refine wi_isiC ?_)
        | (with_reducible refine wi_prop ?_)
        | (with_reducible refine wi_callP ?_)
        | (with_reducible refine wi_dc ?_)
        | (with_reducible refine wi_sortIt ?_)
        | (with_reducible refine wi_listIt ?_)
        | (with_reducible refine star_l ?_)
        | (with_reducible refine star_t ?_)
        | (with_reducible refine (pr2 (x := _) (y := _)).mpr ?_)
        | (with_reducible refine ⟨_, ev_eqS, ?_⟩)
        | (with_reducible refine ⟨_, ev_neS, ?_⟩)
        | (with_reducible refine ⟨_, ev_eqI, ?_⟩)
        | (with_reducible refine ⟨_, ev_neI, ?_⟩)
        | (with_reducible refine ⟨_, ev_eqT1, ?_⟩)
        | (with_reducible refine ⟨_, ev_eqT, ?_⟩)
        | (with_reducible refine ⟨_, ev_eqL, ?_⟩)
        | (with_reducible refine ⟨_, ev_neB, ?_⟩)
        | (with_reducible refine ⟨_, ev_inL, ?_⟩)
        | (with_reducible refine ⟨_, ev_inT, ?_⟩)
        | (with_reducible refine ⟨_, ev_ninL, ?_⟩)
        | (with_reducible refine ⟨_, ev_ninT, ?_⟩)
        | (with_reducible refine ⟨_, ev_inTL1, ?_⟩)
        | (with_reducible refine ⟨_, ev_ninTL1, ?_⟩)
        | (with_reducible refine ⟨_, ev_ninTL0, ?_⟩)
        | (with_reducible refine ⟨_, ev_inTL, ?_⟩)
        | (with_reducible refine ⟨_, ev_ninTL, ?_⟩)
        | (with_reducible refine ⟨_, sl_take1, ?_⟩)
        | (with_reducible refine ⟨_, sl_drop1, ?_⟩)
        | (with_reducible refine ⟨_, ev_all_map, ?_⟩)
        | (with_reducible refine ⟨_, ev_any_map, ?_⟩)
        | (with_reducible refine ⟨_, ev_all, ?_⟩)
        | (with_reducible refine ⟨_, ev_any, ?_⟩)
        | (with_reducible refine bl_i ?_)
        | (with_reducible refine int_i ?_)
        | (with_reducible refine tru_bl ?_)
        | (with_reducible refine neg_i ?_)
        | (with_reducible refine len_l ?_)
        | (with_reducible refine len_t ?_)
        | (with_reducible refine tup_l ?_)
        | (with_reducible refine it_l ?_)
        | (with_reducible refine it_t ?_)
        | (refine ite_t (by rfl) ?_)
        | (refine ite_f (by rfl) ?_)
        | (refine ⟨_, ev_mod (by omega), ?_⟩)
        | (refine ⟨_, ev_div (by omega) (by omega), ?_⟩)
        | (refine ⟨_, ev_divmod (by omega) (by omega), ?_⟩)
        | (refine ⟨_, ev_mulR (by omega) (by omega), ?_⟩)
        | (refine ⟨_, ev_mulL (by omega) (by omega), ?_⟩)
        | (refine ⟨_, rfl, ?_⟩)
        | (exact ⟨rfl, rfl⟩)
        | (refine ⟨rfl, ?_⟩)
        | (refine ⟨by decide, ?_⟩)
        | (refine ⟨(by simp only [List.length_cons, List.length_nil, lim]; decide), ?_⟩)
        | (refine ⟨of_decide_eq_true (by rfl), ?_⟩)))
local macro_rules
  | `(tactic| walk_at "VX") => `(tactic| repeat (first
        | (with_reducible refine si_seq ?_)
        | (with_reducible refine si_for ?_)
        | (with_reducible refine si_forX ?_)
        | ((with_reducible apply si_app); rfl)
        | (with_reducible refine si_pool ?_)
        | (with_reducible refine si_asg ?_)
        | (with_reducible refine si_asgV ?_)
        | (with_reducible refine si_new ?_)
        | (with_reducible refine si_drop ?_)
        | (with_reducible refine si_ret ?_)
        | (with_reducible refine si_retX ?_)
        | (with_reducible refine si_if ?_)
        | ((with_reducible apply si_aug); rfl)
        | (with_reducible refine si_par ?_)
        | (with_reducible refine si_parO ?_)
        | (with_reducible refine si_asgG ?_)
        | (with_reducible refine si_next ?_)
        | (with_reducible refine si_brk ?_)
        | (with_reducible refine si_cnt ?_)
        | (with_reducible refine si_retN ?_)
        | ((with_reducible apply si_catO); rfl)
        | (with_reducible refine si_par3 ?_)
        | ((with_reducible apply wi_var); rfl)
        | (with_reducible refine wi_c ?_)
        | (with_reducible refine wi_op ?_)
        | (with_reducible refine wi_un ?_)
        | (with_reducible refine wi_nil ?_)
        | (with_reducible refine wi_cons ?_)
        | (with_reducible refine wi_cb ?_)
        | (with_reducible refine wi_mt ?_)
        | (with_reducible refine wi_tst ?_)
        | (with_reducible refine wi_tru ?_)
        | (with_reducible refine wi_and ?_)
        | (with_reducible refine wi_or ?_)
        | (with_reducible refine wi_not ?_)
        | (with_reducible refine wi_if ?_)
        | (with_reducible refine wi_andV ?_)
        | (with_reducible refine wi_orV ?_)
        | (with_reducible refine wi_notV ?_)
        | (with_reducible refine wi_tup ?_)
        | (with_reducible refine wi_lst ?_)
        | (with_reducible refine wi_ofF ?_)
        | (with_reducible refine wi_fresh ?_)
        | (with_reducible refine wi_isi ?_)
        | (with_reducible refine wi_sl ?_)
        | (with_reducible refine wi_oNone ?_)
        | (with_reducible refine wi_oSome ?_)
        | (with_reducible refine wi_call ?_)
        | (with_reducible refine wi_callF ?_)
        | (with_reducible refine wi_items ?_)
        | (with_reducible refine wi_lc ?_)
        | (with_reducible refine wi_star ?_)
        | (with_reducible refine wi_ix ?_)
        | (with_reducible refine wi_chain ?_)
        | (with_reducible refine wi_rng1 ?_)
        | (with_reducible refine wi_rng2 ?_)
        | (with_reducible refine wi_enum ?_)
        | (with_reducible refine wi_enumT ?_)
        | (with_reducible refine wi_zip ?_)
        | (with_reducible refine wi_zipK ?_)
        | (with_reducible refine wi_yes ?_)
        | (with_reducible refine wi_enumA ?_)
        | (with_reducible refine wi_slt ?_)
        | (with_reducible refine wi_isiC ?_)
        | (with_reducible refine wi_prop ?_)
        | (with_reducible refine wi_callP ?_)
        | (with_reducible refine wi_dc ?_)
        | (with_reducible refine wi_sortIt ?_)
        | (with_reducible refine wi_listIt ?_)
        | (with_reducible refine star_l ?_)
        | (with_reducible refine star_t ?_)
        | (with_reducible refine (pr2 (x := _) (y := _)).mpr ?_)
        | (with_reducible refine ⟨_, ev_eqS, ?_⟩)
        | (with_reducible refine ⟨_, ev_neS, ?_⟩)
        | (with_reducible refine ⟨_, ev_eqI, ?_⟩)
        | (with_reducible refine ⟨_, ev_neI, ?_⟩)
        | (with_reducible refine ⟨_, ev_eqT1, ?_⟩)
        | (with_reducible refine ⟨_, ev_eqT, ?_⟩)
        | (with_reducible refine ⟨_, ev_eqL, ?_⟩)
        | (with_reducible refine ⟨_, ev_neB, ?_⟩)
        | (with_reducible refine ⟨_, ev_inL, ?_⟩)
        | (with_reducible refine ⟨_, ev_inT, ?_⟩)
        | (with_reducible refine ⟨_, ev_ninL, ?_⟩)
        | (with_reducible refine ⟨_, ev_ninT, ?_⟩)
        | (with_reducible refine ⟨_, ev_inTL1, ?_⟩)
        | (with_reducible refine ⟨_, ev_ninTL1, ?_⟩)
        | (with_reducible refine ⟨_, ev_ninTL0, ?_⟩)
        | (with_reducible refine ⟨_, ev_inTL, ?_⟩)
        | (with_reducible refine ⟨_, ev_ninTL, ?_⟩)
        | (with_reducible refine ⟨_, sl_take1, ?_⟩)
        | (with_reducible refine ⟨_, sl_drop1, ?_⟩)
        | (with_reducible refine ⟨_, ev_all_map, ?_⟩)
        | (with_reducible refine ⟨_, ev_any_map, ?_⟩)
        | (with_reducible refine ⟨_, ev_all, ?_⟩)
        | (with_reducible refine ⟨_, ev_any, ?_⟩)
        | (with_reducible refine bl_i ?_)
        | (with_reducible refine int_i ?_)
        | (with_reducible refine tru_bl ?_)
        | (with_reducible refine neg_i ?_)
        | (with_reducible refine len_l ?_)
        | (with_reducible refine len_t ?_)
        | (with_reducible refine tup_l ?_)
        | (with_reducible refine it_l ?_)
        | (with_reducible refine it_t ?_)
        | (refine ite_t (by rfl) ?_)
        | (refine ite_f (by rfl) ?_)
        | (refine ⟨_, ev_mod (by omega), ?_⟩)
        | (refine ⟨_, ev_div (by omega) (by omega), ?_⟩)
        | (refine ⟨_, ev_divmod (by omega) (by omega), ?_⟩)
        | (refine ⟨_, ev_mulR (by omega) (by omega), ?_⟩)
        | (refine ⟨_, ev_mulL (by omega) (by omega), ?_⟩)
        | (exact ⟨rfl, rfl⟩)
        | (refine ⟨rfl, ?_⟩)
        | (refine ⟨by decide, ?_⟩)
        | (refine ⟨(by simp only [List.length_cons, List.length_nil, lim]; decide), ?_⟩)
        | (refine ⟨of_decide_eq_true (by rfl), ?_⟩)))
theorem len_s1 : ("/" : Str).length = 1 := rfl
theorem law_under_ok {k p : Str} (hp : p.length ≤ 100) (q : List Int) : m__law_under [.str k, .str p] q = some (.bl (under k p), q) := by
  refine Wp.eq ?_
  unfold m__law_under
  refine fi_run ?_
  unfold b__law_under
  walk_at "VC"
  refine ite_b (fun h => ?_) fun h => ?_
  · exact ⟨by unfold Tx.under; rw [h]; rfl, rfl⟩
  · walk_at "VX"
    refine ⟨.int p.length, rfl, ?_⟩
    walk_at "VX"
    refine ⟨_, ev_addI, ?_⟩
    walk_at "VX"
    refine ⟨.str (cutS k none (some ((p.length : Int) + 1))), rfl, ?_⟩
    walk_at "VX"
    refine ⟨_, ev_addS (by rw [len_s1]; unfold lim; omega), ?_⟩
    walk_at "VC"
    refine ⟨congrArg D.bl ?_, rfl⟩
    unfold Tx.under
    rw [h, Bool.false_or]
    refine dec_iff ?_
    rw [str_beq_iff]
    show tl (cutS k none (some ((p.length : Int) + 1))) = tl (p ++ "/" : Str) ↔ _
    rw [show tl (cutS k none (some ((p.length : Int) + 1))) = _ from cutS_tl k _ _, dcut_take _ (by omega), show tl (p ++ "/" : Str) = tl p ++ [47] from TL.tl_append _ _]
    have e : ((p.length : Int) + 1).toNat = p.length + 1 := by omega
    rw [e]
theorem isA_ix (x : Prem) (p : List Int) : Wp (mTst (mOp dEq (mC (.str (match x with | .nev _ => "never" | .alw _ => "always" | .both _ _ => "not both"))) (mC (.str "always"))) [] p) fun b q => b = isA x ∧ q = p := by
  walk_at "VC"
  exact ⟨by cases x <;> rfl, rfl⟩
theorem p1_len {x : Prem} (h : POk x) : (p1 x).length ≤ 100 := by
  cases x with
  | nev a => exact Nat.le_trans (Pth.len h) (by decide)
  | alw a => exact Nat.le_trans (Pth.len h) (by decide)
  | both a b => exact Nat.le_trans (Pth.len h.1) (by decide)
theorem law_clash_ok {xs : List Prem} (h : ∀ x ∈ xs, POk x) (hl : xs.length ≤ 1000) (p : List Int) : m__law_clash [XT xs] p = some (.bl (clash xs), p) := by
  refine Wp.eq ?_
  unfold m__law_clash
  refine fi_run ?_
  unfold b__law_clash
  walk_at "VC"
  refine ⟨by rw [List.length_map]; unfold lim; omega, Wp.of_eq (lcGo_map pD isA (fun x => .str (p1 x)) fun x hx => ⟨_, rfl, ?_, fun _ => ?_⟩) ?_⟩
  · refine Wp.eq ?_
    unfold c1__law_clasht
    walk_at "VX"
    refine ⟨_, ix0 x _, ?_⟩
    walk_at "VC"
    exact ⟨by cases x <;> rfl, rfl⟩
  · refine Wp.eq ?_
    unfold c1__law_clash
    walk_at "VX"
    refine ⟨_, ix1 x _, ?_⟩
    exact ⟨rfl, rfl⟩
  have e : (xs.filter isA).map (fun x => D.str (p1 x)) = (alws xs).map D.str := by unfold alws; rw [List.map_map]; rfl
  rw [e]
  have hal : (alws xs).length ≤ 1000 := by
    unfold alws
    rw [List.length_map]
    have := List.length_filter_le isA xs
    omega
  walk_at "VC"
  refine ws_forGo (fun ds r q => ∃ pre suf c2 c3, xs = pre ++ suf ∧ (∀ x ∈ pre, badIn (alws xs) x = false) ∧ ds = suf.map pD ∧ r = [.sh (XT xs), .sh (.lst ((alws xs).map .str)), c2, c3] ∧ q = p) ⟨[], xs, .no, .no, rfl, fun _ h => (by cases h), rfl, rfl, rfl⟩ ?_ ?_
  · rintro d ds r q ⟨pre, suf, c2, c3, e1, e2, e3, rfl, rfl⟩
    cases suf with
    | nil => cases e3
    | cons x suf =>
      cases e3
      have hx : x ∈ xs := by rw [e1]; simp
      have fin : ∀ c3, badIn (alws xs) x = false → ∃ pre' suf' c2' c3', xs = pre' ++ suf' ∧ (∀ x ∈ pre', badIn (alws xs) x = false) ∧ suf.map pD = suf'.map pD ∧ [Cl.sh (XT xs), .sh (.lst ((alws xs).map .str)), .sh (pD x), c3] = [.sh (XT xs), .sh (.lst ((alws xs).map .str)), c2', c3'] ∧ q = q := fun c3 hb => by
        refine ⟨pre ++ [x], suf, _, _, by rw [e1]; simp, fun y hy => ?_, rfl, rfl, rfl⟩
        rcases List.mem_append.mp hy with h1 | h1
        · exact e2 y h1
        · rw [List.mem_singleton.mp h1]; exact hb
      have yes : badIn (alws xs) x = true → clash xs = true := fun hb => List.any_eq_true.mpr ⟨x, hx, hb⟩
      refine ⟨_, _, rfl, ?_⟩
      unfold l3__law_clash
      cases x with
      | nev a =>
        have ha : a.length ≤ 100 := p1_len (h _ hx)
        walk_at "VC"
        refine ⟨by rw [List.length_map]; unfold lim; omega, Wp.of_eq (lcGo_all D.str (fun k => .bl (under k a)) fun k hk => ⟨_, rfl, rfl, Wp.eq ?_⟩) ?_⟩
        · unfold c2__law_clash
          walk_at "VC"
          refine Wp.of_eq (law_under_ok ha _) ?_
          exact ⟨rfl, rfl⟩
        · walk_at "VC"
          refine ite_b (fun hb => ?_) fun hb => ?_
          · walk_at "VC"
            exact ⟨congrArg D.bl (yes hb).symm, rfl⟩
          · walk_at "VC"
            exact fin _ hb
      | alw a =>
        walk_at "VC"
        exact fin _ rfl
      | both a b =>
        walk_at "VC"
        refine ite_b (fun h1 => ?_) fun h1 => ?_
        · walk_at "VC"
          refine ite_b (fun h2 => ?_) fun h2 => ?_
          · walk_at "VC"
            exact ⟨congrArg D.bl (yes (by show (_ && _) = true; rw [h1, h2]; rfl)).symm, rfl⟩
          · walk_at "VC"
            exact fin _ (by show (_ && _) = false; rw [h1, h2]; rfl)
        · walk_at "VC"
          exact fin _ (by show (_ && _) = false; rw [h1]; rfl)
  · rintro r q ⟨pre, suf, c2, c3, e1, e2, e3, rfl, rfl⟩
    have hsuf : suf = [] := by
      cases suf with
      | nil => rfl
      | cons _ _ => cases e3
    subst hsuf
    rw [List.append_nil] at e1
    walk_at "VC"
    refine ⟨congrArg D.bl ?_, rfl⟩
    unfold clash
    rw [e1] at e2 ⊢
    exact (List.any_eq_false.mpr fun x hx => by rw [e2 x hx]; decide).symm
theorem pth_of {ps : List Str} (h : PsOk ps) : Pth (J ps) := ⟨ps, h, rfl⟩
theorem law_premise_ok {ws : List Str} (hW : GoodW ws) (a b c : Int) : Wp (m__law_premise [.pool, .lst (ws.map .str)] [a, b, c]) fun d q => ∃ x a' b' c', POk x ∧ d = pD x ∧ q = [a', b', c'] := by
  unfold m__law_premise
  refine fi_run ?_
  unfold b__law_premise
  walk_at "VC"
  refine (draw_ok (n := 5) (by decide) (by decide) a b c).mono fun d q hd => ?_
  obtain ⟨k, a, b, c, rfl, rfl, hk0, hk⟩ := hd
  walk_at "VC"
  refine (law_path_ok hW (n := 3) (by decide) (by decide) a b c).mono fun d q hd => ?_
  obtain ⟨ps, a, b, c, h1, _, rfl, rfl⟩ := hd
  walk_at "VC"
  refine (law_path_ok hW (n := 3) (by decide) (by decide) a b c).mono fun d q hd => ?_
  obtain ⟨qs, a, b, c, h2, _, rfl, rfl⟩ := hd
  walk_at "VX"
  refine ⟨_, _, _, rfl, ?_⟩
  have fin : Ws (sRet false (mTup (mCons (mIx (mLst (mCons (mC (.str "never")) (mCons (mC (.str "always")) (mCons (mC (.str "always")) (mNil))))) (mCall 2 m__law_draw (mCons (mVar 0) (mCons (mC (.int 3)) (mNil))))) (mCons (mVar 3) (mNil)))) [.sh .pool, .sh (.lst (ws.map .str)), .sh (.int k), .sh (.str (J ps)), .sh (.str (J qs))] [a, b, c]) (fun _ q => ∃ x a' b' c', POk x ∧ D.non = pD x ∧ q = [a', b', c']) (fun d q => ∃ x a' b' c', POk x ∧ d = pD x ∧ q = [a', b', c']) (fun _ _ => False) (fun _ _ => False) := by
    walk_at "VC"
    refine (draw_ok (n := 3) (by decide) (by decide) a b c).mono fun d q hd => ?_
    obtain ⟨k, a, b, c, rfl, rfl, hk0, hk⟩ := hd
    have hc : k = 0 ∨ k = 1 ∨ k = 2 := by omega
    rcases hc with rfl | rfl | rfl
    · walk_at "VC"
      exact ⟨.nev (J ps), a, b, c, pth_of h1, rfl, rfl⟩
    · walk_at "VC"
      exact ⟨.alw (J ps), a, b, c, pth_of h1, rfl, rfl⟩
    · walk_at "VC"
      exact ⟨.alw (J ps), a, b, c, pth_of h1, rfl, rfl⟩
  walk_at "VC"
  refine ite_b (fun hk2 => ?_) fun hk2 => ?_
  · walk_at "VC"
    refine ite_b (fun hne => ?_) fun hne => ?_
    · walk_at "VC"
      refine ⟨.both (J ps) (J qs), a, b, c, ⟨pth_of h1, pth_of h2, ?_⟩, rfl, rfl⟩
      intro e
      rw [decide_eq_true e] at hne
      cases hne
    · refine si_next ?_
      exact fin
  · refine ite_f rfl (si_next ?_)
    exact fin
end K36

namespace K36
open PySem PySem.Spec PyProof.Rows L2 Dt Tx
local macro_rules
  | `(tactic| walk_at "VC") => `(tactic| repeat (first
        | (with_reducible refine si_seq ?_)
        | (with_reducible refine si_for ?_)
        | (with_reducible refine si_forX ?_)
        | ((with_reducible apply si_app); rfl)
        | (with_reducible refine si_pool ?_)
        | (with_reducible refine si_asg ?_)
        | (with_reducible refine si_asgV ?_)
        | (with_reducible refine si_new ?_)
        | (with_reducible refine si_drop ?_)
        | (with_reducible refine si_ret ?_)
        | (with_reducible refine si_retX ?_)
        | (with_reducible refine si_if ?_)
        | ((with_reducible apply si_aug); rfl)
        | (with_reducible refine si_par ?_)
        | (with_reducible refine si_parO ?_)
        | (with_reducible refine si_asgG ?_)
        | (with_reducible refine si_next ?_)
        | (with_reducible refine si_brk ?_)
        | (with_reducible refine si_cnt ?_)
        | (with_reducible refine si_retN ?_)
        | ((with_reducible apply si_catO); rfl)
        | (with_reducible refine si_par3 ?_)
        | ((with_reducible apply wi_var); rfl)
        | (with_reducible refine wi_c ?_)
        | (with_reducible refine wi_op ?_)
        | (with_reducible refine wi_un ?_)
        | (with_reducible refine wi_nil ?_)
        | (with_reducible refine wi_cons ?_)
        | (with_reducible refine wi_cb ?_)
        | (with_reducible refine wi_mt ?_)
        | (with_reducible refine wi_tst ?_)
        | (with_reducible refine wi_tru ?_)
        | (with_reducible refine wi_and ?_)
        | (with_reducible refine wi_or ?_)
        | (with_reducible refine wi_not ?_)
        | (with_reducible refine wi_if ?_)
        | (with_reducible refine wi_andV ?_)
        | (with_reducible refine wi_orV ?_)
        | (with_reducible refine wi_notV ?_)
        | (with_reducible refine wi_tup ?_)
        | (with_reducible refine wi_lst ?_)
        | (with_reducible refine wi_ofF ?_)
        | (with_reducible refine wi_fresh ?_)
        | (with_reducible refine wi_isi ?_)
        | (with_reducible refine wi_sl ?_)
        | (with_reducible refine wi_oNone ?_)
        | (with_reducible refine wi_oSome ?_)
        | (with_reducible refine wi_call ?_)
        | (with_reducible refine wi_callF ?_)
        | (with_reducible refine wi_items ?_)
        | (with_reducible refine wi_lc ?_)
        | (with_reducible refine wi_star ?_)
        | (with_reducible refine wi_ix ?_)
        | (with_reducible refine wi_chain ?_)
        | (with_reducible refine wi_rng1 ?_)
        | (with_reducible refine wi_rng2 ?_)
        | (with_reducible refine wi_enum ?_)
        | (with_reducible refine wi_enumT ?_)
        | (with_reducible refine wi_zip ?_)
        | (with_reducible refine wi_zipK ?_)
        | (with_reducible refine wi_yes ?_)
        | (with_reducible refine wi_enumA ?_)
        | (with_reducible refine wi_slt ?_)
        | (with_reducible refine wi_isiC ?_)
        | (with_reducible refine wi_prop ?_)
        | (with_reducible refine wi_callP ?_)
        | (with_reducible refine wi_dc ?_)
        | (with_reducible refine wi_sortIt ?_)
        | (with_reducible refine wi_listIt ?_)
        | (with_reducible refine star_l ?_)
        | (with_reducible refine star_t ?_)
        | (with_reducible refine (pr2 (x := _) (y := _)).mpr ?_)
        | (with_reducible refine ⟨_, ev_eqS, ?_⟩)
        | (with_reducible refine ⟨_, ev_neS, ?_⟩)
        | (with_reducible refine ⟨_, ev_eqI, ?_⟩)
        | (with_reducible refine ⟨_, ev_neI, ?_⟩)
        | (with_reducible refine ⟨_, ev_eqT1, ?_⟩)
        | (with_reducible refine ⟨_, ev_eqT, ?_⟩)
        | (with_reducible refine ⟨_, ev_eqL, ?_⟩)
        | (with_reducible refine ⟨_, ev_neB, ?_⟩)
        | (with_reducible refine ⟨_, ev_inL, ?_⟩)
        | (with_reducible refine ⟨_, ev_inT, ?_⟩)
        | (with_reducible refine ⟨_, ev_ninL, ?_⟩)
        | (with_reducible refine ⟨_, ev_ninT, ?_⟩)
        | (with_reducible refine ⟨_, ev_inTL1, ?_⟩)
        | (with_reducible refine ⟨_, ev_ninTL1, ?_⟩)
        | (with_reducible refine ⟨_, ev_ninTL0, ?_⟩)
        | (with_reducible refine ⟨_, ev_inTL, ?_⟩)
        | (with_reducible refine ⟨_, ev_ninTL, ?_⟩)
        | (with_reducible refine ⟨_, sl_take1, ?_⟩)
        | (with_reducible refine ⟨_, sl_drop1, ?_⟩)
        | (with_reducible refine ⟨_, ev_all_map, ?_⟩)
        | (with_reducible refine ⟨_, ev_any_map, ?_⟩)
        | (with_reducible refine ⟨_, ev_all, ?_⟩)
        | (with_reducible refine ⟨_, ev_any, ?_⟩)
        | (with_reducible refine bl_i ?_)
        | (with_reducible refine int_i ?_)
        | (with_reducible refine tru_bl ?_)
        | (with_reducible refine neg_i ?_)
        | (with_reducible refine len_l ?_)
        | (with_reducible refine len_t ?_)
        | (with_reducible refine tup_l ?_)
        | (with_reducible refine it_l ?_)
        | (with_reducible refine it_t ?_)
        | (refine ite_t (by rfl) ?_)
        | (refine ite_f (by rfl) ?_)
        | (refine ⟨_, ev_mod (by omega), ?_⟩)
        | (refine ⟨_, ev_div (by omega) (by omega), ?_⟩)
        | (refine ⟨_, ev_divmod (by omega) (by omega), ?_⟩)
        | (refine ⟨_, ev_mulR (by omega) (by omega), ?_⟩)
        | (refine ⟨_, ev_mulL (by omega) (by omega), ?_⟩)
        | (refine ⟨_, rfl, ?_⟩)
        | (exact ⟨rfl, rfl⟩)
        | (refine ⟨rfl, ?_⟩)
        | (refine ⟨by decide, ?_⟩)
        | (refine ⟨(by simp only [List.length_cons, List.length_nil, lim]; decide), ?_⟩)
        | (refine ⟨of_decide_eq_true (by rfl), ?_⟩)))
local macro_rules
  | `(tactic| walk_at "VX") => `(tactic| repeat (first
        | (with_reducible refine si_seq ?_)
        | (with_reducible refine si_for ?_)
        | (with_reducible refine si_forX ?_)
        | ((with_reducible apply si_app); rfl)
        | (with_reducible refine si_pool ?_)
        | (with_reducible refine si_asg ?_)
        | (with_reducible refine si_asgV ?_)
        | (with_reducible refine si_new ?_)
        | (with_reducible refine si_drop ?_)
        | (with_reducible refine si_ret ?_)
        | (with_reducible refine si_retX ?_)
        | (with_reducible refine si_if ?_)
        | ((with_reducible apply si_aug); rfl)
        | (with_reducible refine si_par ?_)
        | (with_reducible refine si_parO ?_)
        | (with_reducible refine si_asgG ?_)
        | (with_reducible refine si_next ?_)
        | (with_reducible refine si_brk ?_)
        | (with_reducible refine si_cnt ?_)
        | (with_reducible refine si_retN ?_)
        | ((with_reducible apply si_catO); rfl)
        | (with_reducible refine si_par3 ?_)
        | ((with_reducible apply wi_var); rfl)
        | (with_reducible refine wi_c ?_)
        | (with_reducible refine wi_op ?_)
        | (with_reducible refine wi_un ?_)
        | (with_reducible refine wi_nil ?_)
        | (with_reducible refine wi_cons ?_)
        | (with_reducible refine wi_cb ?_)
        | (with_reducible refine wi_mt ?_)
        | (with_reducible refine wi_tst ?_)
        | (with_reducible refine wi_tru ?_)
        | (with_reducible refine wi_and ?_)
        | (with_reducible refine wi_or ?_)
        | (with_reducible refine wi_not ?_)
        | (with_reducible refine wi_if ?_)
        | (with_reducible refine wi_andV ?_)
        | (with_reducible refine wi_orV ?_)
        | (with_reducible refine wi_notV ?_)
        | (with_reducible refine wi_tup ?_)
        | (with_reducible refine wi_lst ?_)
        | (with_reducible refine wi_ofF ?_)
        | (with_reducible refine wi_fresh ?_)
        | (with_reducible refine wi_isi ?_)
        | (with_reducible refine wi_sl ?_)
        | (with_reducible refine wi_oNone ?_)
        | (with_reducible refine wi_oSome ?_)
        | (with_reducible refine wi_call ?_)
        | (with_reducible refine wi_callF ?_)
        | (with_reducible refine wi_items ?_)
        | (with_reducible refine wi_lc ?_)
        | (with_reducible refine wi_star ?_)
        | (with_reducible refine wi_ix ?_)
        | (with_reducible refine wi_chain ?_)
        | (with_reducible refine wi_rng1 ?_)
        | (with_reducible refine wi_rng2 ?_)
        | (with_reducible refine wi_enum ?_)
        | (with_reducible refine wi_enumT ?_)
        | (with_reducible refine wi_zip ?_)
        | (with_reducible refine wi_zipK ?_)
        | (with_reducible refine wi_yes ?_)
        | (with_reducible refine wi_enumA ?_)
        | (with_reducible refine wi_slt ?_)
        | (with_reducible refine wi_isiC ?_)
        | (with_reducible refine wi_prop ?_)
        | (with_reducible refine wi_callP ?_)
        | (with_reducible refine wi_dc ?_)
        | (with_reducible refine wi_sortIt ?_)
        | (with_reducible refine wi_listIt ?_)
        | (with_reducible refine star_l ?_)
        | (with_reducible refine star_t ?_)
        | (with_reducible refine (pr2 (x := _) (y := _)).mpr ?_)
        | (with_reducible refine ⟨_, ev_eqS, ?_⟩)
        | (with_reducible refine ⟨_, ev_neS, ?_⟩)
        | (with_reducible refine ⟨_, ev_eqI, ?_⟩)
        | (with_reducible refine ⟨_, ev_neI, ?_⟩)
        | (with_reducible refine ⟨_, ev_eqT1, ?_⟩)
        | (with_reducible refine ⟨_, ev_eqT, ?_⟩)
        | (with_reducible refine ⟨_, ev_eqL, ?_⟩)
        | (with_reducible refine ⟨_, ev_neB, ?_⟩)
        | (with_reducible refine ⟨_, ev_inL, ?_⟩)
        | (with_reducible refine ⟨_, ev_inT, ?_⟩)
        | (with_reducible refine ⟨_, ev_ninL, ?_⟩)
        | (with_reducible refine ⟨_, ev_ninT, ?_⟩)
        | (with_reducible refine ⟨_, ev_inTL1, ?_⟩)
        | (with_reducible refine ⟨_, ev_ninTL1, ?_⟩)
        | (with_reducible refine ⟨_, ev_ninTL0, ?_⟩)
        | (with_reducible refine ⟨_, ev_inTL, ?_⟩)
        | (with_reducible refine ⟨_, ev_ninTL, ?_⟩)
        | (with_reducible refine ⟨_, sl_take1, ?_⟩)
        | (with_reducible refine ⟨_, sl_drop1, ?_⟩)
        | (with_reducible refine ⟨_, ev_all_map, ?_⟩)
        | (with_reducible refine ⟨_, ev_any_map, ?_⟩)
        | (with_reducible refine ⟨_, ev_all, ?_⟩)
        | (with_reducible refine ⟨_, ev_any, ?_⟩)
        | (with_reducible refine bl_i ?_)
        | (with_reducible refine int_i ?_)
        | (with_reducible refine tru_bl ?_)
        | (with_reducible refine neg_i ?_)
        | (with_reducible refine len_l ?_)
        | (with_reducible refine len_t ?_)
        | (with_reducible refine tup_l ?_)
        | (with_reducible refine it_l ?_)
        | (with_reducible refine it_t ?_)
        | (refine ite_t (by rfl) ?_)
        | (refine ite_f (by rfl) ?_)
        | (refine ⟨_, ev_mod (by omega), ?_⟩)
        | (refine ⟨_, ev_div (by omega) (by omega), ?_⟩)
        | (refine ⟨_, ev_divmod (by omega) (by omega), ?_⟩)
        | (refine ⟨_, ev_mulR (by omega) (by omega), ?_⟩)
        | (refine ⟨_, ev_mulL (by omega) (by omega), ?_⟩)
        | (exact ⟨rfl, rfl⟩)
        | (refine ⟨rfl, ?_⟩)
        | (refine ⟨by decide, ?_⟩)
        | (refine ⟨(by simp only [List.length_cons, List.length_nil, lim]; decide), ?_⟩)
        | (refine ⟨of_decide_eq_true (by rfl), ?_⟩)))
theorem sl_takeT {α : Type} (f : α → D) {xs : List α} {i : Int} (h : 0 ≤ i) : dSl (.tup (xs.map f)) none (some i) = some (.tup ((xs.take i.toNat).map f)) := by
  show some (D.tup (dcut (xs.map f) none (some i))) = _
  rw [dcut_take _ h, List.map_take]
theorem sl_dropT {α : Type} (f : α → D) {xs : List α} {i : Int} (h : 0 ≤ i) : dSl (.tup (xs.map f)) (some i) none = some (.tup ((xs.drop i.toNat).map f)) := by
  show some (D.tup (dcut (xs.map f) (some i) none)) = _
  rw [dcut_drop _ h, List.map_drop]
theorem law_premises_ok {ws : List Str} (hW : GoodW ws) (a b c : Int) : Wp (m__law_premises [.pool, .lst (ws.map .str), .int 8] [a, b, c]) fun d q => ∃ xs a' b' c', (∀ x ∈ xs, POk x) ∧ xs.length ≤ 20 ∧ d = XT xs ∧ q = [a', b', c'] := by
  unfold m__law_premises
  refine fi_run ?_
  unfold b__law_premises
  walk_at "VC"
  refine (draw_ok (n := 8 + 1) (by decide) (by decide) a b c).mono fun d q hd => ?_
  obtain ⟨k, a, b, c, rfl, rfl, hk0, hk⟩ := hd
  walk_at "VC"
  refine ⟨by unfold rngOk; simp; omega, ?_⟩
  refine ws_forGo (fun ds r q => ∃ xs c4 a b c, (∀ x ∈ xs, POk x) ∧ xs.length + ds.length ≤ 9 ∧ r = [.sh .pool, .sh (.lst (ws.map .str)), .sh (.int 8), .sh (XT xs), c4] ∧ q = [a, b, c]) ⟨[], .no, a, b, c, fun _ h => (by cases h), by simp [rngD]; omega, rfl, rfl⟩ ?_ ?_
  · rintro d ds r q ⟨xs, c4, a, b, c, hok, hlen, rfl, rfl⟩
    refine ⟨_, _, rfl, ?_⟩
    unfold l1__law_premises
    walk_at "VC"
    refine (law_premise_ok hW a b c).mono fun d q hd => ?_
    obtain ⟨x, a, b, c, hx, rfl, rfl⟩ := hd
    rw [List.length_cons] at hlen
    walk_at "VX"
    refine ⟨_, ev_addT (by rw [List.length_map, List.length_singleton]; unfold lim; omega), ?_⟩
    refine ⟨xs ++ [x], _, a, b, c, fun y hy => ?_, by rw [List.length_append, List.length_singleton]; omega, by rw [show XT (xs ++ [x]) = .tup (xs.map pD ++ [pD x]) from by unfold XT; rw [List.map_append]; rfl]; rfl, rfl⟩
    rcases List.mem_append.mp hy with h1 | h1
    · exact hok y h1
    · rw [List.mem_singleton.mp h1]; exact hx
  · rintro r q ⟨xs, c4, a, b, c, hok, hlen, rfl, rfl⟩
    rw [List.length_nil] at hlen
    walk_at "VC"
    refine (draw_ok (n := 5) (by decide) (by decide) a b c).mono fun d q hd => ?_
    obtain ⟨k, a, b, c, rfl, rfl, hk0, hk⟩ := hd
    have fin : ∀ k : Bool, ∃ z, dIntA [.bl k] = some z ∧ ∃ i, z = D.int i ∧ ∃ z, dSl (XT xs) none (some i) = some z ∧ ∃ z1, dAdd (XT xs) z = some z1 ∧ ∃ xs' a' b' c', (∀ x ∈ xs', POk x) ∧ xs'.length ≤ 20 ∧ z1 = XT xs' ∧ [a, b, c] = [a', b', c'] := fun k => by
      have hi : ∃ i : Int, dIntA [.bl k] = some (.int i) ∧ 0 ≤ i := by cases k <;> exact ⟨_, rfl, by decide⟩
      obtain ⟨i, hi, hi0⟩ := hi
      refine ⟨_, hi, i, rfl, _, sl_takeT pD hi0, ?_⟩
      refine ⟨_, ev_addT (by rw [List.length_map, List.length_map, List.length_take]; unfold lim; omega), xs ++ xs.take i.toNat, a, b, c, fun y hy => ?_, by rw [List.length_append, List.length_take]; omega, by unfold XT; rw [List.map_append], rfl⟩
      rcases List.mem_append.mp hy with h1 | h1
      · exact hok y h1
      · exact hok y (List.mem_of_mem_take h1)
    walk_at "VX"
    refine ite_b (fun h => ?_) fun h => ?_
    · walk_at "VX"
      refine ⟨_, rfl, ?_⟩
      walk_at "VX"
      exact fin _
    · walk_at "VX"
      exact fin _
/-- a path beside this one -/
theorem law_beside_ok {ps : List Str} (h : PsOk ps) (p : List Int) : ∃ qs, PsOk qs ∧ m__law_beside [.str (J ps)] p = some (.str (J qs), p) := by
  obtain ⟨init, l, rfl⟩ := h.last
  obtain ⟨pre, hpre⟩ := J_pre init
  have hl : Nm l := h.nm l (by simp)
  have hx : ∀ c ∈ tl ("x" : Str), c ∈ tl sLet := by decide +kernel
  by_cases h8 : l.length < 8
  · have hm : Nm (l ++ "x") := by
      have e1 : (l ++ "x" : Str).length = l.length + 1 := by rw [str_app_len]; rfl
      refine ⟨by rw [e1]; omega, by rw [e1]; omega, fun c hc => ?_⟩
      rw [show tl (l ++ "x" : Str) = tl l ++ tl "x" from TL.tl_append _ _] at hc
      rcases List.mem_append.mp hc with h1 | h1
      · exact hl.lets c h1
      · exact hx c h1
    refine ⟨init ++ [l ++ "x"], h.relast hm, Wp.eq ?_⟩
    unfold m__law_beside
    refine fi_run ?_
    unfold b__law_beside
    walk_at "VX"
    refine ⟨_, ev_split h, ?_⟩
    walk_at "VX"
    refine ⟨_, ix_lastL init l _, ?_⟩
    walk_at "VX"
    refine ⟨.int l.length, rfl, ?_⟩
    walk_at "VC"
    refine ite_t (decide_eq_true (by omega)) ?_
    walk_at "VX"
    refine ⟨_, ev_addS (by have := h.len; have e : ("x" : Str).length = 1 := rfl; rw [e]; unfold lim; omega), ?_⟩
    exact ⟨congrArg D.str (by rw [hpre, hpre, app_assoc]), rfl⟩
  · have hne := hl.ne_nil
    obtain ⟨m, hm⟩ : ∃ m : Str, tl m = (tl l).dropLast := ⟨⟨(tl l).dropLast.toArray⟩, rfl⟩
    have hml : m.length = l.length - 1 := by
      rw [TL.len_tl, TL.len_tl]
      show (tl m).length = (tl l).length - 1
      rw [hm, List.length_dropLast]
    have hl8 := hl.le
    have hmn : Nm m := by
      refine ⟨by omega, by omega, fun c hc => hl.lets c ?_⟩
      rw [hm] at hc
      exact List.dropLast_subset _ hc
    refine ⟨init ++ [m], h.relast hmn, Wp.eq ?_⟩
    unfold m__law_beside
    refine fi_run ?_
    unfold b__law_beside
    walk_at "VX"
    refine ⟨_, ev_split h, ?_⟩
    walk_at "VX"
    refine ⟨_, ix_lastL init l _, ?_⟩
    walk_at "VX"
    refine ⟨.int l.length, rfl, ?_⟩
    walk_at "VC"
    refine ite_f (decide_eq_false (by omega)) ?_
    walk_at "VX"
    refine ⟨.str (cutS (J (init ++ [l])) none (some (-1))), rfl, ?_⟩
    refine ⟨congrArg D.str (TL.ext_tl ?_), rfl⟩
    rw [hpre, hpre, show TL.tl (cutS (pre ++ l) none (some (-1))) = _ from cutS_tl _ _ _]
    have e : (pre ++ l : Str).cps.toList = tl pre ++ (tl l).dropLast ++ [(tl l).getLast hne] := by
      rw [show (pre ++ l : Str).cps.toList = _ from TL.tl_append pre l, List.append_assoc, List.dropLast_concat_getLast hne]
    rw [e, dcut_init1, TL.tl_append]
    exact congrArg _ hm.symm
theorem law_near_ok {ws : List Str} (hW : GoodW ws) (a b c : Int) : Wp (m__law_near [.pool, .lst (ws.map .str)] [a, b, c]) fun d q => ∃ xs a' b' c', (∀ x ∈ xs, POk x) ∧ xs.length ≤ 3 ∧ d = XT xs ∧ q = [a', b', c'] := by
  have hwl : 1 ≤ ws.length := List.length_pos_iff.mpr hW.ne
  have hw3 := hW.ln
  unfold m__law_near
  refine fi_run ?_
  unfold b__law_near
  walk_at "VC"
  refine (law_path_ok hW (n := 2) (by decide) (by decide) a b c).mono fun d q hd => ?_
  obtain ⟨ps, a, b, c, h1, hp2, rfl, rfl⟩ := hd
  walk_at "VC"
  refine (law_path_ok hW (n := 3) (by decide) (by decide) a b c).mono fun d q hd => ?_
  obtain ⟨qs, a, b, c, h2, _, rfl, rfl⟩ := hd
  walk_at "VC"
  have hl := h1.len
  refine ⟨_, ev_addS (by rw [len_s1]; unfold lim; omega), ?_⟩
  walk_at "VC"
  refine (draw_ok (by rw [List.length_map]; omega) (by rw [List.length_map]; omega) a b c).mono fun d q hd => ?_
  obtain ⟨i, a, b, c, rfl, rfl, hi0, hi⟩ := hd
  rw [List.length_map] at hi
  obtain ⟨w, hw⟩ : ∃ w, ws[i.toNat]? = some w := ⟨_, List.getElem?_eq_getElem (by omega)⟩
  have hnw := hW.nm w (List.mem_of_getElem? hw)
  have hw8 := hnw.le
  refine ⟨.str w, ix_lstS hi0 hw _, ?_⟩
  have hl2 : (J ps ++ "/" : Str).length = (J ps).length + 1 := by rw [str_app_len]; rfl
  refine ⟨_, ev_addS (by rw [hl2]; unfold lim; omega), ?_⟩
  obtain ⟨hf, hfe⟩ := Pth.snoc h1 (by omega) hnw
  have e : (J ps ++ "/" ++ w : Str) = J (ps ++ [w]) := hfe.symm
  rw [e]
  have hne : J ps ≠ J (ps ++ [w]) := fun z => by
    have := congrArg Str.length z
    rw [← e, str_app_len, hl2] at this
    omega
  walk_at "VC"
  obtain ⟨zs, hz, hbe⟩ := law_beside_ok h1 [a, b, c]
  refine Wp.of_eq hbe ?_
  walk_at "VC"
  refine (draw_ok (n := 8) (by decide) (by decide) a b c).mono fun d q hd => ?_
  obtain ⟨i, a, b, c, rfl, rfl, hi0, hi⟩ := hd
  have P := pth_of h1
  have F := pth_of hf
  have Q := pth_of h2
  have Z := pth_of hz
  have two : ∀ x y : Prem, POk x → POk y → ∀ z ∈ [x, y], POk z := fun x y hx hy z hz => by
    rcases List.mem_cons.mp hz with rfl | hz
    · exact hx
    · rw [List.mem_singleton.mp hz]; exact hy
  have hc : i = 0 ∨ i = 1 ∨ i = 2 ∨ i = 3 ∨ i = 4 ∨ i = 5 ∨ i = 6 ∨ i = 7 := by omega
  rcases hc with rfl | rfl | rfl | rfl | rfl | rfl | rfl | rfl
  · exact ⟨_, rfl, [.alw (J (ps ++ [w])), .nev (J ps)], a, b, c, two _ _ F P, by simp, rfl, rfl⟩
  · exact ⟨_, rfl, [.nev (J (ps ++ [w])), .alw (J ps)], a, b, c, two _ _ F P, by simp, rfl, rfl⟩
  · exact ⟨_, rfl, [.alw (J zs), .nev (J ps)], a, b, c, two _ _ Z P, by simp, rfl, rfl⟩
  · exact ⟨_, rfl, [.alw (J ps), .both (J ps) (J (ps ++ [w]))], a, b, c, two _ _ P ⟨P, F, hne⟩, by simp, rfl, rfl⟩
  · refine ⟨_, rfl, [.alw (J (ps ++ [w])), .both (J ps) (J (ps ++ [w])), .alw (J ps)], a, b, c, fun x hx => ?_, by simp, rfl, rfl⟩
    rcases List.mem_cons.mp hx with rfl | hx
    · exact F
    · exact two (.both (J ps) (J (ps ++ [w]))) (.alw (J ps)) ⟨P, F, hne⟩ P x hx
  · exact ⟨_, rfl, [.nev (J ps), .both (J ps) (J (ps ++ [w]))], a, b, c, two _ _ P ⟨P, F, hne⟩, by simp, rfl, rfl⟩
  · exact ⟨_, rfl, [.alw (J ps), .nev (J ps)], a, b, c, two _ _ P P, by simp, rfl, rfl⟩
  · exact ⟨_, rfl, [.alw (J qs), .nev (J (ps ++ [w]))], a, b, c, two _ _ Q F, by simp, rfl, rfl⟩
end K36

namespace K36
open PySem PySem.Spec PyProof.Rows L2 Dt Tx
local macro_rules
  | `(tactic| walk_at "VC") => `(tactic| repeat (first
        | (with_reducible refine si_seq ?_)
        | (with_reducible refine si_for ?_)
        | (with_reducible refine si_forX ?_)
        | ((with_reducible apply si_app); rfl)
        | (with_reducible refine si_pool ?_)
        | (with_reducible refine si_asg ?_)
        | (with_reducible refine si_asgV ?_)
        | (with_reducible refine si_new ?_)
        | (with_reducible refine si_drop ?_)
        | (with_reducible refine si_ret ?_)
        | (with_reducible refine si_retX ?_)
        | (with_reducible refine si_if ?_)
        | ((with_reducible apply si_aug); rfl)
        | (with_reducible refine si_par ?_)
        | (with_reducible refine si_parO ?_)
        | (with_reducible refine si_asgG ?_)
        | (with_reducible refine si_next ?_)
        | (with_reducible refine si_brk ?_)
        | (with_reducible refine si_cnt ?_)
        | (with_reducible refine si_retN ?_)
        | ((with_reducible apply si_catO); rfl)
        | (with_reducible refine si_par3 ?_)
        | ((with_reducible apply wi_var); rfl)
        | (with_reducible refine wi_c ?_)
        | (with_reducible refine wi_op ?_)
        | (with_reducible refine wi_un ?_)
        | (with_reducible refine wi_nil ?_)
        | (with_reducible refine wi_cons ?_)
        | (with_reducible refine wi_cb ?_)
        | (with_reducible refine wi_mt ?_)
        | (with_reducible refine wi_tst ?_)
        | (with_reducible refine wi_tru ?_)
        | (with_reducible refine wi_and ?_)
        | (with_reducible refine wi_or ?_)
        | (with_reducible refine wi_not ?_)
        | (with_reducible refine wi_if ?_)
        | (with_reducible refine wi_andV ?_)
        | (with_reducible refine wi_orV ?_)
        | (with_reducible refine wi_notV ?_)
        | (with_reducible refine wi_tup ?_)
        | (with_reducible refine wi_lst ?_)
        | (with_reducible refine wi_ofF ?_)
        | (with_reducible refine wi_fresh ?_)
        | (with_reducible refine wi_isi ?_)
        | (with_reducible refine wi_sl ?_)
        | (with_reducible refine wi_oNone ?_)
        | (with_reducible refine wi_oSome ?_)
        | (with_reducible refine wi_call ?_)
        | (with_reducible refine wi_callF ?_)
        | (with_reducible refine wi_items ?_)
        | (with_reducible refine wi_lc ?_)
        | (with_reducible refine wi_star ?_)
        | (with_reducible refine wi_ix ?_)
        | (with_reducible refine wi_chain ?_)
        | (with_reducible refine wi_rng1 ?_)
        | (with_reducible refine wi_rng2 ?_)
        | (with_reducible refine wi_enum ?_)
        | (with_reducible refine wi_enumT ?_)
        | (with_reducible refine wi_zip ?_)
        | (with_reducible refine wi_zipK ?_)
        | (with_reducible refine wi_yes ?_)
        | (with_reducible refine wi_enumA ?_)
        | (with_reducible refine wi_slt ?_)
        | (with_reducible refine wi_isiC ?_)
        | (with_reducible refine wi_prop ?_)
        | (with_reducible refine wi_callP ?_)
        | (with_reducible refine wi_dc ?_)
        | (with_reducible refine wi_sortIt ?_)
        | (with_reducible refine wi_listIt ?_)
        | (with_reducible refine star_l ?_)
        | (with_reducible refine star_t ?_)
        | (with_reducible refine (pr2 (x := _) (y := _)).mpr ?_)
        | (with_reducible refine ⟨_, ev_eqS, ?_⟩)
        | (with_reducible refine ⟨_, ev_neS, ?_⟩)
        | (with_reducible refine ⟨_, ev_eqI, ?_⟩)
        | (with_reducible refine ⟨_, ev_neI, ?_⟩)
        | (with_reducible refine ⟨_, ev_eqT1, ?_⟩)
        | (with_reducible refine ⟨_, ev_eqT, ?_⟩)
        | (with_reducible refine ⟨_, ev_eqL, ?_⟩)
        | (with_reducible refine ⟨_, ev_neB, ?_⟩)
        | (with_reducible refine ⟨_, ev_inL, ?_⟩)
        | (with_reducible refine ⟨_, ev_inT, ?_⟩)
        | (with_reducible refine ⟨_, ev_ninL, ?_⟩)
        | (with_reducible refine ⟨_, ev_ninT, ?_⟩)
        | (with_reducible refine ⟨_, ev_inTL1, ?_⟩)
        | (with_reducible refine ⟨_, ev_ninTL1, ?_⟩)
        | (with_reducible refine ⟨_, ev_ninTL0, ?_⟩)
        | (with_reducible refine ⟨_, ev_inTL, ?_⟩)
        | (with_reducible refine ⟨_, ev_ninTL, ?_⟩)
        | (with_reducible refine ⟨_, sl_take1, ?_⟩)
        | (with_reducible refine ⟨_, sl_drop1, ?_⟩)
        | (with_reducible refine ⟨_, ev_all_map, ?_⟩)
        | (with_reducible refine ⟨_, ev_any_map, ?_⟩)
        | (with_reducible refine ⟨_, ev_all, ?_⟩)
        | (with_reducible refine ⟨_, ev_any, ?_⟩)
        | (with_reducible refine bl_i ?_)
        | (with_reducible refine int_i ?_)
        | (with_reducible refine tru_bl ?_)
        | (with_reducible refine neg_i ?_)
        | (with_reducible refine len_l ?_)
        | (with_reducible refine len_t ?_)
        | (with_reducible refine tup_l ?_)
        | (with_reducible refine it_l ?_)
        | (with_reducible refine it_t ?_)
        | (refine ite_t (by rfl) ?_)
        | (refine ite_f (by rfl) ?_)
        | (refine ⟨_, ev_mod (by omega), ?_⟩)
        | (refine ⟨_, ev_div (by omega) (by omega), ?_⟩)
        | (refine ⟨_, ev_divmod (by omega) (by omega), ?_⟩)
        | (refine ⟨_, ev_mulR (by omega) (by omega), ?_⟩)
        | (refine ⟨_, ev_mulL (by omega) (by omega), ?_⟩)
        | (refine ⟨_, rfl, ?_⟩)
        | (exact ⟨rfl, rfl⟩)
        | (refine ⟨rfl, ?_⟩)
        | (refine ⟨by decide, ?_⟩)
        | (refine ⟨(by simp only [List.length_cons, List.length_nil, lim]; decide), ?_⟩)
        | (refine ⟨of_decide_eq_true (by rfl), ?_⟩)))
local macro_rules
  | `(tactic| walk_at "VX") => `(tactic| repeat (first
        | (with_reducible refine si_seq ?_)
        | (with_reducible refine si_for ?_)
        | (with_reducible refine si_forX ?_)
        | ((with_reducible apply si_app); rfl)
        | (with_reducible refine si_pool ?_)
        | (with_reducible refine si_asg ?_)
        | (with_reducible refine si_asgV ?_)
        | (with_reducible refine si_new ?_)
        | (with_reducible refine si_drop ?_)
        | (with_reducible refine si_ret ?_)
        | (with_reducible refine si_retX ?_)
        | (with_reducible refine si_if ?_)
        | ((with_reducible apply si_aug); rfl)
        | (with_reducible refine si_par ?_)
        | (with_reducible refine si_parO ?_)
        | (with_reducible refine si_asgG ?_)
        | (with_reducible refine si_next ?_)
        | (with_reducible refine si_brk ?_)
        | (with_reducible refine si_cnt ?_)
        | (with_reducible refine si_retN ?_)
        | ((with_reducible apply si_catO); rfl)
        | (with_reducible refine si_par3 ?_)
        | ((with_reducible apply wi_var); rfl)
        | (with_reducible refine wi_c ?_)
        | (with_reducible refine wi_op ?_)
        | (with_reducible refine wi_un ?_)
        | (with_reducible refine wi_nil ?_)
        | (with_reducible refine wi_cons ?_)
        | (with_reducible refine wi_cb ?_)
        | (with_reducible refine wi_mt ?_)
        | (with_reducible refine wi_tst ?_)
        | (with_reducible refine wi_tru ?_)
        | (with_reducible refine wi_and ?_)
        | (with_reducible refine wi_or ?_)
        | (with_reducible refine wi_not ?_)
        | (with_reducible refine wi_if ?_)
        | (with_reducible refine wi_andV ?_)
        | (with_reducible refine wi_orV ?_)
        | (with_reducible refine wi_notV ?_)
        | (with_reducible refine wi_tup ?_)
        | (with_reducible refine wi_lst ?_)
        | (with_reducible refine wi_ofF ?_)
        | (with_reducible refine wi_fresh ?_)
        | (with_reducible refine wi_isi ?_)
        | (with_reducible refine wi_sl ?_)
        | (with_reducible refine wi_oNone ?_)
        | (with_reducible refine wi_oSome ?_)
        | (with_reducible refine wi_call ?_)
        | (with_reducible refine wi_callF ?_)
        | (with_reducible refine wi_items ?_)
        | (with_reducible refine wi_lc ?_)
        | (with_reducible refine wi_star ?_)
        | (with_reducible refine wi_ix ?_)
        | (with_reducible refine wi_chain ?_)
        | (with_reducible refine wi_rng1 ?_)
        | (with_reducible refine wi_rng2 ?_)
        | (with_reducible refine wi_enum ?_)
        | (with_reducible refine wi_enumT ?_)
        | (with_reducible refine wi_zip ?_)
        | (with_reducible refine wi_zipK ?_)
        | (with_reducible refine wi_yes ?_)
        | (with_reducible refine wi_enumA ?_)
        | (with_reducible refine wi_slt ?_)
        | (with_reducible refine wi_isiC ?_)
        | (with_reducible refine wi_prop ?_)
        | (with_reducible refine wi_callP ?_)
        | (with_reducible refine wi_dc ?_)
        | (with_reducible refine wi_sortIt ?_)
        | (with_reducible refine wi_listIt ?_)
        | (with_reducible refine star_l ?_)
        | (with_reducible refine star_t ?_)
        | (with_reducible refine (pr2 (x := _) (y := _)).mpr ?_)
        | (with_reducible refine ⟨_, ev_eqS, ?_⟩)
        | (with_reducible refine ⟨_, ev_neS, ?_⟩)
        | (with_reducible refine ⟨_, ev_eqI, ?_⟩)
        | (with_reducible refine ⟨_, ev_neI, ?_⟩)
        | (with_reducible refine ⟨_, ev_eqT1, ?_⟩)
        | (with_reducible refine ⟨_, ev_eqT, ?_⟩)
        | (with_reducible refine ⟨_, ev_eqL, ?_⟩)
        | (with_reducible refine ⟨_, ev_neB, ?_⟩)
        | (with_reducible refine ⟨_, ev_inL, ?_⟩)
        | (with_reducible refine ⟨_, ev_inT, ?_⟩)
        | (with_reducible refine ⟨_, ev_ninL, ?_⟩)
        | (with_reducible refine ⟨_, ev_ninT, ?_⟩)
        | (with_reducible refine ⟨_, ev_inTL1, ?_⟩)
        | (with_reducible refine ⟨_, ev_ninTL1, ?_⟩)
        | (with_reducible refine ⟨_, ev_ninTL0, ?_⟩)
        | (with_reducible refine ⟨_, ev_inTL, ?_⟩)
        | (with_reducible refine ⟨_, ev_ninTL, ?_⟩)
        | (with_reducible refine ⟨_, sl_take1, ?_⟩)
        | (with_reducible refine ⟨_, sl_drop1, ?_⟩)
        | (with_reducible refine ⟨_, ev_all_map, ?_⟩)
        | (with_reducible refine ⟨_, ev_any_map, ?_⟩)
        | (with_reducible refine ⟨_, ev_all, ?_⟩)
        | (with_reducible refine ⟨_, ev_any, ?_⟩)
        | (with_reducible refine bl_i ?_)
        | (with_reducible refine int_i ?_)
        | (with_reducible refine tru_bl ?_)
        | (with_reducible refine neg_i ?_)
        | (with_reducible refine len_l ?_)
        | (with_reducible refine len_t ?_)
        | (with_reducible refine tup_l ?_)
        | (with_reducible refine it_l ?_)
        | (with_reducible refine it_t ?_)
        | (refine ite_t (by rfl) ?_)
        | (refine ite_f (by rfl) ?_)
        | (refine ⟨_, ev_mod (by omega), ?_⟩)
        | (refine ⟨_, ev_div (by omega) (by omega), ?_⟩)
        | (refine ⟨_, ev_divmod (by omega) (by omega), ?_⟩)
        | (refine ⟨_, ev_mulR (by omega) (by omega), ?_⟩)
        | (refine ⟨_, ev_mulL (by omega) (by omega), ?_⟩)
        | (exact ⟨rfl, rfl⟩)
        | (refine ⟨rfl, ?_⟩)
        | (refine ⟨by decide, ?_⟩)
        | (refine ⟨(by simp only [List.length_cons, List.length_nil, lim]; decide), ?_⟩)
        | (refine ⟨of_decide_eq_true (by rfl), ?_⟩)))
structure BoxOk (qs : List (Str × Int)) : Prop where
  row : ∀ q ∈ qs, RowOk q
  nd : (qs.map (·.1)).Nodup
  ln : qs.length ≤ 60
theorem BoxOk.sort {qs : List (Str × Int)} (h : BoxOk qs) : BoxOk (psort qs) :=
  ⟨fun q hq => h.row q ((psort_perm qs).mem_iff.mp hq), psort_nd h.nd, by rw [(psort_perm qs).length_eq]; exact h.ln⟩
theorem law_rows_ok {qs : List (Str × Int)} (hne : qs ≠ []) (p : List Int) : m__law_rows [box qs] p = some (.tup ((psort qs).map dPr), p) := by
  refine Wp.eq ?_
  unfold m__law_rows
  refine fi_run ?_
  unfold b__law_rows
  walk_at "VX"
  refine ⟨_, mem_fK qs, ?_⟩
  have e : (qs.map fK).map (fun q => D.tup [dKey q.1, q.2]) = qs.map dPr := by rw [List.map_map]; rfl
  rw [e]
  walk_at "VX"
  refine ⟨.lst ((psort qs).map dPr), ?_, ?_⟩
  · show (match asStrs (qs.map dPr) with | some xs => if xs.length < 64 then some (D.lst ((ssort xs).map .str)) else none | none => (asPrs (qs.map dPr)).map fun qs => .lst ((psort qs).map dPr)) = _
    have e2 : asStrs (qs.map dPr) = none := by
      cases qs with
      | nil => exact absurd rfl hne
      | cons q qs => rfl
    rw [e2, asPrs_map]
    rfl
  · walk_at "VC"
theorem ne_box {qs : List (Str × Int)} (h : BoxOk qs) : dNe (box qs) (.dk [] []) = some (.bl (!decide (qs = []))) := by
  have hf : flat deep (box qs) = false := by
    show flat 60 (.dk _ _) = false
    simp [flat]
  have hfs : flats 59 ((qs.map fK).map (·.2)) = true := by
    rw [List.map_map]
    exact flats_all 59 (fun q : Str × Int => D.int q.2) (fun q => by simp) qs
  have e : dEqK (box qs) (.dk [] []) = some (decide (qs = [])) := by
    show (if (flats 59 ((qs.map fK).map (·.2)) && flats 59 []) = true then some (deqK (((qs.map fK).map (·.1)).zip ((qs.map fK).map (·.2))) ([].zip [])) else none) = _
    rw [hfs, if_pos (by simp), zip_pairs]
    congr 1
    unfold deqK
    cases qs with
    | nil => simp
    | cons q qs => simp
  unfold dNe
  rw [hf, e]
  rfl
theorem law_line_ok {qs : List (Str × Int)} (h : BoxOk qs) (p : List Int) : m__law_line [box qs] p = some (.str (if qs = [] then "empty" else Txt.join " " ((psort qs).map word)), p) := by
  refine Wp.eq ?_
  unfold m__law_line
  refine fi_run ?_
  unfold b__law_line
  walk_at "VX"
  refine ⟨_, ne_box h, ?_⟩
  by_cases hne : qs = []
  · subst hne
    walk_at "VC"
  · have hs := h.sort
    rw [decide_eq_false hne, if_neg hne]
    walk_at "VC"
    refine Wp.of_eq (law_rows_ok hne _) ?_
    walk_at "VC"
    refine ⟨by rw [List.length_map]; have := hs.ln; unfold lim; omega, Wp.of_eq (lcGo_all dPr (fun q => .str (word q)) fun q hq => ⟨_, rfl, rfl, Wp.eq ?_⟩) ?_⟩
    · have ok := hs.row q hq
      have hl := ok.pth.len
      have hq2 : q.2 = ((q.2.toNat : Nat) : Int) := by have := ok.lo; omega
      unfold c1__law_line
      walk_at "VX"
      refine ⟨_, ev_addS (by have : ("=" : Str).length = 1 := rfl; rw [this]; unfold lim; omega), ?_⟩
      walk_at "VX"
      refine ⟨.str (dg q.2.toNat), ?_, ?_⟩
      · have := dStr_dg (n := q.2.toNat) (by have := ok.lo; have := ok.hi; omega)
        rw [← hq2] at this
        exact this
      · refine ⟨_, ev_addS (by rw [str_app_len]; have e1 : ("=" : Str).length = 1 := rfl; have e2 : (dg q.2.toNat).length = 1 := rfl; rw [e1, e2]; unfold lim; omega), ?_⟩
        exact ⟨rfl, rfl⟩
    · walk_at "VX"
      refine ⟨.str (Txt.join " " ((psort qs).map word)), ?_, rfl, rfl⟩
      have e : (psort qs).map (fun q => D.str (word q)) = ((psort qs).map word).map .str := by rw [List.map_map]; rfl
      rw [e]
      show (match asStrs (((psort qs).map word).map D.str) with | some ys => if joinSz " " ys ≤ lim then some (D.str (Txt.join " " ys)) else none | none => none) = _
      rw [asStrs_map]
      exact if_pos (words_sz hs.row (by have := hs.ln; omega))
theorem dg_facts {n : Nat} (h : n < 10) : Txt.removeprefix (dg n) "-" = dg n ∧ dg n ≠ "" ∧ dg n ≠ "-0" ∧ 48 + n ∈ tl ("0123456789" : Str) ∧ PySem.intText? (dg n) = some (n : Int) ∧ (dg n ≠ "0" ∨ dg n = "0") := by
  have : ∀ n : Fin 10, Txt.removeprefix (dg n.val) "-" = dg n.val ∧ dg n.val ≠ "" ∧ dg n.val ≠ "-0" ∧ 48 + n.val ∈ tl ("0123456789" : Str) ∧ PySem.intText? (dg n.val) = some (n.val : Int) ∧ (dg n.val ≠ "0" ∨ dg n.val = "0") := by decide +kernel
  exact this ⟨n, h⟩
theorem read_integer_ok {n : Nat} (h : n < 10) (p : List Int) : m_read_integer [.str (dg n)] p = some (.int (n : Nat), p) := by
  obtain ⟨h1, h2, h3, h4, h5, _⟩ := dg_facts h
  refine Wp.eq ?_
  unfold m_read_integer
  refine fi_run ?_
  unfold b_read_integer
  walk_at "VX"
  refine ⟨.str (dg n), ?_, ?_⟩
  · show (if (Txt.removeprefix (dg n) "-").length ≤ lim then some (D.str (Txt.removeprefix (dg n) "-")) else none) = _
    rw [h1]
    exact if_pos (by show 1 ≤ lim; decide)
  · walk_at "VX"
    refine ⟨chars (dg n), rfl, ?_⟩
    refine ⟨by show 1 ≤ lim; decide, Wp.of_eq (lcGo_all (fun c => D.str ⟨#[c]⟩) (fun c => .bl (decide (c ∈ tl ("0123456789" : Str)))) (xs := [48 + n]) fun c hc => ⟨_, rfl, rfl, rfl⟩) ?_⟩
    walk_at "VX"
    refine ite_f (by show (!(decide (48 + n ∈ tl ("0123456789" : Str)) && true)) = false; rw [decide_eq_true h4]; rfl) ?_
    walk_at "VX"
    have fin : ∃ z, dIntA [.str (dg n)] = some z ∧ z = D.int (n : Nat) ∧ p = p := ⟨_, by
      show (if (dg n).length ≤ 640 then (PySem.intText? (dg n)).map D.int else none) = _
      rw [h5]
      exact if_pos (by show 1 ≤ 640; decide), rfl, rfl⟩
    refine ⟨.str (dg n), rfl, ?_⟩
    walk_at "VX"
    refine ite_b (fun hb => ?_) fun hb => ?_
    · walk_at "VX"
      exact fin
    · have e : dg n = "0" := by
        rw [Bool.not_eq_false'] at hb
        exact of_decide_eq_true hb
      walk_at "VX"
      refine ite_t (decide_eq_true e) ?_
      walk_at "VX"
      exact fin
theorem read_entry_ok {q : Str × Int} (h : RowOk q) (p : List Int) : m_read_entry [.str (word q)] p = some (dPr q, p) := by
  have hq2 : q.2 = ((q.2.toNat : Nat) : Int) := by have := h.lo; omega
  have hn : q.2.toNat < 10 := by have := h.lo; have := h.hi; omega
  have hp : Txt.partition (word q) "=" = (q.1, ("=" : Str), dg q.2.toNat) := TL.partition_app (y := "=") (s := 61) (S := []) (by decide +kernel) h.pth.no.2
  refine Wp.eq ?_
  unfold m_read_entry
  refine fi_run ?_
  unfold b_read_entry
  walk_at "VX"
  refine ⟨.tup [.str q.1, .str "=", .str (dg q.2.toNat)], ?_, ?_⟩
  · show (if (("=" : Str).length == 0) = false then (if (Txt.partition (word q) "=").1.length ≤ lim ∧ (Txt.partition (word q) "=").2.1.length ≤ lim ∧ (Txt.partition (word q) "=").2.2.length ≤ lim then some (D.tup [.str (Txt.partition (word q) "=").1, .str (Txt.partition (word q) "=").2.1, .str (Txt.partition (word q) "=").2.2]) else none) else none) = _
    rw [hp]
    refine (if_pos rfl).trans (if_pos ⟨?_, ?_, ?_⟩)
    · have := h.pth.len
      show q.1.length ≤ lim
      unfold lim
      omega
    · show 1 ≤ lim; decide
    · show 1 ≤ lim; decide
  · walk_at "VX"
    refine ⟨_, rfl, ?_⟩
    walk_at "VX"
    refine Wp.of_eq (read_integer_ok hn _) ?_
    rw [← hq2]
    walk_at "VC"
    refine Wp.of_eq (is_key_ok h.pth _) ?_
    walk_at "VX"
theorem init_ok (x : Addr) (p : List Int) : unStar 0 (runI 5 2 b_Record___init__) x [] p = some ([.dk [] []], p) := by
  unfold unStar runI b_Record___init__ iSeq iSet
  simp [startR, sNewK, sFor, mEnumA, mCons, mVar, mNil, bnd, shR, Cl.s, enumD, forGo, viR, Cl.v]
end K36

namespace K36
open PySem PySem.Spec PyProof.Rows L2 Dt Tx
local macro_rules
  | `(tactic| walk_at "VC") => `(tactic| repeat (first
        | (with_reducible refine si_seq ?_)
        | (with_reducible refine si_for ?_)
        | (with_reducible refine si_forX ?_)
        | ((with_reducible apply si_app); rfl)
        | (with_reducible refine si_pool ?_)
        | (with_reducible refine si_asg ?_)
        | (with_reducible refine si_asgV ?_)
        | (with_reducible refine si_new ?_)
        | (with_reducible refine si_drop ?_)
        | (with_reducible refine si_ret ?_)
        | (with_reducible refine si_retX ?_)
        | (with_reducible refine si_if ?_)
        | ((with_reducible apply si_aug); rfl)
        | (with_reducible refine si_par ?_)
        | (with_reducible refine si_parO ?_)
        | (with_reducible refine si_asgG ?_)
        | (with_reducible refine si_next ?_)
        | (with_reducible refine si_brk ?_)
        | (with_reducible refine si_cnt ?_)
        | (with_reducible refine si_retN ?_)
        | ((with_reducible apply si_catO); rfl)
        | (with_reducible refine si_par3 ?_)
        | ((with_reducible apply wi_var); rfl)
        | (with_reducible refine wi_c ?_)
        | (with_reducible refine wi_op ?_)
        | (with_reducible refine wi_un ?_)
        | (with_reducible refine wi_nil ?_)
        | (with_reducible refine wi_cons ?_)
        | (with_reducible refine wi_cb ?_)
        | (with_reducible refine wi_mt ?_)
        | (with_reducible refine wi_tst ?_)
        | (with_reducible refine wi_tru ?_)
        | (with_reducible refine wi_and ?_)
        | (with_reducible refine wi_or ?_)
        | (with_reducible refine wi_not ?_)
        | (with_reducible refine wi_if ?_)
        | (with_reducible refine wi_andV ?_)
        | (with_reducible refine wi_orV ?_)
        | (with_reducible refine wi_notV ?_)
        | (with_reducible refine wi_tup ?_)
        | (with_reducible refine wi_lst ?_)
        | (with_reducible refine wi_ofF ?_)
        | (with_reducible refine wi_fresh ?_)
        | (with_reducible refine wi_isi ?_)
        | (with_reducible refine wi_sl ?_)
        | (with_reducible refine wi_oNone ?_)
        | (with_reducible refine wi_oSome ?_)
        | (with_reducible refine wi_call ?_)
        | (with_reducible refine wi_callF ?_)
        | (with_reducible refine wi_items ?_)
        | (with_reducible refine wi_lc ?_)
        | (with_reducible refine wi_star ?_)
        | (with_reducible refine wi_ix ?_)
        | (with_reducible refine wi_chain ?_)
        | (with_reducible refine wi_rng1 ?_)
        | (with_reducible refine wi_rng2 ?_)
        | (with_reducible refine wi_enum ?_)
        | (with_reducible refine wi_enumT ?_)
        | (with_reducible refine wi_zip ?_)
        | (with_reducible refine wi_zipK ?_)
        | (with_reducible refine wi_yes ?_)
        | (with_reducible refine wi_enumA ?_)
        | (with_reducible refine wi_slt ?_)
        | (with_reducible refine wi_isiC ?_)
        | (with_reducible refine wi_prop ?_)
        | (with_reducible refine wi_callP ?_)
        | (with_reducible refine wi_dc ?_)
        | (with_reducible refine wi_sortIt ?_)
        | (with_reducible refine wi_listIt ?_)
        | (with_reducible refine star_l ?_)
        | (with_reducible refine star_t ?_)
        | (with_reducible refine (pr2 (x := _) (y := _)).mpr ?_)
        | (with_reducible refine ⟨_, ev_eqS, ?_⟩)
        | (with_reducible refine ⟨_, ev_neS, ?_⟩)
        | (with_reducible refine ⟨_, ev_eqI, ?_⟩)
        | (with_reducible refine ⟨_, ev_neI, ?_⟩)
        | (with_reducible refine ⟨_, ev_eqT1, ?_⟩)
        | (with_reducible refine ⟨_, ev_eqT, ?_⟩)
        | (with_reducible refine ⟨_, ev_eqL, ?_⟩)
        | (with_reducible refine ⟨_, ev_neB, ?_⟩)
        | (with_reducible refine ⟨_, ev_inL, ?_⟩)
        | (with_reducible refine ⟨_, ev_inT, ?_⟩)
        | (with_reducible refine ⟨_, ev_ninL, ?_⟩)
        | (with_reducible refine ⟨_, ev_ninT, ?_⟩)
        | (with_reducible refine ⟨_, ev_inTL1, ?_⟩)
        | (with_reducible refine ⟨_, ev_ninTL1, ?_⟩)
        | (with_reducible refine ⟨_, ev_ninTL0, ?_⟩)
        | (with_reducible refine ⟨_, ev_inTL, ?_⟩)
        | (with_reducible refine ⟨_, ev_ninTL, ?_⟩)
        | (with_reducible refine ⟨_, sl_take1, ?_⟩)
        | (with_reducible refine ⟨_, sl_drop1, ?_⟩)
        | (with_reducible refine ⟨_, ev_all_map, ?_⟩)
        | (with_reducible refine ⟨_, ev_any_map, ?_⟩)
        | (with_reducible refine ⟨_, ev_all, ?_⟩)
        | (with_reducible refine ⟨_, ev_any, ?_⟩)
        | (with_reducible refine bl_i ?_)
        | (with_reducible refine int_i ?_)
        | (with_reducible refine tru_bl ?_)
        | (with_reducible refine neg_i ?_)
        | (with_reducible refine len_l ?_)
        | (with_reducible refine len_t ?_)
        | (with_reducible refine tup_l ?_)
        | (with_reducible refine it_l ?_)
        | (with_reducible refine it_t ?_)
        | (refine ite_t (by rfl) ?_)
        | (refine ite_f (by rfl) ?_)
        | (refine ⟨_, ev_mod (by omega), ?_⟩)
        | (refine ⟨_, ev_div (by omega) (by omega), ?_⟩)
        | (refine ⟨_, ev_divmod (by omega) (by omega), ?_⟩)
        | (refine ⟨_, ev_mulR (by omega) (by omega), ?_⟩)
        | (refine ⟨_, ev_mulL (by omega) (by omega), ?_⟩)
        | (refine ⟨_, rfl, ?_⟩)
        | (exact ⟨rfl, rfl⟩)
        | (refine ⟨rfl, ?_⟩)
        | (refine ⟨by decide, ?_⟩)
        | (refine ⟨(by simp only [List.length_cons, List.length_nil, lim]; decide), ?_⟩)
        | (refine ⟨of_decide_eq_true (by rfl), ?_⟩)))
local macro_rules
  | `(tactic| walk_at "VX") => `(tactic| repeat (first
        | (with_reducible refine si_seq ?_)
        | (with_reducible refine si_for ?_)
        | (with_reducible refine si_forX ?_)
        | ((with_reducible apply si_app); rfl)
        | (with_reducible refine si_pool ?_)
        | (with_reducible refine si_asg ?_)
        | (with_reducible refine si_asgV ?_)
        | (with_reducible refine si_new ?_)
        | (with_reducible refine si_drop ?_)
        | (with_reducible refine si_ret ?_)
        | (with_reducible refine si_retX ?_)
        | (with_reducible refine si_if ?_)
        | ((with_reducible apply si_aug); rfl)
        | (with_reducible refine si_par ?_)
        | (with_reducible refine si_parO ?_)
        | (with_reducible refine si_asgG ?_)
        | (with_reducible refine si_next ?_)
        | (with_reducible refine si_brk ?_)
        | (with_reducible refine si_cnt ?_)
        | (with_reducible refine si_retN ?_)
        | ((with_reducible apply si_catO); rfl)
        | (with_reducible refine si_par3 ?_)
        | ((with_reducible apply wi_var); rfl)
        | (with_reducible refine wi_c ?_)
        | (with_reducible refine wi_op ?_)
        | (with_reducible refine wi_un ?_)
        | (with_reducible refine wi_nil ?_)
        | (with_reducible refine wi_cons ?_)
        | (with_reducible refine wi_cb ?_)
        | (with_reducible refine wi_mt ?_)
        | (with_reducible refine wi_tst ?_)
        | (with_reducible refine wi_tru ?_)
        | (with_reducible refine wi_and ?_)
        | (with_reducible refine wi_or ?_)
        | (with_reducible refine wi_not ?_)
        | (with_reducible refine wi_if ?_)
        | (with_reducible refine wi_andV ?_)
        | (with_reducible refine wi_orV ?_)
        | (with_reducible refine wi_notV ?_)
        | (with_reducible refine wi_tup ?_)
        | (with_reducible refine wi_lst ?_)
        | (with_reducible refine wi_ofF ?_)
        | (with_reducible refine wi_fresh ?_)
        | (with_reducible refine wi_isi ?_)
        | (with_reducible refine wi_sl ?_)
        | (with_reducible refine wi_oNone ?_)
        | (with_reducible refine wi_oSome ?_)
        | (with_reducible refine wi_call ?_)
        | (with_reducible refine wi_callF ?_)
        | (with_reducible refine wi_items ?_)
        | (with_reducible refine wi_lc ?_)
        | (with_reducible refine wi_star ?_)
        | (with_reducible refine wi_ix ?_)
        | (with_reducible refine wi_chain ?_)
        | (with_reducible refine wi_rng1 ?_)
        | (with_reducible refine wi_rng2 ?_)
        | (with_reducible refine wi_enum ?_)
        | (with_reducible refine wi_enumT ?_)
        | (with_reducible refine wi_zip ?_)
        | (with_reducible refine wi_zipK ?_)
        | (with_reducible refine wi_yes ?_)
        | (with_reducible refine wi_enumA ?_)
        | (with_reducible refine wi_slt ?_)
        | (with_reducible refine wi_isiC ?_)
        | (with_reducible refine wi_prop ?_)
        | (with_reducible refine wi_callP ?_)
        | (with_reducible refine wi_dc ?_)
        | (with_reducible refine wi_sortIt ?_)
        | (with_reducible refine wi_listIt ?_)
        | (with_reducible refine star_l ?_)
        | (with_reducible refine star_t ?_)
        | (with_reducible refine (pr2 (x := _) (y := _)).mpr ?_)
        | (with_reducible refine ⟨_, ev_eqS, ?_⟩)
        | (with_reducible refine ⟨_, ev_neS, ?_⟩)
        | (with_reducible refine ⟨_, ev_eqI, ?_⟩)
        | (with_reducible refine ⟨_, ev_neI, ?_⟩)
        | (with_reducible refine ⟨_, ev_eqT1, ?_⟩)
        | (with_reducible refine ⟨_, ev_eqT, ?_⟩)
        | (with_reducible refine ⟨_, ev_eqL, ?_⟩)
        | (with_reducible refine ⟨_, ev_neB, ?_⟩)
        | (with_reducible refine ⟨_, ev_inL, ?_⟩)
        | (with_reducible refine ⟨_, ev_inT, ?_⟩)
        | (with_reducible refine ⟨_, ev_ninL, ?_⟩)
        | (with_reducible refine ⟨_, ev_ninT, ?_⟩)
        | (with_reducible refine ⟨_, ev_inTL1, ?_⟩)
        | (with_reducible refine ⟨_, ev_ninTL1, ?_⟩)
        | (with_reducible refine ⟨_, ev_ninTL0, ?_⟩)
        | (with_reducible refine ⟨_, ev_inTL, ?_⟩)
        | (with_reducible refine ⟨_, ev_ninTL, ?_⟩)
        | (with_reducible refine ⟨_, sl_take1, ?_⟩)
        | (with_reducible refine ⟨_, sl_drop1, ?_⟩)
        | (with_reducible refine ⟨_, ev_all_map, ?_⟩)
        | (with_reducible refine ⟨_, ev_any_map, ?_⟩)
        | (with_reducible refine ⟨_, ev_all, ?_⟩)
        | (with_reducible refine ⟨_, ev_any, ?_⟩)
        | (with_reducible refine bl_i ?_)
        | (with_reducible refine int_i ?_)
        | (with_reducible refine tru_bl ?_)
        | (with_reducible refine neg_i ?_)
        | (with_reducible refine len_l ?_)
        | (with_reducible refine len_t ?_)
        | (with_reducible refine tup_l ?_)
        | (with_reducible refine it_l ?_)
        | (with_reducible refine it_t ?_)
        | (refine ite_t (by rfl) ?_)
        | (refine ite_f (by rfl) ?_)
        | (refine ⟨_, ev_mod (by omega), ?_⟩)
        | (refine ⟨_, ev_div (by omega) (by omega), ?_⟩)
        | (refine ⟨_, ev_divmod (by omega) (by omega), ?_⟩)
        | (refine ⟨_, ev_mulR (by omega) (by omega), ?_⟩)
        | (refine ⟨_, ev_mulL (by omega) (by omega), ?_⟩)
        | (exact ⟨rfl, rfl⟩)
        | (refine ⟨rfl, ?_⟩)
        | (refine ⟨by decide, ?_⟩)
        | (refine ⟨(by simp only [List.length_cons, List.length_nil, lim]; decide), ?_⟩)
        | (refine ⟨of_decide_eq_true (by rfl), ?_⟩)))
theorem record_of_ok (qs : List (Str × Int)) (p : List Int) : m_record_of [box qs] p = some (.slt "Record" [box qs], p) := by
  have e := mMake_of (c := "Record") (m := unStar 0 (runI 5 2 b_Record___init__)) (a := mNil) (r := shR (startR 2 1 [box qs])) (p := p) rfl (fun x => init_ok x p)
  unfold m_record_of runF b_record_of sMakeSet
  rw [e]
  rfl
theorem none_in (qs : List (Str × Int)) : dIn .non (.lst (qs.map dPr)) = some (.bl false) := by
  have hf : flats 59 (qs.map dPr) = true := flats_all 59 dPr (fun q => by show flat 59 (.tup _) = true; simp [flat, flats]) qs
  show (if (flat 59 .non && flats 59 (qs.map dPr)) = true then some (D.bl ((qs.map dPr).any fun e => deqv e .non)) else none) = _
  rw [hf, if_pos (by simp [flat])]
  congr 2
  rw [List.any_eq_false]
  intro d hd
  obtain ⟨q, _, rfl⟩ := List.mem_map.mp hd
  simp [deqv]
theorem read_ok {rs : List (Str × Int)} (h : BoxOk rs) (asc : rs.Pairwise fun a b => sLt a.1 b.1 = true) (p : List Int) : m_Record_read [.str (if rs = [] then "empty" else Txt.join " " (rs.map word))] p = some (.slt "Record" [box rs], p) := by
  refine Wp.eq ?_
  unfold m_Record_read
  refine fi_run ?_
  unfold b_Record_read
  have fin : ∀ c : Cl, ∀ c2 c3 c4 : Cl, Ws (sSeq (sIf (mOr (mTst (mOp dIn (mC .non) (mVar 1))) (mNot (mTru (mCB dAll (mCons (mOfF (mLc [3, 4] (mZipK false (mCons (mVar 1) (mCons (mSl (mVar 1) (oSome (mC (.int 1))) (oNone)) (mNil)))) (gT 2 (gNsC (gN 3) (gNsC (gN 4) (gNs0)))) c2_Record_readt c2_Record_read)) (mNil)))))) (sNev) (sNext))
      (sRet false (mCall 1 m_record_of (mCons (mCB dDict (mCons (mVar 1) (mNil))) (mNil)))) [c, .sh (.lst (rs.map dPr)), c2, c3, c4] p) (fun _ q => D.non = .slt "Record" [box rs] ∧ q = p) (fun d q => d = .slt "Record" [box rs] ∧ q = p) (fun _ _ => False) (fun _ _ => False) := by
    intro c c2 c3 c4
    have hl := h.ln
    walk_at "VX"
    refine ⟨_, none_in rs, ?_⟩
    walk_at "VX"
    refine ⟨_, sl_dropL dPr (by decide), ?_⟩
    walk_at "VX"
    refine ⟨zipD (rs.map dPr) ((rs.drop 1).map dPr), rfl, ?_⟩
    rw [zipD_map]
    refine ⟨by rw [List.length_map, List.length_zip]; unfold lim; omega, Wp.of_eq (lcGo_all (fun q : (Str × Int) × (Str × Int) => .tup [dPr q.1, dPr q.2]) (fun q => .bl (sLt q.1.1 q.2.1)) fun q hq => ⟨_, rfl, rfl, rfl⟩) ?_⟩
    walk_at "VX"
    refine ite_f (by
      rw [Bool.not_eq_false', List.all_eq_true]
      exact fun q hq => asc_zip asc q hq) ?_
    walk_at "VX"
    refine ⟨_, dict_rows h.nd, ?_⟩
    walk_at "VX"
    refine Wp.of_eq (record_of_ok rs _) ?_
    exact ⟨rfl, rfl⟩
  walk_at "VX"
  refine ⟨.bl true, rfl, ?_⟩
  walk_at "VX"
  by_cases hne : rs = []
  · subst hne
    walk_at "VC"
    refine Wp.of_eq (a := []) (p := p) rfl ?_
    walk_at "VC"
    refine Wp.of_eq (record_of_ok [] _) ?_
    exact ⟨rfl, rfl⟩
  · rw [if_neg hne]
    refine ite_f (decide_eq_false (words_ne h.row hne)) ?_
    walk_at "VX"
    refine ⟨.lst ((rs.map word).map .str), ?_, ?_⟩
    · show (if ((" " : Str).length == 0) = false then some (D.lst ((Txt.split (Txt.join " " (rs.map word)) " ").map .str)) else none) = _
      rw [split_words h.row hne]
      rfl
    walk_at "VX"
    refine ⟨by rw [List.length_map, List.length_map]; have := h.ln; unfold lim; omega, ?_⟩
    rw [List.map_map]
    refine Wp.of_eq (lcGo_all (fun q => D.str (word q)) dPr fun q hq => ⟨_, rfl, rfl, ?_⟩) ?_
    · refine Wp.eq ?_
      unfold c1_Record_read
      walk_at "VX"
      refine Wp.of_eq (read_entry_ok (h.row q hq) _) ?_
      exact ⟨rfl, rfl⟩
    · exact fin _ _ _ _
theorem law_record_ok {qs : List (Str × Int)} (h : BoxOk qs) (p : List Int) : m__law_record [box qs] p = some (.slt "Record" [box (psort qs)], p) := by
  refine Wp.eq ?_
  unfold m__law_record
  refine fi_run ?_
  unfold b__law_record
  walk_at "VX"
  refine Wp.of_eq (law_line_ok h _) ?_
  walk_at "VX"
  have e : (qs = []) ↔ psort qs = [] := by
    constructor
    · rintro rfl
      exact List.eq_nil_of_length_eq_zero (psort_perm []).length_eq
    · intro z
      have := (psort_perm qs).length_eq
      rw [z] at this
      exact List.eq_nil_of_length_eq_zero this.symm
  have e2 : (if qs = [] then ("empty" : Str) else Txt.join " " ((psort qs).map word)) = if psort qs = [] then ("empty" : Str) else Txt.join " " ((psort qs).map word) := by
    by_cases hq : qs = []
    · rw [if_pos hq, if_pos (e.mp hq)]
    · rw [if_neg hq, if_neg fun z => hq (e.mpr z)]
  rw [e2]
  refine Wp.of_eq (read_ok h.sort (psort_asc h.nd) _) ?_
  exact ⟨rfl, rfl⟩
theorem meets_ok {rs : List (Str × Int)} (h : BoxOk rs) {xs : List Prem} (ok : ∀ x ∈ xs, POk x) (hl : xs.length ≤ 10) (hk : ∀ s, s ∈ rs.map (·.1) ↔ s ∈ alws xs) (hc : clash xs = false) (p : List Int) : m_meets [.slt "Record" [box rs], XT xs] p = some (.bl true, p) := by
  have hks : ∀ s, s ∈ (psort rs).map (·.1) ↔ s ∈ alws xs := fun s => by rw [← hk s]; exact ((psort_perm rs).map _).mem_iff
  have hln := h.sort.ln
  obtain ⟨ks, e1, e2, e3⟩ := always_in_ok xs (by omega) p
  refine Wp.eq ?_
  unfold m_meets
  refine fi_run ?_
  unfold b_meets
  walk_at "VX"
  refine Wp.of_eq (a := .non) (p := p) (Wp.eq ?_) ?_
  · unfold m_check_record
    refine fi_run ?_
    unfold b_check_record
    walk_at "VX"
    refine ⟨_, rfl, ?_⟩
    walk_at "VX"
  walk_at "VX"
  refine Wp.of_eq (check_form_ok ok hl _) ?_
  walk_at "VX"
  refine ⟨_, rfl, ?_⟩
  refine Wp.of_eq (a := .tup ((psort rs).map dPr)) (p := p) (Wp.eq ?_) ?_
  · unfold m_Record_entries
    refine fi_run ?_
    unfold b_Record_entries
    walk_at "VX"
    refine ⟨_, _, rfl, rfl, ?_⟩
    refine ⟨_, asSI_fK rs, ?_⟩
    walk_at "VX"
  walk_at "VX"
  refine ⟨by rw [List.length_map]; unfold lim; omega, Wp.of_eq (lcGo_all dPr (fun q => .str q.1) fun q hq => ⟨_, rfl, rfl, rfl⟩) ?_⟩
  have e4 : (psort rs).map (fun q => D.str q.1) = ((psort rs).map (·.1)).map .str := by rw [List.map_map]; rfl
  rw [e4]
  walk_at "VX"
  refine Wp.of_eq (fit_ok _ (by rw [List.length_map]; omega) ok (by omega) _) ?_
  have e5 : (xs.any (badIn ((psort rs).map (·.1)))) = false := by
    rw [← hc]
    unfold clash
    congr 1
    funext x
    exact badIn_congr hks x
  rw [e5]
  walk_at "VX"
  refine Wp.of_eq e1 ?_
  walk_at "VX"
  refine ⟨by rw [List.length_map]; unfold lim; omega, Wp.of_eq (lcGo_all D.str (fun s => .bl (decide (s ∈ (psort rs).map (·.1)))) fun q hq => ⟨_, rfl, rfl, Wp.eq ?_⟩) ?_⟩
  · unfold c2_meets
    walk_at "VX"
  · walk_at "VX"
    refine ⟨congrArg D.bl ?_, rfl⟩
    rw [List.all_eq_true]
    exact fun s hs => decide_eq_true ((hks s).mpr ((e3 s).mp hs))
end K36

namespace K36
open PySem PySem.Spec PyProof.Rows L2 Dt Tx
local macro_rules
  | `(tactic| walk_at "VC") => `(tactic| repeat (first
        | (with_reducible refine si_seq ?_)
        | (with_reducible refine si_for ?_)
        | (with_reducible refine si_forX ?_)
        | ((with_reducible apply si_app); rfl)
        | (with_reducible refine si_pool ?_)
        | (with_reducible refine si_asg ?_)
        | (with_reducible refine si_asgV ?_)
        | (with_reducible refine si_new ?_)
        | (with_reducible refine si_drop ?_)
        | (with_reducible refine si_ret ?_)
        | (with_reducible refine si_retX ?_)
        | (with_reducible refine si_if ?_)
        | ((with_reducible apply si_aug); rfl)
        | (with_reducible refine si_par ?_)
        | (with_reducible refine si_parO ?_)
        | (with_reducible refine si_asgG ?_)
        | (with_reducible refine si_next ?_)
        | (with_reducible refine si_brk ?_)
        | (with_reducible refine si_cnt ?_)
        | (with_reducible refine si_retN ?_)
        | ((with_reducible apply si_catO); rfl)
        | (with_reducible refine si_par3 ?_)
        | ((with_reducible apply wi_var); rfl)
        | (with_reducible refine wi_c ?_)
        | (with_reducible refine wi_op ?_)
        | (with_reducible refine wi_un ?_)
        | (with_reducible refine wi_nil ?_)
        | (with_reducible refine wi_cons ?_)
        | (with_reducible refine wi_cb ?_)
        | (with_reducible refine wi_mt ?_)
        | (with_reducible refine wi_tst ?_)
        | (with_reducible refine wi_tru ?_)
        | (with_reducible refine wi_and ?_)
        | (with_reducible refine wi_or ?_)
        | (with_reducible refine wi_not ?_)
        | (with_reducible refine wi_if ?_)
        | (with_reducible refine wi_andV ?_)
        | (with_reducible refine wi_orV ?_)
        | (with_reducible refine wi_notV ?_)
        | (with_reducible refine wi_tup ?_)
        | (with_reducible refine wi_lst ?_)
        | (with_reducible refine wi_ofF ?_)
        | (with_reducible refine wi_fresh ?_)
        | (with_reducible refine wi_isi ?_)
        | (with_reducible refine wi_sl ?_)
        | (with_reducible refine wi_oNone ?_)
        | (with_reducible refine wi_oSome ?_)
        | (with_reducible refine wi_call ?_)
        | (with_reducible refine wi_callF ?_)
        | (with_reducible refine wi_items ?_)
        | (with_reducible refine wi_lc ?_)
        | (with_reducible refine wi_star ?_)
        | (with_reducible refine wi_ix ?_)
        | (with_reducible refine wi_chain ?_)
        | (with_reducible refine wi_rng1 ?_)
        | (with_reducible refine wi_rng2 ?_)
        | (with_reducible refine wi_enum ?_)
        | (with_reducible refine wi_enumT ?_)
        | (with_reducible refine wi_zip ?_)
        | (with_reducible refine wi_zipK ?_)
        | (with_reducible refine wi_yes ?_)
        | (with_reducible refine wi_enumA ?_)
        | (with_reducible refine wi_slt ?_)
        | (with_reducible refine wi_isiC ?_)
        | (with_reducible refine wi_prop ?_)
        | (with_reducible refine wi_callP ?_)
        | (with_reducible refine wi_dc ?_)
        | (with_reducible refine wi_sortIt ?_)
        | (with_reducible refine wi_listIt ?_)
        | (with_reducible refine star_l ?_)
        | (with_reducible refine star_t ?_)
        | (with_reducible refine (pr2 (x := _) (y := _)).mpr ?_)
        | (with_reducible refine ⟨_, ev_eqS, ?_⟩)
        | (with_reducible refine ⟨_, ev_neS, ?_⟩)
        | (with_reducible refine ⟨_, ev_eqI, ?_⟩)
        | (with_reducible refine ⟨_, ev_neI, ?_⟩)
        | (with_reducible refine ⟨_, ev_eqT1, ?_⟩)
        | (with_reducible refine ⟨_, ev_eqT, ?_⟩)
        | (with_reducible refine ⟨_, ev_eqL, ?_⟩)
        | (with_reducible refine ⟨_, ev_neB, ?_⟩)
        | (with_reducible refine ⟨_, ev_inL, ?_⟩)
        | (with_reducible refine ⟨_, ev_inT, ?_⟩)
        | (with_reducible refine ⟨_, ev_ninL, ?_⟩)
        | (with_reducible refine ⟨_, ev_ninT, ?_⟩)
        | (with_reducible refine ⟨_, ev_inTL1, ?_⟩)
        | (with_reducible refine ⟨_, ev_ninTL1, ?_⟩)
        | (with_reducible refine ⟨_, ev_ninTL0, ?_⟩)
        | (with_reducible refine ⟨_, ev_inTL, ?_⟩)
        | (with_reducible refine ⟨_, ev_ninTL, ?_⟩)
        | (with_reducible refine ⟨_, sl_take1, ?_⟩)
        | (with_reducible refine ⟨_, sl_drop1, ?_⟩)
        | (with_reducible refine ⟨_, ev_all_map, ?_⟩)
        | (with_reducible refine ⟨_, ev_any_map, ?_⟩)
        | (with_reducible refine ⟨_, ev_all, ?_⟩)
        | (with_reducible refine ⟨_, ev_any, ?_⟩)
        | (with_reducible refine bl_i ?_)
        | (with_reducible refine int_i ?_)
        | (with_reducible refine tru_bl ?_)
        | (with_reducible refine neg_i ?_)
        | (with_reducible refine len_l ?_)
        | (with_reducible refine len_t ?_)
        | (with_reducible refine tup_l ?_)
        | (with_reducible refine it_l ?_)
        | (with_reducible refine it_t ?_)
        | (refine ite_t (by rfl) ?_)
        | (refine ite_f (by rfl) ?_)
        | (refine ⟨_, ev_mod (by omega), ?_⟩)
        | (refine ⟨_, ev_div (by omega) (by omega), ?_⟩)
        | (refine ⟨_, ev_divmod (by omega) (by omega), ?_⟩)
        | (refine ⟨_, ev_mulR (by omega) (by omega), ?_⟩)
        | (refine ⟨_, ev_mulL (by omega) (by omega), ?_⟩)
        | (refine ⟨_, rfl, ?_⟩)
        | (exact ⟨rfl, rfl⟩)
        | (refine ⟨rfl, ?_⟩)
        | (refine ⟨by decide, ?_⟩)
        | (refine ⟨(by simp only [List.length_cons, List.length_nil, lim]; decide), ?_⟩)
        | (refine ⟨of_decide_eq_true (by rfl), ?_⟩)))
local macro_rules
  | `(tactic| walk_at "VX") => `(tactic| repeat (first
        | (with_reducible refine si_seq ?_)
        | (with_reducible refine si_for ?_)
        | (with_reducible refine si_forX ?_)
        | ((with_reducible apply si_app); rfl)
        | (with_reducible refine si_pool ?_)
        | (with_reducible refine si_asg ?_)
        | (with_reducible refine si_asgV ?_)
        | (with_reducible refine si_new ?_)
        | (with_reducible refine si_drop ?_)
        | (with_reducible refine si_ret ?_)
        | (with_reducible refine si_retX ?_)
        | (with_reducible refine si_if ?_)
        | ((with_reducible apply si_aug); rfl)
        | (with_reducible refine si_par ?_)
        | (with_reducible refine si_parO ?_)
        | (with_reducible refine si_asgG ?_)
        | (with_reducible refine si_next ?_)
        | (with_reducible refine si_brk ?_)
        | (with_reducible refine si_cnt ?_)
        | (with_reducible refine si_retN ?_)
        | ((with_reducible apply si_catO); rfl)
        | (with_reducible refine si_par3 ?_)
        | ((with_reducible apply wi_var); rfl)
        | (with_reducible refine wi_c ?_)
        | (with_reducible refine wi_op ?_)
        | (with_reducible refine wi_un ?_)
        | (with_reducible refine wi_nil ?_)
        | (with_reducible refine wi_cons ?_)
        | (with_reducible refine wi_cb ?_)
        | (with_reducible refine wi_mt ?_)
        | (with_reducible refine wi_tst ?_)
        | (with_reducible refine wi_tru ?_)
        | (with_reducible refine wi_and ?_)
        | (with_reducible refine wi_or ?_)
        | (with_reducible refine wi_not ?_)
        | (with_reducible refine wi_if ?_)
        | (with_reducible refine wi_andV ?_)
        | (with_reducible refine wi_orV ?_)
        | (with_reducible refine wi_notV ?_)
        | (with_reducible refine wi_tup ?_)
        | (with_reducible refine wi_lst ?_)
        | (with_reducible refine wi_ofF ?_)
        | (with_reducible refine wi_fresh ?_)
        | (with_reducible refine wi_isi ?_)
        | (with_reducible refine wi_sl ?_)
        | (with_reducible refine wi_oNone ?_)
        | (with_reducible refine wi_oSome ?_)
        | (with_reducible refine wi_call ?_)
        | (with_reducible refine wi_callF ?_)
        | (with_reducible refine wi_items ?_)
        | (with_reducible refine wi_lc ?_)
        | (with_reducible refine wi_star ?_)
        | (with_reducible refine wi_ix ?_)
        | (with_reducible refine wi_chain ?_)
        | (with_reducible refine wi_rng1 ?_)
        | (with_reducible refine wi_rng2 ?_)
        | (with_reducible refine wi_enum ?_)
        | (with_reducible refine wi_enumT ?_)
        | (with_reducible refine wi_zip ?_)
        | (with_reducible refine wi_zipK ?_)
        | (with_reducible refine wi_yes ?_)
        | (with_reducible refine wi_enumA ?_)
        | (with_reducible refine wi_slt ?_)
        | (with_reducible refine wi_isiC ?_)
        | (with_reducible refine wi_prop ?_)
        | (with_reducible refine wi_callP ?_)
        | (with_reducible refine wi_dc ?_)
        | (with_reducible refine wi_sortIt ?_)
        | (with_reducible refine wi_listIt ?_)
        | (with_reducible refine star_l ?_)
        | (with_reducible refine star_t ?_)
        | (with_reducible refine (pr2 (x := _) (y := _)).mpr ?_)
        | (with_reducible refine ⟨_, ev_eqS, ?_⟩)
        | (with_reducible refine ⟨_, ev_neS, ?_⟩)
        | (with_reducible refine ⟨_, ev_eqI, ?_⟩)
        | (with_reducible refine ⟨_, ev_neI, ?_⟩)
        | (with_reducible refine ⟨_, ev_eqT1, ?_⟩)
        | (with_reducible refine ⟨_, ev_eqT, ?_⟩)
        | (with_reducible refine ⟨_, ev_eqL, ?_⟩)
        | (with_reducible refine ⟨_, ev_neB, ?_⟩)
        | (with_reducible refine ⟨_, ev_inL, ?_⟩)
        | (with_reducible refine ⟨_, ev_inT, ?_⟩)
        | (with_reducible refine ⟨_, ev_ninL, ?_⟩)
        | (with_reducible refine ⟨_, ev_ninT, ?_⟩)
        | (with_reducible refine ⟨_, ev_inTL1, ?_⟩)
        | (with_reducible refine ⟨_, ev_ninTL1, ?_⟩)
        | (with_reducible refine ⟨_, ev_ninTL0, ?_⟩)
        | (with_reducible refine ⟨_, ev_inTL, ?_⟩)
        | (with_reducible refine ⟨_, ev_ninTL, ?_⟩)
        | (with_reducible refine ⟨_, sl_take1, ?_⟩)
        | (with_reducible refine ⟨_, sl_drop1, ?_⟩)
        | (with_reducible refine ⟨_, ev_all_map, ?_⟩)
        | (with_reducible refine ⟨_, ev_any_map, ?_⟩)
        | (with_reducible refine ⟨_, ev_all, ?_⟩)
        | (with_reducible refine ⟨_, ev_any, ?_⟩)
        | (with_reducible refine bl_i ?_)
        | (with_reducible refine int_i ?_)
        | (with_reducible refine tru_bl ?_)
        | (with_reducible refine neg_i ?_)
        | (with_reducible refine len_l ?_)
        | (with_reducible refine len_t ?_)
        | (with_reducible refine tup_l ?_)
        | (with_reducible refine it_l ?_)
        | (with_reducible refine it_t ?_)
        | (refine ite_t (by rfl) ?_)
        | (refine ite_f (by rfl) ?_)
        | (refine ⟨_, ev_mod (by omega), ?_⟩)
        | (refine ⟨_, ev_div (by omega) (by omega), ?_⟩)
        | (refine ⟨_, ev_divmod (by omega) (by omega), ?_⟩)
        | (refine ⟨_, ev_mulR (by omega) (by omega), ?_⟩)
        | (refine ⟨_, ev_mulL (by omega) (by omega), ?_⟩)
        | (exact ⟨rfl, rfl⟩)
        | (refine ⟨rfl, ?_⟩)
        | (refine ⟨by decide, ?_⟩)
        | (refine ⟨(by simp only [List.length_cons, List.length_nil, lim]; decide), ?_⟩)
        | (refine ⟨of_decide_eq_true (by rfl), ?_⟩)))
theorem badIn_mono {ks js : List Str} (h : ∀ s, s ∈ ks → s ∈ js) {x : Prem} (hb : badIn ks x = true) : badIn js x = true := by
  cases x with
  | nev p =>
    have hb : ks.any (fun k => under k p) = true := hb
    obtain ⟨k, h1, h2⟩ := List.any_eq_true.mp hb
    exact List.any_eq_true.mpr ⟨k, h k h1, h2⟩
  | alw p => cases hb
  | both p q =>
    have hb : (decide (p ∈ ks) && decide (q ∈ ks)) = true := hb
    rw [Bool.and_eq_true] at hb
    show (decide (p ∈ js) && decide (q ∈ js)) = true
    rw [decide_eq_true (h p (of_decide_eq_true hb.1)), decide_eq_true (h q (of_decide_eq_true hb.2))]
    rfl
theorem clash_mono {xs ys : List Prem} (h : ∀ x ∈ xs, x ∈ ys) (hc : clash xs = true) : clash ys = true := by
  obtain ⟨x, h1, h2⟩ := List.any_eq_true.mp hc
  exact List.any_eq_true.mpr ⟨x, h x h1, badIn_mono (fun s hs => mem_alws.mpr (h _ (mem_alws.mp hs))) h2⟩
theorem clash_same {xs ys : List Prem} (h : ∀ x, x ∈ xs ↔ x ∈ ys) : clash xs = clash ys := by
  rw [Bool.eq_iff_iff]
  exact ⟨clash_mono fun x hx => (h x).mp hx, clash_mono fun x hx => (h x).mpr hx⟩
theorem clash_sub {xs ys : List Prem} (h : ∀ x ∈ xs, x ∈ ys) (hc : clash ys = false) : clash xs = false := by
  cases e : clash xs with
  | false => rfl
  | true => rw [clash_mono h e] at hc; cases hc
theorem ev_neL {a b : List Str} : dNe (.lst (a.map .str)) (.lst (b.map .str)) = some (.bl (!decide (a = b))) := by
  unfold dNe deep; rw [flat_lst, flat_lst, flats_strs, flats_strs, deqv, deqvs_strs]; rfl
/-! # The box -/
def rowsOf (xs : List Prem) : List (Str × Int) := (xs.zipIdx.filter fun q => isA q.1).map fun q => (p1 q.1, ((q.2 : Nat) : Int))
theorem rows_keys (xs : List Prem) : (rowsOf xs).map (·.1) = alws xs := by
  unfold rowsOf alws
  rw [List.map_map]
  have e : xs.filter isA = (xs.zipIdx.filter fun q => isA q.1).map Prod.fst := by
    have h1 : xs = xs.zipIdx.map Prod.fst := by simp
    conv => lhs; rw [h1]
    rw [List.filter_map]
    rfl
  rw [e, List.map_map]
  rfl
theorem rows_ok {xs : List Prem} (ok : ∀ x ∈ xs, POk x) (hl : xs.length ≤ 10) : ∀ q ∈ rowsOf xs, RowOk q := by
  intro q hq
  obtain ⟨z, hz, rfl⟩ := List.mem_map.mp hq
  rw [List.mem_filter] at hz
  have h1 : z.1 ∈ xs := List.fst_mem_of_mem_zipIdx hz.1
  have h2 : z.2 < xs.length := by
    have := List.snd_lt_of_mem_zipIdx hz.1
    omega
  have h3 := ok _ h1
  obtain ⟨x, i⟩ := z
  simp only at h1 h2 h3 hz ⊢
  cases x with
  | alw a => exact ⟨h3, by show (0 : Int) ≤ ((i : Nat) : Int); omega, by show ((i : Nat) : Int) < 10; omega⟩
  | nev a => cases hz.2
  | both a b => cases hz.2
theorem rows_box {xs : List Prem} (ok : ∀ x ∈ xs, POk x) (hl : xs.length ≤ 10) : BoxOk (mergeG [] (rowsOf xs)) ∧ ∀ s, s ∈ (mergeG [] (rowsOf xs)).map (·.1) ↔ s ∈ alws xs := by
  obtain ⟨h1, h2, h3⟩ := mergeG_all (rowsOf xs) [] (by simp)
  refine ⟨⟨fun q hq => ?_, h1, ?_⟩, fun s => ?_⟩
  · rcases h3 q hq with h | h
    · cases h
    · exact rows_ok ok hl q h
  · have := mergeG_len (rowsOf xs) []
    have h4 : (rowsOf xs).length ≤ xs.length := by
      have h5 := congrArg List.length (rows_keys xs)
      rw [List.length_map] at h5
      rw [h5]
      unfold alws
      rw [List.length_map]
      exact List.length_filter_le _ _
    rw [List.length_nil] at this
    omega
  · rw [h2, rows_keys]
    simp
theorem enum_pD (xs : List Prem) : enumD (xs.map pD) = xs.zipIdx.map fun q => .tup [.int (q.2 : Nat), pD q.1] := by
  unfold enumD
  rw [List.zipIdx_map, List.map_map]
  rfl
theorem ix0z (x : Prem) (p : List Int) : ixD (pD x) (.int 0) p = some (.str (match x with | .nev _ => "never" | .alw _ => "always" | .both _ _ => "not both")) := ix0 x p
theorem rest_ok {xs : List Prem} (ok : ∀ x ∈ xs, POk x) (hl : xs.length ≤ 10) (hc : clash xs = false) (c2 c3 c4 c5 : Cl) (p : List Int) : Ws ((sSeq (sAsg 4 (mCB dDict (mCons (mOfF (mLc [5, 3] (mEnumA (mCons (mVar 0) (mNil))) (gT 2 (gNsC (gN 5) (gNsC (gN 3) (gNs0)))) c2__law_told_rightt c2__law_told_right)) (mNil))))
  (sSeq (sIf (mNot (mTru (mCall 2 m_meets (mCons (mCall 1 m__law_record (mCons (mVar 4) (mNil))) (mCons (mVar 0) (mNil)))))) (sRet false (mC (.bl false))) (sNext))
  (sRet false (mNotV (mCB dAny (mCons (mOfF (mLc [5] (mRng1 (mCons (mCB dLen (mCons (mVar 0) (mNil))) (mNil))) (gN 5) c3__law_told_rightt c3__law_told_right)) (mNil))))))) [.sh (XT xs), .sh (.bl false), c2, c3, c4, c5] p) (fun _ q => D.non = .bl true ∧ q = p) (fun d q => d = .bl true ∧ q = p) (fun _ _ => False) (fun _ _ => False) := by
  obtain ⟨hb, hk⟩ := rows_box ok hl
  walk_at "VX"
  refine ⟨_, .inr rfl, ?_⟩
  rw [enum_pD]
  refine ⟨by rw [List.length_map, List.length_zipIdx]; unfold lim; omega, Wp.of_eq (lcGo_map (fun q : Prem × Nat => D.tup [.int (q.2 : Nat), pD q.1]) (fun q => isA q.1) (fun q => dPr (p1 q.1, ((q.2 : Nat) : Int))) fun q hq => ⟨_, rfl, ?_, fun _ => ?_⟩) ?_⟩
  · refine Wp.eq ?_
    unfold c2__law_told_rightt
    walk_at "VX"
    refine ⟨_, ix0 q.1 _, ?_⟩
    walk_at "VC"
    exact ⟨by cases q.1 <;> rfl, rfl⟩
  · refine Wp.eq ?_
    unfold c2__law_told_right
    walk_at "VX"
    refine ⟨_, ix1 q.1 _, ?_⟩
    walk_at "VC"
  have e : (xs.zipIdx.filter fun q => isA q.1).map (fun q => dPr (p1 q.1, ((q.2 : Nat) : Int))) = (rowsOf xs).map dPr := by unfold rowsOf; rw [List.map_map]; rfl
  rw [e]
  walk_at "VX"
  refine ⟨_, dict_any _, ?_⟩
  walk_at "VX"
  refine Wp.of_eq (law_record_ok hb _) ?_
  walk_at "VX"
  refine Wp.of_eq (meets_ok hb.sort ok hl (fun s => by rw [← hk s]; exact ((psort_perm _).map _).mem_iff) hc _) ?_
  refine tru_bl ?_
  simp only [Bool.not_true, Bool.false_eq_true, if_false]
  with_reducible refine si_next ?_
  with_reducible refine si_ret ?_
  with_reducible refine wi_notV ?_
  with_reducible refine wi_cb ?_
  with_reducible refine wi_cons ?_
  with_reducible refine wi_ofF ?_
  with_reducible refine wi_lc ?_
  with_reducible refine wi_rng1 ?_
  with_reducible refine wi_cons ?_
  with_reducible refine wi_cb ?_
  with_reducible refine wi_cons ?_
  (with_reducible apply wi_var); rfl
  with_reducible refine wi_nil ?_
  with_reducible refine len_t ?_
  with_reducible refine wi_nil ?_
  refine ⟨_, rfl, by unfold rngOk; rw [List.length_map]; simp; omega, ?_⟩
  have hr : rngD 0 (((xs.map pD).length : Nat) : Int).toNat = (List.range xs.length).map fun (i : Nat) => D.int (0 + (i : Int)) := by
    unfold rngD
    rw [List.length_map]
    rfl
  rw [hr]
  refine ⟨by rw [List.length_map, List.length_range]; unfold lim; omega, Wp.of_eq (lcGo_all (fun i : Nat => D.int (0 + (i : Int))) (fun i => .bl false) fun i hi => ⟨_, rfl, rfl, Wp.eq ?_⟩) ?_⟩
  · have hi := List.mem_range.mp hi
    unfold c3__law_told_right
    walk_at "VX"
    refine ⟨_, sl_takeT pD (by omega), ?_⟩
    walk_at "VX"
    refine ⟨_, ev_addI, ?_⟩
    walk_at "VX"
    refine ⟨_, sl_dropT pD (by omega), ?_⟩
    refine ⟨_, ev_addT (by rw [List.length_map, List.length_map, List.length_take, List.length_drop]; unfold lim; omega), ?_⟩
    rw [← List.map_append]
    have hs : ∀ x ∈ xs.take (0 + (i : Int)).toNat ++ xs.drop (0 + (i : Int) + 1).toNat, x ∈ xs := fun x hx => by
      rcases List.mem_append.mp hx with h | h
      · exact List.mem_of_mem_take h
      · exact List.mem_of_mem_drop h
    walk_at "VX"
    refine Wp.of_eq (contr_ok (xs := xs.take (0 + (i : Int)).toNat ++ xs.drop (0 + (i : Int) + 1).toNat) (fun x hx => ok x (hs x hx)) (by rw [List.length_append, List.length_take, List.length_drop]; omega) _) ?_
    exact ⟨congrArg D.bl (clash_sub hs hc), rfl⟩
  · walk_at "VX"
    refine ⟨congrArg D.bl ?_, rfl⟩
    rw [Bool.not_eq_true', List.any_eq_false]
    exact fun _ _ => by decide
end K36

namespace K36
open PySem PySem.Spec PyProof.Rows L2 Dt Tx
local macro_rules
  | `(tactic| walk_at "VC") => `(tactic| repeat (first
        | (with_reducible refine si_seq ?_)
        | (with_reducible refine si_for ?_)
        | (with_reducible refine si_forX ?_)
        | ((with_reducible apply si_app); rfl)
        | (with_reducible refine si_pool ?_)
        | (with_reducible refine si_asg ?_)
        | (with_reducible refine si_asgV ?_)
        | (with_reducible refine si_new ?_)
        | (with_reducible refine si_drop ?_)
        | (with_reducible refine si_ret ?_)
        | (with_reducible refine si_retX ?_)
        | (with_reducible refine si_if ?_)
        | ((with_reducible apply si_aug); rfl)
        | (with_reducible refine si_par ?_)
        | (with_reducible refine si_parO ?_)
        | (with_reducible refine si_asgG ?_)
        | (with_reducible refine si_next ?_)
        | (with_reducible refine si_brk ?_)
        | (with_reducible refine si_cnt ?_)
        | (with_reducible refine si_retN ?_)
        | ((with_reducible apply si_catO); rfl)
        | (with_reducible refine si_par3 ?_)
        | ((with_reducible apply wi_var); rfl)
        | (with_reducible refine wi_c ?_)
        | (with_reducible refine wi_op ?_)
        | (with_reducible refine wi_un ?_)
        | (with_reducible refine wi_nil ?_)
        | (with_reducible refine wi_cons ?_)
        | (with_reducible refine wi_cb ?_)
        | (with_reducible refine wi_mt ?_)
        | (with_reducible refine wi_tst ?_)
        | (with_reducible refine wi_tru ?_)
        | (with_reducible refine wi_and ?_)
        | (with_reducible refine wi_or ?_)
        | (with_reducible refine wi_not ?_)
        | (with_reducible refine wi_if ?_)
        | (with_reducible refine wi_andV ?_)
        | (with_reducible refine wi_orV ?_)
        | (with_reducible refine wi_notV ?_)
        | (with_reducible refine wi_tup ?_)
        | (with_reducible refine wi_lst ?_)
        | (with_reducible refine wi_ofF ?_)
        | (with_reducible refine wi_fresh ?_)
        | (with_reducible refine wi_isi ?_)
        | (with_reducible refine wi_sl ?_)
        | (with_reducible refine wi_oNone ?_)
        | (with_reducible refine wi_oSome ?_)
        | (with_reducible refine wi_call ?_)
        | (with_reducible refine wi_callF ?_)
        | (with_reducible refine wi_items ?_)
        | (with_reducible refine wi_lc ?_)
        | (with_reducible refine wi_star ?_)
        | (with_reducible refine wi_ix ?_)
        | (with_reducible refine wi_chain ?_)
        | (with_reducible refine wi_rng1 ?_)
        | (with_reducible refine wi_rng2 ?_)
        | (with_reducible refine wi_enum ?_)
        | (with_reducible refine wi_enumT ?_)
        | (with_reducible refine wi_zip ?_)
        | (with_reducible refine wi_zipK ?_)
        | (with_reducible refine wi_yes ?_)
        | (with_reducible refine wi_enumA ?_)
        | (with_reducible refine wi_slt ?_)
        | (with_reducible refine wi_isiC ?_)
        | (with_reducible refine wi_prop ?_)
        | (with_reducible refine wi_callP ?_)
        | (with_reducible refine wi_dc ?_)
        | (with_reducible refine wi_sortIt ?_)
        | (with_reducible refine wi_listIt ?_)
        | (with_reducible refine star_l ?_)
        | (with_reducible refine star_t ?_)
        | (with_reducible refine (pr2 (x := _) (y := _)).mpr ?_)
        | (with_reducible refine ⟨_, ev_eqS, ?_⟩)
        | (with_reducible refine ⟨_, ev_neS, ?_⟩)
        | (with_reducible refine ⟨_, ev_eqI, ?_⟩)
        | (with_reducible refine ⟨_, ev_neI, ?_⟩)
        | (with_reducible refine ⟨_, ev_eqT1, ?_⟩)
        | (with_reducible refine ⟨_, ev_eqT, ?_⟩)
        | (with_reducible refine ⟨_, ev_eqL, ?_⟩)
        | (with_reducible refine ⟨_, ev_neB, ?_⟩)
        | (with_reducible refine ⟨_, ev_inL, ?_⟩)
        | (with_reducible refine ⟨_, ev_inT, ?_⟩)
        | (with_reducible refine ⟨_, ev_ninL, ?_⟩)
        | (with_reducible refine ⟨_, ev_ninT, ?_⟩)
        | (with_reducible refine ⟨_, ev_inTL1, ?_⟩)
        | (with_reducible refine ⟨_, ev_ninTL1, ?_⟩)
        | (with_reducible refine ⟨_, ev_ninTL0, ?_⟩)
        | (with_reducible refine ⟨_, ev_inTL, ?_⟩)
        | (with_reducible refine ⟨_, ev_ninTL, ?_⟩)
        | (with_reducible refine ⟨_, sl_take1, ?_⟩)
        | (with_reducible refine ⟨_, sl_drop1, ?_⟩)
        | (with_reducible refine ⟨_, ev_all_map, ?_⟩)
        | (with_reducible refine ⟨_, ev_any_map, ?_⟩)
        | (with_reducible refine ⟨_, ev_all, ?_⟩)
        | (with_reducible refine ⟨_, ev_any, ?_⟩)
        | (with_reducible refine bl_i ?_)
        | (with_reducible refine int_i ?_)
        | (with_reducible refine tru_bl ?_)
        | (with_reducible refine neg_i ?_)
        | (with_reducible refine len_l ?_)
        | (with_reducible refine len_t ?_)
        | (with_reducible refine tup_l ?_)
        | (with_reducible refine it_l ?_)
        | (with_reducible refine it_t ?_)
        | (refine ite_t (by rfl) ?_)
        | (refine ite_f (by rfl) ?_)
        | (refine ⟨_, ev_mod (by omega), ?_⟩)
        | (refine ⟨_, ev_div (by omega) (by omega), ?_⟩)
        | (refine ⟨_, ev_divmod (by omega) (by omega), ?_⟩)
        | (refine ⟨_, ev_mulR (by omega) (by omega), ?_⟩)
        | (refine ⟨_, ev_mulL (by omega) (by omega), ?_⟩)
        | (refine ⟨_, rfl, ?_⟩)
        | (exact ⟨rfl, rfl⟩)
        | (refine ⟨rfl, ?_⟩)
        | (refine ⟨by decide, ?_⟩)
        | (refine ⟨(by simp only [List.length_cons, List.length_nil, lim]; decide), ?_⟩)
        | (refine ⟨of_decide_eq_true (by rfl), ?_⟩)))
local macro_rules
  | `(tactic| walk_at "VX") => `(tactic| repeat (first
        | (with_reducible refine si_seq ?_)
        | (with_reducible refine si_for ?_)
        | (with_reducible refine si_forX ?_)
        | ((with_reducible apply si_app); rfl)
        | (with_reducible refine si_pool ?_)
        | (with_reducible refine si_asg ?_)
        | (with_reducible refine si_asgV ?_)
        | (with_reducible refine si_new ?_)
        | (with_reducible refine si_drop ?_)
        | (with_reducible refine si_ret ?_)
        | (with_reducible refine si_retX ?_)
        | (with_reducible refine si_if ?_)
        | ((with_reducible apply si_aug); rfl)
        | (with_reducible refine si_par ?_)
        | (with_reducible refine si_parO ?_)
        | (with_reducible refine si_asgG ?_)
        | (with_reducible refine si_next ?_)
        | (with_reducible refine si_brk ?_)
        | (with_reducible refine si_cnt ?_)
        | (with_reducible refine si_retN ?_)
        | ((with_reducible apply si_catO); rfl)
        | (with_reducible refine si_par3 ?_)
        | ((with_reducible apply wi_var); rfl)
        | (with_reducible refine wi_c ?_)
        | (with_reducible refine wi_op ?_)
        | (with_reducible refine wi_un ?_)
        | (with_reducible refine wi_nil ?_)
        | (with_reducible refine wi_cons ?_)
        | (with_reducible refine wi_cb ?_)
        | (with_reducible refine wi_mt ?_)
        | (with_reducible refine wi_tst ?_)
        | (with_reducible refine wi_tru ?_)
        | (with_reducible refine wi_and ?_)
        | (with_reducible refine wi_or ?_)
        | (with_reducible refine wi_not ?_)
        | (with_reducible refine wi_if ?_)
        | (with_reducible refine wi_andV ?_)
        | (with_reducible refine wi_orV ?_)
        | (with_reducible refine wi_notV ?_)
        | (with_reducible refine wi_tup ?_)
        | (with_reducible refine wi_lst ?_)
        | (with_reducible refine wi_ofF ?_)
        | (with_reducible refine wi_fresh ?_)
        | (with_reducible refine wi_isi ?_)
        | (with_reducible refine wi_sl ?_)
        | (with_reducible refine wi_oNone ?_)
        | (with_reducible refine wi_oSome ?_)
        | (with_reducible refine wi_call ?_)
        | (with_reducible refine wi_callF ?_)
        | (with_reducible refine wi_items ?_)
        | (with_reducible refine wi_lc ?_)
        | (with_reducible refine wi_star ?_)
        | (with_reducible refine wi_ix ?_)
        | (with_reducible refine wi_chain ?_)
        | (with_reducible refine wi_rng1 ?_)
        | (with_reducible refine wi_rng2 ?_)
        | (with_reducible refine wi_enum ?_)
        | (with_reducible refine wi_enumT ?_)
        | (with_reducible refine wi_zip ?_)
        | (with_reducible refine wi_zipK ?_)
        | (with_reducible refine wi_yes ?_)
        | (with_reducible refine wi_enumA ?_)
        | (with_reducible refine wi_slt ?_)
        | (with_reducible refine wi_isiC ?_)
        | (with_reducible refine wi_prop ?_)
        | (with_reducible refine wi_callP ?_)
        | (with_reducible refine wi_dc ?_)
        | (with_reducible refine wi_sortIt ?_)
        | (with_reducible refine wi_listIt ?_)
        | (with_reducible refine star_l ?_)
        | (with_reducible refine star_t ?_)
        | (with_reducible refine (pr2 (x := _) (y := _)).mpr ?_)
        | (with_reducible refine ⟨_, ev_eqS, ?_⟩)
        | (with_reducible refine ⟨_, ev_neS, ?_⟩)
        | (with_reducible refine ⟨_, ev_eqI, ?_⟩)
        | (with_reducible refine ⟨_, ev_neI, ?_⟩)
        | (with_reducible refine ⟨_, ev_eqT1, ?_⟩)
        | (with_reducible refine ⟨_, ev_eqT, ?_⟩)
        | (with_reducible refine ⟨_, ev_eqL, ?_⟩)
        | (with_reducible refine ⟨_, ev_neB, ?_⟩)
        | (with_reducible refine ⟨_, ev_inL, ?_⟩)
        | (with_reducible refine ⟨_, ev_inT, ?_⟩)
        | (with_reducible refine ⟨_, ev_ninL, ?_⟩)
        | (with_reducible refine ⟨_, ev_ninT, ?_⟩)
        | (with_reducible refine ⟨_, ev_inTL1, ?_⟩)
        | (with_reducible refine ⟨_, ev_ninTL1, ?_⟩)
        | (with_reducible refine ⟨_, ev_ninTL0, ?_⟩)
        | (with_reducible refine ⟨_, ev_inTL, ?_⟩)
        | (with_reducible refine ⟨_, ev_ninTL, ?_⟩)
        | (with_reducible refine ⟨_, sl_take1, ?_⟩)
        | (with_reducible refine ⟨_, sl_drop1, ?_⟩)
        | (with_reducible refine ⟨_, ev_all_map, ?_⟩)
        | (with_reducible refine ⟨_, ev_any_map, ?_⟩)
        | (with_reducible refine ⟨_, ev_all, ?_⟩)
        | (with_reducible refine ⟨_, ev_any, ?_⟩)
        | (with_reducible refine bl_i ?_)
        | (with_reducible refine int_i ?_)
        | (with_reducible refine tru_bl ?_)
        | (with_reducible refine neg_i ?_)
        | (with_reducible refine len_l ?_)
        | (with_reducible refine len_t ?_)
        | (with_reducible refine tup_l ?_)
        | (with_reducible refine it_l ?_)
        | (with_reducible refine it_t ?_)
        | (refine ite_t (by rfl) ?_)
        | (refine ite_f (by rfl) ?_)
        | (refine ⟨_, ev_mod (by omega), ?_⟩)
        | (refine ⟨_, ev_div (by omega) (by omega), ?_⟩)
        | (refine ⟨_, ev_divmod (by omega) (by omega), ?_⟩)
        | (refine ⟨_, ev_mulR (by omega) (by omega), ?_⟩)
        | (refine ⟨_, ev_mulL (by omega) (by omega), ?_⟩)
        | (exact ⟨rfl, rfl⟩)
        | (refine ⟨rfl, ?_⟩)
        | (refine ⟨by decide, ?_⟩)
        | (refine ⟨(by simp only [List.length_cons, List.length_nil, lim]; decide), ?_⟩)
        | (refine ⟨of_decide_eq_true (by rfl), ?_⟩)))
theorem told_right_ok {xs : List Prem} (ok : ∀ x ∈ xs, POk x) (hl : xs.length ≤ 10) (p : List Int) : m__law_told_right [XT xs] p = some (.bl true, p) := by
  refine Wp.eq ?_
  unfold m__law_told_right
  refine fi_run ?_
  unfold b__law_told_right
  obtain ⟨b, hb⟩ : ∃ b, clash xs = b := ⟨_, rfl⟩
  have hB : ∀ ys, (∀ x, x ∈ ys ↔ x ∈ xs) → ys.length ≤ 10 → m_is_contradictory [XT ys] p = some (.bl b, p) := fun ys h h2 => by
    rw [contr_ok (fun x hx => ok x ((h x).mp hx)) h2, clash_same h, hb]
  have h0 := hB xs (fun _ => Iff.rfl) hl
  have hr := hB xs.reverse (fun _ => List.mem_reverse) (by rw [List.length_reverse]; exact hl)
  walk_at "VX"
  refine Wp.of_eq (law_clash_ok ok (by omega) _) ?_
  rw [hb]
  walk_at "VX"
  refine Wp.of_eq h0 ?_
  walk_at "VX"
  refine Wp.of_eq h0 ?_
  walk_at "VX"
  refine ⟨XT xs.reverse, by show some (D.tup (xs.map pD).reverse) = some (D.tup (xs.reverse.map pD)); rw [List.map_reverse], ?_⟩
  walk_at "VX"
  refine Wp.of_eq hr ?_
  walk_at "VX"
  refine Wp.of_eq h0 ?_
  walk_at "VX"
  refine ⟨_, rfl, ?_⟩
  walk_at "VX"
  refine Wp.of_eq (lcGo_all D.bl (fun k => .str (boolText k)) (xs := [b, b, b, b]) fun k hk => ⟨_, rfl, rfl, rfl⟩) ?_
  walk_at "VX"
  refine ⟨.str (boolText b), rfl, ?_⟩
  walk_at "VX"
  refine ⟨_, rfl, ?_⟩
  refine ⟨_, ev_neL (a := [boolText b, boolText b, boolText b, boolText b]) (b := [boolText b, boolText b, boolText b, boolText b]), ?_⟩
  walk_at "VX"
  refine ite_f (by simp) ?_
  with_reducible refine si_next ?_
  have fin : ∀ c2 c3 c4 c5 : Cl, if b = true then Ws (sRet false (mC (.bl true)) [.sh (XT xs), .sh (.bl b), c2, c3, c4, c5] p) (fun r p => Ws ((sSeq (sAsg 4 (mCB dDict (mCons (mOfF (mLc [5, 3] (mEnumA (mCons (mVar 0) (mNil))) (gT 2 (gNsC (gN 5) (gNsC (gN 3) (gNs0)))) c2__law_told_rightt c2__law_told_right)) (mNil))))
  (sSeq (sIf (mNot (mTru (mCall 2 m_meets (mCons (mCall 1 m__law_record (mCons (mVar 4) (mNil))) (mCons (mVar 0) (mNil)))))) (sRet false (mC (.bl false))) (sNext))
  (sRet false (mNotV (mCB dAny (mCons (mOfF (mLc [5] (mRng1 (mCons (mCB dLen (mCons (mVar 0) (mNil))) (mNil))) (gN 5) c3__law_told_rightt c3__law_told_right)) (mNil))))))) r p) (fun _ q => D.non = .bl true ∧ q = p) (fun d q => d = .bl true ∧ q = p) (fun _ _ => False) (fun _ _ => False)) (fun d q => d = .bl true ∧ q = p) (fun _ _ => False) (fun _ _ => False) else Ws (sNext [.sh (XT xs), .sh (.bl b), c2, c3, c4, c5] p) (fun r p => Ws ((sSeq (sAsg 4 (mCB dDict (mCons (mOfF (mLc [5, 3] (mEnumA (mCons (mVar 0) (mNil))) (gT 2 (gNsC (gN 5) (gNsC (gN 3) (gNs0)))) c2__law_told_rightt c2__law_told_right)) (mNil))))
  (sSeq (sIf (mNot (mTru (mCall 2 m_meets (mCons (mCall 1 m__law_record (mCons (mVar 4) (mNil))) (mCons (mVar 0) (mNil)))))) (sRet false (mC (.bl false))) (sNext))
  (sRet false (mNotV (mCB dAny (mCons (mOfF (mLc [5] (mRng1 (mCons (mCB dLen (mCons (mVar 0) (mNil))) (mNil))) (gN 5) c3__law_told_rightt c3__law_told_right)) (mNil))))))) r p) (fun _ q => D.non = .bl true ∧ q = p) (fun d q => d = .bl true ∧ q = p) (fun _ _ => False) (fun _ _ => False)) (fun d q => d = .bl true ∧ q = p) (fun _ _ => False) (fun _ _ => False) := by
    intro c2 c3 c4 c5
    cases b with
    | false =>
      refine ite_f rfl ?_
      with_reducible refine si_next ?_
      exact rest_ok ok hl hb c2 c3 c4 c5 p
    | true =>
      refine ite_t rfl ?_
      with_reducible refine si_ret ?_
      with_reducible refine wi_c ?_
      exact ⟨rfl, rfl⟩
  walk_at "VX"
  refine ⟨_, rfl, ?_⟩
  walk_at "VX"
  refine ite_b (fun h6 => ?_) fun h6 => ?_
  · have h6 : ((xs.map pD).length : Int) < 6 := of_decide_eq_true h6
    rw [List.length_map] at h6
    walk_at "VX"
    refine ⟨_, ev_addT (by rw [List.length_map]; unfold lim; omega), ?_⟩
    rw [← List.map_append]
    walk_at "VX"
    refine Wp.of_eq (hB (xs ++ xs) (fun x => by simp) (by rw [List.length_append]; omega)) ?_
    walk_at "VX"
    refine ⟨.bl false, by cases b <;> rfl, ?_⟩
    walk_at "VX"
    exact fin _ _ _ _
  · walk_at "VX"
    exact fin _ _ _ _
theorem law_right_ok (a b c : Int) : Wp (m__law_right [.pool] [a, b, c]) fun d q => d = .bl true := by
  unfold m__law_right
  refine fi_run ?_
  unfold b__law_right
  walk_at "VX"
  refine (law_names_ok a b c).mono fun d q hd => ?_
  obtain ⟨ws, a, b, c, hW, rfl, rfl⟩ := hd
  walk_at "VC"
  refine ws_forGo (fun ds r q => ∃ c2 c3 a b c, r = [.sh .pool, .sh (.lst (ws.map .str)), c2, c3] ∧ q = [a, b, c]) ⟨.no, .no, a, b, c, rfl, rfl⟩ ?_ ?_
  · rintro d ds r q ⟨c2, c3, a, b, c, rfl, rfl⟩
    refine ⟨_, _, rfl, ?_⟩
    unfold l1__law_right
    walk_at "VX"
    refine (law_premises_ok hW a b c).mono fun d q hd => ?_
    obtain ⟨xs, a, b, c, hok, hlen, rfl, rfl⟩ := hd
    walk_at "VX"
    refine (draw_ok (n := 2) (by decide) (by decide) a b c).mono fun d q hd => ?_
    obtain ⟨k, a, b, c, rfl, rfl, hk0, hk⟩ := hd
    have fin : ∀ (bk : Sv → List Int → Prop) (ys : List Prem) (c2 : Cl) (a b c : Int), (∀ y ∈ ys, POk y) → Ws (sIf (mNot (mTru (mCall 1 m__law_told_right (mCons (mSl (mVar 3) (oNone) (oSome (mC (.int 10)))) (mNil))))) (sRet false (mC (.bl false))) (sNext) [.sh .pool, .sh (.lst (ws.map .str)), c2, .sh (XT ys)] [a, b, c]) (fun r q => ∃ c2 c3 a b c, r = [Cl.sh .pool, .sh (.lst (ws.map .str)), c2, c3] ∧ q = [a, b, c]) (fun d q => d = .bl true) bk (fun r q => ∃ c2 c3 a b c, r = [Cl.sh .pool, .sh (.lst (ws.map .str)), c2, c3] ∧ q = [a, b, c]) := by
      intro bk ys c2 a b c hy
      walk_at "VX"
      refine ⟨_, sl_takeT pD (by decide), ?_⟩
      walk_at "VX"
      refine Wp.of_eq (told_right_ok (fun y h => hy y (List.mem_of_mem_take h)) (by rw [List.length_take]; exact Nat.min_le_left _ _) _) ?_
      walk_at "VX"
      exact ⟨_, _, _, _, _, rfl, rfl⟩
    walk_at "VX"
    refine ite_b (fun h => ?_) fun h => ?_
    · walk_at "VX"
      refine (law_near_ok hW a b c).mono fun d q hd => ?_
      obtain ⟨zs, a, b, c, hz, hzl, rfl, rfl⟩ := hd
      walk_at "VX"
      refine ⟨_, sl_takeT pD (by decide), ?_⟩
      refine ⟨_, ev_addT (by rw [List.length_map, List.length_map, List.length_take]; unfold lim; omega), ?_⟩
      rw [← List.map_append]
      refine fin _ _ _ a b c fun y hy => ?_
      rcases List.mem_append.mp hy with h1 | h1
      · exact hz y h1
      · exact hok y (List.mem_of_mem_take h1)
    · with_reducible refine si_next ?_
      exact fin _ xs _ a b c hok
  · rintro r q ⟨c2, c3, a, b, c, rfl, rfl⟩
    walk_at "VX"
    refine Wp.of_eq (contr_ok (xs := []) (fun _ h => (by cases h)) (by simp) _) ?_
    walk_at "VC"
    rfl
theorem nps_ints (l : List Int) : nps (l.map D.int) = true := by
  induction l with
  | nil => simp [nps]
  | cons x l ih => rw [List.map_cons, nps, ih]; simp [np]
theorem law_ok (ns : List Int) (p : List Int) : Wp (m_law [.scr ns] p) fun d _ => d = .bl true := by
  unfold m_law
  refine fi_run ?_
  unfold b_law
  walk_at "VX"
  refine ⟨.int ns.length, rfl, ?_⟩
  walk_at "VX"
  refine ⟨_, rfl, ?_⟩
  walk_at "VX"
  refine ⟨_, rfl, ?_⟩
  walk_at "VX"
  obtain ⟨n, hn, hn5⟩ : ∃ n : Int, (if (if (5 : Int) < (ns.length : Int) then (5 : Int) else (ns.length : Int)) > 2 then (if (5 : Int) < (ns.length : Int) then (5 : Int) else (ns.length : Int)) else 2) = n ∧ 0 ≤ n ∧ n ≤ 5 := ⟨_, rfl, by split <;> split <;> omega⟩
  rw [hn]
  refine ⟨_, rfl, by unfold rngOk; simp; omega, ?_⟩
  have hr : rngD 0 n.toNat = ((List.range n.toNat).map fun (i : Nat) => (0 : Int) + (i : Int)).map D.int := by
    unfold rngD
    rw [List.map_map]
    rfl
  refine ⟨by rw [hr]; exact nps_ints _, ?_⟩
  refine ws_forGo (fun ds r q => (∃ ks : List Int, ds = ks.map .int ∧ ∀ k ∈ ks, 0 ≤ k ∧ k < 64) ∧ ∃ c1, r = [.sh (.scr ns), c1]) ⟨⟨_, hr, fun k hk => ?_⟩, .no, rfl⟩ ?_ ?_
  · obtain ⟨i, hi, rfl⟩ := List.mem_map.mp hk
    have := List.mem_range.mp hi
    omega
  · rintro d ds r q ⟨⟨ks, e, hks⟩, c1, rfl⟩
    cases ks with
    | nil => cases e
    | cons k ks =>
      cases e
      obtain ⟨hk0, hk4⟩ := hks k List.mem_cons_self
      refine ⟨_, _, rfl, ?_⟩
      unfold l1_law
      walk_at "VX"
      refine (law_cell_ok ns hk0 hk4 q).mono fun d q hd => ?_
      obtain ⟨z, rfl, rfl⟩ := hd
      walk_at "VX"
      obtain ⟨y, hy⟩ := law_pool_ok z q
      refine Wp.of_eq hy ?_
      refine ⟨_, rfl, ?_⟩
      refine (law_right_ok _ _ _).mono fun d q2 hd => ?_
      subst hd
      refine ⟨rfl, ?_⟩
      walk_at "VX"
      exact ⟨⟨ks, rfl, fun k hk => hks k (List.mem_cons_of_mem _ hk)⟩, _, rfl⟩
  · rintro r q ⟨_, c1, rfl⟩
    walk_at "VC"
end K36

namespace K36
open PySem PySem.Spec PyProof.Rows L2 Dt
theorem join {P : Program} {w : World} {K : PySem.W.Frag} {mg : Str → Option Value} {fa : Addr} (T : Fs K mg) (hfa : mg "law" = some (.ref fa)) :
    ∃ fd : FuncData, (∀ (s : Shared) (v : Value), BindsTo s fd ⟨[v], []⟩ [("_law_cells", v)]) ∧ ∀ base : Heap, K.In base → base.Ns mainGlobals mg → FnOk P w K mg base CX0 11 fa fd ["_law_cells"] (spL K 1 m_law) := by
  have e := hfa.symm.trans T.g_law
  cases e
  exact ⟨T.f_law, bt_of T.F_law (fun _ _ _ _ _ _ _ => rfl), fun base _ _ => ok_law T⟩
end K36
open PySem PySem.W PyProof.Rows
set_option maxHeartbeats 0 in
theorem PySem.Challenge.cw_keymoves_k36_contradictory_premises_holds : PySem.Challenge.rw_keymoves_k36_contradictory_premises.Holds := by
  w_on; o_law; k_head; (case hw => w_witness2)
  k_fill
  refine L2.walk_of (l := PySem.Challenge.rw_keymoves_k36_contradictory_premises) (n := 63) (k := 11) (x := "_law_cells") (CX := fun _ => L2.CX0) (sp := fun w => Dt.spL _ 1 K36.m_law) rfl (by decide) rfl ⟨rfl, by decide, by decide⟩ (fun w h Y => PySem.W.kIn_of Y) ?F (fun _ _ a ns hl _ hS => Dt.spL_law hS (K36.law_ok ns []) _) (fun _ _ _ _ _ h => h)
  case F =>
    intro w mg fa h KX G hmg
    have kK_Record := Dt.mkK (c := "Record") KX G (by k_is) (by k_is) (by k_is) (by k_is) (by k_is) (by k_is) (by k_is) (by k_is) (by k_is)
    have kM_Record := Dt.mkMk kK_Record (by k_is) (by k_is) (by k_is) (by k_is)
    have kS_Record := Dt.mkSl (i := 0) "pairs" kK_Record (by k_is) (by k_is) (by k_is) (by k_is) (by k_is) (by decide)
    have kP_Record_entries := Dt.mkProp "entries" kK_Record (by k_is) (by k_is) (by k_is) (by k_is)
    have kT_Record_read := Dt.mkStat "read" kK_Record (by k_is) (by k_is) (by k_is) (by k_is) (by k_is)
    obtain ⟨a0, d0, F0, g0, b0⟩ := Dt.mkF (x := "_law_draw") (st := K36.topS 42) (ps := ["_law_pool_here", "_law_many"]) KX G (by k_is) (by k_is) (by k_is) (by k_is) (fun _ _ _ _ _ _ us hl => match us, hl with | [_, _], _ => rfl)
    obtain ⟨a1, d1, F1, g1, b1⟩ := Dt.mkF (x := "_law_names") (st := K36.topS 45) (ps := ["_law_pool_here"]) KX G (by k_is) (by k_is) (by k_is) (by k_is) (fun _ _ _ _ _ _ us hl => match us, hl with | [_], _ => rfl)
    obtain ⟨a2, d2, F2, g2, b2⟩ := Dt.mkF (x := "_law_path") (st := K36.topS 44) (ps := ["_law_pool_here", "_law_some", "_law_deep"]) KX G (by k_is) (by k_is) (by k_is) (by k_is) (fun _ _ _ _ _ _ us hl => match us, hl with | [_, _, _], _ => rfl)
    obtain ⟨a3, d3, F3, g3, b3⟩ := Dt.mkF (x := "_law_premise") (st := K36.topS 49) (ps := ["_law_pool_here", "_law_some"]) KX G (by k_is) (by k_is) (by k_is) (by k_is) (fun _ _ _ _ _ _ us hl => match us, hl with | [_, _], _ => rfl)
    obtain ⟨a4, d4, F4, g4, b4⟩ := Dt.mkF (x := "_law_premises") (st := K36.topS 50) (ps := ["_law_pool_here", "_law_some", "_law_most"]) KX G (by k_is) (by k_is) (by k_is) (by k_is) (fun _ _ _ _ _ _ us hl => match us, hl with | [_, _, _], _ => rfl)
    obtain ⟨a5, d5, F5, g5, b5⟩ := Dt.mkF (x := "_law_under") (st := K36.topS 43) (ps := ["_law_k", "_law_p"]) KX G (by k_is) (by k_is) (by k_is) (by k_is) (fun _ _ _ _ _ _ us hl => match us, hl with | [_, _], _ => rfl)
    obtain ⟨a6, d6, F6, g6, b6⟩ := Dt.mkF (x := "_law_clash") (st := K36.topS 51) (ps := ["_law_known"]) KX G (by k_is) (by k_is) (by k_is) (by k_is) (fun _ _ _ _ _ _ us hl => match us, hl with | [_], _ => rfl)
    obtain ⟨a7, d7, F7, g7, b7⟩ := Dt.mkF (x := "is_name") (st := K36.topS 15) (ps := ["value"]) KX G (by k_is) (by k_is) (by k_is) (by k_is) (fun _ _ _ _ _ _ us hl => match us, hl with | [_], _ => rfl)
    obtain ⟨a8, d8, F8, g8, b8⟩ := Dt.mkF (x := "names_in") (st := K36.topS 16) (ps := ["key"]) KX G (by k_is) (by k_is) (by k_is) (by k_is) (fun _ _ _ _ _ _ us hl => match us, hl with | [_], _ => rfl)
    obtain ⟨a9, d9, F9, g9, b9⟩ := Dt.mkF (x := "is_key") (st := K36.topS 17) (ps := ["value"]) KX G (by k_is) (by k_is) (by k_is) (by k_is) (fun _ _ _ _ _ _ us hl => match us, hl with | [_], _ => rfl)
    obtain ⟨a10, d10, F10, g10, b10⟩ := Dt.mkF (x := "is_path") (st := K36.topS 18) (ps := ["value"]) KX G (by k_is) (by k_is) (by k_is) (by k_is) (fun _ _ _ _ _ _ us hl => match us, hl with | [_], _ => rfl)
    obtain ⟨a11, d11, F11, g11, b11⟩ := Dt.mkF (x := "is_premise") (st := K36.topS 31) (ps := ["value"]) KX G (by k_is) (by k_is) (by k_is) (by k_is) (fun _ _ _ _ _ _ us hl => match us, hl with | [_], _ => rfl)
    obtain ⟨a12, d12, F12, g12, b12⟩ := Dt.mkF (x := "check_form") (st := K36.topS 32) (ps := ["premises"]) KX G (by k_is) (by k_is) (by k_is) (by k_is) (fun _ _ _ _ _ _ us hl => match us, hl with | [_], _ => rfl)
    obtain ⟨a13, d13, F13, g13, b13⟩ := Dt.mkF (x := "nevers_in") (st := K36.topS 33) (ps := ["premises"]) KX G (by k_is) (by k_is) (by k_is) (by k_is) (fun _ _ _ _ _ _ us hl => match us, hl with | [_], _ => rfl)
    obtain ⟨a14, d14, F14, g14, b14⟩ := Dt.mkF (x := "lies_under") (st := K36.topS 19) (ps := ["key", "path"]) KX G (by k_is) (by k_is) (by k_is) (by k_is) (fun _ _ _ _ _ _ us hl => match us, hl with | [_, _], _ => rfl)
    obtain ⟨a15, d15, F15, g15, b15⟩ := Dt.mkF (x := "pairs_in") (st := K36.topS 35) (ps := ["premises"]) KX G (by k_is) (by k_is) (by k_is) (by k_is) (fun _ _ _ _ _ _ us hl => match us, hl with | [_], _ => rfl)
    obtain ⟨a16, d16, F16, g16, b16⟩ := Dt.mkF (x := "fit") (st := K36.topS 36) (ps := ["keys", "premises"]) KX G (by k_is) (by k_is) (by k_is) (by k_is) (fun _ _ _ _ _ _ us hl => match us, hl with | [_, _], _ => rfl)
    obtain ⟨a17, d17, F17, g17, b17⟩ := Dt.mkF (x := "always_in") (st := K36.topS 34) (ps := ["premises"]) KX G (by k_is) (by k_is) (by k_is) (by k_is) (fun _ _ _ _ _ _ us hl => match us, hl with | [_], _ => rfl)
    obtain ⟨a18, d18, F18, g18, b18⟩ := Dt.mkF (x := "is_contradictory") (st := K36.topS 38) (ps := ["premises"]) KX G (by k_is) (by k_is) (by k_is) (by k_is) (fun _ _ _ _ _ _ us hl => match us, hl with | [_], _ => rfl)
    have w18 := Dt.kwB_of (ps := ["premises"]) F18 (fun _ _ _ _ _ _ us hl => match us, hl with | [_], _ => rfl)
    obtain ⟨a19, d19, F19, g19, b19⟩ := Dt.mkF (x := "check_record") (st := K36.topS 29) (ps := ["value"]) KX G (by k_is) (by k_is) (by k_is) (by k_is) (fun _ _ _ _ _ _ us hl => match us, hl with | [_], _ => rfl)
    obtain ⟨d20, F20, b20⟩ := Dt.mkMp (x := "entries") (qual := "Record.entries") (st := (K36.clsBody (K36.topS 27)).getD 3 (.Pass ⟨0, 0, 0, 0⟩)) (ps := ["self"]) kP_Record_entries (by k_is) (by k_is) (by k_is) (fun _ _ _ _ _ _ us hl => match us, hl with | [_], _ => rfl)
    obtain ⟨a21, d21, F21, g21, b21⟩ := Dt.mkF (x := "meets") (st := K36.topS 37) (ps := ["record", "premises"]) KX G (by k_is) (by k_is) (by k_is) (by k_is) (fun _ _ _ _ _ _ us hl => match us, hl with | [_, _], _ => rfl)
    obtain ⟨a22, d22, F22, g22, b22⟩ := Dt.mkF (x := "is_integer") (st := K36.topS 23) (ps := ["value"]) KX G (by k_is) (by k_is) (by k_is) (by k_is) (fun _ _ _ _ _ _ us hl => match us, hl with | [_], _ => rfl)
    obtain ⟨a23, d23, F23, g23, b23⟩ := Dt.mkF (x := "is_entry") (st := K36.topS 25) (ps := ["value"]) KX G (by k_is) (by k_is) (by k_is) (by k_is) (fun _ _ _ _ _ _ us hl => match us, hl with | [_], _ => rfl)
    obtain ⟨d24, F24⟩ := Dt.mkMi (x := "__init__") (qual := "Record.__init__") (st := (K36.clsBody (K36.topS 27)).getD 1 (.Pass ⟨0, 0, 0, 0⟩)) kM_Record (by k_is) (by k_is) (by k_is)
    obtain ⟨a25, d25, F25, g25, b25⟩ := Dt.mkF (x := "record_of") (st := K36.topS 28) (ps := ["pairs"]) KX G (by k_is) (by k_is) (by k_is) (by k_is) (fun _ _ _ _ _ _ us hl => match us, hl with | [_], _ => rfl)
    obtain ⟨a26, d26, F26, g26, b26⟩ := Dt.mkF (x := "read_integer") (st := K36.topS 24) (ps := ["word"]) KX G (by k_is) (by k_is) (by k_is) (by k_is) (fun _ _ _ _ _ _ us hl => match us, hl with | [_], _ => rfl)
    obtain ⟨a27, d27, F27, g27, b27⟩ := Dt.mkF (x := "read_entry") (st := K36.topS 26) (ps := ["word"]) KX G (by k_is) (by k_is) (by k_is) (by k_is) (fun _ _ _ _ _ _ us hl => match us, hl with | [_], _ => rfl)
    obtain ⟨d28, F28, b28⟩ := Dt.mkMs (x := "read") (qual := "Record.read") (st := (K36.clsBody (K36.topS 27)).getD 2 (.Pass ⟨0, 0, 0, 0⟩)) (ps := ["text"]) kT_Record_read (by k_is) (by k_is) (by k_is) (fun _ _ _ _ _ _ us hl => match us, hl with | [_], _ => rfl)
    obtain ⟨a29, d29, F29, g29, b29⟩ := Dt.mkF (x := "_law_rows") (st := K36.topS 46) (ps := ["_law_box"]) KX G (by k_is) (by k_is) (by k_is) (by k_is) (fun _ _ _ _ _ _ us hl => match us, hl with | [_], _ => rfl)
    obtain ⟨a30, d30, F30, g30, b30⟩ := Dt.mkF (x := "_law_line") (st := K36.topS 47) (ps := ["_law_box"]) KX G (by k_is) (by k_is) (by k_is) (by k_is) (fun _ _ _ _ _ _ us hl => match us, hl with | [_], _ => rfl)
    obtain ⟨a31, d31, F31, g31, b31⟩ := Dt.mkF (x := "_law_record") (st := K36.topS 48) (ps := ["_law_box"]) KX G (by k_is) (by k_is) (by k_is) (by k_is) (fun _ _ _ _ _ _ us hl => match us, hl with | [_], _ => rfl)
    obtain ⟨a32, d32, F32, g32, b32⟩ := Dt.mkF (x := "_law_told_right") (st := K36.topS 54) (ps := ["_law_known"]) KX G (by k_is) (by k_is) (by k_is) (by k_is) (fun _ _ _ _ _ _ us hl => match us, hl with | [_], _ => rfl)
    obtain ⟨a33, d33, F33, g33, b33⟩ := Dt.mkF (x := "_law_beside") (st := K36.topS 52) (ps := ["_law_p"]) KX G (by k_is) (by k_is) (by k_is) (by k_is) (fun _ _ _ _ _ _ us hl => match us, hl with | [_], _ => rfl)
    obtain ⟨a34, d34, F34, g34, b34⟩ := Dt.mkF (x := "_law_near") (st := K36.topS 53) (ps := ["_law_pool_here", "_law_some"]) KX G (by k_is) (by k_is) (by k_is) (by k_is) (fun _ _ _ _ _ _ us hl => match us, hl with | [_, _], _ => rfl)
    obtain ⟨a35, d35, F35, g35, b35⟩ := Dt.mkF (x := "_law_right") (st := K36.topS 55) (ps := ["_law_pool_here"]) KX G (by k_is) (by k_is) (by k_is) (by k_is) (fun _ _ _ _ _ _ us hl => match us, hl with | [_], _ => rfl)
    obtain ⟨a36, d36, F36, g36, b36⟩ := Dt.mkF (x := "_law_pool") (st := K36.topS 41) (ps := ["_law_cell_here"]) KX G (by k_is) (by k_is) (by k_is) (by k_is) (fun _ _ _ _ _ _ us hl => match us, hl with | [_], _ => rfl)
    obtain ⟨a37, d37, F37, g37, b37⟩ := Dt.mkF (x := "_law_cell") (st := K36.topS 40) (ps := ["_law_cells", "_law_k"]) KX G (by k_is) (by k_is) (by k_is) (by k_is) (fun _ _ _ _ _ _ us hl => match us, hl with | [_, _], _ => rfl)
    obtain ⟨a38, d38, F38, g38, b38⟩ := Dt.mkF (x := "law") (st := K36.topS 56) (ps := ["_law_cells"]) KX G (by k_is) (by k_is) (by k_is) (by k_is) (fun _ _ _ _ _ _ us hl => match us, hl with | [_], _ => rfl)
    exact K36.join { C_Record := _, k_Record := kK_Record, mk_Record := kM_Record, sl_Record := kS_Record, p_Record_entries := kP_Record_entries, st_Record_read := kT_Record_read, a__law_draw := a0, f__law_draw := d0, F__law_draw := F0, g__law_draw := g0, b__law_draw := b0, a__law_names := a1, f__law_names := d1, F__law_names := F1, g__law_names := g1, b__law_names := b1, a__law_path := a2, f__law_path := d2, F__law_path := F2, g__law_path := g2, b__law_path := b2, a__law_premise := a3, f__law_premise := d3, F__law_premise := F3, g__law_premise := g3, b__law_premise := b3, a__law_premises := a4, f__law_premises := d4, F__law_premises := F4, g__law_premises := g4, b__law_premises := b4, a__law_under := a5, f__law_under := d5, F__law_under := F5, g__law_under := g5, b__law_under := b5, a__law_clash := a6, f__law_clash := d6, F__law_clash := F6, g__law_clash := g6, b__law_clash := b6, a_is_name := a7, f_is_name := d7, F_is_name := F7, g_is_name := g7, b_is_name := b7, a_names_in := a8, f_names_in := d8, F_names_in := F8, g_names_in := g8, b_names_in := b8, a_is_key := a9, f_is_key := d9, F_is_key := F9, g_is_key := g9, b_is_key := b9, a_is_path := a10, f_is_path := d10, F_is_path := F10, g_is_path := g10, b_is_path := b10, a_is_premise := a11, f_is_premise := d11, F_is_premise := F11, g_is_premise := g11, b_is_premise := b11, a_check_form := a12, f_check_form := d12, F_check_form := F12, g_check_form := g12, b_check_form := b12, a_nevers_in := a13, f_nevers_in := d13, F_nevers_in := F13, g_nevers_in := g13, b_nevers_in := b13, a_lies_under := a14, f_lies_under := d14, F_lies_under := F14, g_lies_under := g14, b_lies_under := b14, a_pairs_in := a15, f_pairs_in := d15, F_pairs_in := F15, g_pairs_in := g15, b_pairs_in := b15, a_fit := a16, f_fit := d16, F_fit := F16, g_fit := g16, b_fit := b16, a_always_in := a17, f_always_in := d17, F_always_in := F17, g_always_in := g17, b_always_in := b17, a_is_contradictory := a18, f_is_contradictory := d18, F_is_contradictory := F18, g_is_contradictory := g18, b_is_contradictory := b18, kw_is_contradictory := w18, a_check_record := a19, f_check_record := d19, F_check_record := F19, g_check_record := g19, b_check_record := b19, a_Record_entries := _, f_Record_entries := d20, F_Record_entries := F20, b_Record_entries := b20, a_meets := a21, f_meets := d21, F_meets := F21, g_meets := g21, b_meets := b21, a_is_integer := a22, f_is_integer := d22, F_is_integer := F22, g_is_integer := g22, b_is_integer := b22, a_is_entry := a23, f_is_entry := d23, F_is_entry := F23, g_is_entry := g23, b_is_entry := b23, a_Record___init__ := _, f_Record___init__ := d24, F_Record___init__ := F24, a_record_of := a25, f_record_of := d25, F_record_of := F25, g_record_of := g25, b_record_of := b25, a_read_integer := a26, f_read_integer := d26, F_read_integer := F26, g_read_integer := g26, b_read_integer := b26, a_read_entry := a27, f_read_entry := d27, F_read_entry := F27, g_read_entry := g27, b_read_entry := b27, a_Record_read := _, f_Record_read := d28, F_Record_read := F28, b_Record_read := b28, a__law_rows := a29, f__law_rows := d29, F__law_rows := F29, g__law_rows := g29, b__law_rows := b29, a__law_line := a30, f__law_line := d30, F__law_line := F30, g__law_line := g30, b__law_line := b30, a__law_record := a31, f__law_record := d31, F__law_record := F31, g__law_record := g31, b__law_record := b31, a__law_told_right := a32, f__law_told_right := d32, F__law_told_right := F32, g__law_told_right := g32, b__law_told_right := b32, a__law_beside := a33, f__law_beside := d33, F__law_beside := F33, g__law_beside := g33, b__law_beside := b33, a__law_near := a34, f__law_near := d34, F__law_near := F34, g__law_near := g34, b__law_near := b34, a__law_right := a35, f__law_right := d35, F__law_right := F35, g__law_right := g35, b__law_right := b35, a__law_pool := a36, f__law_pool := d36, F__law_pool := F36, g__law_pool := g36, b__law_pool := b36, a__law_cell := a37, f__law_cell := d37, F__law_cell := F37, g__law_cell := g37, b__law_cell := b37, a_law := a38, f_law := d38, F_law := F38, g_law := g38, b_law := b38, c_DIGITS := ⟨_, PySem.W.mg_of KX G (by k_is)⟩, c_EMPTY := ⟨_, PySem.W.mg_of KX G (by k_is)⟩, c_LETTERS := ⟨_, PySem.W.mg_of KX G (by k_is)⟩, c_LONGEST := ⟨_, PySem.W.mg_of KX G (by k_is)⟩, c_MAX_PATH := ⟨_, PySem.W.mg_of KX G (by k_is)⟩, c_MAX_PREMISES := ⟨_, PySem.W.mg_of KX G (by k_is)⟩, c_SLASH := ⟨_, PySem.W.mg_of KX G (by k_is)⟩, n_abs := PySem.W.mg_none_of KX G (by k_is), n_all := PySem.W.mg_none_of KX G (by k_is), n_any := PySem.W.mg_none_of KX G (by k_is), n_bool := PySem.W.mg_none_of KX G (by k_is), n_dict := PySem.W.mg_none_of KX G (by k_is), n_divmod := PySem.W.mg_none_of KX G (by k_is), n_enumerate := PySem.W.mg_none_of KX G (by k_is), n_int := PySem.W.mg_none_of KX G (by k_is), n_isinstance := PySem.W.mg_none_of KX G (by k_is), n_len := PySem.W.mg_none_of KX G (by k_is), n_list := PySem.W.mg_none_of KX G (by k_is), n_max := PySem.W.mg_none_of KX G (by k_is), n_min := PySem.W.mg_none_of KX G (by k_is), n_range := PySem.W.mg_none_of KX G (by k_is), n_repr := PySem.W.mg_none_of KX G (by k_is), n_sorted := PySem.W.mg_none_of KX G (by k_is), n_str := PySem.W.mg_none_of KX G (by k_is), n_tuple := PySem.W.mg_none_of KX G (by k_is), n_zip := PySem.W.mg_none_of KX G (by k_is) } hmg

