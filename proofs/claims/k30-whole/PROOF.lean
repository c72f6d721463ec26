import PyProof.Rows.All
import Wide.All
import OpenK.AllK
import Wide.FinOn
import PyProof.ZipIter
import KE.GoesEnumKw
import HandS.ForMost
import HandS.Zip
import HandS.Walk
import HandS.Defaults
import HandS.MakeKwOnly
import HandS.TupAny
import HandS.TupMul
import HandS.DictComp
import HandS.Style
import HandS.IsInst
import HandS.Deep
import HandS.TupSets
import HandS.Strs
import HandS.Conv
import HandS.Codes
import HandS.SortKw
import HandS.Lambda
import KE.KStateDown
import HandS.Head0
import HandS.Head1
import HandS.Head2
import HandS.HeadEnd
import HandS.HeadHook1
import HandS.HeadHook2
import HandS.HeadHook3
import HandS.HeadHook4
import HandS.EndTab
import HandS.HeadWalk
import KE.KTreeB
import PySem.Challenge.RW_mingleway_k30_whole_a_plan_stays_good_in
set_option Elab.async false
set_option linter.all false
set_option maxRecDepth 100000
set_option maxHeartbeats 0
/-! Rz -/
/-! zip(.., .., strict=True) of two lists or tuples of one length -/
namespace Zs
open PySem PyProof.Rows
/-- an iterator over a list or a tuple, k items gone -/
def SIt (h : Heap) (it l : Addr) (k : Nat) (items : Array Value) : Prop := (h.IsListIter it l k ∧ h.IsList l items) ∨ (h.IsTupleIter it l k ∧ h.IsTuple l items)
theorem SIt.extBut {h h' : Heap} {it l a : Addr} {k : Nat} {items : Array Value} (x : SIt h it l k items) (hs : Heap.ExtBut a h h') (h1 : it ≠ a) (h2 : l ≠ a) : SIt h' it l k items := by
  rcases x with ⟨a1, a2⟩ | ⟨a1, a2⟩
  · exact .inl ⟨a1.extBut hs h1, a2.extBut hs h2⟩
  · exact .inr ⟨a1.extBut hs h1, a2.extBut hs h2⟩
theorem SIt.lt {h : Heap} {it l : Addr} {k : Nat} {items : Array Value} (x : SIt h it l k items) : it < h.objs.size := by
  rcases x with ⟨⟨_, e, _⟩, _⟩ | ⟨⟨_, e, _⟩, _⟩
  · exact Heap.lt_size e
  · exact Heap.lt_size e
theorem SIt.ne {h : Heap} {it l : Addr} {k : Nat} {items : Array Value} (x : SIt h it l k items) : l ≠ it := by
  rcases x with ⟨⟨o, e, _, d⟩, ⟨o', e', _, n, d'⟩⟩ | ⟨⟨o, e, _, d⟩, ⟨o', e', _, n, d'⟩⟩
  · intro z
    rw [z, e] at e'
    cases e'
    rw [d] at d'
    cases d'
  · intro z
    rw [z, e] at e'
    cases e'
    rw [d] at d'
    cases d'
section
variable {prog : Program} {w : World} {A : Around} {E : Value → Shared → Prop} {s : Shared}
theorem nextS_item {it l : Addr} {k : Nat} {items : Array Value} {x : Value} {Q : Option Value → Shared → Prop} (hit : SIt s.heap it l k items) (hx : items[k]? = some x)
    (hQ : ∀ h', SIt h' it l (k + 1) items → Heap.SameBut it s.heap h' → Q (some x) { s with heap := h' }) :
    wpAny (model prog w) A (Builtin.SmallTypes.nextOrEnd (.ref it)) Q E s := by
  have ne := hit.ne
  unfold Builtin.SmallTypes.nextOrEnd
  refine wpAny_bind (wpAny_attempt ?_)
  rcases hit with ⟨a1, a2⟩ | ⟨a1, a2⟩
  · exact wpAny_nextOf_list_item a1 a2 hx fun h' b1 b2 => wpAny_pure (hQ h' (.inl ⟨b1, a2.extBut b2.extBut ne⟩) b2)
  · exact RZ.nextOf_tuple_item a1 a2 hx fun h' b1 b2 => wpAny_pure (hQ h' (.inr ⟨b1, a2.extBut b2.extBut ne⟩) b2)
theorem nextS_end {it l : Addr} {k : Nat} {items : Array Value} {Q : Option Value → Shared → Prop} (hh : A.handled = none) (hit : SIt s.heap it l k items) (hx : items[k]? = none)
    (hQ : ∀ h', Heap.ExtBut it s.heap h' → Q none { s with heap := h' }) :
    wpAny (model prog w) A (Builtin.SmallTypes.nextOrEnd (.ref it)) Q E s := by
  unfold Builtin.SmallTypes.nextOrEnd
  refine wpAny_bind (wpAny_attempt ?_)
  have fin : ∀ h' e, Heap.ExtBut it s.heap h' → (∃ o, h'.get? e = some o ∧ o.cls = .type "StopIteration") →
      wpAny (model prog w) A (do if ← isInstance (.ref e) (.type "StopIteration") then pure none else throw (.ref e)) Q E { s with heap := h' } := fun h' e b1 b2 => by
    obtain ⟨o, ho, hc⟩ := b2
    refine wpAny_bind (wpAny_isInstance (T := "StopIteration") (b := true) ⟨o, ho, hc⟩ isSubtype_stop ?_)
    exact wpAny_pure (hQ _ b1)
  rcases hit with ⟨a1, a2⟩ | ⟨a1, a2⟩
  · exact wpAny_nextOf_list_end hh a1 a2 hx fin
  · exact RZ.nextOf_tuple_end hh a1 a2 hx fin
abbrev IsZipS (h : Heap) (z TI TO : Addr) (f0 : Value) : Prop :=
  h.get? z = some { cls := .type "zip", dict := none, data := .fields #[f0, .bool false, .bool true, .ref TI, .ref TO], slots := #[] }
theorem zipS_next_item {z TI TO i1 i2 l1 l2 : Addr} {k1 k2 : Nat} {xs ys : Array Value} {x y a b : Value} {Q : Value → Shared → Prop} (D : ZipApart z TI TO i1 i2 l1 l2)
    (hz : IsZipS s.heap z TI TO .none) (hTI : IsPair s.heap TI (.ref i1) (.ref i2)) (hTO : IsPair s.heap TO a b)
    (h1 : SIt s.heap i1 l1 k1 xs) (h2 : SIt s.heap i2 l2 k2 ys) (hx : xs[k1]? = some x) (hy : ys[k2]? = some y)
    (hQ : ∀ h', IsZipS h' z TI TO (rawInt s.heap.objs.size) → IsPair h' TO x y → SIt h' i1 l1 (k1 + 1) xs → SIt h' i2 l2 (k2 + 1) ys → IsPair h' s.heap.objs.size x y → h'.objs.size = s.heap.objs.size + 1 →
      (∀ c o, c ≠ z → c ≠ TO → c ≠ i1 → c ≠ i2 → s.heap.get? c = some o → h'.get? c = some o) → Q (.ref s.heap.objs.size) { s with heap := h' }) :
    wpAny (model prog w) A (Builtin.«zip.__next__» ⟨[.ref z], []⟩) (fun fin s' => ∃ v, fin = .done (.ret v) ∧ Q v s') E s := by
  show wpAny _ _ (field (.ref z) 2 >>= _) _ _ _
  refine wpAny_bind (wpAny_field hz rfl (x := .bool true) rfl ?_)
  show wpAny _ _ (field (.ref z) 3 >>= _) _ _ _
  refine wpAny_bind (wpAny_field hz rfl (x := .ref TI) rfl ?_)
  refine wpAny_bind (wpAny_seqItems hTI rfl ?_)
  show wpAny _ _ (Builtin.SmallTypes.ownedTupleIsFree (.ref z) >>= _) _ _ _
  refine wpAny_bind ?_
  unfold Builtin.SmallTypes.ownedTupleIsFree
  refine wpAny_bind (wpAny_field hz rfl (x := .none) rfl (wpAny_pure ?_))
  simp only [if_true]
  refine wpAny_bind (wpAny_rule ?_)
  refine wpAny_bind (wpAny_field hz rfl (x := .ref TO) rfl ?_)
  refine wpAny_bind (wpAny_setField_rec hz (by simp) fun h₁ hz₁ hs₁ => ?_)
  replace hz₁ : IsZipS h₁ z TI TO .ellipsis := hz₁
  refine wpAny_bind ?_
  simp only [List.zipIdx_cons, List.zipIdx_nil, List.forIn_cons, List.forIn_nil]
  refine wpAny_bind (wpAny_bind (wpAny_onRaise ?_))
  show wpAny _ _ (Builtin.SmallTypes.nextOrEnd (.ref i1)) _ _ _
  refine nextS_item (h1.extBut hs₁.extBut D.i1z D.l1z) hx fun h₂ h1₂ hs₂ => ?_
  have hTO₂ : IsPair h₂ TO a b := hs₂.extBut _ _ D.TOi1 (hs₁.extBut _ _ D.TOz hTO)
  refine wpAny_bind (wpAny_seqItems hTO₂ rfl ?_)
  refine wpAny_bind (wpAny_updateSeq_pair hTO₂ fun h₃ hTO₃ hs₃ => ?_)
  replace hTO₃ : IsPair h₃ TO x b := hTO₃
  refine wpAny_bind (wpAny_letGo (wpAny_pure ?_))
  refine wpAny_bind (wpAny_bind (wpAny_onRaise ?_))
  show wpAny _ _ (Builtin.SmallTypes.nextOrEnd (.ref i2)) _ _ _
  refine nextS_item (((h2.extBut hs₁.extBut D.i2z D.l2z).extBut hs₂.extBut D.i12.symm D.l2i1).extBut hs₃.extBut D.TOi2.symm D.l2TO) hy fun h₄ h2₄ hs₄ => ?_
  have hTO₄ : IsPair h₄ TO x b := hs₄.extBut _ _ D.TOi2 hTO₃
  refine wpAny_bind (wpAny_seqItems hTO₄ rfl ?_)
  refine wpAny_bind (wpAny_updateSeq_pair hTO₄ fun h₅ hTO₅ hs₅ => ?_)
  replace hTO₅ : IsPair h₅ TO x y := hTO₅
  refine wpAny_bind (wpAny_letGo (wpAny_pure (wpAny_pure ?_)))
  refine wpAny_bind (wpAny_seqItems hTO₅ rfl ?_)
  refine wpAny_bind (wpAny_newTuple ?_)
  have hsz : h₅.objs.size = s.heap.objs.size := by rw [hs₅.1, hs₄.1, hs₃.1, hs₂.1, hs₁.1]
  have hz₅ : IsZipS h₅ z TI TO .ellipsis := hs₅.extBut _ _ D.TOz.symm (hs₄.extBut _ _ D.i2z.symm (hs₃.extBut _ _ D.TOz.symm (hs₂.extBut _ _ D.i1z.symm hz₁)))
  have hk₅ : ∀ c o, c ≠ z → c ≠ TO → c ≠ i1 → c ≠ i2 → s.heap.get? c = some o → h₅.get? c = some o := fun c o c1 c2 c3 c4 e =>
    hs₅.extBut _ _ c2 (hs₄.extBut _ _ c4 (hs₃.extBut _ _ c2 (hs₂.extBut _ _ c3 (hs₁.extBut _ _ c1 e))))
  have h1₅ : SIt h₅ i1 l1 (k1 + 1) xs := ((h1₂.extBut hs₃.extBut D.TOi1.symm D.l1TO).extBut hs₄.extBut D.i12 D.l1i2).extBut hs₅.extBut D.TOi1.symm D.l1TO
  have h2₅ : SIt h₅ i2 l2 (k2 + 1) ys := h2₄.extBut hs₅.extBut D.TOi2.symm D.l2TO
  have hzlt : z < h₅.objs.size := Heap.lt_size hz₅
  show wpAny _ _ (Builtin.SmallTypes.ownedTupleHandOut (.ref z) (.ref h₅.objs.size) >>= _) _ _ _
  refine wpAny_bind ?_
  unfold Builtin.SmallTypes.ownedTupleHandOut
  have hz₆ : IsZipS (h₅.push { cls := .type "tuple", data := .seq #[x, y] }) z TI TO .ellipsis := Heap.get?_push_of_some _ hz₅
  refine wpAny_bind (wpAny_setField_rec hz₆ (by simp) fun h₇ hz₇ hs₇ => ?_)
  replace hz₇ : IsZipS h₇ z TI TO (rawInt h₅.objs.size) := hz₇
  refine wpAny_setField_rec hz₇ (by simp) fun h₈ hz₈ hs₈ => ?_
  replace hz₈ : IsZipS h₈ z TI TO (rawInt h₅.objs.size) := hz₈
  have up : ∀ c o, c ≠ z → h₅.get? c = some o → h₈.get? c = some o := fun c o c1 e => hs₈.extBut _ _ c1 (hs₇.extBut _ _ c1 (Heap.get?_push_of_some _ e))
  have hT₈ : IsPair h₈ h₅.objs.size x y := hs₈.extBut _ _ (Nat.ne_of_gt hzlt) (hs₇.extBut _ _ (Nat.ne_of_gt hzlt) (Heap.get?_push_size _ rfl))
  have hz8 : h₈.objs.size = h₅.objs.size + 1 := by rw [hs₈.1, hs₇.1, Heap.size_push]
  rw [hsz] at hz₈ hT₈ hz8
  refine wpAny_pure ⟨_, rfl, ?_⟩
  show Q (.ref h₅.objs.size) _
  rw [hsz]
  exact hQ h₈ hz₈ (up _ _ D.TOz hTO₅) (h1₅.extBut (a := z) (fun c o n e => up c o n e) D.i1z D.l1z) (h2₅.extBut (a := z) (fun c o n e => up c o n e) D.i2z D.l2z) hT₈ hz8 fun c o c1 c2 c3 c4 e => up c o c1 (hk₅ c o c1 c2 c3 c4 e)
theorem raise_stop {α : Type} {Q : α → Shared → Prop} (hh : A.handled = none)
    (hE : ∀ h' e, (∀ c o, s.heap.get? c = some o → h'.get? c = some o) → (∃ o, h'.get? e = some o ∧ o.cls = .type "StopIteration") → E (.ref e) { s with heap := h' }) :
    wpAny (model prog w) A (Builtin.SmallTypes.stopIteration (α := α)) Q E s := by
  unfold Builtin.SmallTypes.stopIteration
  show wpAny _ _ (newExc (.type "StopIteration") [] >>= _) _ _ _
  refine wpAny_bind ?_
  simp only [newExc, newTuple]
  refine wpAny_bind (wpAny_newObj_type ?_ (by size_fits))
  refine wpAny_bind (m := firstArgMember _ _) (wpAny_of_eq (a := Value.none) (by first | rfl | (simp only [firstArgMember]; rfl)) ?_)
  refine wpAny_newObj_type ?_ (by size_fits)
  simp only [raiseNew]
  refine wpAny_bind (wpAny_handled ?_)
  first | rw [show A.in1.handled = none from hh] | rw [hh]
  refine wpAny_bind (wpAny_pure (wpAny_throw ?_))
  exact hE _ _ (fun c o e => Heap.get?_push_of_some _ (Heap.get?_push_of_some _ e)) ⟨_, Heap.get?_push_size _ rfl, rfl⟩
theorem zipS_next_end {z TI TO i1 i2 l1 l2 : Addr} {k1 k2 : Nat} {xs ys : Array Value} {a b : Value} {Q : Fin → Shared → Prop} (hh : A.handled = none) (D : ZipApart z TI TO i1 i2 l1 l2)
    (hz : IsZipS s.heap z TI TO .none) (hTI : IsPair s.heap TI (.ref i1) (.ref i2)) (hTO : IsPair s.heap TO a b)
    (h1 : SIt s.heap i1 l1 k1 xs) (h2 : SIt s.heap i2 l2 k2 ys) (hx : xs[k1]? = none) (hy : ys[k2]? = none)
    (hE : ∀ h' e, (∀ c o, c ≠ z → c ≠ TO → c ≠ i1 → c ≠ i2 → s.heap.get? c = some o → h'.get? c = some o) → (∃ o, h'.get? e = some o ∧ o.cls = .type "StopIteration") → E (.ref e) { s with heap := h' }) :
    wpAny (model prog w) A (Builtin.«zip.__next__» ⟨[.ref z], []⟩) Q E s := by
  show wpAny _ _ (field (.ref z) 2 >>= _) _ _ _
  refine wpAny_bind (wpAny_field hz rfl (x := .bool true) rfl ?_)
  show wpAny _ _ (field (.ref z) 3 >>= _) _ _ _
  refine wpAny_bind (wpAny_field hz rfl (x := .ref TI) rfl ?_)
  refine wpAny_bind (wpAny_seqItems hTI rfl ?_)
  show wpAny _ _ (Builtin.SmallTypes.ownedTupleIsFree (.ref z) >>= _) _ _ _
  refine wpAny_bind ?_
  unfold Builtin.SmallTypes.ownedTupleIsFree
  refine wpAny_bind (wpAny_field hz rfl (x := .none) rfl (wpAny_pure ?_))
  simp only [if_true]
  refine wpAny_bind (wpAny_rule ?_)
  refine wpAny_bind (wpAny_field hz rfl (x := .ref TO) rfl ?_)
  refine wpAny_bind (wpAny_setField_rec hz (by simp) fun h₁ hz₁ hs₁ => ?_)
  replace hz₁ : IsZipS h₁ z TI TO .ellipsis := hz₁
  refine wpAny_bind ?_
  simp only [List.zipIdx_cons, List.zipIdx_nil, List.forIn_cons, List.forIn_nil]
  refine wpAny_bind (wpAny_bind (wpAny_onRaise ?_))
  show wpAny _ _ (Builtin.SmallTypes.nextOrEnd (.ref i1)) _ _ _
  refine nextS_end hh (h1.extBut hs₁.extBut D.i1z D.l1z) hx fun h₂ hs₂ => ?_
  have hz₂ : IsZipS h₂ z TI TO .ellipsis := hs₂ _ _ D.i1z.symm hz₁
  refine wpAny_bind (wpAny_setField_rec hz₂ (by simp) fun h₃ _ hs₃ => ?_)
  refine wpAny_bind ?_
  show wpAny _ _ (((Builtin.SmallTypes.nextOrEnd (.ref i2) >>= _) >>= _) >>= _) _ _ _
  refine wpAny_bind (wpAny_bind (wpAny_bind ?_))
  refine nextS_end hh (((h2.extBut hs₁.extBut D.i2z D.l2z).extBut hs₂ D.i12.symm D.l2i1).extBut hs₃.extBut D.i2z D.l2z) hy fun h₄ hs₄ => ?_
  refine wpAny_pure ?_
  refine wpAny_pure ?_
  refine wpAny_bind (wpAny_rule ?_)
  refine raise_stop hh fun h₅ e hk he => ?_
  exact hE h₅ e (fun c o c1 c2 c3 c4 x => hk c o (hs₄ _ _ c4 (hs₃.extBut _ _ c1 (hs₂ _ _ c3 (hs₁.extBut _ _ c1 x))))) he
theorem pyNext_zipS_item {z TI TO i1 i2 l1 l2 : Addr} {k1 k2 : Nat} {xs ys : Array Value} {x y a b : Value} {Q : Option Value → Shared → Prop} (D : ZipApart z TI TO i1 i2 l1 l2)
    (hz : IsZipS s.heap z TI TO .none) (hTI : IsPair s.heap TI (.ref i1) (.ref i2)) (hTO : IsPair s.heap TO a b)
    (h1 : SIt s.heap i1 l1 k1 xs) (h2 : SIt s.heap i2 l2 k2 ys) (hx : xs[k1]? = some x) (hy : ys[k2]? = some y)
    (hQ : ∀ h', IsZipS h' z TI TO (rawInt s.heap.objs.size) → IsPair h' TO x y → SIt h' i1 l1 (k1 + 1) xs → SIt h' i2 l2 (k2 + 1) ys → IsPair h' s.heap.objs.size x y → h'.objs.size = s.heap.objs.size + 1 →
      (∀ c o, c ≠ z → c ≠ TO → c ≠ i1 → c ≠ i2 → s.heap.get? c = some o → h'.get? c = some o) → Q (some (.ref s.heap.objs.size)) { s with heap := h' }) :
    wpAny (model prog w) A (pyNext (.ref z)) Q E s := by
  have hT : s.TypeIs (.ref z) "zip" := ⟨_, hz, rfl⟩
  unfold pyNext
  exact wpAny_bind (wpAny_attempt (wpAny_callSpecial?_slot (name := Str.ofString "__next__") hT F.slot_zip_next
    (wpAny_call_entry F.slot_zip_next hT F.entry_zip_next
      (zipS_next_item D hz hTI hTO h1 h2 hx hy fun h' a1 a2 a3 a4 a5 a6 a7 => wpAny_pure (hQ h' a1 a2 a3 a4 a5 a6 a7)) (F.args_zip_next_1 _))))
theorem pyNext_zipS_end {z TI TO i1 i2 l1 l2 : Addr} {k1 k2 : Nat} {xs ys : Array Value} {a b : Value} {Q : Option Value → Shared → Prop} (hh : A.handled = none) (D : ZipApart z TI TO i1 i2 l1 l2)
    (hz : IsZipS s.heap z TI TO .none) (hTI : IsPair s.heap TI (.ref i1) (.ref i2)) (hTO : IsPair s.heap TO a b)
    (h1 : SIt s.heap i1 l1 k1 xs) (h2 : SIt s.heap i2 l2 k2 ys) (hx : xs[k1]? = none) (hy : ys[k2]? = none)
    (hQ : ∀ h', (∀ c o, c ≠ z → c ≠ TO → c ≠ i1 → c ≠ i2 → s.heap.get? c = some o → h'.get? c = some o) → Q none { s with heap := h' }) : wpAny (model prog w) A (pyNext (.ref z)) Q E s := by
  have hT : s.TypeIs (.ref z) "zip" := ⟨_, hz, rfl⟩
  unfold pyNext
  refine wpAny_bind (wpAny_attempt (wpAny_callSpecial?_slot (name := Str.ofString "__next__") hT F.slot_zip_next
    (wpAny_call_entry F.slot_zip_next hT F.entry_zip_next (zipS_next_end hh D hz hTI hTO h1 h2 hx hy fun h' e hk he => ?_) (F.args_zip_next_1 _))))
  obtain ⟨o, ho, hc⟩ := he
  refine wpAny_bind (wpAny_isInstance (T := "StopIteration") (b := true) ⟨o, ho, hc⟩ isSubtype_stop ?_)
  exact wpAny_pure (hQ _ hk)
theorem letGo_zipS {elts : List Expr} {x1} {pos : Pos} {z TI TO T : Addr} {Q : Unit → Shared → Prop} (hz : IsZipS s.heap z TI TO (rawInt T))
    (hQ : ∀ h', IsZipS h' z TI TO .none → Heap.SameBut z s.heap h' → Q () { s with heap := h' }) :
    wpAny (model prog w) A (letOwnedTupleGo (.Tuple elts x1 pos) (.ref z) (.ref T)) Q E s := by
  unfold letOwnedTupleGo
  refine wpAny_bind (wpAny_load hz ?_)
  show wpAny _ _ (if (["enumerate", "zip", "dict_itemiterator", "dict_reverseitemiterator", "odict_iterator", "itertools.zip_longest", "itertools.pairwise"].contains "zip" &&
      (#[rawInt T, .bool false, .bool true, .ref TI, .ref TO] : Array Value)[0]? == some (rawInt T)) = true then _ else _) Q E s
  rw [if_pos (by simp)]
  refine wpAny_bind (wpAny_rule ?_)
  show wpAny _ _ (setField (.ref z) 0 .none) Q E s
  exact wpAny_setField_rec hz (by simp) fun h' hz' hs' => hQ h' hz' hs'
theorem pyIter_zipS {z TI TO : Addr} {f0 : Value} {Q : Value → Shared → Prop} (hz : IsZipS s.heap z TI TO f0) (h : Q (.ref z) s) : wpAny (model prog w) A (pyIter (.ref z)) Q E s := by
  have hT : s.TypeIs (.ref z) "zip" := ⟨_, hz, rfl⟩
  refine wpAny_pyIter_slot hT F.slot_zip_iter (wpAny_call_entry F.slot_zip_iter hT F.entry_zip_iter ?_ (F.args_zip_iter_1 _))
  show wpAny _ _ (ret (.ref z)) _ _ s
  exact wpAny_pure ⟨_, rfl, "zip", _, hT, F.slot_zip_next.lookup, h⟩
/-- a list or a tuple, its iterator's first object -/
def Sq (tt : Bool) (h : Heap) (l : Addr) (items : Array Value) : Prop := if tt then h.IsTuple l items else h.IsList l items
def itO (tt : Bool) (l : Addr) : Obj := if tt then { cls := .type "tuple_iterator", data := .fields #[.ref l, .int 0 0] } else { cls := .type "list_iterator", data := .fields #[.ref l, .int 0 0] }
theorem itO_free (tt : Bool) (l : Addr) : (itO tt l).isFreed = false := by cases tt <;> rfl
theorem sit_new {tt : Bool} {h : Heap} {it l : Addr} {items : Array Value} (a : h.get? it = some (itO tt l)) (b : Sq tt h l items) : SIt h it l 0 items := by
  cases tt with
  | true => exact .inr ⟨⟨_, a, rfl, rfl⟩, b⟩
  | false => exact .inl ⟨⟨_, a, rfl, rfl⟩, b⟩
theorem Sq.push {tt : Bool} {h : Heap} {l : Addr} {items : Array Value} (x : Sq tt h l items) (o : Obj) : Sq tt (h.push o) l items := by
  cases tt with
  | true => exact Heap.IsTuple.push x o
  | false => exact Heap.IsList.push x o
theorem Sq.lt {tt : Bool} {h : Heap} {l : Addr} {items : Array Value} (x : Sq tt h l items) : l < h.objs.size := by
  cases tt with
  | true =>
    obtain ⟨_, e, _⟩ := (show h.IsTuple l items from x)
    exact Heap.lt_size e
  | false =>
    obtain ⟨_, e, _⟩ := (show h.IsList l items from x)
    exact Heap.lt_size e
theorem pyIter_sq {tt : Bool} {l : Addr} {items : Array Value} {Q : Value → Shared → Prop} (x : Sq tt s.heap l items) (h : Q (.ref s.heap.objs.size) { s with heap := s.heap.push (itO tt l) }) : wpAny (model prog w) A (pyIter (.ref l)) Q E s := by
  cases tt with
  | true => exact wpAny_pyIter_tuple (show s.heap.IsTuple l items from x) h
  | false => exact wpAny_pyIter_list (show s.heap.IsList l items from x) h
end
abbrev zH1 (t1 : Bool) (h : Heap) (l1 : Addr) : Heap := h.push (itO t1 l1)
abbrev zH2 (t1 t2 : Bool) (h : Heap) (l1 l2 : Addr) : Heap := (zH1 t1 h l1).push (itO t2 l2)
abbrev zH3 (t1 t2 : Bool) (h : Heap) (l1 l2 : Addr) : Heap := (zH2 t1 t2 h l1 l2).push { cls := .type "tuple", data := .seq #[.ref h.objs.size, .ref (zH1 t1 h l1).objs.size] }
abbrev zH4 (t1 t2 : Bool) (h : Heap) (l1 l2 : Addr) : Heap := (zH3 t1 t2 h l1 l2).push { cls := .type "tuple", data := .seq #[.none, .none] }
abbrev zH5 (t1 t2 : Bool) (h : Heap) (l1 l2 : Addr) : Heap := (zH4 t1 t2 h l1 l2).push { cls := .type "zip", data := .fields #[.none, .bool false, .bool true, .ref (zH2 t1 t2 h l1 l2).objs.size, .ref (zH3 t1 t2 h l1 l2).objs.size] }
theorem meets_zipS_new (t1 t2 : Bool) (l1 l2 : Addr) (xs ys : Array Value) :
    Meets (Builtin.«zip.__new__» ⟨[.type "zip", .ref l1, .ref l2], [(Str.ofString "strict", .bool true)]⟩) (fun _ R s => Sq t1 s.heap l1 xs ∧ Sq t2 s.heap l2 ys ∧
      R (.ok (.ret (.ref (zH4 t1 t2 s.heap l1 l2).objs.size))) { s with heap := zH5 t1 t2 s.heap l1 l2 }) :=
  .of_wp fun prog w A R s h => by
    obtain ⟨hp, g, d, tk, os⟩ := s; obtain ⟨hl1, hl2, h⟩ := h
    have hsub := sub_zip
    have e2 : (Str.ofString "strict" != ("strict" : Str)) = false := by decide +kernel
    have q1 : ∀ {A' : Around} {E : Value → Shared → Prop} {Q : Value → Shared → Prop}, Q (.ref hp.objs.size) ⟨hp.push (itO t1 l1), g, d, tk, os⟩ → wpAny (model prog w) A' (pyIter (.ref l1)) Q E ⟨hp, g, d, tk, os⟩ :=
      fun q => pyIter_sq (s := ⟨hp, g, d, tk, os⟩) hl1 q
    have q2 : ∀ {A' : Around} {E : Value → Shared → Prop} {Q : Value → Shared → Prop}, Q (.ref (hp.push (itO t1 l1)).objs.size) ⟨(hp.push (itO t1 l1)).push (itO t2 l2), g, d, tk, os⟩ → wpAny (model prog w) A' (pyIter (.ref l2)) Q E ⟨hp.push (itO t1 l1), g, d, tk, os⟩ :=
      fun q => pyIter_sq (s := ⟨hp.push (itO t1 l1), g, d, tk, os⟩) (Sq.push hl2 _) q
    wp_walk using q1, q2
    exact ⟨_, rfl, h⟩
end Zs
/-! Rz2 -/
namespace PySem.F
open PySem
theorem typeCall_zip_strict (a b : Value) : checkTypeCall "zip" ⟨[a, b], [(Str.ofString "strict", .bool true)]⟩ = pure () := by kernel_rfl
theorem newCall_zip_strict (a b : Value) : checkBuiltinCall "zip.__new__" ⟨[.type "zip", a, b], [(Str.ofString "strict", .bool true)]⟩ = pure () := by kernel_rfl
theorem args_object_init_strict (o a b : Value) : argsOk "object.__init__" ⟨[o, a, b], [(Str.ofString "strict", .bool true)]⟩ := by
  unfold argsOk; rw [signature?_of (id := "object.__init__") (n := ['_', '_', 't', 'i', 'n', 'i', '_', '_']) (o := ['t', 'c', 'e', 'j', 'b', 'o']) (by kernel_rfl) owner_object]; kernel_rfl
end PySem.F
namespace Zs
open PySem PyProof.Rows
section
variable {prog : Program} {w : World} {A : Around} {E : Value → Shared → Prop} {s : Shared}
theorem call_zipS {t1 t2 : Bool} {l1 l2 : Addr} {xs ys : Array Value} {Q : Value → Shared → Prop} (hl1 : Sq t1 s.heap l1 xs) (hl2 : Sq t2 s.heap l2 ys)
    (h : ∀ h', IsZipS h' (s.heap.objs.size + 4) (s.heap.objs.size + 2) (s.heap.objs.size + 3) .none → IsPair h' (s.heap.objs.size + 2) (.ref s.heap.objs.size) (.ref (s.heap.objs.size + 1)) →
      IsPair h' (s.heap.objs.size + 3) .none .none → SIt h' s.heap.objs.size l1 0 xs → SIt h' (s.heap.objs.size + 1) l2 0 ys → h'.objs.size = s.heap.objs.size + 5 →
      (∀ c o, s.heap.get? c = some o → h'.get? c = some o) → Q (.ref (s.heap.objs.size + 4)) { s with heap := h' }) :
    wpAny (model prog w) A (call (.type "zip") [.ref l1, .ref l2] [(Str.ofString "strict", .bool true)]) Q E s := by
  refine callType_newKw F.called_zip (by decide) (F.typeCall_zip_strict _ _) (F.newCall_zip_strict _ _) (fun obj => F.args_object_init_strict obj _ _) F.entry_zip_new
    (meets_zipS_new t1 t2 l1 l2 xs ys) ⟨hl1, hl2, ?_⟩
  have z1 : (zH1 t1 s.heap l1).objs.size = s.heap.objs.size + 1 := Heap.size_push ..
  have z2 : (zH2 t1 t2 s.heap l1 l2).objs.size = s.heap.objs.size + 2 := by rw [Heap.size_push, z1]
  have z3 : (zH3 t1 t2 s.heap l1 l2).objs.size = s.heap.objs.size + 3 := by rw [Heap.size_push, z2]
  have z4 : (zH4 t1 t2 s.heap l1 l2).objs.size = s.heap.objs.size + 4 := by rw [Heap.size_push, z3]
  have z5 : (zH5 t1 t2 s.heap l1 l2).objs.size = s.heap.objs.size + 5 := by rw [Heap.size_push, z4]
  have g5 : (zH5 t1 t2 s.heap l1 l2).get? (zH4 t1 t2 s.heap l1 l2).objs.size = some _ := Heap.get?_push_size _ rfl
  have g4 : (zH5 t1 t2 s.heap l1 l2).get? (zH3 t1 t2 s.heap l1 l2).objs.size = some _ := Heap.get?_push_of_some _ (Heap.get?_push_size _ rfl)
  have g3 : (zH5 t1 t2 s.heap l1 l2).get? (zH2 t1 t2 s.heap l1 l2).objs.size = some _ := Heap.get?_push_of_some _ (Heap.get?_push_of_some _ (Heap.get?_push_size _ rfl))
  have g2 : (zH5 t1 t2 s.heap l1 l2).get? (zH1 t1 s.heap l1).objs.size = some _ := Heap.get?_push_of_some _ (Heap.get?_push_of_some _ (Heap.get?_push_of_some _ (Heap.get?_push_size _ (itO_free t2 l2))))
  have g1 : (zH5 t1 t2 s.heap l1 l2).get? s.heap.objs.size = some _ := Heap.get?_push_of_some _ (Heap.get?_push_of_some _ (Heap.get?_push_of_some _ (Heap.get?_push_of_some _ (Heap.get?_push_size _ (itO_free t1 l1)))))
  have s1 : Sq t1 (zH5 t1 t2 s.heap l1 l2) l1 xs := ((((hl1.push _).push _).push _).push _).push _
  have s2 : Sq t2 (zH5 t1 t2 s.heap l1 l2) l2 ys := ((((hl2.push _).push _).push _).push _).push _
  show _ ∧ _
  rw [z2, z3, z4] at g5
  rw [z1, z2] at g3
  rw [z3] at g4
  rw [z1] at g2
  rw [z4]
  exact ⟨⟨_, g5, rfl⟩, h _ g5 g3 g4 (sit_new g1 s1) (sit_new g2 s2) z5 fun c o x =>
    Heap.get?_push_of_some _ (Heap.get?_push_of_some _ (Heap.get?_push_of_some _ (Heap.get?_push_of_some _ (Heap.get?_push_of_some _ x))))⟩
end
section
variable {M : Model} {A : Around} {E : Value → Shared → Prop} {s : Shared} {env : Env}
theorem callWith_type_kwB {pos : Pos} {T : String} {first : List Value} {args : List (Bool × Sem Value)} {keywords : List (Option Str × Sem Value)} {Q : Value → Shared → Prop}
    (hplain : args.any (·.1) = false) (hkw : keywords.any (·.1.isNone) = false)
    (h : wpAny M A (evalArgs (.type T) true args keywords) (fun a s₁ => wpAny M A (call (.type T) (first ++ a.pos) a.kw) Q E s₁) E s) :
    wpAny M A (callWith pos (.type T) first args keywords) Q E s := by
  unfold callWith
  refine wpAny_bind (wpAny_holding (wpAny_mono h (fun a s₁ h₁ => wpAny_bind (wpAny_standAt ?_)) fun _ _ x => x))
  simp only [hplain, hkw, Bool.or_false]
  refine wpAny_bind (wpAny_pure ?_)
  exact wpAny_bind (wpAny_mono h₁ (fun r s₂ hr => wpAny_bind (wpAny_holding (wpAny_point (wpAny_pure hr)))) fun _ _ x => x)
theorem callWith_typeKw {pos : Pos} {T : String} {e : Expr} {rest : List Expr} {kws : List Keyword} {Q : Value → Shared → Prop}
    (h : wpAny M A (spliced (backTo pos (starEach (e :: rest) env))) (fun vs s₁ => wpAny M A (evalAll ((backToKw pos (keywordEach kws env)).map (·.2)))
      (fun kvs s₂ => wpAny M A (call (.type T) vs (((backToKw pos (keywordEach kws env)).filterMap (·.1)).zip kvs)) Q E s₂) E s₁) E s)
    (he : backTo pos (starEach (e :: rest) env) = (false, eval e env) :: backTo pos (starEach rest env) := by rfl)
    (hplain : (backTo pos (starEach (e :: rest) env)).any (·.1) = false := by rfl)
    (hall : (backToKw pos (keywordEach kws env)).all (·.1.isSome) = true := by rfl)
    (hkw : (backToKw pos (keywordEach kws env)).any (·.1.isNone) = false := by rfl) :
    wpAny M A (callWith pos (.type T) [] (backTo pos (starEach (e :: rest) env)) (backToKw pos (keywordEach kws env))) Q E s := by
  refine callWith_type_kwB hplain hkw ?_
  rw [he] at h ⊢
  exact evalArgs_kwB hall h
end
end Zs
namespace L2
open PySem PySem.Spec PyProof.Rows Zs
/-- a list or a tuple to be read -/
def SqX (K : PySem.W.Frag) (t : Bool) (H : Hp) (a : Addr) (xs : List V) : Prop := if t then SqT K H a xs else SqL K H a xs
theorem Inv.sqx {X : Cx} {pins : List (Addr × Obj)} {σ : St} {H : Hp} {s : Shared} {t : Bool} {a : Addr} {xs : List V} (I : Inv X pins σ H s) (h : SqX X.K t H a xs) : ∃ its : List Value, Vals xs its ∧ Sq t s.heap a its.toArray := by
  cases t with
  | true =>
    obtain ⟨its, r, p, _⟩ := I.tuple (show SqT X.K H a xs from h)
    exact ⟨its, r, p⟩
  | false =>
    obtain ⟨its, r, p, _⟩ := I.list (show SqL X.K H a xs from h)
    exact ⟨its, r, p.isList⟩
theorem Inv.sqx_inj {X : Cx} {pins : List (Addr × Obj)} {σ : St} {H : Hp} {s : Shared} {t : Bool} {a : Addr} {xs ys : List V} (I : Inv X pins σ H s) (h : SqX X.K t H a xs) (h' : SqX X.K t H a ys) : xs = ys := by
  cases t with
  | true => exact I.tuple_inj (show SqT X.K H a xs from h) h'
  | false => exact I.list_inj (show SqL X.K H a xs from h) h'
theorem sit_next {tt : Bool} {h : Heap} {it l : Addr} {k : Nat} {a b : Array Value} (x : SIt h it l k a) (y : Sq tt h l b) : SIt h it l k b := by
  rcases x with ⟨x1, o, e, hc, n, hd⟩ | ⟨x1, o, e, hc, n, hd⟩
  · cases tt with
    | true =>
      obtain ⟨o', e', hc', _⟩ := (show h.IsTuple l b from y)
      rw [e] at e'
      cases e'
      rw [hc] at hc'
      exact absurd hc' (by decide)
    | false => exact .inl ⟨x1, y⟩
  · cases tt with
    | true => exact .inr ⟨x1, y⟩
    | false =>
      obtain ⟨o', e', hc', _⟩ := (show h.IsList l b from y)
      rw [e] at e'
      cases e'
      rw [hc] at hc'
      exact absurd hc' (by decide)
/-- zip(a, b, strict=True): two lists or tuples as they stand at each turn, the items in new pairs -/
def ItzS (K : PySem.W.Frag) (t1 t2 : Bool) (a b : Addr) : It :=
  ⟨fun i H => ∃ (xs ys : List V) (x y : V), SqX K t1 H a xs ∧ SqX K t2 H b ys ∧ xs[i]? = some x ∧ ys[i]? = some y,
    fun i H v H' => ∃ T x y, v = .ref T ∧ H T = none ∧ H' = upd H T (.tup [x, y]) ∧ (∀ xs, SqX K t1 H a xs → xs[i]? = some x) ∧ ∀ ys, SqX K t2 H b ys → ys[i]? = some y,
    fun i H => ∃ xs ys : List V, SqX K t1 H a xs ∧ SqX K t2 H b ys ∧ xs.length ≤ i ∧ ys.length ≤ i⟩
/-- what stands of an iterator, whatever the items -/
def SI0 (h : Heap) (it l : Addr) (k : Nat) : Prop := ∃ items, SIt h it l k items
theorem SI0.at {h h' : Heap} {it l : Addr} {k : Nat} (x : h.IsListIter it l k ∨ h.IsTupleIter it l k) (e : ∀ o, h.get? it = some o → h'.get? it = some o) : h'.IsListIter it l k ∨ h'.IsTupleIter it l k := by
  rcases x with ⟨o, a, b⟩ | ⟨o, a, b⟩
  · exact .inl ⟨o, e o a, b⟩
  · exact .inr ⟨o, e o a, b⟩
def ItAt (tt : Bool) (h : Heap) (it l : Addr) (k : Nat) : Prop := if tt then h.IsTupleIter it l k else h.IsListIter it l k
theorem ItAt.sit {tt : Bool} {h : Heap} {it l : Addr} {k : Nat} {items : Array Value} (x : ItAt tt h it l k) (y : Sq tt h l items) : SIt h it l k items := by
  cases tt with
  | true => exact .inr ⟨x, y⟩
  | false => exact .inl ⟨x, y⟩
theorem ItAt.of {tt : Bool} {h : Heap} {it l : Addr} {k : Nat} {a b : Array Value} (x : SIt h it l k a) (y : Sq tt h l b) : ItAt tt h it l k := by
  rcases sit_next x y with ⟨x1, o, e, hc, n, hd⟩ | ⟨x1, o, e, hc, n, hd⟩
  · cases tt with
    | true =>
      obtain ⟨o', e', hc', _⟩ := (show h.IsTuple l b from y)
      rw [e] at e'
      cases e'
      rw [hc] at hc'
      exact absurd hc' (by decide)
    | false => exact x1
  · cases tt with
    | true => exact x1
    | false =>
      obtain ⟨o', e', hc', _⟩ := (show h.IsList l b from y)
      rw [e] at e'
      cases e'
      rw [hc] at hc'
      exact absurd hc' (by decide)
theorem ItAt.keep {tt : Bool} {h h' : Heap} {it l : Addr} {k : Nat} (x : ItAt tt h it l k) (e : ∀ o, h.get? it = some o → h'.get? it = some o) : ItAt tt h' it l k := by
  cases tt with
  | true =>
    obtain ⟨o, a, b⟩ := (show h.IsTupleIter it l k from x)
    exact ⟨o, e o a, b⟩
  | false =>
    obtain ⟨o, a, b⟩ := (show h.IsListIter it l k from x)
    exact ⟨o, e o a, b⟩
theorem ItAt.obj {tt : Bool} {h : Heap} {it l : Addr} {k : Nat} (x : ItAt tt h it l k) : ∃ o, h.get? it = some o ∧ ∀ v, o.data ≠ .cell v := by
  cases tt with
  | true =>
    obtain ⟨o, a, _, d⟩ := (show h.IsTupleIter it l k from x)
    exact ⟨o, a, fun v q => by rw [d] at q; cases q⟩
  | false =>
    obtain ⟨o, a, _, d⟩ := (show h.IsListIter it l k from x)
    exact ⟨o, a, fun v q => by rw [d] at q; cases q⟩
theorem Sq.keep {tt : Bool} {h h' : Heap} {l : Addr} {items : Array Value} (x : Sq tt h l items) (e : ∀ o, h.get? l = some o → h'.get? l = some o) : Sq tt h' l items := by
  cases tt with
  | true =>
    obtain ⟨o, a, b⟩ := (show h.IsTuple l items from x)
    exact ⟨o, e o a, b⟩
  | false =>
    obtain ⟨o, a, b⟩ := (show h.IsList l items from x)
    exact ⟨o, e o a, b⟩
theorem turn_zipS {P : Program} {w : World} {K : PySem.W.Frag} {elts : List Expr} {kk : Nat} {tpos : Pos} {t1 t2 : Bool} {a b z TI TO i1 i2 : Addr} (D : ZipApart z TI TO i1 i2 a b) :
    Turn P w K (.Tuple elts kk tpos) (ItzS K t1 t2 a b) [z, TI, TO, i1, i2] z (fun i h => IsZipS h z TI TO .none ∧ IsPair h TI (.ref i1) (.ref i2) ∧ (∃ x y, IsPair h TO x y) ∧ ItAt t1 h i1 a i ∧ ItAt t2 h i2 b i) where
  mem := by simp
  obj := fun i h st c hc => by
    obtain ⟨hz, hTI, ⟨x, y, hTO⟩, h1, h2⟩ := st
    have e' : c = z ∨ c = TI ∨ c = TO ∨ c = i1 ∨ c = i2 := by simpa using hc
    rcases e' with q | q | q | q | q
    · rw [q]; exact ⟨_, hz, fun v q => nomatch q⟩
    · rw [q]; exact ⟨_, hTI, fun v q => nomatch q⟩
    · rw [q]; exact ⟨_, hTO, fun v q => nomatch q⟩
    · rw [q]; exact h1.obj
    · rw [q]; exact h2.obj
  keep := fun i h h' st k => by
    obtain ⟨hz, hTI, ⟨x, y, hTO⟩, h1, h2⟩ := st
    exact ⟨k z (by simp) _ hz, k TI (by simp) _ hTI, ⟨x, y, k TO (by simp) _ hTO⟩, h1.keep fun o q => k i1 (by simp) o q, h2.keep fun o q => k i2 (by simp) o q⟩
  item := by
    intro X hP hw hK hc i pins s σ H E I hf st hg
    subst hP hw hK
    obtain ⟨hz, hTI, ⟨x0, y0, hTO⟩, h1, h2⟩ := st
    obtain ⟨xs, ys, x, y, hqx, hqy, hx, hy⟩ := hg
    obtain ⟨its, rv, p⟩ := I.sqx hqx
    obtain ⟨its2, rv2, p2⟩ := I.sqx hqy
    obtain ⟨u, hu, ru⟩ := rv.get hx
    obtain ⟨u2, hu2, ru2⟩ := rv2.get hy
    have hzl : z < s.heap.objs.size := Heap.lt_size hz
    refine pyNext_zipS_item D hz hTI hTO (h1.sit p) (h2.sit p2) (x := u) (y := u2) (by simpa using hu) (by simpa using hu2) fun h' z' TO' h1' h2' hT hsz hk => ?_
    refine ⟨_, rfl, letGo_zipS (s := { s with heap := h' }) z' fun h'' z'' sb => ?_⟩
    have hT2 : h''.get? s.heap.objs.size = some { cls := .type "tuple", data := .seq #[u, u2] } := (sb.2 _ (Nat.ne_of_gt hzl)).trans hT
    have new : ObjOk X.prog X.w (upd H s.heap.objs.size (.tup [x, y])) h'' s.heap.objs.size (.tup [x, y]) :=
      ⟨by show 2 ≤ sizeLine; decide, [u, u2], .cons ru (.cons ru2 .nil), ⟨_, hT2, rfl, _, rfl⟩⟩
    have I1 : Inv X pins σ (upd H s.heap.objs.size (.tup [x, y])) { s with heap := h'' } :=
      I.turnedNew (t' := s.toks) (ch := [z, TI, TO, i1, i2]) (fun c o hb q => (sb.2 c (fun q' => hb (by simp [q']))).trans (hk c o (fun q' => hb (by simp [q'])) (fun q' => hb (by simp [q'])) (fun q' => hb (by simp [q'])) (fun q' => hb (by simp [q'])) q)) hf (Nat.le_refl _) new
    have pa : Sq t1 h' a its.toArray := Sq.keep p fun o q => hk _ _ D.l1z D.l1TO D.l1i1 D.l1i2 q
    have pb : Sq t2 h' b its2.toArray := Sq.keep p2 fun o q => hk _ _ D.l2z D.l2TO D.l2i1 D.l2i2 q
    refine ⟨.ref s.heap.objs.size, _, I1, rfl, ⟨_, x, y, rfl, I.hok.fresh (Nat.le_refl _), rfl, fun l hl => by rw [I.sqx_inj hl hqx]; exact hx, fun l hl => by rw [I.sqx_inj hl hqy]; exact hy⟩, ⟨z'', ?_, ⟨u, u2, ?_⟩, ?_, ?_⟩, fun c hcm => ?_⟩
    · exact (sb.2 _ D.TIz).trans (hk _ _ D.TIz D.TITO D.TIi1 D.TIi2 hTI)
    · exact (sb.2 _ D.TOz).trans TO'
    · exact (ItAt.of h1' pa).keep fun o q => (sb.2 _ D.i1z).trans q
    · exact (ItAt.of h2' pb).keep fun o q => (sb.2 _ D.i2z).trans q
    · have hlt : c < s.heap.objs.size := by
        have e' : c = z ∨ c = TI ∨ c = TO ∨ c = i1 ∨ c = i2 := by simpa using hcm
        rcases e' with q | q | q | q | q
        · rw [q]; exact hzl
        · rw [q]; exact Heap.lt_size hTI
        · rw [q]; exact Heap.lt_size hTO
        · rw [q]; obtain ⟨_, e1, _⟩ := h1.obj; exact Heap.lt_size e1
        · rw [q]; obtain ⟨_, e2, _⟩ := h2.obj; exact Heap.lt_size e2
      rw [upd_ne (Nat.ne_of_lt hlt)]
      exact (hf c hcm).1
  done := by
    intro X hP hw hK hc i pins s σ H E I hf st hg
    subst hP hw hK
    obtain ⟨hz, hTI, ⟨x0, y0, hTO⟩, h1, h2⟩ := st
    obtain ⟨xs, ys, hqx, hqy, e1, e2⟩ := hg
    obtain ⟨its, rv, p⟩ := I.sqx hqx
    obtain ⟨its2, rv2, p2⟩ := I.sqx hqy
    have l1 := rv.length
    have l2 := rv2.length
    exact pyNext_zipS_end (I.ok.hd hc) D hz hTI hTO (h1.sit p) (h2.sit p2) (by simp; omega) (by simp; omega) fun h' hk => ⟨rfl, I.turnedL (t' := s.toks) (ch := [z, TI, TO, i1, i2]) (fun c o hb q =>
      hk c o (fun q' => hb (by simp [q'])) (fun q' => hb (by simp [q'])) (fun q' => hb (by simp [q'])) (fun q' => hb (by simp [q'])) q) hf⟩
  self := fun A i s Q E st h => pyIter_zipS st.1 h
def iZipS (K : PySem.W.Frag) (t1 t2 : Bool) (ta : TA) : TI := fun σ H R => ta σ H fun vs H1 => ∃ a b xs ys, vs = [.ref a, .ref b] ∧ SqX K t1 H1 a xs ∧ SqX K t2 H1 b ys ∧ R (ItzS K t1 t2 a b) H1
theorem pi_zipS (t1 t2 : Bool) {X : Cx} {e e2 : Expr} {ta : TA} {p pos tpos kpos cpos : Pos} {j : Nat} {elts : List Expr} {kk : Nat} (hg : Gl X "zip") (hm : X.mg "zip" = none) (ha : PA X [e, e2] ta)
    (he : backTo pos (starEach [e, e2] X.env) = (false, eval e X.env) :: backTo pos (starEach [e2] X.env) := by rfl) (hpl : (backTo pos (starEach [e, e2] X.env)).any (·.1) = false := by rfl) :
    PI X (.Tuple elts kk tpos) (.Call (.Name "zip" p) [e, e2] [⟨some (Str.ofString "strict"), .Constant (.bool true) j cpos, kpos⟩] pos) (iZipS X.K t1 t2 ta) := by
  refine ⟨fun pins s σ H R I h => ?_⟩
  refine wpAny_Call_Name_kw (ld_blt I hg hm PyProof.Rows.boot_zip ?_)
  refine callWith_typeKw (kws := [⟨some (Str.ofString "strict"), .Constant (.bool true) j cpos, kpos⟩]) (thn (ha.run pos pins s σ H _ I h) fun us s1 ⟨vs, H1, I1, r1, q1⟩ => ?_) he hpl rfl rfl
  refine kws_cons (Constant_bool (kws_nil ?_))
  show wpAny _ _ (call (.type "zip") us [(Str.ofString "strict", .bool true)]) _ _ _
  obtain ⟨a, b, xs, ys, ex, hqx, hqy, q⟩ := q1
  subst ex
  cases r1 with
  | cons r rr =>
    cases rr with
    | cons r' rr =>
      cases rr
      cases r
      cases r'
      obtain ⟨its, rv, p1⟩ := I1.sqx hqx
      obtain ⟨its2, rv2, p2⟩ := I1.sqx hqy
      have la : a < s1.heap.objs.size := p1.lt
      have lb : b < s1.heap.objs.size := p2.lt
      refine call_zipS p1 p2 fun h' hz hTI hTO h1 h2 hsz hk => pyIter_zipS hz ?_
      have I2 : Inv X pins σ H1 { s1 with heap := h' } := I1.kept (t' := s1.toks) hk
      have pa : Sq t1 h' a its.toArray := Sq.keep p1 fun o q => hk _ _ q
      have pb : Sq t2 h' b its2.toArray := Sq.keep p2 fun o q => hk _ _ q
      refine ⟨s1.heap.objs.size + 4, [s1.heap.objs.size + 4, s1.heap.objs.size + 2, s1.heap.objs.size + 3, s1.heap.objs.size, s1.heap.objs.size + 1], _, _, H1, rfl, I2, turn_zipS (PySem.W.ktu_apart s1.heap.objs.size a b la lb), ⟨hz, hTI, ⟨_, _, hTO⟩, ItAt.of h1 pa, ItAt.of h2 pb⟩, fun c hcm => ?_, q⟩
      have e' : c = s1.heap.objs.size + 4 ∨ c = s1.heap.objs.size + 2 ∨ c = s1.heap.objs.size + 3 ∨ c = s1.heap.objs.size ∨ c = s1.heap.objs.size + 1 := by simpa using hcm
      have hle : s1.heap.objs.size ≤ c := by
        rcases e' with z | z | z | z | z
        · rw [z]; exact Nat.le_add_right _ _
        · rw [z]; exact Nat.le_add_right _ _
        · rw [z]; exact Nat.le_add_right _ _
        · rw [z]; exact Nat.le_refl _
        · rw [z]; exact Nat.le_add_right _ _
      exact I1.fpOk hle (I1.hok.fresh hle)
theorem walk_zipS {K : PySem.W.Frag} {t1 t2 : Bool} {a b : Addr} {xs ys : List V} {n : Nat} (h1 : xs.length = n) (h2 : ys.length = n) : Walk (ItzS K t1 t2 a b) n (fun H => SqX K t1 H a xs ∧ SqX K t2 H b ys) (YPair (fun i => xs[i]?) (fun i => ys[i]?)) := by
  refine ⟨fun i _ hi q => ?_, fun _ q => ⟨xs, ys, q.1, q.2, by omega, by omega⟩, fun i H v H' _ q y => ?_⟩
  · have h1 : i < xs.length := by omega
    have h2 : i < ys.length := by omega
    exact ⟨xs, ys, xs[i], ys[i], q.1, q.2, by simp [h1], by simp [h2]⟩
  · obtain ⟨T, x, z, h1, h2, h3, h4, h5⟩ := y
    exact ⟨T, x, z, h1, h2, h3, h4 xs q.1, h5 ys q.2⟩
end L2
/-! Ru -/
/-! further rules of the hand layer for this program -/
namespace L2
open PySem PySem.Spec PyProof.Rows Zs
section
variable {X : Cx}
/-! ### never reached -/
def tNevE : TE := fun _ _ _ => False
theorem pe_never {e : Expr} : PE X e tNevE := ⟨fun _ _ _ _ _ _ h => h.elim⟩
def tNevT : TT := fun _ _ _ => False
theorem pt_never {e : Expr} : PT X e tNevT := ⟨fun _ _ _ _ _ _ h => h.elim⟩
/-! ### xs[i] op= e, a list, the place from 0 on -/
def rIxN (K : PySem.W.Frag) : V → V → Hp → VK → Prop := fun x y H Q => ∃ p xs i v, x = .ref p ∧ y = .int i ∧ SqL K H p xs ∧ 0 ≤ i ∧ xs[i.toNat]? = some v ∧ Q v H
theorem pget_list : PGet X (rIxN X.K) := by
  intro pins s σ H x y v u Q I rx ry h
  obtain ⟨p, xs, i, z, rfl, rfl, hq, h0, he, q⟩ := h
  cases rx
  obtain ⟨t, rfl⟩ := ry
  obtain ⟨its, r, pl, hz⟩ := I.list hq
  obtain ⟨w, ew, rw'⟩ := r.get he
  have hn := line63
  have hl := (List.getElem?_eq_some_iff.mp he).1
  exact wpAny_getItem_list pl.isList h0 (by omega) (by simpa using ew) ⟨z, H, I, rw', q⟩
/-- x *= y -/
theorem ip_mul : PIp X .Mult (fun x y H Q => ∃ i j, x = .int i ∧ y = .int j ∧ CMul i j ∧ Q (.int (i * j)) H) := by
  intro pins s σ H x y v u Q I rx ry h
  exact iop_mul pins s σ H x y v u Q I rx ry h
/-! ### len of an own instance -/
def rLenI (C : Addr) (sp : Sp) : List V → Hp → VK → Prop := fun xs H Q => ∃ a dx fs, xs = [.ref a] ∧ H a = some (.ins C dx fs) ∧ sp [.ref a] H (fun v H' => ∃ n : Int, v = .int n ∧ 0 ≤ n ∧ n < 2 ^ 63 ∧ Q (.int n) H') E0
theorem call_lenI {f C : Addr} {k : Nat} {fd : FuncData} {sp : Sp} {ps : List Str} (hm : Meth X.K C "__len__" f) (F : FnOk X.prog X.w X.K X.mg X.base CX0 k f fd ps sp) (hb : Binds X.K fd ps []) (hr : Room (k + 1) X.A) :
    CallR X (.builtin "len") (rLenI C sp) := by
  intro pins s σ H xs us Q I r h
  obtain ⟨a, dx, fs, rfl, ha, h⟩ := h
  obtain ⟨u, rfl, ru⟩ := vals1 r
  cases ru
  obtain ⟨mA, O, _, _, _, _⟩ := ins_get I.hok ha
  obtain ⟨od, hi, _⟩ := O.look
  refine Calls.call_function_entry PySem.kind_len PySem.plain_len PySem.entry_len (PySem.args_len1 _) ?_
  unfold Builtin.«len»
  refine wpAny_bind (m := oneArg "len" _) (wpAny_pure ?_)
  have hl : (([] : List Value) ++ []).length = 0 := rfl
  refine wpAny_bind (m := callSpecial? (.ref a) (Str.ofString "__len__")) (PySem.W.special_fn I.kIn hi hm.at_ (beq_iff_eq.mp hm.fn) ?_)
  have r2 : Vals [V.ref a] [Value.ref a] := .cons rfl .nil
  refine wpAny_call (codeAny_mono (F.run X.A.in1 X.stack s H ⟨[.ref a], []⟩ [.ref a] [.ref a] _ E0 hr.in1 I.env0.in1 (hb s [.ref a] I.kIn (by rw [List.append_nil, ← r2.length]; exact F.len _ _ _ _ h)) r2 h) fun r s' hq => ?_)
  cases r with
  | error e => exact hq.elim
  | ok fl =>
    cases fl with
    | ret u =>
      obtain ⟨v, H', I', rv, n, rfl, h0, h1, q⟩ := I.after hq
      obtain ⟨t, rfl⟩ := rv
      refine wpAny_bind (wpAny_holding (wpAny_pure ?_))
      refine wpAny_bind (wpAny_letGo ?_)
      show wpAny _ _ (if n < 0 then _ else _) _ _ _
      rw [if_neg (by omega)]
      show wpAny _ _ (if n ≥ 2 ^ 63 then _ else _) _ _ _
      rw [if_neg (by omega)]
      exact wpAny_bind (wpAny_mkInt (wpAny_pure ⟨_, rfl, .int n, H', I'.tok _, ⟨_, rfl⟩, q⟩))
    | next => exact False.elim hq
    | brk => exact False.elim hq
    | cont => exact False.elim hq
/-! ### a written dict with int keys, read -/
theorem mapOf_KI {prog : Program} {w : World} {K : PySem.W.Frag} {h : Heap} {a : Addr} {es : Array DictEntry} {n : Nat} (X : K.In h) (hl : K.lookup a = some ⟨.type "dict", none, .dict es n, #[]⟩) (hk : ∀ e ∈ es.toList, ∃ i t, e.key = .int i t ∧ e.hash = hashInt i) :
    h.MapOf (PySem.intKind prog w) a (fun k => findBy Value.isInt es k) :=
  ⟨_, es, n, X _ _ hl, ⟨rfl, rfl, rfl⟩, rfl, fun e he => by
    obtain ⟨x, t, e1, e2⟩ := hk e (Array.mem_toList_iff.mpr he)
    exact ⟨x, by rw [e1]; show Value.isInt x (.int x t) = true; simp [Value.isInt], e2⟩, fun _ => rfl⟩
def rIxI (K : PySem.W.Frag) : R2 := fun x y H Q => ∃ (d : Addr) (i : Int) (es : Array DictEntry) (n : Nat) (u : Value) (z : V), x = .ref d ∧ y = .int i ∧ K.lookup d = some ⟨.type "dict", none, .dict es n, #[]⟩ ∧
  (∀ e ∈ es.toList, ∃ i t, e.key = .int i t ∧ e.hash = hashInt i) ∧ findBy Value.isInt es i = some u ∧ RelV z u ∧ Q z H
theorem ix_dictI : IxR X (rIxI X.K) := by
  intro value slice pins s σ H x y v u Q I rx ry h hs
  obtain ⟨d, i, es, n, u0, z, rfl, rfl, hl, hk, e, ru, q⟩ := h
  obtain rfl : v = Value.ref d := rx
  obtain ⟨t, rfl⟩ := ry
  have hm := mapOf_KI (prog := X.prog) (w := X.w) I.kIn hl hk
  exact tail_any hm.typeIs slot_dict_getitem.lookup (wpAny_getItem_of (knd := PySem.intKind X.prog X.w) (k := i) (by show Value.isInt i (.int i t) = true; simp [Value.isInt]) hm e ⟨z, H, I.tok _, ru, q⟩) hs
end
end L2
/-! Ru2 -/
/-! enumerate(t), t a tuple -/
namespace Zs
open PySem PyProof.Rows
open AutoSeq1 (wpAny_loadPart')
theorem Draws.tup {prog : Program} {w : World} {A : Around} (hh : A.handled = none) (it l : Addr) (hne : l ≠ it) (items : Array Value) :
    Draws prog w A it [it, l] items.size (fun i v => items[i]? = some v) (fun i h => h.IsTupleIter it l i ∧ h.IsTuple l items) where
  live := fun _ _ st => let ⟨o, ho, _⟩ := st.1; ⟨o, ho⟩
  frame := fun _ h h' st hk => by
    obtain ⟨⟨o, a, b⟩, ⟨o', a', b'⟩⟩ := st
    exact ⟨⟨o, hk it (by simp) o a, b⟩, ⟨o', hk l (by simp) o' a', b'⟩⟩
  item := fun i s Q E hi st hQ => by
    refine RZ.nextOf_tuple_item st.1 st.2 (x := items[i]) (by simp [hi]) fun h' hit' hs' => ?_
    exact hQ _ h' s.toks (by simp [hi]) ⟨hit', st.2.extBut hs'.extBut hne⟩ hs'
  done := fun s Q E st hE => RZ.nextOf_tuple_end hh st.1 st.2 (by simp) hE
theorem meets_enumerate_newT (l : Addr) (items : Array Value) (n : Nat) (dct : Option Addr) (sl : Array (Option Value)) :
    Meets (Builtin.«enumerate.__new__» ⟨[.type "enumerate", .ref l], []⟩) (fun _ R s => s.heap.get? l = some { cls := .type "tuple", dict := dct, data := .seq items n, slots := sl } ∧
      R (.ok (.ret (.ref (s.heap.push { cls := .type "tuple_iterator", data := .fields #[.ref l, .int 0 0] }).objs.size)))
        { s with heap := (s.heap.push { cls := .type "tuple_iterator", data := .fields #[.ref l, .int 0 0] }).push { cls := .type "enumerate", data := .fields #[.none, .bool false, .ref s.heap.objs.size, rawInt 0, .none, .none] } }) :=
  .of_wp fun prog w A R s h => by
    obtain ⟨hp, g, d, tk, os⟩ := s; obtain ⟨hl, h⟩ := h
    have hsub := sub_enumerate
    have hL : Heap.IsTuple (Shared.heap ⟨hp, g, d, tk, os⟩) l items := ⟨_, hl, rfl, n, rfl⟩
    wp_walk using wpAny_loadPart' hl
    refine wpAny_stack_any fun st => wpAny_pure ?_
    split
    · rename_i c _ _ _ _ _
      cases (c == Value.type "enumerate")
      · wp_walk using wpAny_loadPart' hl, wpAny_pyIter_tuple hL
        exact ⟨_, rfl, h⟩
      · wp_walk using wpAny_loadPart' hl, wpAny_pyIter_tuple hL
        exact ⟨_, rfl, h⟩
    · wp_walk using wpAny_loadPart' hl, wpAny_pyIter_tuple hL
      exact ⟨_, rfl, h⟩
section
variable {prog : Program} {w : World} {A : Around} {E : Value → Shared → Prop} {s : Shared}
theorem call_enumerate_tup {l : Addr} {items : Array Value} {Q : Value → Shared → Prop} (hL : s.heap.IsTuple l items)
    (h : ∀ h', IsEnum h' (s.heap.objs.size + 1) s.heap.objs.size 0 .none → h'.IsTupleIter s.heap.objs.size l 0 → h'.objs.size = s.heap.objs.size + 2 →
      (∀ b o, s.heap.get? b = some o → h'.get? b = some o) → Q (.ref (s.heap.objs.size + 1)) { s with heap := h' }) :
    wpAny (model prog w) A (call (.type "enumerate") [.ref l]) Q E s := by
  obtain ⟨⟨c, dct, dt, sl⟩, hl, hc, n, hd⟩ := hL
  replace hc : c = .type "tuple" := hc
  replace hd : dt = .seq items n := hd
  subst hc hd
  refine callType_new F.called_enumerate (by decide) (F.typeCall_enumerate_1 _) (F.newCall_enumerate_1 _) (fun obj => F.args_object_init_2 obj _) F.entry_enumerate_new
    (meets_enumerate_newT l items n dct sl) ⟨hl, ?_⟩
  have hz : (s.heap.push { cls := .type "tuple_iterator", data := .fields #[.ref l, .int 0 0] }).objs.size = s.heap.objs.size + 1 := Heap.size_push ..
  show _ ∧ _
  rw [hz]
  have he : IsEnum ((s.heap.push { cls := .type "tuple_iterator", data := .fields #[.ref l, .int 0 0] }).push
      { cls := .type "enumerate", data := .fields #[.none, .bool false, .ref s.heap.objs.size, rawInt 0, .none, .none] }) (s.heap.objs.size + 1) s.heap.objs.size 0 .none := by
    have := Heap.get?_push_size (s.heap.push { cls := .type "tuple_iterator", data := .fields #[.ref l, .int 0 0] })
      (o := { cls := .type "enumerate", data := .fields #[.none, .bool false, .ref s.heap.objs.size, rawInt 0, .none, .none] }) rfl
    rw [hz] at this; exact this
  refine ⟨⟨_, he, rfl⟩, h _ he ⟨_, Heap.get?_push_of_some _ (Heap.get?_push_size _ rfl), rfl, rfl⟩ (by rw [Heap.size_push, hz]) fun b o x => Heap.get?_push_of_some _ (Heap.get?_push_of_some _ x)⟩
end
end Zs
namespace L2
open PySem PySem.Spec PyProof.Rows Zs
/-- enumerate(t): the tuple at a as it stands, each item in a new pair -/
def IteT (K : PySem.W.Frag) (a : Addr) : It :=
  ⟨fun i H => ∃ (xs : List V) (x : V), SqT K H a xs ∧ xs[i]? = some x, fun i H v H' => ∃ T x, v = .ref T ∧ H T = none ∧ H' = upd H T (.tup [.int (i : Nat), x]) ∧ ∀ xs, SqT K H a xs → xs[i]? = some x, fun i H => ∃ xs : List V, SqT K H a xs ∧ xs.length = i⟩
theorem turn_enumT {P : Program} {w : World} {K : PySem.W.Frag} {elts : List Expr} {kk : Nat} {tpos : Pos} (a e it : Addr) :
    Turn P w K (.Tuple elts kk tpos) (IteT K a) [e, it] e (fun i h => (∃ old, IsEnum h e it ((i : Nat) : Int) old) ∧ h.IsTupleIter it a i ∧ e ≠ it) where
  mem := by simp
  obj := fun i h st b hb => by
    obtain ⟨⟨old, he⟩, ⟨o, ho, hc, hd⟩, _⟩ := st
    have e' : b = e ∨ b = it := by simpa using hb
    rcases e' with z | z
    · rw [z]; exact ⟨_, he, fun v q => nomatch q⟩
    · rw [z]; exact ⟨o, ho, fun v q => by rw [hd] at q; cases q⟩
  keep := fun i h h' st k => by
    obtain ⟨⟨old, he⟩, ⟨o, ho, hr⟩, hne⟩ := st
    exact ⟨⟨old, k e (by simp) _ he⟩, ⟨o, k it (by simp) o ho, hr⟩, hne⟩
  item := by
    intro X hP hw hK hc i pins s σ H E I hf st hg
    subst hP hw hK
    obtain ⟨⟨old, he⟩, hit, hne⟩ := st
    obtain ⟨xs, x, hq, hx⟩ := hg
    obtain ⟨its, rv, p, hz⟩ := I.tuple hq
    obtain ⟨u, hu, ru⟩ := rv.get hx
    have hel : e < s.heap.objs.size := Heap.lt_size he
    have hil : it < s.heap.objs.size := by obtain ⟨_, q, _⟩ := hit; exact Heap.lt_size q
    have hel2 : its.toArray[i]? = some u := by simpa using hu
    have hlt : i < its.toArray.size := (Array.getElem?_eq_some_iff.mp hel2).1
    have hal : a ≠ it := by
      obtain ⟨o, q, _, d⟩ := hit
      obtain ⟨o', q', _, n, d'⟩ := p
      intro z
      rw [z, q] at q'
      cases q'
      rw [d] at d'
      cases d'
    have hae : e ≠ a := by
      obtain ⟨o', q', _, n, d'⟩ := p
      intro z
      rw [← z, he] at q'
      cases q'
      cases d'
    have DD := Draws.tup (prog := X.prog) (w := X.w) (A := X.A.in1) (show X.A.in1.handled = none from I.ok.hd hc) it a hal its.toArray
    refine wpAny_pyNext_enum_itemD DD he ⟨hit, p⟩ hlt hne (by simp; exact ⟨hne, hae⟩) fun x1 h' tk hx1 ho hst' hT hsz hk => ?_
    have ex1 : x1 = u := by
      have q : its.toArray[i]? = some x1 := hx1
      rw [hel2] at q
      exact (Option.some.inj q).symm
    subst ex1
    obtain ⟨hit', _⟩ := hst'
    refine ⟨_, rfl, wpAny_letOwnedTupleGo_enum (s := { s with heap := h', toks := tk + 1 }) ho fun h'' he' sb => ?_⟩
    have hT2 : h''.get? s.heap.objs.size = some { cls := .type "tuple", data := .seq #[.int i tk, x1] } := (sb.2 _ (Nat.ne_of_gt hel)).trans hT
    have new : ObjOk X.prog X.w (upd H s.heap.objs.size (.tup [.int (i : Nat), x])) h'' s.heap.objs.size (.tup [.int (i : Nat), x]) :=
      ⟨by show 2 ≤ sizeLine; decide, [.int i tk, x1], .cons ⟨_, rfl⟩ (.cons ru .nil), ⟨_, hT2, rfl, _, rfl⟩⟩
    have I1 : Inv X pins σ (upd H s.heap.objs.size (.tup [.int (i : Nat), x])) { s with heap := h'', toks := tk + 1 } :=
      I.turnedNew (ch := [e, it]) (fun b ob hb q => (sb.2 b (fun z => hb (by simp [z]))).trans (hk b ob (fun z => hb (by simp [z])) (fun z => hb (by simp [z])) q)) hf (Nat.le_refl _) new
    refine ⟨.ref s.heap.objs.size, _, I1, rfl, ⟨_, x, rfl, I.hok.fresh (Nat.le_refl _), rfl, fun ys hy => by rw [I.tuple_inj hy hq]; exact hx⟩, ⟨⟨x1, ?_⟩, ?_, hne⟩, fun b hb => ?_⟩
    · have e1 : ((i + 1 : Nat) : Int) = (i : Int) + 1 := by omega
      rw [e1]; exact he'
    · obtain ⟨o, q, r⟩ := hit'
      exact ⟨o, (sb.2 it (Ne.symm hne)).trans q, r⟩
    · have hb' : b < s.heap.objs.size := by
        have e' : b = e ∨ b = it := by simpa using hb
        rcases e' with z | z
        · rw [z]; exact hel
        · rw [z]; exact hil
      rw [upd_ne (Nat.ne_of_lt hb')]
      exact (hf b hb).1
  done := by
    intro X hP hw hK hc i pins s σ H E I hf st hg
    subst hP hw hK
    obtain ⟨⟨old, he⟩, hit, hne⟩ := st
    obtain ⟨xs, hq, hx⟩ := hg
    obtain ⟨its, rv, p, hz⟩ := I.tuple hq
    obtain ⟨f0, f1, f2, f3, f4, f5⟩ := hf it (by simp)
    have hl := rv.length
    have hal : a ≠ it := by
      obtain ⟨o, q, _, d⟩ := hit
      obtain ⟨o', q', _, n, d'⟩ := p
      intro z
      rw [z, q] at q'
      cases q'
      rw [d] at d'
      cases d'
    have hn : its.toArray.size = i := by rw [List.size_toArray]; omega
    have DD := Draws.tup (prog := X.prog) (w := X.w) (A := X.A.in1) (show X.A.in1.handled = none from I.ok.hd hc) it a hal its.toArray
    refine wpAny_pyNext_enum_endD DD he (by rw [hn]; exact ⟨hit, p⟩) fun h' eb => ⟨rfl, I.turned (t' := s.toks) (fun b o hb q => eb b o hb q) f0 f1 f3 f4 f5⟩
  self := fun A i s Q E st h => let ⟨⟨_, he⟩, _⟩ := st; wpAny_pyIter_enum he h
def iEnumT (K : PySem.W.Frag) (ta : TA) : TI := fun σ H R => ta σ H fun vs H1 => ∃ a xs, vs = [.ref a] ∧ SqT K H1 a xs ∧ R (IteT K a) H1
theorem pi_enumT {X : Cx} {e : Expr} {ta : TA} {p pos tpos : Pos} {elts : List Expr} {kk : Nat} (hg : Gl X "enumerate") (hm : X.mg "enumerate" = none) (ha : PA X [e] ta) (hs : starEach [e] X.env = [(false, eval e X.env)] := by rfl) :
    PI X (.Tuple elts kk tpos) (.Call (.Name "enumerate" p) [e] [] pos) (iEnumT X.K ta) := by
  refine ⟨fun pins s σ H R I h => ?_⟩
  refine Call_ (ld_blt I hg hm boot_enumerate (PyProof.Rows.callWith_type1 (thn (ha.run pos pins s σ H _ I h) fun us s1 ⟨vs, H1, I1, r1, q1⟩ => ?_) hs rfl))
  obtain ⟨a, xs, ex, hq, q⟩ := q1
  subst ex
  cases r1 with
  | cons r rr =>
    cases rr
    cases r
    obtain ⟨its, rv, p', hz⟩ := I1.tuple hq
    refine call_enumerate_tup (show s1.heap.IsTuple a its.toArray from p') fun h' he hit hsz hk => wpAny_pyIter_enum he ?_
    have I2 : Inv X pins σ H1 { s1 with heap := h' } := I1.kept (t' := s1.toks) hk
    refine ⟨s1.heap.objs.size + 1, [s1.heap.objs.size + 1, s1.heap.objs.size], _, _, H1, rfl, I2, turn_enumT a (s1.heap.objs.size + 1) s1.heap.objs.size, ⟨⟨.none, he⟩, hit, Nat.succ_ne_self _⟩, fun b hb => ?_, q⟩
    have e' : b = s1.heap.objs.size + 1 ∨ b = s1.heap.objs.size := by simpa using hb
    have hle : s1.heap.objs.size ≤ b := by
      rcases e' with z | z
      · rw [z]; exact Nat.le_add_right _ _
      · rw [z]; exact Nat.le_refl _
    exact I1.fpOk hle (I1.hok.fresh hle)
theorem walk_enumT {K : PySem.W.Frag} {a : Addr} {xs : List V} : Walk (IteT K a) xs.length (fun H => SqT K H a xs) (YPair (fun i => some (.int (i : Nat))) (fun i => xs[i]?)) := by
  refine ⟨fun i _ hi q => ⟨xs, xs[i], q, by simp [hi]⟩, fun _ q => ⟨xs, q, rfl⟩, fun i H v H' _ q y => ?_⟩
  obtain ⟨T, x, h1, h2, h3, h4⟩ := y
  exact ⟨T, .int (i : Nat), x, h1, h2, h3, rfl, h4 xs q⟩
end L2
/-! Rs -/
/-! sorted(l, key=lambda x: x[0]) of a list of tuples -/
namespace Sk
open PySem PyProof.Rows
def Kp (g h : Heap) : Prop := ∀ b o, g.get? b = some o → h.get? b = some o
section
variable {prog : Program} {w : World} {A : Around} {E : Value → Shared → Prop} {s : Shared} {g : Heap} {a kS : Addr} {vs : List Value} {kz : List Int} {keys : Array Value} {e e1 : Nat} {P : PySem.Fin → Shared → Prop}
theorem kp_but {h h' : Heap} (K : Kp g h) (hs : Heap.SameBut a h h') (ha : g.get? a = none) : Kp g h' := fun b o q => (hs.2 b fun z => by rw [z, ha] at q; cases q).trans (K b o q)
theorem tail_ {st : SortSt} (K : Kp g s.heap) (nk : s.heap.get? kS = some (seqObj "list" keys e)) (na : s.heap.get? a = some (seqObj "list" #[] e1)) (hka : kS ≠ a) (gk : g.get? kS = none) (ga : g.get? a = none)
    (hk : IntsAre keys.toList kz) (hlen : kz.length = vs.length) (h64 : vs.length < 64) (hp : (arrOf st).Perm (keys.zip vs.toArray)) (hs : SortedTo (arrOf st) (arrOf st).size) (hfl : failedOf st = none)
    (h : ∀ h' tk out c, Kp g h' → h'.get? a = some (seqObj "list" out c) → KskOut false kz vs out.toList → P (.done (.ret .none)) { s with heap := h', toks := tk }) :
    wpAny (model prog w) A (ksk_tail a false e1 (.ref kS) st) P E s := by
  have hsz : keys.size = vs.length := by
    have h1 := hk.length
    rw [Array.length_toList] at h1
    omega
  have hsz2 : (arrOf st).size = vs.length := by rw [hp.size_eq, Array.size_zip, hsz, List.size_toArray, Nat.min_self]
  have hout : ((arrOf st).map (·.2)).size = vs.length := by rw [Array.size_map]; exact hsz2
  have s1 := Heap.SameBut.update s.heap kS (Obj.mapSeq fun _ => (#[] : Array Value))
  have na1 : (s.heap.update kS (Obj.mapSeq fun _ => (#[] : Array Value))).get? a = some (seqObj "list" #[] e1) := (s1.2 a hka.symm).trans na
  have s2 := Heap.SameBut.update (s.heap.update kS (Obj.mapSeq fun _ => (#[] : Array Value))) a (Obj.mapSeq fun _ => (arrOf st).map (·.2))
  obtain ⟨c2, hc2⟩ : ∃ c2, ((s.heap.update kS (Obj.mapSeq fun _ => (#[] : Array Value))).update a (Obj.mapSeq fun _ => (arrOf st).map (·.2))).get? a = some (seqObj "list" ((arrOf st).map (·.2)) c2) :=
    ⟨_, get?_update_seq na1 fun _ => (arrOf st).map (·.2)⟩
  unfold ksk_tail
  try dsimp only
  refine wpAny_bind (listUpdate_at nk rfl ?_ (by rw [hsz, sizeLine_eq]; omega) (Nat.zero_le _))
  refine wpAny_bind (wpAny_letGo ?_)
  refine wpAny_bind (seqEpoch_at na1 rfl ?_)
  refine wpAny_bind (listUpdate_at na1 rfl ?_ (Nat.zero_le _) (Nat.le_trans (Nat.le_of_eq hout) (by rw [sizeLine_eq]; omega)))
  rw [hfl]
  simp only [bne_self_eq_false, Bool.false_eq_true, if_false]
  have ko := ksk_out (b := false) hk hp hs
  simp only [Bool.false_eq_true, if_false] at ko
  exact wpAny_pure (h _ _ _ c2 (kp_but (kp_but K s1 gk) s2 ga) hc2 ko)
theorem end_ (K : Kp g s.heap) (nk : s.heap.get? kS = some (seqObj "list" keys e)) (na : s.heap.get? a = some (seqObj "list" #[] e1)) (hka : kS ≠ a) (gk : g.get? kS = none) (ga : g.get? a = none)
    (hk : IntsAre keys.toList kz) (hlen : kz.length = vs.length) (h64 : vs.length < 64)
    (h : ∀ h' tk out c, Kp g h' → h'.get? a = some (seqObj "list" out c) → KskOut false kz vs out.toList → P (.done (.ret .none)) { s with heap := h', toks := tk }) :
    wpAny (model prog w) A (ksk_end a false vs.toArray e1 (.ref kS) keys) P E s := by
  have hsz : keys.size = vs.length := by
    have h1 := hk.length
    rw [Array.length_toList] at h1
    omega
  have hzs : (keys.zip vs.toArray).size = vs.length := by rw [Array.size_zip, hsz, List.size_toArray, Nat.min_self]
  unfold ksk_end
  try dsimp only
  simp only [Bool.false_eq_true, if_false]
  by_cases h2 : vs.toArray.size < 2
  · rw [if_pos h2, if_pos h2]
    refine wpAny_bind (wpAny_pure ?_)
    rw [StateT.run_pure]
    refine wpAny_bind (wpAny_pure ?_)
    try dsimp only
    refine tail_ (st := SortSt.mk' general' (keys.zip vs.toArray) #[] 7 none) K nk na hka gk ga hk hlen h64 (Array.Perm.refl _) ?_ rfl h
    intro i j hij hj
    have hj2 : j < (keys.zip vs.toArray).size := hj
    rw [hzs] at hj2
    rw [List.size_toArray] at h2
    have : i = j := by omega
    subst this
    exact Int.le_refl _
  · rw [if_neg h2, if_neg h2]
    rw [List.size_toArray] at h2
    rw [ksk_kind hk (by rw [hsz]; omega)]
    refine wpAny_bind (wpAny_pure ?_)
    refine wpAny_bind (wpAny_mono (wpS_sortRuns (a₀ := keys.zip vs.toArray) (st := SortSt.mk' oneType' (keys.zip vs.toArray) #[] 7 none)
      (Q := fun _ st' => (arrOf st').Perm (keys.zip vs.toArray) ∧ failedOf st' = none ∧ SortedTo (arrOf st') (keys.zip vs.toArray).size)
      (ksk_intKeys hk) ⟨Array.Perm.refl _, rfl, rfl, rfl⟩ (by rw [hzs]; omega) (by rw [hzs]; exact h64) fun st' a1 a2 a3 => ⟨a1, a2, a3⟩) ?_ fun _ _ e => e)
    rintro ⟨⟨⟩, st'⟩ s' ⟨rfl, hp, hf, hs⟩
    try dsimp only
    exact tail_ K nk na hka gk ga hk hlen h64 hp (by rw [hp.size_eq]; exact hs) hf h
theorem rest_ {f : Value} (K : Kp g s.heap) (nk : s.heap.get? kS = some (seqObj "list" #[] 0)) (na : s.heap.get? a = some (seqObj "list" #[] e1)) (hka : kS ≠ a) (gk : g.get? kS = none) (ga : g.get? a = none)
    (hlen : kz.length = vs.length) (h64 : vs.length < 64)
    (turn : ∀ (i : Nat) (v : Value) (k : Int), vs[i]? = some v → kz[i]? = some k → ∀ (h : Heap) (tk : Nat), Kp g h →
      wpAny (model prog w) A (call f [v]) (fun r s2 => ∃ h' tk' t', s2 = { s with heap := h', toks := tk' } ∧ r = .int k t' ∧ Kp h h') (fun _ _ => False) { s with heap := h, toks := tk })
    (h : ∀ h' tk out c, Kp g h' → h'.get? a = some (seqObj "list" out c) → KskOut false kz vs out.toList → P (.done (.ret .none)) { s with heap := h', toks := tk }) :
    wpAny (model prog w) A (ksk_rest a f false vs.toArray e1 (.ref kS)) P E s := by
  unfold ksk_rest
  refine wpAny_bind (wpAny_rule ?_)
  first
    | rw [List.forIn_toArray]
    | (rw [← Array.forIn_toList]; simp only [List.toList_toArray])
    | rw [← Array.forIn_toList]
  refine wpAny_bind (ksk_fold (fun i s' => ∃ h' tk kA e, s' = { s with heap := h', toks := tk } ∧ Kp g h' ∧ h'.get? kS = some (seqObj "list" kA e) ∧ h'.get? a = some (seqObj "list" #[] e1) ∧ IntsAre kA.toList (kz.take i)) vs 0 s
    ⟨s.heap, s.toks, #[], 0, rfl, K, nk, na, by simpa using IntsAre.nil⟩ ?step ?done)
  case step =>
    rintro j x s' hx ⟨h', tk, kA, e, rfl, K', nk', na', hk⟩
    simp only [Nat.zero_add] at hk ⊢
    have hj : j < vs.length := (List.getElem?_eq_some_iff.mp hx).1
    obtain ⟨k, hkj⟩ : ∃ k, kz[j]? = some k := ⟨_, List.getElem?_eq_getElem (by omega)⟩
    have hz : kA.size ≤ vs.length := by
      have h1 := hk.length
      rw [Array.length_toList, List.length_take] at h1
      omega
    refine wpAny_bind (wpAny_attempt (wpAny_mono (turn j x k hx hkj h' tk K') (fun v s'' he => ?_) fun _ _ hF => hF.elim))
    obtain ⟨g2, tk2, t2, rfl, rfl, K2⟩ := he
    try dsimp only
    have nk2 := K2 _ _ nk'
    have na2 := K2 _ _ na'
    have s1 := Heap.SameBut.update g2 kS (Obj.mapSeq (·.push (.int k t2)))
    obtain ⟨c2, hc2⟩ : ∃ c2, (g2.update kS (Obj.mapSeq (·.push (.int k t2)))).get? kS = some (seqObj "list" (kA.push (.int k t2)) c2) := ⟨_, get?_update_seq nk2 (·.push (.int k t2))⟩
    have ek : kz.take (j + 1) = kz.take j ++ [k] := by rw [List.take_add_one, hkj]; simp
    have ea : (kA.push (Value.int k t2)).toList = kA.toList ++ [Value.int k t2] := by simp
    refine wpAny_bind (listUpdate_at nk2 rfl ?_ (by rw [sizeLine_eq]; omega) (Nat.le_trans (Nat.le_of_eq (Array.size_push ..)) (by rw [sizeLine_eq]; omega)))
    exact wpAny_pure ⟨rfl, _, _, kA.push (.int k t2), c2, rfl, kp_but (fun b o q => K2 b o (K' b o q)) s1 gk, hc2, (s1.2 a hka.symm).trans na2, by rw [ea, ek]; exact ksk_snoc hk⟩
  case done =>
    rintro s' ⟨h', tk, kA, e, rfl, K', nk', na', hk⟩
    have hk' : IntsAre kA.toList kz := by
      have e3 : kz.take (0 + vs.length) = kz := List.take_of_length_le (by omega)
      rw [e3] at hk
      exact hk
    try dsimp only
    refine wpAny_bind (listItems_at nk' rfl ?_)
    exact end_ K' nk' na' hka gk ga hk' hlen h64 fun h3 tk3 out c F3 N3 k3 => h h3 tk3 out c F3 N3 k3
theorem sort_ {f : Value} {n : Nat} (K : Kp g s.heap) (ho : s.heap.get? a = some (seqObj "list" vs.toArray n)) (ga : g.get? a = none) (gsz : g.objs.size ≤ s.heap.objs.size)
    (hlen : kz.length = vs.length) (h64 : vs.length < 64)
    (turn : ∀ (i : Nat) (v : Value) (k : Int), vs[i]? = some v → kz[i]? = some k → ∀ (h : Heap) (tk : Nat), Kp g h →
      wpAny (model prog w) A (call f [v]) (fun r s2 => ∃ h' tk' t', s2 = { s with heap := h', toks := tk' } ∧ r = .int k t' ∧ Kp h h') (fun _ _ => False) { s with heap := h, toks := tk })
    (h : ∀ h' tk out c, Kp g h' → h'.get? a = some (seqObj "list" out c) → KskOut false kz vs out.toList → P (.done (.ret .none)) { s with heap := h', toks := tk }) :
    wpAny (model prog w) A (ksk_tree a f false) P E s := by
  have ha : a < s.heap.objs.size := Heap.lt_size ho
  have s1 := Heap.SameBut.update s.heap a (Obj.mapSeq fun _ => (#[] : Array Value))
  obtain ⟨e1, ho1⟩ : ∃ e1, (s.heap.update a (Obj.mapSeq fun _ => (#[] : Array Value))).get? a = some (seqObj "list" #[] e1) := ⟨_, get?_update_seq ho fun _ => #[]⟩
  have hkS : ((s.heap.update a (Obj.mapSeq fun _ => (#[] : Array Value))).push (seqObj "tuple" vs.toArray 0)).objs.size = s.heap.objs.size + 1 := by rw [size_push', Heap.size_update]
  unfold ksk_tree
  refine wpAny_bind (listItems_at ho rfl ?_)
  refine wpAny_bind (listUpdate_at ho rfl ?_ (by rw [List.size_toArray, sizeLine_eq]; omega) (Nat.zero_le _))
  refine wpAny_bind (seqEpoch_at ho1 rfl ?_)
  refine wpAny_bind (wpAny_newTuple ?_ (by show vs.length ≤ _; rw [sizeLine_eq]; omega))
  refine wpAny_bind (wpAny_newList ?_ (Nat.zero_le _))
  refine wpAny_holding ?_
  refine rest_ (s := { s with heap := ((s.heap.update a (Obj.mapSeq fun _ => (#[] : Array Value))).push (seqObj "tuple" vs.toArray 0)).push (seqObj "list" #[] 0) }) (kS := ((s.heap.update a (Obj.mapSeq fun _ => (#[] : Array Value))).push (seqObj "tuple" vs.toArray 0)).objs.size)
    (fun b o q => Heap.get?_push_of_some _ (Heap.get?_push_of_some _ (kp_but K s1 ga b o q))) (Heap.get?_push_size _ rfl) (Heap.get?_push_of_some _ (Heap.get?_push_of_some _ ho1)) (by rw [hkS]; exact Nat.ne_of_gt (Nat.lt_succ_of_lt ha)) (Heap.get?_none_of_le (by rw [hkS]; omega)) ga hlen h64 turn h
/-- sorted(l, key=f), l any list of fewer than 64 items, the key an int -/
theorem sortedKey {l : Addr} {f : Addr} {Q : Value → Shared → Prop} (hl : s.heap.IsList l vs.toArray) (hlen : kz.length = vs.length) (h64 : vs.length < 64)
    (turn : ∀ (i : Nat) (v : Value) (k : Int), vs[i]? = some v → kz[i]? = some k → ∀ (h : Heap) (tk : Nat), Kp s.heap h →
      wpAny (model prog w) A.in1.in1 (call (.ref f) [v]) (fun r s2 => ∃ h' tk' t', s2 = { s with heap := h', toks := tk' } ∧ r = .int k t' ∧ Kp h h') (fun _ _ => False) { s with heap := h, toks := tk })
    (h : ∀ h' tk out c, Kp s.heap h' → h'.get? (s.heap.objs.size + 1) = some (seqObj "list" out c) → KskOut false kz vs out.toList → Q (.ref (s.heap.objs.size + 1)) { s with heap := h', toks := tk }) :
    wpAny (model prog w) A (call (.builtin "sorted") [.ref l] [(Str.ofString "key", .ref f)]) Q E s := by
  refine call_function_entry_kw kind_sorted plain_sorted entry_sorted (ksk_s1 _ _) ?_
  unfold Builtin.«sorted»
  refine wpAny_bind (m := checkCount "sorted" 1 1 _) (wpAny_pure ?_)
  refine wpAny_bind (collect_list hl ?_ (by rw [sizeLine_eq]; omega))
  refine wpAny_bind (wpAny_newList ?_ (by rw [sizeLine_eq]; omega))
  have hsz : ((s.heap.push (seqObj "list" #[] 0)).update s.heap.objs.size (Obj.mapSeq (· ++ vs.toArray))).objs.size = s.heap.objs.size + 1 := by
    rw [Heap.size_update, size_push']
  have hoL : (((s.heap.push (seqObj "list" #[] 0)).update s.heap.objs.size (Obj.mapSeq (· ++ vs.toArray))).push (seqObj "list" vs.toArray 0)).get? (s.heap.objs.size + 1) = some (seqObj "list" vs.toArray 0) := by
    rw [← hsz]; exact Heap.get?_push_size _ rfl
  have keep : Kp s.heap (((s.heap.push (seqObj "list" #[] 0)).update s.heap.objs.size (Obj.mapSeq (· ++ vs.toArray))).push (seqObj "list" vs.toArray 0)) := fun b o q => by
    have hlt : b < s.heap.objs.size := Heap.lt_size q
    rw [Heap.get?_push_ne _ _ _ (by rw [hsz]; exact Nat.ne_of_lt (Nat.lt_succ_of_lt hlt)), Heap.get?_update_ne _ _ _ _ (Nat.ne_of_lt hlt), Heap.get?_push_ne _ _ _ (Nat.ne_of_lt hlt)]
    exact q
  show wpAny _ _ _ _ _ { s with heap := ((s.heap.push (seqObj "list" #[] 0)).update s.heap.objs.size (Obj.mapSeq (· ++ vs.toArray))).push (seqObj "list" vs.toArray 0) }
  rw [hsz]
  refine wpAny_bind (wpAny_holding (wpAny_call_entry_kw slot_list_sort ⟨_, hoL, rfl⟩ entry_list_sort ?body (ksk_l1 _ _)))
  case body =>
    show wpAny (model prog w) A.in1.in1 (Builtin.«list.sort» ⟨[.ref (s.heap.objs.size + 1)], [(Str.ofString "key", .ref f)]⟩) _ _ _
    rw [ksk_t1]
    refine sort_ (s := { s with heap := ((s.heap.push (seqObj "list" #[] 0)).update s.heap.objs.size (Obj.mapSeq (· ++ vs.toArray))).push (seqObj "list" vs.toArray 0) }) keep hoL (Heap.get?_none_of_le (Nat.le_succ _)) (by rw [size_push', hsz]; omega) hlen h64 turn fun h' tk out c k1 k2 k3 => ⟨_, rfl, ?_⟩
    exact wpAny_pure ⟨_, rfl, h h' tk out c k1 k2 k3⟩
end
end Sk
/-! Rs2 -/
namespace L2
open PySem PySem.Spec PyProof.Rows Sk LamX
theorem extN_rd {H H' : Hp} {a : Addr} {u : HO} (e : ExtN H H') (h : Rd H a u) (n : ∀ ps, u ≠ .tbl ps) : Rd H' a u := by
  rcases h with h | ⟨o, h⟩
  · exact .inl (e _ _ h n)
  · exact .inr ⟨o, e _ _ h fun ps z => by cases z⟩
theorem extN_l {K : PySem.W.Frag} {H H' : Hp} {a : Addr} {xs : List V} (e : ExtN H H') (h : SqL K H a xs) : SqL K H' a xs := by
  rcases h with h | h
  · exact .inl (extN_rd e h fun ps z => by cases z)
  · exact .inr h
theorem extN_t {K : PySem.W.Frag} {H H' : Hp} {a : Addr} {xs : List V} (e : ExtN H H') (h : SqT K H a xs) : SqT K H' a xs := by
  rcases h with h | h
  · exact .inl (extN_rd e h fun ps z => by cases z)
  · exact .inr h
def bv : Value → V
  | .ref a => .ref a
  | _ => .non
theorem vals_bv : ∀ {l : List Value}, (∀ v ∈ l, ∃ a, v = .ref a) → Vals (l.map bv) l
  | [], _ => .nil
  | v :: r, h => by
    obtain ⟨a, rfl⟩ := h v (List.mem_cons_self ..)
    exact .cons rfl (vals_bv fun u hu => h u (List.mem_cons_of_mem _ hu))
theorem bv_vals : ∀ {xs : List V} {l : List Value}, Vals xs l → (∀ x ∈ xs, ∃ a, x = .ref a) → xs = l.map bv ∧ ∀ v ∈ l, ∃ a, v = .ref a
  | [], [], .nil, _ => ⟨rfl, fun v hv => by cases hv⟩
  | x :: xs, v :: l, .cons r t, h => by
    obtain ⟨a, rfl⟩ := h x (List.mem_cons_self ..)
    obtain rfl : v = Value.ref a := r
    obtain ⟨e, q⟩ := bv_vals t fun y hy => h y (List.mem_cons_of_mem _ hy)
    refine ⟨by rw [e]; rfl, fun u hu => ?_⟩
    rcases List.mem_cons.mp hu with z | z
    · exact ⟨a, z⟩
    · exact q u z
theorem zip_bv : ∀ (ks : List Int) (l : List Value), (ks.zip l).map (fun p : Int × Value => (p.1, bv p.2)) = ks.zip (l.map bv)
  | [], _ => rfl
  | _ :: _, [] => rfl
  | k :: ks, v :: l => by
    show (k, bv v) :: (ks.zip l).map _ = (k, bv v) :: ks.zip (l.map bv)
    rw [zip_bv ks l]
/-- sorted by the numbers ks -/
def SortedBy (ks : List Int) (xs ys : List V) : Prop := ∃ ps : List (Int × V), ps.Perm (ks.zip xs) ∧ ys = ps.map (·.2) ∧ ps.Pairwise fun a b => a.1 ≤ b.1
def tSortLam (K : PySem.W.Frag) (P : Addr) (q : Str) (ta : TA) : TE := fun σ H Q => ta σ H fun vs H1 => ∃ (a : Addr) (xs : List V) (ks : List Int), vs = [.ref a] ∧ SqL K H1 a xs ∧ ks.length = xs.length ∧ xs.length < 64 ∧
  (∀ (i : Nat) (x : V), xs[i]? = some x → ∃ (T : Addr) (rest : List V) (k : Int), ks[i]? = some k ∧ x = .ref T ∧ SqT K H1 T (.int k :: rest)) ∧ TabS H1 P q ∧
  ∀ H2, ExtN H1 H2 → TabS H2 P q → ∀ ys p, SortedBy ks xs ys → H2 p = none → Q (.ref p) (upd H2 p (.lst ys))
section
variable {X : Cx}
/-- a lambda of one parameter, no other name of its own -/
structure LamS1 (x : Str) (scope : Scope) : Prop where
  kind : scope.kind = .function
  co : scope.isCoroutine = false
  gen : scope.isGenerator = false
  own : scope.names = [(x, .local)]
theorem lam_item {x : Str} {scope : Scope} {params : Arguments} {p1 p2 p3 : Pos} {j : Nat} {A : Around} {prog : Program} {w : World} {s : Shared} {f c' T : Addr} {q : Str} {cl : List (Str × Addr)} {pm ctv : Value} {k : Int} {t : Tok} {its : Array Value} (L : LamS1 x scope)
    (hf : s.heap.get? f = some (PySem.W.kla_obj "<lambda>" q params (.Subscript (.Name x p1) (.Constant (.int 0) j p2) p3) scope cl pm c' ctv))
    (hbind : ∀ v : Value, bindArgs (PySem.W.kla_fn "<lambda>" q params (.Subscript (.Name x p1) (.Constant (.int 0) j p2) p3) scope cl pm (.ref c') ctv) ⟨[v], []⟩ = pure [(x, v)])
    (hcode : ∃ (oc : Obj) (vs : Array Value) (t : Tok), s.heap.get? c' = some oc ∧ oc.data = .fields vs ∧ vs[1]? = some (.str q t)) (lim : s.heap.NoLimit) (hroom : A.depth < recursionLimit)
    (hT : IsTup s.heap T its) (h0 : its[0]? = some (.int k t)) (hdb : (x == ("__debug__" : Str)) = false) :
    wpAny (model prog w) A (call (.ref f) [.ref T]) (fun r s2 => ∃ h' tk' t', s2 = { s with heap := h', toks := tk' } ∧ r = .int k t' ∧ Kp s.heap h') (fun _ _ => False) s := by
  obtain ⟨oc, vs, tq, hoc, hdc, hvc⟩ := hcode
  refine wpAny_call ?_
  refine PySem.W.kla_callFunE hroom hf rfl L.co L.gen rfl ⟨c', oc, vs, tq, rfl, hoc, hdc, hvc⟩ ?_
  rw [hbind]
  refine wpAny_pure (wpAny_newFunctionEnv (fun y hy => ?_) (fun y hy => ?_) (fun h₁ hns hsb => ⟨lim.fresh _ hsb, ?_⟩) L.kind)
  · have hy : y ∈ scope.names := hy
    rw [L.own, List.mem_singleton] at hy
    rw [hy]
    intro z
    cases z
  · rw [List.mem_singleton] at hy
    rw [hy]
    show scope.names.lookup x = some .local
    rw [L.own]
    simp [List.lookup]
  · have kp : Kp s.heap h₁ := fun b o e => hsb.extBut b o (Nat.ne_of_lt (Heap.lt_size e)) (Heap.get?_push_of_some _ e)
    refine PySem.W.kla_codeExpr ?_
    refine Subscript_ ?_
    refine wpAny_Name (wpAny_loadName_local (m := fun y => [(x, Value.ref T)].reverse.lookup y) (v := .ref T) L.kind ?_ hns ?_ ?_) hdb
    · show scope.names.lookup x = some .local
      rw [L.own]
      simp [List.lookup]
    · simp [List.lookup]
    · refine wpAny_Constant_int ?_
      refine item_tuple (hT.keeps kp) (by decide) (by decide) (j := 0) ?_ h0 ?_
      · have hz : 0 < its.size := (Array.getElem?_eq_some_iff.mp h0).1
        rw [seqIndex_of (by decide) (by omega)]
        rfl
      · exact ⟨_, _, _, rfl, rfl, kp⟩
theorem pe_sortLam {x : Str} {scope : Scope} {params : Arguments} {e : Expr} {ta : TA} {c P : Addr} {k : Nat} {p p1 p2 p3 lpos kpos pos : Pos} {j : Nat} (L : LamS1 x scope) (hg : Gl X "sorted") (hm : X.mg "sorted" = none) (hr : Room 3 X.A) (ha : PA X [e] ta)
    (TB : TabB X.base X.mg c P) (hcode : X.env.code = .ref c) (hdef : defaultsOf params X.env = ([], []))
    (hbind : ∀ (q : Str) (cl : List (Str × Addr)) (pm cv ctv v : Value), bindArgs (PySem.W.kla_fn "<lambda>" q params (.Subscript (.Name x p1) (.Constant (.int 0) j p2) p3) scope cl pm cv ctv) ⟨[v], []⟩ = pure [(x, v)])
    (hs : starEach [e] X.env = [(false, eval e X.env)] := by rfl) (hdb : (x == ("__debug__" : Str)) = false := by decide)
    (he : backTo pos (starEach [e] X.env) = (false, eval e X.env) :: backTo pos (starEach [] X.env) := by rfl) (hpl : (backTo pos (starEach [e] X.env)).any (·.1) = false := by rfl) :
    PE X (.Call (.Name "sorted" p) [e] [⟨some (Str.ofString "key"), .Lambda params (.Subscript (.Name x p1) (.Constant (.int 0) j p2) p3) scope lpos, kpos⟩] pos) (tSortLam X.K P (X.env.qual ++ "<lambda>") ta) := by
  refine ⟨fun pins s σ H Q I h => ?_⟩
  refine wpAny_Call_Name_kw (ld_blt I hg hm (by decide +kernel : bootBuiltins "sorted" = some (.builtin "sorted")) ?_)
  refine PyProof.Rows.callWith_kw (kws := [⟨some (Str.ofString "key"), .Lambda params (.Subscript (.Name x p1) (.Constant (.int 0) j p2) p3) scope lpos, kpos⟩]) (thn (ha.run pos pins s σ H _ I h) fun us s1 ⟨vs, H1, I1, r1, q1⟩ => ?_) he hpl rfl rfl
  obtain ⟨a, xs, ks, rfl, hxs, hlen, h64, hit, hT, q⟩ := q1
  rw [Vals.ref1 r1]
  refine kws_cons ?_
  refine lam_make2 (T := [(P, X.env.qual ++ "<lambda>")]) I1 TB hcode (by simp) (fun p hp e => by simp at hp; rw [hp]) (fun p hp => by simp at hp; rw [hp]; exact hT) hdef (fun y hy e => ?_) fun f c' pm ctv H2 s2 I2 eN T2 hf hfn hfr hco => ?_
  · rw [L.own, List.mem_singleton] at hy
    rw [hy] at e
    cases e
  refine kws_nil ?_
  show wpAny _ _ (call (.builtin "sorted") [.ref a] [(Str.ofString "key", .ref f)]) _ _ _
  have hxs2 := extN_l eN hxs
  obtain ⟨its, rv, hl, _⟩ := I2.list hxs2
  have hrefs : ∀ x ∈ xs, ∃ b, x = V.ref b := fun x hx => by
    obtain ⟨i, hi, e⟩ := List.mem_iff_getElem.mp hx
    obtain ⟨T, _, _, _, e2, _⟩ := hit i x (by rw [List.getElem?_eq_getElem hi, e])
    exact ⟨T, e2⟩
  obtain ⟨ebv, hir⟩ := bv_vals rv hrefs
  have hl2 := rv.length
  obtain ⟨⟨oc, cvs, ct, e1, e2, e3⟩, _, _⟩ := I2.hok c' _ hco
  refine sortedKey (kz := ks) hl.isList (by omega) (by omega) (fun i v kk hv hk h tk kp => ?_) fun h' tk out c k1 k2 k3 => ?_
  · obtain ⟨xv, hxv, rxv⟩ : ∃ xv, xs[i]? = some xv ∧ RelV xv v := by
      have hi : i < xs.length := by
        rw [hl2]
        exact (List.getElem?_eq_some_iff.mp hv).1
      obtain ⟨u, hu, ru⟩ := rv.get (List.getElem?_eq_getElem hi)
      rw [hv] at hu
      cases hu
      exact ⟨_, List.getElem?_eq_getElem hi, ru⟩
    obtain ⟨T, rest, k', hk', rfl, hTT⟩ := hit i xv hxv
    rw [hk] at hk'
    cases hk'
    obtain rfl : v = Value.ref T := rxv
    obtain ⟨tits, trv, tp, _⟩ := I2.tuple (extN_t eN hTT)
    obtain ⟨u0, hu0, ru0⟩ := trv.get (i := 0) (x := .int kk) rfl
    obtain ⟨t0, rfl⟩ := ru0
    refine lam_item (s := { s2 with heap := h, toks := tk }) (T := T) (its := tits.toArray) L (kp _ _ hf) (fun v => hbind _ _ _ _ _ v) ⟨oc, cvs, ct, kp _ _ e1, e2, e3⟩ (I2.nolimit.keeps kp) hr.in1.in1.depth (tp.keeps kp) (by simpa using hu0) hdb
  · obtain ⟨ps, p1, p2, p3⟩ := k3
    have hmem : ∀ v ∈ out.toList, ∃ b, v = Value.ref b := fun v hv => by
      rw [p2] at hv
      obtain ⟨pq, hpq, e⟩ := List.mem_map.mp hv
      have h5 := p1.mem_iff.mp hpq
      obtain ⟨k5, v5⟩ := pq
      rw [← e]
      exact hir _ (List.of_mem_zip h5).2
    have hsb : SortedBy ks xs (out.toList.map bv) := by
      refine ⟨ps.map fun p => (p.1, bv p.2), ?_, ?_, ?_⟩
      · rw [ebv, ← zip_bv]
        exact p1.map _
      · rw [p2, List.map_map, List.map_map]
        rfl
      · rw [List.pairwise_map]
        exact p3
    have hol : (out.toList.map bv).length ≤ sizeLine := by
      rw [List.length_map, p2, List.length_map, p1.length_eq, List.length_zip]
      exact small64 (by omega)
    exact ⟨.ref (s2.heap.objs.size + 1), upd H2 (s2.heap.objs.size + 1) (.lst (out.toList.map bv)), I2.laid (t' := tk) k1 (Nat.le_succ _) ⟨hol, out.toList, c, vals_bv hmem, by rw [Array.toArray_toList]; exact k2⟩, rfl, q H2 eN (T2 (P, X.env.qual ++ "<lambda>") (by simp)) _ _ hsb (I2.hok.fresh (Nat.le_succ _))⟩
end
end L2
/-! Ru3 -/
/-! tuple * int, the int from 0 on -/
namespace L2
open PySem PySem.Spec PyProof.Rows
open AutoSeq1 (wpAny_loadPart')
theorem tuple_mul1 (l : Addr) (items : Array Value) (n : Nat) (dd : Option Addr) (sl : Array (Option Value)) (u : Tok) :
    Meets (Builtin.«tuple.__mul__» ⟨[.ref l, .int 1 u], []⟩) (fun _ R s => s.heap.get? l = some { cls := .type "tuple", dict := dd, data := .seq items n, slots := sl } ∧ R (.ok (.ret (Value.ref l))) s) :=
  .of_wp fun prog w A R s h => by
    obtain ⟨hp, g, d, tk, os⟩ := s
    obtain ⟨hl, h⟩ := h
    have f1 := AutoSeq1.idx_int
    have c1 : (items.isEmpty || (1 : Int) == 1) = true := by simp
    wp_walk using wpAny_loadPart' hl
    repeat (first
      | (refine wpAny_ite_true (decide_eq_true (by rw [c1])) ?_; wp_walk using wpAny_loadPart' hl)
      | (refine wpAny_ite_true (by rw [c1]) ?_; wp_walk using wpAny_loadPart' hl)
      | (rw [if_pos c1]; wp_walk using wpAny_loadPart' hl))
    exact ⟨_, rfl, h⟩
theorem tuple_mul0 (l : Addr) (items : Array Value) (n : Nat) (dd : Option Addr) (sl : Array (Option Value)) (u : Tok) (c1 : (items.isEmpty || (0 : Int) == 1) = false) :
    Meets (Builtin.«tuple.__mul__» ⟨[.ref l, .int 0 u], []⟩) (fun _ R s => s.heap.get? l = some { cls := .type "tuple", dict := dd, data := .seq items n, slots := sl } ∧
      R (.ok (.ret (Value.ref s.heap.objs.size))) { s with heap := s.heap.push { cls := Value.type "tuple", data := Data.seq #[] }, toks := s.toks }) :=
  .of_wp fun prog w A R s h => by
    obtain ⟨hp, g, d, tk, os⟩ := s
    obtain ⟨hl, h⟩ := h
    have f1 := AutoSeq1.idx_int
    wp_walk using wpAny_loadPart' hl
    repeat (first
      | (refine wpAny_ite_false (decide_eq_false (by rw [c1]; exact Bool.false_ne_true)) ?_; wp_walk using wpAny_loadPart' hl))
    exact ⟨_, rfl, h⟩
/-- t * k, 0 ≤ k: nothing, the same tuple, a new one -/
def rRepA (K : PySem.W.Frag) : R2 := fun x y H Q => ∃ l k xs, x = .ref l ∧ y = .int k ∧ SqT K H l xs ∧ xs ≠ [] ∧ 0 ≤ k ∧ k ≤ 1000 ∧ xs.length ≤ 1000 ∧
  (k = 1 → Q (.ref l) H) ∧ (k ≠ 1 → ∀ p, H p = none → Q (.ref p) (upd H p (.tup (List.replicate k.toNat xs).flatten)))
theorem op_repA {X : Cx} : OpR X (binaryOp .Mult) (rRepA X.K) := by
  intro pins s σ H x y v u Q I rx ry h
  obtain ⟨l, k, xs, rfl, rfl, hT, hne, h1, h2, hz, qs, q⟩ := h
  by_cases k2 : 2 ≤ k
  · exact op_repT pins s σ H _ _ v u Q I rx ry ⟨l, k, xs, rfl, rfl, hT, hne, k2, h2, hz, q (by omega)⟩
  · cases rx
    obtain ⟨t, rfl⟩ := ry
    obtain ⟨its, r, ⟨⟨cls, dd, data, sl⟩, ho, hc, n, hd⟩, hs⟩ := I.tuple hT
    simp only at hc hd
    subst hc hd
    have hle : its.length = xs.length := r.length.symm
    have hn : its ≠ [] := fun e => hne (by
      rw [e] at hle
      exact List.eq_nil_of_length_eq_zero hle.symm)
    have hi : its.toArray.isEmpty = false := by
      cases its with
      | nil => exact absurd rfl hn
      | cons a b => rfl
    have hk : k = 0 ∨ k = 1 := by omega
    rcases hk with rfl | rfl
    · refine wpAny_binaryOp_repeat_ref (T := "tuple") (U := "int") (by decide) ⟨_, ho, rfl⟩ (fun s' => typeIs_int s' 0 t) noFill_tuple_mul F.fills_int_mul F.slot_int_rmul repeat_tuple F.slot_int_index.lookup
        (call_meets F.slot_int_rmul (typeIs_int s 0 t) F.entry_int_rmul (F.args_int_rmul_2 _ _) (int_rmul_tuple 0 t l its.toArray n dd sl)
          ⟨ho, rfl, ⟨_, ho, rfl⟩, call_meets F.slot_tuple_mul ⟨_, ho, rfl⟩ F.entry_tuple_mul (F.args_tuple_mul_2 _ _) (tuple_mul0 l its.toArray n dd sl t (by rw [hi]; rfl)) ⟨ho, ?_⟩⟩)
      refine ⟨.ref s.heap.objs.size, _, I.laid (t' := s.toks) (o := .tup (List.replicate (0 : Int).toNat xs).flatten) (fun b ob q => Heap.get?_push_of_some _ q) (Nat.le_refl _) ?_, rfl, q (by decide) _ (I.hok.fresh (Nat.le_refl _))⟩
      exact ⟨by show 0 ≤ sizeLine; exact Nat.zero_le _, [], .nil, IsTup.new _ _⟩
    · exact wpAny_binaryOp_repeat_ref (T := "tuple") (U := "int") (by decide) ⟨_, ho, rfl⟩ (fun s' => typeIs_int s' 1 t) noFill_tuple_mul F.fills_int_mul F.slot_int_rmul repeat_tuple F.slot_int_index.lookup
        (call_meets F.slot_int_rmul (typeIs_int s 1 t) F.entry_int_rmul (F.args_int_rmul_2 _ _) (int_rmul_tuple 1 t l its.toArray n dd sl)
          ⟨ho, rfl, ⟨_, ho, rfl⟩, call_meets F.slot_tuple_mul ⟨_, ho, rfl⟩ F.entry_tuple_mul (F.args_tuple_mul_2 _ _) (tuple_mul1 l its.toArray n dd sl t) ⟨ho, ⟨.ref l, H, I, rfl, qs rfl⟩⟩⟩)
end L2
/-! Hd -/
/-! the head's facts over a given list of addresses -/
namespace Mg
open PySem PySem.Spec PyProof.Rows L2
/-! ### a tuple of ints at an address; the dict of the rules -/
def intsB : List Int → List Value → Bool
  | [], [] => true
  | i :: is, .int j _ :: us => decide (i = j) && intsB is us
  | _, _ => false
theorem intsB_ok : ∀ {is : List Int} {us : List Value}, intsB is us = true → Vals (is.map V.int) us
  | [], [], _ => .nil
  | i :: is, .int j t :: us, h => by
    obtain ⟨h1, h2⟩ := He.ba (show (decide (i = j) && intsB is us) = true from h)
    have e := of_decide_eq_true h1
    subst e
    exact .cons ⟨t, rfl⟩ (intsB_ok h2)
def tupAtB (K : PySem.W.Frag) (a : Addr) (is : List Int) : Bool := match K.lookup a with
  | some ⟨.type c, _, .seq its _, _⟩ => decide (c = "tuple") && (decide (its.size ≤ sizeLine) && intsB is its.toList)
  | _ => false
theorem tupAtB_ok {K : PySem.W.Frag} {a : Addr} {is : List Int} (h : tupAtB K a is = true) (H : Hp) : SqT K H a (is.map V.int) := by
  unfold tupAtB at h
  cases q : K.lookup a with
  | none =>
    rw [q] at h
    cases h
  | some o =>
    obtain ⟨oc, od, dt, osl⟩ := o
    rw [q] at h
    cases oc with
    | type c =>
      cases dt with
      | seq its n =>
        obtain ⟨h1, h2⟩ := He.ba (show (decide (c = "tuple") && (decide (its.size ≤ sizeLine) && intsB is its.toList)) = true from h)
        obtain ⟨h3, h4⟩ := He.ba h2
        exact .inr ⟨_, its, n, q, congrArg Value.type (of_decide_eq_true h1), rfl, of_decide_eq_true h3, intsB_ok h4⟩
      | _ => cases h
    | _ => cases dt <;> cases h
/-- an entry: key, hash, value -/
def entB (K : PySem.W.Frag) (e : DictEntry) (k : Int) (is : List Int) : Bool := (match e.key with
  | .int i _ => decide (i = k)
  | _ => false) && (decide (e.hash = hashInt k) && (match e.val with
  | .ref t => tupAtB K t is
  | _ => false))
def rulesB (K : PySem.W.Frag) : Bool := match K.lookup (He.ga K "RULES") with
  | some ⟨.type c, none, .dict es _, sl⟩ => decide (c = "dict") && (sl.isEmpty && (!(He.ga K "RULES" == sysModules) && (match es.toList with
    | [e1, e2, e3, e4] => entB K e1 4 [1, 1] && (entB K e2 8 [1, 1, 0] && (entB K e3 9 [2, 0] && entB K e4 16 [1, 1, 0, 0]))
    | _ => false)))
  | _ => false
def ex (K : PySem.W.Frag) : Bool := tupAtB K (He.ga K "SIZES") [2, 3, 4, 5, 7, 8, 9, 11, 13, 16] && (tupAtB K (He.ga K "BASES") [2, 3, 5, 7, 11, 13] && (rulesB K && tupAtB K (He.dflAt ("Plan", some "heads") 0 K) []))
def tf : List He.Defn := [("Span", some "put")]
/-! ### the Hook -/
def obsY (as : List Addr) (fa : List He.Fa) (fn : List He.DefD) (tf : List He.Defn) (ex : PySem.W.Frag → Bool) (g : Addr → Option Obj) : He.AlX := (He.obsT fa fn [] (He.frT g as), ex (He.frT g as) && He.tabsB g tf (He.frT g as))
theorem saysY_of {as : List Addr} {fa : List He.Fa} {fn : List He.DefD} {tf : List He.Defn} {ex : PySem.W.Frag → Bool} {w : World} {h : Heap} (e : obsY as fa fn tf ex h.get? = He.valX fn [] w) : He.SaysX fa fn [] tf ex w h (He.frT h.get? as) := by
  have e1 : He.obsT fa fn [] (He.frT h.get? as) = He.valT fn [] w := congrArg (fun z : He.AlX => z.1) e
  have e2 : (ex (He.frT h.get? as) && He.tabsB h.get? tf (He.frT h.get? as)) = true := congrArg (fun z : He.AlX => z.2) e
  obtain ⟨h1, h2⟩ := He.ba e2
  have key : ∀ p ∈ tf, PySem.W.codeHdIn (He.frT h.get? as) (He.cT (He.frT h.get? as) p).1 (He.cT (He.frT h.get? as) p).2 = true ∧ ∃ o, h.get? (He.cT (He.frT h.get? as) p).2 = some o ∧ He.emptyTab o = true := fun p hp => by
    obtain ⟨h3, h4⟩ := He.ba (List.all_eq_true.mp h2 p hp)
    refine ⟨h3, ?_⟩
    cases q : h.get? (He.cT (He.frT h.get? as) p).2 with
    | none =>
      rw [q] at h4
      cases h4
    | some o =>
      rw [q] at h4
      exact ⟨o, rfl, h4⟩
  exact ⟨e1, h1, fun p hp => (key p hp).1, fun p hp => by
    obtain ⟨_, o, q, z⟩ := key p hp
    exact He.frT_none q z, fun p hp => by
    obtain ⟨_, o, q, z⟩ := key p hp
    rw [q, He.emptyTab_eq z]⟩
def hookY (as : List Addr) (fa : List He.Fa) (fn : List He.DefD) (tf : List He.Defn) (ex : PySem.W.Frag → Bool) : PySem.W.Hook where
  α := He.AlX
  obs := fun s => obsY as fa fn tf ex s.heap.get?
  val := fun w => He.valX fn [] w
  says := fun w h => ∃ K : PySem.W.Frag, K.In h ∧ He.SaysX fa fn [] tf ex w h K
  of := fun _ _ e => ⟨_, He.frT_in, saysY_of e⟩
  keeps := fun _ _ _ ⟨K, hK, c⟩ k => ⟨K, PySem.W.Frag.In.keeps hK k, ⟨c.t, c.more, c.hd, c.out, fun p hp => k _ _ (c.empty p hp)⟩⟩
theorem obsY_eq {as : List Addr} {fa : List He.Fa} {fn : List He.DefD} {tf : List He.Defn} {ex : PySem.W.Frag → Bool} {g : Addr → Option Obj} {s : Shared} (h : ∀ a, g a = s.heap.get? a) : obsY as fa fn tf ex g = (hookY as fa fn tf ex).obs s := by
  have e : g = s.heap.get? := funext h
  rw [e] <;> rfl
end Mg
/-! the head's data: printed by gen_head.py -/
namespace Mg
open PySem PySem.Spec PyProof.Rows L2
def top (i : Nat) : Stmt := PySem.Challenge.pw_mingleway_k30_whole_a_plan_stays_good_in.main.body.getD i (.Pass ⟨0, 0, 0, 0⟩)
/-- a keyword-only default that is an object -/
def kwAt (f : Str × Option Str) (x : Str) (K : PySem.W.Frag) : Addr := match K.lookup (He.fAd K f) with
  | some ⟨_, _, .func fd, _⟩ => (match fd.kwdefaults with
    | .ref D => (match PySem.W.nsIn K D x with
      | some (some (.ref a)) => a
      | _ => 0)
    | _ => 0)
  | _ => 0
abbrev s_first_place : Stmt := top 20
abbrev s_need_lost : Stmt := top 23
abbrev s_unit : Stmt := top 26
abbrev s_run_through : Stmt := top 27
abbrev s_need_name : Stmt := top 36
abbrev s_grown : Stmt := top 43
abbrev s_need_letters : Stmt := top 49
abbrev s_is_loss : Stmt := top 50
abbrev s_need_losses : Stmt := top 51
abbrev s_L_added : Stmt := top 54
abbrev s_L_alike : Stmt := top 55
abbrev s_L_ask : Stmt := top 56
abbrev s_L_bag : Stmt := top 57
abbrev s_L_fed : Stmt := top 58
abbrev s_L_gone : Stmt := top 59
abbrev s_L_inputs : Stmt := top 60
abbrev s_L_mixers : Stmt := top 61
abbrev s_L_names : Stmt := top 62
abbrev s_L_order_drawn : Stmt := top 63
abbrev s_L_pick : Stmt := top 64
abbrev s_L_plain_net : Stmt := top 65
abbrev s_L_pull : Stmt := top 66
abbrev s_L_raised : Stmt := top 67
abbrev s_L_root : Stmt := top 68
abbrev s_L_scaled : Stmt := top 69
abbrev s_L_size : Stmt := top 70
abbrev s_L_task : Stmt := top 71
abbrev s_L_times : Stmt := top 72
abbrev s_L_unit : Stmt := top 73
abbrev s_L_whole : Stmt := top 74
abbrev s_L_world : Stmt := top 75
abbrev s_law : Stmt := top 76
abbrev s_Span_init : Stmt := inClass (top 21) 0
abbrev s_Span_len : Stmt := inClass (top 21) 2
abbrev s_Span_lowered : Stmt := inClass (top 21) 4
abbrev s_Span_put : Stmt := inClass (top 21) 5
abbrev s_Plan_init : Stmt := inClass (top 28) 0
abbrev s_Plan_heads_under : Stmt := inClass (top 28) 4
abbrev s_Plan_heads : Stmt := inClass (top 28) 5
abbrev s_Plan_heard : Stmt := inClass (top 28) 6
abbrev s_Plan_bad_cases : Stmt := inClass (top 28) 8
abbrev s_Plan_good : Stmt := inClass (top 28) 9
abbrev s_Net_init : Stmt := inClass (top 37) 0
abbrev s_Net_need_house : Stmt := inClass (top 37) 3
abbrev s_Net_need_line : Stmt := inClass (top 37) 4
abbrev s_Net_house : Stmt := inClass (top 37) 5
abbrev s_Net_line : Stmt := inClass (top 37) 6
abbrev s_Net_houses : Stmt := inClass (top 37) 9
abbrev s_Net_numbers : Stmt := inClass (top 37) 10
abbrev s_Net_lines : Stmt := inClass (top 37) 11
abbrev s_Net_into : Stmt := inClass (top 37) 12
abbrev s_Net_out_of : Stmt := inClass (top 37) 13
abbrev s_Net_ends : Stmt := inClass (top 37) 14
abbrev s_Net_told_order : Stmt := inClass (top 37) 15
abbrev s_Net_ring : Stmt := inClass (top 37) 16
abbrev s_Net_order : Stmt := inClass (top 37) 17
abbrev s_Net_twin : Stmt := inClass (top 37) 18
abbrev s_Field_init : Stmt := inClass (top 44) 0
abbrev s_Field_has : Stmt := inClass (top 44) 7
abbrev s_Field_figures : Stmt := inClass (top 44) 9
abbrev s_Field_composed : Stmt := inClass (top 44) 10
abbrev s_Field_added : Stmt := inClass (top 44) 11
abbrev s_Field_product : Stmt := inClass (top 44) 14
abbrev s_Field_inverse : Stmt := inClass (top 44) 16
abbrev s_Field_needs_row : Stmt := inClass (top 44) 19
abbrev s_Field_scaled : Stmt := inClass (top 44) 20
abbrev s_Field_joined : Stmt := inClass (top 44) 21
abbrev s_Field_blend : Stmt := inClass (top 44) 23
abbrev s_Task_init : Stmt := inClass (top 52) 0
abbrev s_Task_net : Stmt := inClass (top 52) 3
abbrev s_Task_letters : Stmt := inClass (top 52) 6
abbrev s_Task_field : Stmt := inClass (top 52) 8
abbrev s_Task_cases : Stmt := inClass (top 52) 9
abbrev s_Task_line_order : Stmt := inClass (top 52) 10
abbrev s_Task_fed_by : Stmt := inClass (top 52) 11
abbrev s_Task_inputs : Stmt := inClass (top 52) 12
def d_first_place : He.DefD := ⟨("first_place", none), "first_place", "first_place", defArgs s_first_place, defBody s_first_place, defScope s_first_place, [], []⟩
def d_need_lost : He.DefD := ⟨("need_lost", none), "need_lost", "need_lost", defArgs s_need_lost, defBody s_need_lost, defScope s_need_lost, [], []⟩
def d_unit : He.DefD := ⟨("unit", none), "unit", "unit", defArgs s_unit, defBody s_unit, defScope s_unit, [], []⟩
def d_run_through : He.DefD := ⟨("run_through", none), "run_through", "run_through", defArgs s_run_through, defBody s_run_through, defScope s_run_through, [], []⟩
def d_need_name : He.DefD := ⟨("need_name", none), "need_name", "need_name", defArgs s_need_name, defBody s_need_name, defScope s_need_name, [], []⟩
def d_grown : He.DefD := ⟨("grown", none), "grown", "grown", defArgs s_grown, defBody s_grown, defScope s_grown, [], []⟩
def d_need_letters : He.DefD := ⟨("need_letters", none), "need_letters", "need_letters", defArgs s_need_letters, defBody s_need_letters, defScope s_need_letters, [], []⟩
def d_is_loss : He.DefD := ⟨("is_loss", none), "is_loss", "is_loss", defArgs s_is_loss, defBody s_is_loss, defScope s_is_loss, [], []⟩
def d_need_losses : He.DefD := ⟨("need_losses", none), "need_losses", "need_losses", defArgs s_need_losses, defBody s_need_losses, defScope s_need_losses, [], []⟩
def d_L_added : He.DefD := ⟨("_law_added", none), "_law_added", "_law_added", defArgs s_L_added, defBody s_L_added, defScope s_L_added, [], []⟩
def d_L_alike : He.DefD := ⟨("_law_alike", none), "_law_alike", "_law_alike", defArgs s_L_alike, defBody s_L_alike, defScope s_L_alike, [], []⟩
def d_L_ask : He.DefD := ⟨("_law_ask", none), "_law_ask", "_law_ask", defArgs s_L_ask, defBody s_L_ask, defScope s_L_ask, [], []⟩
def d_L_bag : He.DefD := ⟨("_law_bag", none), "_law_bag", "_law_bag", defArgs s_L_bag, defBody s_L_bag, defScope s_L_bag, [], []⟩
def d_L_fed : He.DefD := ⟨("_law_fed", none), "_law_fed", "_law_fed", defArgs s_L_fed, defBody s_L_fed, defScope s_L_fed, [], []⟩
def d_L_gone : He.DefD := ⟨("_law_gone", none), "_law_gone", "_law_gone", defArgs s_L_gone, defBody s_L_gone, defScope s_L_gone, [], []⟩
def d_L_inputs : He.DefD := ⟨("_law_inputs", none), "_law_inputs", "_law_inputs", defArgs s_L_inputs, defBody s_L_inputs, defScope s_L_inputs, [], []⟩
def d_L_mixers : He.DefD := ⟨("_law_mixers", none), "_law_mixers", "_law_mixers", defArgs s_L_mixers, defBody s_L_mixers, defScope s_L_mixers, [], []⟩
def d_L_names : He.DefD := ⟨("_law_names", none), "_law_names", "_law_names", defArgs s_L_names, defBody s_L_names, defScope s_L_names, [], []⟩
def d_L_order_drawn : He.DefD := ⟨("_law_order_drawn", none), "_law_order_drawn", "_law_order_drawn", defArgs s_L_order_drawn, defBody s_L_order_drawn, defScope s_L_order_drawn, [], []⟩
def d_L_pick : He.DefD := ⟨("_law_pick", none), "_law_pick", "_law_pick", defArgs s_L_pick, defBody s_L_pick, defScope s_L_pick, [], []⟩
def d_L_plain_net : He.DefD := ⟨("_law_plain_net", none), "_law_plain_net", "_law_plain_net", defArgs s_L_plain_net, defBody s_L_plain_net, defScope s_L_plain_net, [], []⟩
def d_L_pull : He.DefD := ⟨("_law_pull", none), "_law_pull", "_law_pull", defArgs s_L_pull, defBody s_L_pull, defScope s_L_pull, [], []⟩
def d_L_raised : He.DefD := ⟨("_law_raised", none), "_law_raised", "_law_raised", defArgs s_L_raised, defBody s_L_raised, defScope s_L_raised, [], []⟩
def d_L_root : He.DefD := ⟨("_law_root", none), "_law_root", "_law_root", defArgs s_L_root, defBody s_L_root, defScope s_L_root, [], []⟩
def d_L_scaled : He.DefD := ⟨("_law_scaled", none), "_law_scaled", "_law_scaled", defArgs s_L_scaled, defBody s_L_scaled, defScope s_L_scaled, [], []⟩
def d_L_size : He.DefD := ⟨("_law_size", none), "_law_size", "_law_size", defArgs s_L_size, defBody s_L_size, defScope s_L_size, [], []⟩
def d_L_task : He.DefD := ⟨("_law_task", none), "_law_task", "_law_task", defArgs s_L_task, defBody s_L_task, defScope s_L_task, [], []⟩
def d_L_times : He.DefD := ⟨("_law_times", none), "_law_times", "_law_times", defArgs s_L_times, defBody s_L_times, defScope s_L_times, [], []⟩
def d_L_unit : He.DefD := ⟨("_law_unit", none), "_law_unit", "_law_unit", defArgs s_L_unit, defBody s_L_unit, defScope s_L_unit, [], []⟩
def d_L_whole : He.DefD := ⟨("_law_whole", none), "_law_whole", "_law_whole", defArgs s_L_whole, defBody s_L_whole, defScope s_L_whole, [], []⟩
def d_L_world : He.DefD := ⟨("_law_world", none), "_law_world", "_law_world", defArgs s_L_world, defBody s_L_world, defScope s_L_world, [], []⟩
def d_law : He.DefD := ⟨("law", none), "law", "law", defArgs s_law, defBody s_law, defScope s_law, [], []⟩
def d_Span_init : He.DefD := ⟨("Span", some "__init__"), "__init__", "Span.__init__", defArgs s_Span_init, defBody s_Span_init, defScope s_Span_init, [], [("rows", .adr (kwAt ("Span", some "__init__") "rows"))]⟩
def d_Span_len : He.DefD := ⟨("Span", some "__len__"), "__len__", "Span.__len__", defArgs s_Span_len, defBody s_Span_len, defScope s_Span_len, [], []⟩
def d_Span_lowered : He.DefD := ⟨("Span", some "lowered"), "lowered", "Span.lowered", defArgs s_Span_lowered, defBody s_Span_lowered, defScope s_Span_lowered, [], []⟩
def d_Span_put : He.DefD := ⟨("Span", some "put"), "put", "Span.put", defArgs s_Span_put, defBody s_Span_put, defScope s_Span_put, [], []⟩
def d_Plan_init : He.DefD := ⟨("Plan", some "__init__"), "__init__", "Plan.__init__", defArgs s_Plan_init, defBody s_Plan_init, defScope s_Plan_init, [], []⟩
def d_Plan_heads_under : He.DefD := ⟨("Plan", some "heads_under"), "heads_under", "Plan.heads_under", defArgs s_Plan_heads_under, defBody s_Plan_heads_under, defScope s_Plan_heads_under, [], []⟩
def d_Plan_heads : He.DefD := ⟨("Plan", some "heads"), "heads", "Plan.heads", defArgs s_Plan_heads, defBody s_Plan_heads, defScope s_Plan_heads, [.adr (He.dflAt ("Plan", some "heads") 0)], []⟩
def d_Plan_heard : He.DefD := ⟨("Plan", some "heard"), "heard", "Plan.heard", defArgs s_Plan_heard, defBody s_Plan_heard, defScope s_Plan_heard, [], []⟩
def d_Plan_bad_cases : He.DefD := ⟨("Plan", some "bad_cases"), "bad_cases", "Plan.bad_cases", defArgs s_Plan_bad_cases, defBody s_Plan_bad_cases, defScope s_Plan_bad_cases, [], []⟩
def d_Plan_good : He.DefD := ⟨("Plan", some "good"), "good", "Plan.good", defArgs s_Plan_good, defBody s_Plan_good, defScope s_Plan_good, [], []⟩
def d_Net_init : He.DefD := ⟨("Net", some "__init__"), "__init__", "Net.__init__", defArgs s_Net_init, defBody s_Net_init, defScope s_Net_init, [], []⟩
def d_Net_need_house : He.DefD := ⟨("Net", some "need_house"), "need_house", "Net.need_house", defArgs s_Net_need_house, defBody s_Net_need_house, defScope s_Net_need_house, [], []⟩
def d_Net_need_line : He.DefD := ⟨("Net", some "need_line"), "need_line", "Net.need_line", defArgs s_Net_need_line, defBody s_Net_need_line, defScope s_Net_need_line, [], []⟩
def d_Net_house : He.DefD := ⟨("Net", some "house"), "house", "Net.house", defArgs s_Net_house, defBody s_Net_house, defScope s_Net_house, [], []⟩
def d_Net_line : He.DefD := ⟨("Net", some "line"), "line", "Net.line", defArgs s_Net_line, defBody s_Net_line, defScope s_Net_line, [], [("slow", .int 1), ("number", .non)]⟩
def d_Net_houses : He.DefD := ⟨("Net", some "houses"), "houses", "Net.houses", defArgs s_Net_houses, defBody s_Net_houses, defScope s_Net_houses, [], []⟩
def d_Net_numbers : He.DefD := ⟨("Net", some "numbers"), "numbers", "Net.numbers", defArgs s_Net_numbers, defBody s_Net_numbers, defScope s_Net_numbers, [], []⟩
def d_Net_lines : He.DefD := ⟨("Net", some "lines"), "lines", "Net.lines", defArgs s_Net_lines, defBody s_Net_lines, defScope s_Net_lines, [], []⟩
def d_Net_into : He.DefD := ⟨("Net", some "into"), "into", "Net.into", defArgs s_Net_into, defBody s_Net_into, defScope s_Net_into, [], []⟩
def d_Net_out_of : He.DefD := ⟨("Net", some "out_of"), "out_of", "Net.out_of", defArgs s_Net_out_of, defBody s_Net_out_of, defScope s_Net_out_of, [], []⟩
def d_Net_ends : He.DefD := ⟨("Net", some "ends"), "ends", "Net.ends", defArgs s_Net_ends, defBody s_Net_ends, defScope s_Net_ends, [], []⟩
def d_Net_told_order : He.DefD := ⟨("Net", some "told_order"), "told_order", "Net.told_order", defArgs s_Net_told_order, defBody s_Net_told_order, defScope s_Net_told_order, [], []⟩
def d_Net_ring : He.DefD := ⟨("Net", some "ring"), "ring", "Net.ring", defArgs s_Net_ring, defBody s_Net_ring, defScope s_Net_ring, [], []⟩
def d_Net_order : He.DefD := ⟨("Net", some "order"), "order", "Net.order", defArgs s_Net_order, defBody s_Net_order, defScope s_Net_order, [], []⟩
def d_Net_twin : He.DefD := ⟨("Net", some "twin"), "twin", "Net.twin", defArgs s_Net_twin, defBody s_Net_twin, defScope s_Net_twin, [], []⟩
def d_Field_init : He.DefD := ⟨("Field", some "__init__"), "__init__", "Field.__init__", defArgs s_Field_init, defBody s_Field_init, defScope s_Field_init, [.int 16], []⟩
def d_Field_has : He.DefD := ⟨("Field", some "has"), "has", "Field.has", defArgs s_Field_has, defBody s_Field_has, defScope s_Field_has, [], []⟩
def d_Field_figures : He.DefD := ⟨("Field", some "figures"), "figures", "Field.figures", defArgs s_Field_figures, defBody s_Field_figures, defScope s_Field_figures, [], []⟩
def d_Field_composed : He.DefD := ⟨("Field", some "composed"), "composed", "Field.composed", defArgs s_Field_composed, defBody s_Field_composed, defScope s_Field_composed, [], []⟩
def d_Field_added : He.DefD := ⟨("Field", some "added"), "added", "Field.added", defArgs s_Field_added, defBody s_Field_added, defScope s_Field_added, [], []⟩
def d_Field_product : He.DefD := ⟨("Field", some "product"), "product", "Field.product", defArgs s_Field_product, defBody s_Field_product, defScope s_Field_product, [], []⟩
def d_Field_inverse : He.DefD := ⟨("Field", some "inverse"), "inverse", "Field.inverse", defArgs s_Field_inverse, defBody s_Field_inverse, defScope s_Field_inverse, [], []⟩
def d_Field_needs_row : He.DefD := ⟨("Field", some "needs_row"), "needs_row", "Field.needs_row", defArgs s_Field_needs_row, defBody s_Field_needs_row, defScope s_Field_needs_row, [], []⟩
def d_Field_scaled : He.DefD := ⟨("Field", some "scaled"), "scaled", "Field.scaled", defArgs s_Field_scaled, defBody s_Field_scaled, defScope s_Field_scaled, [], []⟩
def d_Field_joined : He.DefD := ⟨("Field", some "joined"), "joined", "Field.joined", defArgs s_Field_joined, defBody s_Field_joined, defScope s_Field_joined, [.int 1], []⟩
def d_Field_blend : He.DefD := ⟨("Field", some "blend"), "blend", "Field.blend", defArgs s_Field_blend, defBody s_Field_blend, defScope s_Field_blend, [], []⟩
def d_Task_init : He.DefD := ⟨("Task", some "__init__"), "__init__", "Task.__init__", defArgs s_Task_init, defBody s_Task_init, defScope s_Task_init, [], [("letters", .int 2), ("size", .int 16)]⟩
def d_Task_net : He.DefD := ⟨("Task", some "net"), "net", "Task.net", defArgs s_Task_net, defBody s_Task_net, defScope s_Task_net, [], []⟩
def d_Task_letters : He.DefD := ⟨("Task", some "letters"), "letters", "Task.letters", defArgs s_Task_letters, defBody s_Task_letters, defScope s_Task_letters, [], []⟩
def d_Task_field : He.DefD := ⟨("Task", some "field"), "field", "Task.field", defArgs s_Task_field, defBody s_Task_field, defScope s_Task_field, [], []⟩
def d_Task_cases : He.DefD := ⟨("Task", some "cases"), "cases", "Task.cases", defArgs s_Task_cases, defBody s_Task_cases, defScope s_Task_cases, [], []⟩
def d_Task_line_order : He.DefD := ⟨("Task", some "line_order"), "line_order", "Task.line_order", defArgs s_Task_line_order, defBody s_Task_line_order, defScope s_Task_line_order, [], []⟩
def d_Task_fed_by : He.DefD := ⟨("Task", some "fed_by"), "fed_by", "Task.fed_by", defArgs s_Task_fed_by, defBody s_Task_fed_by, defScope s_Task_fed_by, [], []⟩
def d_Task_inputs : He.DefD := ⟨("Task", some "inputs"), "inputs", "Task.inputs", defArgs s_Task_inputs, defBody s_Task_inputs, defScope s_Task_inputs, [], []⟩
def fnA : List He.DefD := [d_first_place, d_need_lost, d_unit, d_run_through, d_need_name, d_grown, d_need_letters, d_is_loss, d_need_losses, d_L_added, d_L_alike, d_L_ask, d_L_bag, d_L_fed, d_L_gone, d_L_inputs, d_L_mixers, d_L_names, d_L_order_drawn, d_L_pick, d_L_plain_net, d_L_pull, d_L_raised, d_L_root, d_L_scaled, d_L_size, d_L_task, d_L_times, d_L_unit, d_L_whole, d_L_world, d_law, d_Span_init, d_Span_len, d_Span_lowered, d_Span_put, d_Plan_init, d_Plan_heads_under, d_Plan_heads, d_Plan_heard]
def fnB : List He.DefD := [d_Plan_bad_cases, d_Plan_good, d_Net_init, d_Net_need_house, d_Net_need_line, d_Net_house, d_Net_line, d_Net_houses, d_Net_numbers, d_Net_lines, d_Net_into, d_Net_out_of, d_Net_ends, d_Net_told_order, d_Net_ring, d_Net_order, d_Net_twin, d_Field_init, d_Field_has, d_Field_figures, d_Field_composed, d_Field_added, d_Field_product, d_Field_inverse, d_Field_needs_row, d_Field_scaled, d_Field_joined, d_Field_blend, d_Task_init, d_Task_net, d_Task_letters, d_Task_field, d_Task_cases, d_Task_line_order, d_Task_fed_by, d_Task_inputs]
def fn : List He.DefD := fnA ++ fnB
def fa0 : List He.Fa := [.glo "first_place", .glo "need_lost", .glo "unit", .glo "run_through", .glo "need_name", .glo "grown", .glo "need_letters", .glo "is_loss", .glo "need_losses", .glo "_law_added", .glo "_law_alike", .glo "_law_ask", .glo "_law_bag", .glo "_law_fed", .glo "_law_gone", .glo "_law_inputs"]
def fa1 : List He.Fa := [.glo "_law_mixers", .glo "_law_names", .glo "_law_order_drawn", .glo "_law_pick", .glo "_law_plain_net", .glo "_law_pull", .glo "_law_raised", .glo "_law_root", .glo "_law_scaled", .glo "_law_size", .glo "_law_task", .glo "_law_times", .glo "_law_unit", .glo "_law_whole", .glo "_law_world", .glo "law"]
def fa2 : List He.Fa := [.glo "Span", .cls "Span", .mkr "Span", .noat "Span" "field_of", .noat "Span" "width", .noat "Span" "lead_rows", .noat "Span" "many", .meth "Span" "__len__", .meth "Span" "lowered", .meth "Span" "put", .glo "Plan", .cls "Plan", .mkr "Plan", .noat "Plan" "asked", .noat "Plan" "own_mixers", .meth "Plan" "heads_under"]
def fa3 : List He.Fa := [.meth "Plan" "heads", .meth "Plan" "heard", .meth "Plan" "bad_cases", .meth "Plan" "good", .glo "Net", .cls "Net", .mkr "Net", .noat "Net" "named", .noat "Net" "roads", .meth "Net" "need_house", .meth "Net" "need_line", .meth "Net" "house", .meth "Net" "line", .meth "Net" "houses", .meth "Net" "numbers", .meth "Net" "lines"]
def fa4 : List He.Fa := [.meth "Net" "into", .meth "Net" "out_of", .meth "Net" "ends", .meth "Net" "told_order", .meth "Net" "ring", .meth "Net" "order", .meth "Net" "twin", .glo "Field", .cls "Field", .mkr "Field", .noat "Field" "many", .noat "Field" "prime", .noat "Field" "places", .meth "Field" "has", .meth "Field" "figures", .meth "Field" "composed"]
def fa5 : List He.Fa := [.meth "Field" "added", .meth "Field" "product", .meth "Field" "inverse", .meth "Field" "needs_row", .meth "Field" "scaled", .meth "Field" "joined", .meth "Field" "blend", .glo "Task", .cls "Task", .mkr "Task", .noat "Task" "rank_of", .noat "Task" "field_of", .noat "Task" "web", .noat "Task" "start", .noat "Task" "ears", .noat "Task" "many"]
def fa6 : List He.Fa := [.noat "Task" "gone", .meth "Task" "net", .meth "Task" "letters", .meth "Task" "field", .meth "Task" "cases", .meth "Task" "line_order", .meth "Task" "fed_by", .meth "Task" "inputs", .glo "SIZES", .glo "BASES", .glo "RULES", .free "len", .free "range", .free "all", .free "sorted", .free "list"]
def fa7 : List He.Fa := [.free "tuple", .free "dict", .free "set", .free "zip", .free "enumerate", .free "reversed", .free "divmod", .free "max", .free "min", .free "abs", .free "int", .free "isinstance", .free "bool", .free "str", .int "LONGEST" 6, .int "MOST_HOUSES" 12]
def fa8 : List He.Fa := [.int "MOST_LINES" 30, .int "MOST_NUMBER" 99, .int "MOST_SLOW" 4, .int "COMMON_SIZE" 16, .int "MOST_HEARERS" 4, .int "MOST_LETTERS" 4, .int "MOST_LOSSES" 3, .str "LETTERS" "abcdefghijklmnopqrstuvwxyz"]
def fa : List He.Fa := fa0 ++ (fa1 ++ (fa2 ++ (fa3 ++ (fa4 ++ (fa5 ++ (fa6 ++ (fa7 ++ (fa8))))))))
def nm0 : List PySem.Str := ["_wall", "__name__", "MingleError", "BadSize", "BadNumber", "BadRow", "BadName", "BadLine", "BadHearers", "BadLoss", "BadPlan", "Ringed", "Unsolved", "Missing", "NoHouse", "NoLine"]
def nm1 : List PySem.Str := ["Busy", "Taken", "Full", "first_place", "Span", "need_lost", "need_words", "unit", "run_through", "Plan", "LETTERS", "LONGEST", "MOST_HOUSES", "MOST_LINES", "MOST_NUMBER", "MOST_SLOW"]
def nm2 : List PySem.Str := ["need_name", "Net", "SIZES", "COMMON_SIZE", "BASES", "RULES", "grown", "Field", "MOST_HEARERS", "MOST_LETTERS", "MOST_LOSSES", "need_letters", "is_loss", "need_losses", "Task", "_law_added"]
def nm3 : List PySem.Str := ["_law_alike", "_law_ask", "_law_bag", "_law_fed", "_law_gone", "_law_inputs", "_law_mixers", "_law_names", "_law_order_drawn", "_law_pick", "_law_plain_net", "_law_pull", "_law_raised", "_law_root", "_law_scaled", "_law_size"]
def nm4 : List PySem.Str := ["_law_task", "_law_times", "_law_unit", "_law_whole", "_law_world"]
def names : List PySem.Str := nm0 ++ (nm1 ++ (nm2 ++ (nm3 ++ (nm4))))
end Mg
namespace Mg
open PySem PySem.Spec PyProof.Rows L2
/-- what is known of the written part -/
structure Says (K : PySem.W.Frag) (mg : Str → Option Value) : Prop where
  fact : ∀ (i : Nat) {f : He.Fa}, fa[i]? = some f → f.ok K = true
  defs : ∀ (i : Nat) {d : He.DefD}, fn[i]? = some d → ∃ fd, FunD K d.name d.qual d.params d.body d.scope (d.dvs K) (d.kws K) (He.fAd K d.at_) fd
  glo : ∀ {x : Str}, (He.Fa.glo x).ok K = true → mg x = some (.ref (He.ga K x))
  free : ∀ {x : Str}, (He.Fa.free x).ok K = true → mg x = none
  int : ∀ {x : Str} {i : Int}, (He.Fa.int x i).ok K = true → ∃ t, mg x = some (.int i t)
  str : ∀ {x z : Str}, (He.Fa.str x z).ok K = true → ∃ t, mg x = some (.str z t)
  more : ex K = true
theorem Says.of {K : PySem.W.Frag} {h : Heap} {mg : Str → Option Value} (X : K.In h) (G : h.Ns mainGlobals mg) (c : He.SaysD fa fn K) (m : ex K = true) : Says K mg :=
  ⟨fun i {f} e => c.fact i (f := f) e, fun i {d} e => c.def_ i (d := d) e, fun e => He.glo_ok X G e, fun e => He.free_ok X G e, fun e => He.int_ok X G e, fun e => He.str_ok X G e, m⟩
section
variable {K : PySem.W.Frag} {mg : Str → Option Value} (S : Says K mg)
include S
theorem g_first_place : mg "first_place" = some (.ref (He.ga K "first_place")) := S.glo (S.fact 0 rfl)
theorem g_need_lost : mg "need_lost" = some (.ref (He.ga K "need_lost")) := S.glo (S.fact 1 rfl)
theorem g_unit : mg "unit" = some (.ref (He.ga K "unit")) := S.glo (S.fact 2 rfl)
theorem g_run_through : mg "run_through" = some (.ref (He.ga K "run_through")) := S.glo (S.fact 3 rfl)
theorem g_need_name : mg "need_name" = some (.ref (He.ga K "need_name")) := S.glo (S.fact 4 rfl)
theorem g_grown : mg "grown" = some (.ref (He.ga K "grown")) := S.glo (S.fact 5 rfl)
theorem g_need_letters : mg "need_letters" = some (.ref (He.ga K "need_letters")) := S.glo (S.fact 6 rfl)
theorem g_is_loss : mg "is_loss" = some (.ref (He.ga K "is_loss")) := S.glo (S.fact 7 rfl)
theorem g_need_losses : mg "need_losses" = some (.ref (He.ga K "need_losses")) := S.glo (S.fact 8 rfl)
theorem g_L_added : mg "_law_added" = some (.ref (He.ga K "_law_added")) := S.glo (S.fact 9 rfl)
theorem g_L_alike : mg "_law_alike" = some (.ref (He.ga K "_law_alike")) := S.glo (S.fact 10 rfl)
theorem g_L_ask : mg "_law_ask" = some (.ref (He.ga K "_law_ask")) := S.glo (S.fact 11 rfl)
theorem g_L_bag : mg "_law_bag" = some (.ref (He.ga K "_law_bag")) := S.glo (S.fact 12 rfl)
theorem g_L_fed : mg "_law_fed" = some (.ref (He.ga K "_law_fed")) := S.glo (S.fact 13 rfl)
theorem g_L_gone : mg "_law_gone" = some (.ref (He.ga K "_law_gone")) := S.glo (S.fact 14 rfl)
theorem g_L_inputs : mg "_law_inputs" = some (.ref (He.ga K "_law_inputs")) := S.glo (S.fact 15 rfl)
theorem g_L_mixers : mg "_law_mixers" = some (.ref (He.ga K "_law_mixers")) := S.glo (S.fact 16 rfl)
theorem g_L_names : mg "_law_names" = some (.ref (He.ga K "_law_names")) := S.glo (S.fact 17 rfl)
theorem g_L_order_drawn : mg "_law_order_drawn" = some (.ref (He.ga K "_law_order_drawn")) := S.glo (S.fact 18 rfl)
theorem g_L_pick : mg "_law_pick" = some (.ref (He.ga K "_law_pick")) := S.glo (S.fact 19 rfl)
theorem g_L_plain_net : mg "_law_plain_net" = some (.ref (He.ga K "_law_plain_net")) := S.glo (S.fact 20 rfl)
theorem g_L_pull : mg "_law_pull" = some (.ref (He.ga K "_law_pull")) := S.glo (S.fact 21 rfl)
theorem g_L_raised : mg "_law_raised" = some (.ref (He.ga K "_law_raised")) := S.glo (S.fact 22 rfl)
theorem g_L_root : mg "_law_root" = some (.ref (He.ga K "_law_root")) := S.glo (S.fact 23 rfl)
theorem g_L_scaled : mg "_law_scaled" = some (.ref (He.ga K "_law_scaled")) := S.glo (S.fact 24 rfl)
theorem g_L_size : mg "_law_size" = some (.ref (He.ga K "_law_size")) := S.glo (S.fact 25 rfl)
theorem g_L_task : mg "_law_task" = some (.ref (He.ga K "_law_task")) := S.glo (S.fact 26 rfl)
theorem g_L_times : mg "_law_times" = some (.ref (He.ga K "_law_times")) := S.glo (S.fact 27 rfl)
theorem g_L_unit : mg "_law_unit" = some (.ref (He.ga K "_law_unit")) := S.glo (S.fact 28 rfl)
theorem g_L_whole : mg "_law_whole" = some (.ref (He.ga K "_law_whole")) := S.glo (S.fact 29 rfl)
theorem g_L_world : mg "_law_world" = some (.ref (He.ga K "_law_world")) := S.glo (S.fact 30 rfl)
theorem g_law : mg "law" = some (.ref (He.ga K "law")) := S.glo (S.fact 31 rfl)
theorem g_Span : mg "Span" = some (.ref (He.ga K "Span")) := S.glo (S.fact 32 rfl)
theorem c_Span : Cls K (He.ga K "Span") := He.cls_ok (S.fact 33 rfl)
theorem k_Span : Mk K (He.ga K "Span") (He.ma K (He.ga K "Span") "__init__") := He.mkr_ok (S.fact 34 rfl)
theorem a_Span_field_of : NoAttr K (He.ga K "Span") "field_of" := He.noat_ok (S.fact 35 rfl)
theorem a_Span_width : NoAttr K (He.ga K "Span") "width" := He.noat_ok (S.fact 36 rfl)
theorem a_Span_lead_rows : NoAttr K (He.ga K "Span") "lead_rows" := He.noat_ok (S.fact 37 rfl)
theorem a_Span_many : NoAttr K (He.ga K "Span") "many" := He.noat_ok (S.fact 38 rfl)
theorem m_Span_len : Meth K (He.ga K "Span") "__len__" (He.ma K (He.ga K "Span") "__len__") := He.meth_ok (S.fact 39 rfl)
theorem m_Span_lowered : Meth K (He.ga K "Span") "lowered" (He.ma K (He.ga K "Span") "lowered") := He.meth_ok (S.fact 40 rfl)
theorem m_Span_put : Meth K (He.ga K "Span") "put" (He.ma K (He.ga K "Span") "put") := He.meth_ok (S.fact 41 rfl)
theorem g_Plan : mg "Plan" = some (.ref (He.ga K "Plan")) := S.glo (S.fact 42 rfl)
theorem c_Plan : Cls K (He.ga K "Plan") := He.cls_ok (S.fact 43 rfl)
theorem k_Plan : Mk K (He.ga K "Plan") (He.ma K (He.ga K "Plan") "__init__") := He.mkr_ok (S.fact 44 rfl)
theorem a_Plan_asked : NoAttr K (He.ga K "Plan") "asked" := He.noat_ok (S.fact 45 rfl)
theorem a_Plan_own_mixers : NoAttr K (He.ga K "Plan") "own_mixers" := He.noat_ok (S.fact 46 rfl)
theorem m_Plan_heads_under : Meth K (He.ga K "Plan") "heads_under" (He.ma K (He.ga K "Plan") "heads_under") := He.meth_ok (S.fact 47 rfl)
theorem m_Plan_heads : Meth K (He.ga K "Plan") "heads" (He.ma K (He.ga K "Plan") "heads") := He.meth_ok (S.fact 48 rfl)
theorem m_Plan_heard : Meth K (He.ga K "Plan") "heard" (He.ma K (He.ga K "Plan") "heard") := He.meth_ok (S.fact 49 rfl)
theorem m_Plan_bad_cases : Meth K (He.ga K "Plan") "bad_cases" (He.ma K (He.ga K "Plan") "bad_cases") := He.meth_ok (S.fact 50 rfl)
theorem m_Plan_good : Meth K (He.ga K "Plan") "good" (He.ma K (He.ga K "Plan") "good") := He.meth_ok (S.fact 51 rfl)
theorem g_Net : mg "Net" = some (.ref (He.ga K "Net")) := S.glo (S.fact 52 rfl)
theorem c_Net : Cls K (He.ga K "Net") := He.cls_ok (S.fact 53 rfl)
theorem k_Net : Mk K (He.ga K "Net") (He.ma K (He.ga K "Net") "__init__") := He.mkr_ok (S.fact 54 rfl)
theorem a_Net_named : NoAttr K (He.ga K "Net") "named" := He.noat_ok (S.fact 55 rfl)
theorem a_Net_roads : NoAttr K (He.ga K "Net") "roads" := He.noat_ok (S.fact 56 rfl)
theorem m_Net_need_house : Meth K (He.ga K "Net") "need_house" (He.ma K (He.ga K "Net") "need_house") := He.meth_ok (S.fact 57 rfl)
theorem m_Net_need_line : Meth K (He.ga K "Net") "need_line" (He.ma K (He.ga K "Net") "need_line") := He.meth_ok (S.fact 58 rfl)
theorem m_Net_house : Meth K (He.ga K "Net") "house" (He.ma K (He.ga K "Net") "house") := He.meth_ok (S.fact 59 rfl)
theorem m_Net_line : Meth K (He.ga K "Net") "line" (He.ma K (He.ga K "Net") "line") := He.meth_ok (S.fact 60 rfl)
theorem m_Net_houses : Meth K (He.ga K "Net") "houses" (He.ma K (He.ga K "Net") "houses") := He.meth_ok (S.fact 61 rfl)
theorem m_Net_numbers : Meth K (He.ga K "Net") "numbers" (He.ma K (He.ga K "Net") "numbers") := He.meth_ok (S.fact 62 rfl)
theorem m_Net_lines : Meth K (He.ga K "Net") "lines" (He.ma K (He.ga K "Net") "lines") := He.meth_ok (S.fact 63 rfl)
theorem m_Net_into : Meth K (He.ga K "Net") "into" (He.ma K (He.ga K "Net") "into") := He.meth_ok (S.fact 64 rfl)
theorem m_Net_out_of : Meth K (He.ga K "Net") "out_of" (He.ma K (He.ga K "Net") "out_of") := He.meth_ok (S.fact 65 rfl)
theorem m_Net_ends : Meth K (He.ga K "Net") "ends" (He.ma K (He.ga K "Net") "ends") := He.meth_ok (S.fact 66 rfl)
theorem m_Net_told_order : Meth K (He.ga K "Net") "told_order" (He.ma K (He.ga K "Net") "told_order") := He.meth_ok (S.fact 67 rfl)
theorem m_Net_ring : Meth K (He.ga K "Net") "ring" (He.ma K (He.ga K "Net") "ring") := He.meth_ok (S.fact 68 rfl)
theorem m_Net_order : Meth K (He.ga K "Net") "order" (He.ma K (He.ga K "Net") "order") := He.meth_ok (S.fact 69 rfl)
theorem m_Net_twin : Meth K (He.ga K "Net") "twin" (He.ma K (He.ga K "Net") "twin") := He.meth_ok (S.fact 70 rfl)
theorem g_Field : mg "Field" = some (.ref (He.ga K "Field")) := S.glo (S.fact 71 rfl)
theorem c_Field : Cls K (He.ga K "Field") := He.cls_ok (S.fact 72 rfl)
theorem k_Field : Mk K (He.ga K "Field") (He.ma K (He.ga K "Field") "__init__") := He.mkr_ok (S.fact 73 rfl)
theorem a_Field_many : NoAttr K (He.ga K "Field") "many" := He.noat_ok (S.fact 74 rfl)
theorem a_Field_prime : NoAttr K (He.ga K "Field") "prime" := He.noat_ok (S.fact 75 rfl)
theorem a_Field_places : NoAttr K (He.ga K "Field") "places" := He.noat_ok (S.fact 76 rfl)
theorem m_Field_has : Meth K (He.ga K "Field") "has" (He.ma K (He.ga K "Field") "has") := He.meth_ok (S.fact 77 rfl)
theorem m_Field_figures : Meth K (He.ga K "Field") "figures" (He.ma K (He.ga K "Field") "figures") := He.meth_ok (S.fact 78 rfl)
theorem m_Field_composed : Meth K (He.ga K "Field") "composed" (He.ma K (He.ga K "Field") "composed") := He.meth_ok (S.fact 79 rfl)
theorem m_Field_added : Meth K (He.ga K "Field") "added" (He.ma K (He.ga K "Field") "added") := He.meth_ok (S.fact 80 rfl)
theorem m_Field_product : Meth K (He.ga K "Field") "product" (He.ma K (He.ga K "Field") "product") := He.meth_ok (S.fact 81 rfl)
theorem m_Field_inverse : Meth K (He.ga K "Field") "inverse" (He.ma K (He.ga K "Field") "inverse") := He.meth_ok (S.fact 82 rfl)
theorem m_Field_needs_row : Meth K (He.ga K "Field") "needs_row" (He.ma K (He.ga K "Field") "needs_row") := He.meth_ok (S.fact 83 rfl)
theorem m_Field_scaled : Meth K (He.ga K "Field") "scaled" (He.ma K (He.ga K "Field") "scaled") := He.meth_ok (S.fact 84 rfl)
theorem m_Field_joined : Meth K (He.ga K "Field") "joined" (He.ma K (He.ga K "Field") "joined") := He.meth_ok (S.fact 85 rfl)
theorem m_Field_blend : Meth K (He.ga K "Field") "blend" (He.ma K (He.ga K "Field") "blend") := He.meth_ok (S.fact 86 rfl)
theorem g_Task : mg "Task" = some (.ref (He.ga K "Task")) := S.glo (S.fact 87 rfl)
theorem c_Task : Cls K (He.ga K "Task") := He.cls_ok (S.fact 88 rfl)
theorem k_Task : Mk K (He.ga K "Task") (He.ma K (He.ga K "Task") "__init__") := He.mkr_ok (S.fact 89 rfl)
theorem a_Task_rank_of : NoAttr K (He.ga K "Task") "rank_of" := He.noat_ok (S.fact 90 rfl)
theorem a_Task_field_of : NoAttr K (He.ga K "Task") "field_of" := He.noat_ok (S.fact 91 rfl)
theorem a_Task_web : NoAttr K (He.ga K "Task") "web" := He.noat_ok (S.fact 92 rfl)
theorem a_Task_start : NoAttr K (He.ga K "Task") "start" := He.noat_ok (S.fact 93 rfl)
theorem a_Task_ears : NoAttr K (He.ga K "Task") "ears" := He.noat_ok (S.fact 94 rfl)
theorem a_Task_many : NoAttr K (He.ga K "Task") "many" := He.noat_ok (S.fact 95 rfl)
theorem a_Task_gone : NoAttr K (He.ga K "Task") "gone" := He.noat_ok (S.fact 96 rfl)
theorem m_Task_net : Meth K (He.ga K "Task") "net" (He.ma K (He.ga K "Task") "net") := He.meth_ok (S.fact 97 rfl)
theorem m_Task_letters : Meth K (He.ga K "Task") "letters" (He.ma K (He.ga K "Task") "letters") := He.meth_ok (S.fact 98 rfl)
theorem m_Task_field : Meth K (He.ga K "Task") "field" (He.ma K (He.ga K "Task") "field") := He.meth_ok (S.fact 99 rfl)
theorem m_Task_cases : Meth K (He.ga K "Task") "cases" (He.ma K (He.ga K "Task") "cases") := He.meth_ok (S.fact 100 rfl)
theorem m_Task_line_order : Meth K (He.ga K "Task") "line_order" (He.ma K (He.ga K "Task") "line_order") := He.meth_ok (S.fact 101 rfl)
theorem m_Task_fed_by : Meth K (He.ga K "Task") "fed_by" (He.ma K (He.ga K "Task") "fed_by") := He.meth_ok (S.fact 102 rfl)
theorem m_Task_inputs : Meth K (He.ga K "Task") "inputs" (He.ma K (He.ga K "Task") "inputs") := He.meth_ok (S.fact 103 rfl)
theorem g_SIZES : mg "SIZES" = some (.ref (He.ga K "SIZES")) := S.glo (S.fact 104 rfl)
theorem g_BASES : mg "BASES" = some (.ref (He.ga K "BASES")) := S.glo (S.fact 105 rfl)
theorem g_RULES : mg "RULES" = some (.ref (He.ga K "RULES")) := S.glo (S.fact 106 rfl)
theorem n_len : mg "len" = none := S.free (S.fact 107 rfl)
theorem n_range : mg "range" = none := S.free (S.fact 108 rfl)
theorem n_all : mg "all" = none := S.free (S.fact 109 rfl)
theorem n_sorted : mg "sorted" = none := S.free (S.fact 110 rfl)
theorem n_list : mg "list" = none := S.free (S.fact 111 rfl)
theorem n_tuple : mg "tuple" = none := S.free (S.fact 112 rfl)
theorem n_dict : mg "dict" = none := S.free (S.fact 113 rfl)
theorem n_set : mg "set" = none := S.free (S.fact 114 rfl)
theorem n_zip : mg "zip" = none := S.free (S.fact 115 rfl)
theorem n_enumerate : mg "enumerate" = none := S.free (S.fact 116 rfl)
theorem n_reversed : mg "reversed" = none := S.free (S.fact 117 rfl)
theorem n_divmod : mg "divmod" = none := S.free (S.fact 118 rfl)
theorem n_max : mg "max" = none := S.free (S.fact 119 rfl)
theorem n_min : mg "min" = none := S.free (S.fact 120 rfl)
theorem n_abs : mg "abs" = none := S.free (S.fact 121 rfl)
theorem n_int : mg "int" = none := S.free (S.fact 122 rfl)
theorem n_isinstance : mg "isinstance" = none := S.free (S.fact 123 rfl)
theorem n_bool : mg "bool" = none := S.free (S.fact 124 rfl)
theorem n_str : mg "str" = none := S.free (S.fact 125 rfl)
theorem i_LONGEST : ∃ t, mg "LONGEST" = some (.int 6 t) := S.int (S.fact 126 rfl)
theorem i_MOST_HOUSES : ∃ t, mg "MOST_HOUSES" = some (.int 12 t) := S.int (S.fact 127 rfl)
theorem i_MOST_LINES : ∃ t, mg "MOST_LINES" = some (.int 30 t) := S.int (S.fact 128 rfl)
theorem i_MOST_NUMBER : ∃ t, mg "MOST_NUMBER" = some (.int 99 t) := S.int (S.fact 129 rfl)
theorem i_MOST_SLOW : ∃ t, mg "MOST_SLOW" = some (.int 4 t) := S.int (S.fact 130 rfl)
theorem i_COMMON_SIZE : ∃ t, mg "COMMON_SIZE" = some (.int 16 t) := S.int (S.fact 131 rfl)
theorem i_MOST_HEARERS : ∃ t, mg "MOST_HEARERS" = some (.int 4 t) := S.int (S.fact 132 rfl)
theorem i_MOST_LETTERS : ∃ t, mg "MOST_LETTERS" = some (.int 4 t) := S.int (S.fact 133 rfl)
theorem i_MOST_LOSSES : ∃ t, mg "MOST_LOSSES" = some (.int 3 t) := S.int (S.fact 134 rfl)
theorem i_LETTERS : ∃ t, mg "LETTERS" = some (.str "abcdefghijklmnopqrstuvwxyz" t) := S.str (S.fact 135 rfl)
theorem f_first_place : ∃ fd, FunD K d_first_place.name d_first_place.qual d_first_place.params d_first_place.body d_first_place.scope (d_first_place.dvs K) (d_first_place.kws K) (He.fAd K d_first_place.at_) fd := S.defs 0 rfl
theorem f_need_lost : ∃ fd, FunD K d_need_lost.name d_need_lost.qual d_need_lost.params d_need_lost.body d_need_lost.scope (d_need_lost.dvs K) (d_need_lost.kws K) (He.fAd K d_need_lost.at_) fd := S.defs 1 rfl
theorem f_unit : ∃ fd, FunD K d_unit.name d_unit.qual d_unit.params d_unit.body d_unit.scope (d_unit.dvs K) (d_unit.kws K) (He.fAd K d_unit.at_) fd := S.defs 2 rfl
theorem f_run_through : ∃ fd, FunD K d_run_through.name d_run_through.qual d_run_through.params d_run_through.body d_run_through.scope (d_run_through.dvs K) (d_run_through.kws K) (He.fAd K d_run_through.at_) fd := S.defs 3 rfl
theorem f_need_name : ∃ fd, FunD K d_need_name.name d_need_name.qual d_need_name.params d_need_name.body d_need_name.scope (d_need_name.dvs K) (d_need_name.kws K) (He.fAd K d_need_name.at_) fd := S.defs 4 rfl
theorem f_grown : ∃ fd, FunD K d_grown.name d_grown.qual d_grown.params d_grown.body d_grown.scope (d_grown.dvs K) (d_grown.kws K) (He.fAd K d_grown.at_) fd := S.defs 5 rfl
theorem f_need_letters : ∃ fd, FunD K d_need_letters.name d_need_letters.qual d_need_letters.params d_need_letters.body d_need_letters.scope (d_need_letters.dvs K) (d_need_letters.kws K) (He.fAd K d_need_letters.at_) fd := S.defs 6 rfl
theorem f_is_loss : ∃ fd, FunD K d_is_loss.name d_is_loss.qual d_is_loss.params d_is_loss.body d_is_loss.scope (d_is_loss.dvs K) (d_is_loss.kws K) (He.fAd K d_is_loss.at_) fd := S.defs 7 rfl
theorem f_need_losses : ∃ fd, FunD K d_need_losses.name d_need_losses.qual d_need_losses.params d_need_losses.body d_need_losses.scope (d_need_losses.dvs K) (d_need_losses.kws K) (He.fAd K d_need_losses.at_) fd := S.defs 8 rfl
theorem f_L_added : ∃ fd, FunD K d_L_added.name d_L_added.qual d_L_added.params d_L_added.body d_L_added.scope (d_L_added.dvs K) (d_L_added.kws K) (He.fAd K d_L_added.at_) fd := S.defs 9 rfl
theorem f_L_alike : ∃ fd, FunD K d_L_alike.name d_L_alike.qual d_L_alike.params d_L_alike.body d_L_alike.scope (d_L_alike.dvs K) (d_L_alike.kws K) (He.fAd K d_L_alike.at_) fd := S.defs 10 rfl
theorem f_L_ask : ∃ fd, FunD K d_L_ask.name d_L_ask.qual d_L_ask.params d_L_ask.body d_L_ask.scope (d_L_ask.dvs K) (d_L_ask.kws K) (He.fAd K d_L_ask.at_) fd := S.defs 11 rfl
theorem f_L_bag : ∃ fd, FunD K d_L_bag.name d_L_bag.qual d_L_bag.params d_L_bag.body d_L_bag.scope (d_L_bag.dvs K) (d_L_bag.kws K) (He.fAd K d_L_bag.at_) fd := S.defs 12 rfl
theorem f_L_fed : ∃ fd, FunD K d_L_fed.name d_L_fed.qual d_L_fed.params d_L_fed.body d_L_fed.scope (d_L_fed.dvs K) (d_L_fed.kws K) (He.fAd K d_L_fed.at_) fd := S.defs 13 rfl
theorem f_L_gone : ∃ fd, FunD K d_L_gone.name d_L_gone.qual d_L_gone.params d_L_gone.body d_L_gone.scope (d_L_gone.dvs K) (d_L_gone.kws K) (He.fAd K d_L_gone.at_) fd := S.defs 14 rfl
theorem f_L_inputs : ∃ fd, FunD K d_L_inputs.name d_L_inputs.qual d_L_inputs.params d_L_inputs.body d_L_inputs.scope (d_L_inputs.dvs K) (d_L_inputs.kws K) (He.fAd K d_L_inputs.at_) fd := S.defs 15 rfl
theorem f_L_mixers : ∃ fd, FunD K d_L_mixers.name d_L_mixers.qual d_L_mixers.params d_L_mixers.body d_L_mixers.scope (d_L_mixers.dvs K) (d_L_mixers.kws K) (He.fAd K d_L_mixers.at_) fd := S.defs 16 rfl
theorem f_L_names : ∃ fd, FunD K d_L_names.name d_L_names.qual d_L_names.params d_L_names.body d_L_names.scope (d_L_names.dvs K) (d_L_names.kws K) (He.fAd K d_L_names.at_) fd := S.defs 17 rfl
theorem f_L_order_drawn : ∃ fd, FunD K d_L_order_drawn.name d_L_order_drawn.qual d_L_order_drawn.params d_L_order_drawn.body d_L_order_drawn.scope (d_L_order_drawn.dvs K) (d_L_order_drawn.kws K) (He.fAd K d_L_order_drawn.at_) fd := S.defs 18 rfl
theorem f_L_pick : ∃ fd, FunD K d_L_pick.name d_L_pick.qual d_L_pick.params d_L_pick.body d_L_pick.scope (d_L_pick.dvs K) (d_L_pick.kws K) (He.fAd K d_L_pick.at_) fd := S.defs 19 rfl
theorem f_L_plain_net : ∃ fd, FunD K d_L_plain_net.name d_L_plain_net.qual d_L_plain_net.params d_L_plain_net.body d_L_plain_net.scope (d_L_plain_net.dvs K) (d_L_plain_net.kws K) (He.fAd K d_L_plain_net.at_) fd := S.defs 20 rfl
theorem f_L_pull : ∃ fd, FunD K d_L_pull.name d_L_pull.qual d_L_pull.params d_L_pull.body d_L_pull.scope (d_L_pull.dvs K) (d_L_pull.kws K) (He.fAd K d_L_pull.at_) fd := S.defs 21 rfl
theorem f_L_raised : ∃ fd, FunD K d_L_raised.name d_L_raised.qual d_L_raised.params d_L_raised.body d_L_raised.scope (d_L_raised.dvs K) (d_L_raised.kws K) (He.fAd K d_L_raised.at_) fd := S.defs 22 rfl
theorem f_L_root : ∃ fd, FunD K d_L_root.name d_L_root.qual d_L_root.params d_L_root.body d_L_root.scope (d_L_root.dvs K) (d_L_root.kws K) (He.fAd K d_L_root.at_) fd := S.defs 23 rfl
theorem f_L_scaled : ∃ fd, FunD K d_L_scaled.name d_L_scaled.qual d_L_scaled.params d_L_scaled.body d_L_scaled.scope (d_L_scaled.dvs K) (d_L_scaled.kws K) (He.fAd K d_L_scaled.at_) fd := S.defs 24 rfl
theorem f_L_size : ∃ fd, FunD K d_L_size.name d_L_size.qual d_L_size.params d_L_size.body d_L_size.scope (d_L_size.dvs K) (d_L_size.kws K) (He.fAd K d_L_size.at_) fd := S.defs 25 rfl
theorem f_L_task : ∃ fd, FunD K d_L_task.name d_L_task.qual d_L_task.params d_L_task.body d_L_task.scope (d_L_task.dvs K) (d_L_task.kws K) (He.fAd K d_L_task.at_) fd := S.defs 26 rfl
theorem f_L_times : ∃ fd, FunD K d_L_times.name d_L_times.qual d_L_times.params d_L_times.body d_L_times.scope (d_L_times.dvs K) (d_L_times.kws K) (He.fAd K d_L_times.at_) fd := S.defs 27 rfl
theorem f_L_unit : ∃ fd, FunD K d_L_unit.name d_L_unit.qual d_L_unit.params d_L_unit.body d_L_unit.scope (d_L_unit.dvs K) (d_L_unit.kws K) (He.fAd K d_L_unit.at_) fd := S.defs 28 rfl
theorem f_L_whole : ∃ fd, FunD K d_L_whole.name d_L_whole.qual d_L_whole.params d_L_whole.body d_L_whole.scope (d_L_whole.dvs K) (d_L_whole.kws K) (He.fAd K d_L_whole.at_) fd := S.defs 29 rfl
theorem f_L_world : ∃ fd, FunD K d_L_world.name d_L_world.qual d_L_world.params d_L_world.body d_L_world.scope (d_L_world.dvs K) (d_L_world.kws K) (He.fAd K d_L_world.at_) fd := S.defs 30 rfl
theorem f_law : ∃ fd, FunD K d_law.name d_law.qual d_law.params d_law.body d_law.scope (d_law.dvs K) (d_law.kws K) (He.fAd K d_law.at_) fd := S.defs 31 rfl
theorem f_Span_init : ∃ fd, FunD K d_Span_init.name d_Span_init.qual d_Span_init.params d_Span_init.body d_Span_init.scope (d_Span_init.dvs K) (d_Span_init.kws K) (He.fAd K d_Span_init.at_) fd := S.defs 32 rfl
theorem f_Span_len : ∃ fd, FunD K d_Span_len.name d_Span_len.qual d_Span_len.params d_Span_len.body d_Span_len.scope (d_Span_len.dvs K) (d_Span_len.kws K) (He.fAd K d_Span_len.at_) fd := S.defs 33 rfl
theorem f_Span_lowered : ∃ fd, FunD K d_Span_lowered.name d_Span_lowered.qual d_Span_lowered.params d_Span_lowered.body d_Span_lowered.scope (d_Span_lowered.dvs K) (d_Span_lowered.kws K) (He.fAd K d_Span_lowered.at_) fd := S.defs 34 rfl
theorem f_Span_put : ∃ fd, FunD K d_Span_put.name d_Span_put.qual d_Span_put.params d_Span_put.body d_Span_put.scope (d_Span_put.dvs K) (d_Span_put.kws K) (He.fAd K d_Span_put.at_) fd := S.defs 35 rfl
theorem f_Plan_init : ∃ fd, FunD K d_Plan_init.name d_Plan_init.qual d_Plan_init.params d_Plan_init.body d_Plan_init.scope (d_Plan_init.dvs K) (d_Plan_init.kws K) (He.fAd K d_Plan_init.at_) fd := S.defs 36 rfl
theorem f_Plan_heads_under : ∃ fd, FunD K d_Plan_heads_under.name d_Plan_heads_under.qual d_Plan_heads_under.params d_Plan_heads_under.body d_Plan_heads_under.scope (d_Plan_heads_under.dvs K) (d_Plan_heads_under.kws K) (He.fAd K d_Plan_heads_under.at_) fd := S.defs 37 rfl
theorem f_Plan_heads : ∃ fd, FunD K d_Plan_heads.name d_Plan_heads.qual d_Plan_heads.params d_Plan_heads.body d_Plan_heads.scope (d_Plan_heads.dvs K) (d_Plan_heads.kws K) (He.fAd K d_Plan_heads.at_) fd := S.defs 38 rfl
theorem f_Plan_heard : ∃ fd, FunD K d_Plan_heard.name d_Plan_heard.qual d_Plan_heard.params d_Plan_heard.body d_Plan_heard.scope (d_Plan_heard.dvs K) (d_Plan_heard.kws K) (He.fAd K d_Plan_heard.at_) fd := S.defs 39 rfl
theorem f_Plan_bad_cases : ∃ fd, FunD K d_Plan_bad_cases.name d_Plan_bad_cases.qual d_Plan_bad_cases.params d_Plan_bad_cases.body d_Plan_bad_cases.scope (d_Plan_bad_cases.dvs K) (d_Plan_bad_cases.kws K) (He.fAd K d_Plan_bad_cases.at_) fd := S.defs 40 rfl
theorem f_Plan_good : ∃ fd, FunD K d_Plan_good.name d_Plan_good.qual d_Plan_good.params d_Plan_good.body d_Plan_good.scope (d_Plan_good.dvs K) (d_Plan_good.kws K) (He.fAd K d_Plan_good.at_) fd := S.defs 41 rfl
theorem f_Net_init : ∃ fd, FunD K d_Net_init.name d_Net_init.qual d_Net_init.params d_Net_init.body d_Net_init.scope (d_Net_init.dvs K) (d_Net_init.kws K) (He.fAd K d_Net_init.at_) fd := S.defs 42 rfl
theorem f_Net_need_house : ∃ fd, FunD K d_Net_need_house.name d_Net_need_house.qual d_Net_need_house.params d_Net_need_house.body d_Net_need_house.scope (d_Net_need_house.dvs K) (d_Net_need_house.kws K) (He.fAd K d_Net_need_house.at_) fd := S.defs 43 rfl
theorem f_Net_need_line : ∃ fd, FunD K d_Net_need_line.name d_Net_need_line.qual d_Net_need_line.params d_Net_need_line.body d_Net_need_line.scope (d_Net_need_line.dvs K) (d_Net_need_line.kws K) (He.fAd K d_Net_need_line.at_) fd := S.defs 44 rfl
theorem f_Net_house : ∃ fd, FunD K d_Net_house.name d_Net_house.qual d_Net_house.params d_Net_house.body d_Net_house.scope (d_Net_house.dvs K) (d_Net_house.kws K) (He.fAd K d_Net_house.at_) fd := S.defs 45 rfl
theorem f_Net_line : ∃ fd, FunD K d_Net_line.name d_Net_line.qual d_Net_line.params d_Net_line.body d_Net_line.scope (d_Net_line.dvs K) (d_Net_line.kws K) (He.fAd K d_Net_line.at_) fd := S.defs 46 rfl
theorem f_Net_houses : ∃ fd, FunD K d_Net_houses.name d_Net_houses.qual d_Net_houses.params d_Net_houses.body d_Net_houses.scope (d_Net_houses.dvs K) (d_Net_houses.kws K) (He.fAd K d_Net_houses.at_) fd := S.defs 47 rfl
theorem f_Net_numbers : ∃ fd, FunD K d_Net_numbers.name d_Net_numbers.qual d_Net_numbers.params d_Net_numbers.body d_Net_numbers.scope (d_Net_numbers.dvs K) (d_Net_numbers.kws K) (He.fAd K d_Net_numbers.at_) fd := S.defs 48 rfl
theorem f_Net_lines : ∃ fd, FunD K d_Net_lines.name d_Net_lines.qual d_Net_lines.params d_Net_lines.body d_Net_lines.scope (d_Net_lines.dvs K) (d_Net_lines.kws K) (He.fAd K d_Net_lines.at_) fd := S.defs 49 rfl
theorem f_Net_into : ∃ fd, FunD K d_Net_into.name d_Net_into.qual d_Net_into.params d_Net_into.body d_Net_into.scope (d_Net_into.dvs K) (d_Net_into.kws K) (He.fAd K d_Net_into.at_) fd := S.defs 50 rfl
theorem f_Net_out_of : ∃ fd, FunD K d_Net_out_of.name d_Net_out_of.qual d_Net_out_of.params d_Net_out_of.body d_Net_out_of.scope (d_Net_out_of.dvs K) (d_Net_out_of.kws K) (He.fAd K d_Net_out_of.at_) fd := S.defs 51 rfl
theorem f_Net_ends : ∃ fd, FunD K d_Net_ends.name d_Net_ends.qual d_Net_ends.params d_Net_ends.body d_Net_ends.scope (d_Net_ends.dvs K) (d_Net_ends.kws K) (He.fAd K d_Net_ends.at_) fd := S.defs 52 rfl
theorem f_Net_told_order : ∃ fd, FunD K d_Net_told_order.name d_Net_told_order.qual d_Net_told_order.params d_Net_told_order.body d_Net_told_order.scope (d_Net_told_order.dvs K) (d_Net_told_order.kws K) (He.fAd K d_Net_told_order.at_) fd := S.defs 53 rfl
theorem f_Net_ring : ∃ fd, FunD K d_Net_ring.name d_Net_ring.qual d_Net_ring.params d_Net_ring.body d_Net_ring.scope (d_Net_ring.dvs K) (d_Net_ring.kws K) (He.fAd K d_Net_ring.at_) fd := S.defs 54 rfl
theorem f_Net_order : ∃ fd, FunD K d_Net_order.name d_Net_order.qual d_Net_order.params d_Net_order.body d_Net_order.scope (d_Net_order.dvs K) (d_Net_order.kws K) (He.fAd K d_Net_order.at_) fd := S.defs 55 rfl
theorem f_Net_twin : ∃ fd, FunD K d_Net_twin.name d_Net_twin.qual d_Net_twin.params d_Net_twin.body d_Net_twin.scope (d_Net_twin.dvs K) (d_Net_twin.kws K) (He.fAd K d_Net_twin.at_) fd := S.defs 56 rfl
theorem f_Field_init : ∃ fd, FunD K d_Field_init.name d_Field_init.qual d_Field_init.params d_Field_init.body d_Field_init.scope (d_Field_init.dvs K) (d_Field_init.kws K) (He.fAd K d_Field_init.at_) fd := S.defs 57 rfl
theorem f_Field_has : ∃ fd, FunD K d_Field_has.name d_Field_has.qual d_Field_has.params d_Field_has.body d_Field_has.scope (d_Field_has.dvs K) (d_Field_has.kws K) (He.fAd K d_Field_has.at_) fd := S.defs 58 rfl
theorem f_Field_figures : ∃ fd, FunD K d_Field_figures.name d_Field_figures.qual d_Field_figures.params d_Field_figures.body d_Field_figures.scope (d_Field_figures.dvs K) (d_Field_figures.kws K) (He.fAd K d_Field_figures.at_) fd := S.defs 59 rfl
theorem f_Field_composed : ∃ fd, FunD K d_Field_composed.name d_Field_composed.qual d_Field_composed.params d_Field_composed.body d_Field_composed.scope (d_Field_composed.dvs K) (d_Field_composed.kws K) (He.fAd K d_Field_composed.at_) fd := S.defs 60 rfl
theorem f_Field_added : ∃ fd, FunD K d_Field_added.name d_Field_added.qual d_Field_added.params d_Field_added.body d_Field_added.scope (d_Field_added.dvs K) (d_Field_added.kws K) (He.fAd K d_Field_added.at_) fd := S.defs 61 rfl
theorem f_Field_product : ∃ fd, FunD K d_Field_product.name d_Field_product.qual d_Field_product.params d_Field_product.body d_Field_product.scope (d_Field_product.dvs K) (d_Field_product.kws K) (He.fAd K d_Field_product.at_) fd := S.defs 62 rfl
theorem f_Field_inverse : ∃ fd, FunD K d_Field_inverse.name d_Field_inverse.qual d_Field_inverse.params d_Field_inverse.body d_Field_inverse.scope (d_Field_inverse.dvs K) (d_Field_inverse.kws K) (He.fAd K d_Field_inverse.at_) fd := S.defs 63 rfl
theorem f_Field_needs_row : ∃ fd, FunD K d_Field_needs_row.name d_Field_needs_row.qual d_Field_needs_row.params d_Field_needs_row.body d_Field_needs_row.scope (d_Field_needs_row.dvs K) (d_Field_needs_row.kws K) (He.fAd K d_Field_needs_row.at_) fd := S.defs 64 rfl
theorem f_Field_scaled : ∃ fd, FunD K d_Field_scaled.name d_Field_scaled.qual d_Field_scaled.params d_Field_scaled.body d_Field_scaled.scope (d_Field_scaled.dvs K) (d_Field_scaled.kws K) (He.fAd K d_Field_scaled.at_) fd := S.defs 65 rfl
theorem f_Field_joined : ∃ fd, FunD K d_Field_joined.name d_Field_joined.qual d_Field_joined.params d_Field_joined.body d_Field_joined.scope (d_Field_joined.dvs K) (d_Field_joined.kws K) (He.fAd K d_Field_joined.at_) fd := S.defs 66 rfl
theorem f_Field_blend : ∃ fd, FunD K d_Field_blend.name d_Field_blend.qual d_Field_blend.params d_Field_blend.body d_Field_blend.scope (d_Field_blend.dvs K) (d_Field_blend.kws K) (He.fAd K d_Field_blend.at_) fd := S.defs 67 rfl
theorem f_Task_init : ∃ fd, FunD K d_Task_init.name d_Task_init.qual d_Task_init.params d_Task_init.body d_Task_init.scope (d_Task_init.dvs K) (d_Task_init.kws K) (He.fAd K d_Task_init.at_) fd := S.defs 68 rfl
theorem f_Task_net : ∃ fd, FunD K d_Task_net.name d_Task_net.qual d_Task_net.params d_Task_net.body d_Task_net.scope (d_Task_net.dvs K) (d_Task_net.kws K) (He.fAd K d_Task_net.at_) fd := S.defs 69 rfl
theorem f_Task_letters : ∃ fd, FunD K d_Task_letters.name d_Task_letters.qual d_Task_letters.params d_Task_letters.body d_Task_letters.scope (d_Task_letters.dvs K) (d_Task_letters.kws K) (He.fAd K d_Task_letters.at_) fd := S.defs 70 rfl
theorem f_Task_field : ∃ fd, FunD K d_Task_field.name d_Task_field.qual d_Task_field.params d_Task_field.body d_Task_field.scope (d_Task_field.dvs K) (d_Task_field.kws K) (He.fAd K d_Task_field.at_) fd := S.defs 71 rfl
theorem f_Task_cases : ∃ fd, FunD K d_Task_cases.name d_Task_cases.qual d_Task_cases.params d_Task_cases.body d_Task_cases.scope (d_Task_cases.dvs K) (d_Task_cases.kws K) (He.fAd K d_Task_cases.at_) fd := S.defs 72 rfl
theorem f_Task_line_order : ∃ fd, FunD K d_Task_line_order.name d_Task_line_order.qual d_Task_line_order.params d_Task_line_order.body d_Task_line_order.scope (d_Task_line_order.dvs K) (d_Task_line_order.kws K) (He.fAd K d_Task_line_order.at_) fd := S.defs 73 rfl
theorem f_Task_fed_by : ∃ fd, FunD K d_Task_fed_by.name d_Task_fed_by.qual d_Task_fed_by.params d_Task_fed_by.body d_Task_fed_by.scope (d_Task_fed_by.dvs K) (d_Task_fed_by.kws K) (He.fAd K d_Task_fed_by.at_) fd := S.defs 74 rfl
theorem f_Task_inputs : ∃ fd, FunD K d_Task_inputs.name d_Task_inputs.qual d_Task_inputs.params d_Task_inputs.body d_Task_inputs.scope (d_Task_inputs.dvs K) (d_Task_inputs.kws K) (He.fAd K d_Task_inputs.at_) fd := S.defs 75 rfl
end
end Mg
/-! ZR -/
namespace Mg
open PySem PySem.Spec PyProof.Rows L2
abbrev R : PySem.W.OpenRow := PySem.W.OpenLaw.row PySem.Challenge.rw_mingleway_k30_whole_a_plan_stays_good_in
def as : List Addr := [3, 341, 340, 463, 462, 606, 605, 792, 791, 924, 923, 254, 253, 352, 351, 366, 365, 371, 370, 472, 471, 624, 623, 803, 802, 808, 807, 813, 812, 935, 934, 940, 939, 945, 944, 952, 951, 957, 956, 964, 963, 971, 970, 976, 975, 981, 980, 988, 987, 995, 994, 1002, 1001, 1009, 1008, 1016, 1015, 1023, 1022, 1028, 1027, 1035, 1034, 1042, 1041, 1049, 1048, 1056, 1055, 1063, 1062, 1070, 1069, 1075, 1074, 270, 269, 284, 283, 298, 297, 305, 304, 383, 382, 409, 408, 418, 417, 423, 422, 437, 436, 444, 443, 486, 485, 507, 506, 514, 513, 521, 520, 529, 528, 550, 549, 557, 556, 562, 561, 567, 566, 572, 571, 579, 578, 584, 583, 589, 588, 596, 595, 603, 602, 637, 636, 686, 685, 700, 699, 707, 706, 712, 711, 733, 732, 745, 744, 764, 763, 769, 768, 775, 774, 789, 788, 827, 826, 848, 847, 869, 868, 883, 882, 888, 887, 893, 892, 900, 899, 907, 906, 611, 612, 613, 614, 615, 616, 617, 263, 262, 411, 410, 522, 632, 770, 822, 821]
abbrev hk : PySem.W.Hook := hookY as fa fn tf ex
def ob (s : PySem.W.SharedT) : He.AlX := obsY as fa fn tf ex (HandSHeadRun.getT s)
theorem ob_eq (s : PySem.W.SharedT) : ob s = hk.obs s.abs := obsY_eq (HandSHeadRun.getT_eq s)
theorem runF (w : World) : HandSHeadRun.RunEq R (PySem.W.view R.prog [76]) hk ob 10000 names (w.withFollow "special-get-raises" false) := by
  intro os
  kernel_rfl
theorem runT (w : World) : HandSHeadRun.RunEq R (PySem.W.view R.prog [76]) hk ob 10000 names (w.withFollow "special-get-raises" true) := by
  intro os
  kernel_rfl
theorem run (w : World) : HandSHeadRun.RunEq R (PySem.W.view R.prog [76]) hk ob 10000 names w := PySem.W.byRow2 "special-get-raises" (P := fun w => HandSHeadRun.RunEq R (PySem.W.view R.prog [76]) hk ob 10000 names w) runF runT w
end Mg
/-! Co -/
/-! common: calls, steps of readings, stable heaps -/
namespace L2
open PySem PySem.Spec PyProof.Rows
section
variable {X : Cx} {k : Nat} {f C : Addr} {sp : Sp} {x m : Str} {p pos apos : Pos} {e o : Expr} {es : List Expr} {ta : TE} {t : TA}
abbrev Fn (P : Program) (w : World) (K : PySem.W.Frag) (mg : Str → Option Value) (base : Heap) (k : Nat) (f : Addr) (sp : Sp) : Prop := FnR P w K mg base CX0 k f sp
def tM (C : Addr) (m : Str) (sp : Sp) (ta : TE) (t : TA) : TE := fun σ H Q => ta σ H fun x H1 => ∃ a dx fs, x = .ref a ∧ H1 a = some (.ins C dx fs) ∧ fs.lookup m = none ∧ t σ H1 fun vs H2 => sp (x :: vs) H2 Q E0
/-- o.m(e, ..) -/
theorem pm {pl : Sem Bool} (F : Fn X.prog X.w X.K X.mg X.base k f sp) (hr : Room k X.A) (c : Cls X.K C) (hm : Meth X.K C m f) (he : PE X o ta) (ha : PA X (e :: es) t)
    (hst : starEach (e :: es) X.env = (false, eval e X.env) :: starEach es X.env := by rfl) (hpl : (backTo pos (starEach es X.env)).any (·.1) = false := by rfl)
    (ht : eval (.Call (.Attribute o m apos) (e :: es) [] pos) X.env = (do
      let ov ← eval o X.env
      standAt apos.atName
      let (f, first) ← holding [ov] (getMethod ov m pl)
      callWith pos f first (backTo pos (starEach (e :: es) X.env)) (backToKw pos (keywordEach [] X.env))) := by rfl) :
    PE X (.Call (.Attribute o m apos) (e :: es) [] pos) (tM C m sp ta t) := by
  refine ⟨fun pins s σ H Q I h => ?_⟩
  refine PySem.W.methodCall_KW (pl := pl) (thn (he.run pins s σ H _ I h) fun u s1 ⟨x, H1, I1, rx, a, dx, fs, ex, ea, l, q⟩ => ?_) ht
  subst ex
  obtain rfl : u = Value.ref a := rx
  refine getmeth_ok I1 ea c hm l ?_
  refine PySem.W.callWith_K (first := [.ref a]) (h₀ := X.base) I.ok.mod.kin hm.kp (thn (ha.run pos pins s1 σ H1 _ I1 q) fun us s2 ⟨vs, H2, I2, r, q2⟩ => ⟨I2.kIn, ?_⟩) hst hpl
  exact wpAny_call (run_fnR (us := .ref a :: us) (vs := .ref a :: vs) F hr pass0 I2 (.cons rfl r) q2)
/-- o.m() -/
theorem pm0 {pl : Sem Bool} (F : Fn X.prog X.w X.K X.mg X.base k f sp) (hr : Room k X.A) (c : Cls X.K C) (hm : Meth X.K C m f) (he : PE X o ta)
    (ht : eval (.Call (.Attribute o m apos) [] [] pos) X.env = (do
      let ov ← eval o X.env
      standAt apos.atName
      let (f, first) ← holding [ov] (getMethod ov m pl)
      callWith pos f first (backTo pos (starEach [] X.env)) (backToKw pos (keywordEach [] X.env))) := by rfl) :
    PE X (.Call (.Attribute o m apos) [] [] pos) (tM C m sp ta tNil) := by
  refine ⟨fun pins s σ H Q I h => ?_⟩
  refine PySem.W.methodCall_KW (pl := pl) (thn (he.run pins s σ H _ I h) fun u s1 ⟨x, H1, I1, rx, a, dx, fs, ex, ea, l, q⟩ => ?_) ht
  subst ex
  obtain rfl : u = Value.ref a := rx
  refine getmeth_ok I1 ea c hm l ?_
  refine PySem.W.callWith_K0 (first := [.ref a]) I1.kIn hm.kp ?_
  exact wpAny_call (run_fnR (us := [.ref a]) (vs := [.ref a]) F hr pass0 I1 (.cons rfl .nil) q)
def tF (sp : Sp) (t : TA) : TE := fun σ H Q => t σ H fun vs H1 => sp vs H1 Q E0
/-- x(e, ..) -/
theorem pc (F : Fn X.prog X.w X.K X.mg X.base k f sp) (hr : Room k X.A) (hm : X.mg x = some (.ref f)) (hk : PySem.W.keepIn X.K (.ref f) = true) (hg : Gl X x) (ha : PA X (e :: es) t) (hdb : (x == ("__debug__" : Str)) = false := by decide)
    (he : starEach (e :: es) X.env = (false, eval e X.env) :: starEach es X.env := by rfl) (hpl : (backTo pos (starEach es X.env)).any (·.1) = false := by rfl) :
    PE X (.Call (.Name x p) (e :: es) [] pos) (tF sp t) := by
  refine ⟨fun pins s σ H Q I h => ?_⟩
  refine wpAny_Call_Name_kw (ld_glob I hg hm ?_ hdb)
  refine PySem.W.callWith_K (h₀ := X.base) I.ok.mod.kin hk (thn (ha.run pos pins s σ H _ I h) fun us s1 ⟨vs, H1, I1, r, q⟩ => ⟨I1.kIn, ?_⟩) he hpl
  exact wpAny_call (run_fnR F hr pass0 I1 r q)
end
/-! ### a def's body -/
section
variable {P : Program} {w : World} {K : PySem.W.Frag} {mg : Str → Option Value} {base : Heap} {f : Addr} {d : He.DefD} {N ps : List Str} {k n : Nat}
/-- a promise: so many arguments -/
def SpN (n : Nat) (pre : List V → Hp → VK → Prop) : Sp := fun vs H Q _ => vs.length = n ∧ pre vs H Q
theorem fn_ok {fd : FuncData} {dvs : List V} {kws : List (Str × V)} {pre : List V → Hp → VK → Prop} (F : FunD K d.name d.qual d.params d.body d.scope dvs kws f fd) (sc : FnScope N ps d.scope) (hn : n = ps.length)
    (hbody : ∀ (cdv : Value) (A : Around) (outer : List Env) (s : Shared) (H : Hp) (vs : List V) (Q : VK) (E : XK), Room k (A.deeper (envOfC d.qual d.scope s.heap.objs.size f cdv)) → pre vs H Q →
      ∃ t, PSs (cxOf CX0 P w K mg base N d.qual d.scope f cdv A outer s H E).nox d.body t ∧ t { nx := fun _ H' => Q .non H', rt := Q } (start N vs) H) : FnOk P w K mg base CX0 (k + 1) f fd ps (SpN n pre) :=
  F.ok sc (fun vs H Q E h => h.1.trans hn) fun cdv A outer s H vs Q E hr h => by
    obtain ⟨t, h1, h2⟩ := hbody cdv A outer s H vs Q E hr h.2
    exact ⟨t, h1.nox, h2⟩
theorem FnOk.fnR {fd : FuncData} {sp : Sp} (F : FnOk P w K mg base CX0 k f fd ps sp) (hb : Binds K fd ps []) : Fn P w K mg base k f sp := by
  have q := F.raw hb .nil
  exact q.imp fun vs H Q E h => by rw [List.append_nil]; exact h
/-- a def without defaults -/
theorem fn_body {pre : List V → Hp → VK → Prop} (hF : ∃ fd, FunD K d.name d.qual d.params d.body d.scope [] [] f fd) (sc : FnScope N ps d.scope) (hn : n = ps.length)
    (hb : ∀ (kV doc pm : Value) (an : Option Addr) (cdv ct : Value) (us : List Value), us.length = ps.length → bindArgs (PySem.W.fnOf d.name d.qual d.params d.body d.scope .none kV doc pm an cdv ct) ⟨us, []⟩ = pure (ps.zip us))
    (hbody : ∀ (cdv : Value) (A : Around) (outer : List Env) (s : Shared) (H : Hp) (vs : List V) (Q : VK) (E : XK), Room k (A.deeper (envOfC d.qual d.scope s.heap.objs.size f cdv)) → pre vs H Q →
      ∃ t, PSs (cxOf CX0 P w K mg base N d.qual d.scope f cdv A outer s H E).nox d.body t ∧ t { nx := fun _ H' => Q .non H', rt := Q } (start N vs) H) : Fn P w K mg base (k + 1) f (SpN n pre) := by
  obtain ⟨fd, F⟩ := hF
  exact (fn_ok F sc hn hbody).fnR (F.bindsN hb)
end
/-! ### stable heaps -/
def NT (o : HO) : Prop := (∀ ps, o ≠ .tbl ps) ∧ ∀ φ, o ≠ .ext φ
theorem nt_lst {xs : List V} : NT (.lst xs) := ⟨fun ps z => (by cases z), fun ps z => (by cases z)⟩
theorem nt_tup {xs : List V} : NT (.tup xs) := ⟨fun ps z => (by cases z), fun ps z => (by cases z)⟩
theorem nt_dK {xs : List (Key × V)} : NT (.dK xs) := ⟨fun ps z => (by cases z), fun ps z => (by cases z)⟩
theorem nt_ins {C dx : Addr} {fs : List (Str × V)} : NT (.ins C dx fs) := ⟨fun ps z => (by cases z), fun ps z => (by cases z)⟩
theorem nt_own {x : Addr} : NT (.own x) := ⟨fun ps z => (by cases z), fun ps z => (by cases z)⟩
theorem Same.new {H : Hp} {p : Addr} {o : HO} (h : H p = none) : Same H (upd H p o) := fun a u e => by
  rw [upd_ne (ne_of_none e h)]
  exact e
/-- S is the part of H that stays; J tells what more is known of H -/
structure JL (J : Hp → Hp → Prop) : Prop where
  same : ∀ {S H}, J S H → Same S H
  ext : ∀ {S H H'}, J S H → Same H H' → J S H'
  trk : ∀ {S H H' : Hp} {p : Addr} {o : HO}, J S H → Same H H' → H p = none → H' p = some o → NT o → J (upd S p o) H'
  put : ∀ {S H : Hp} {p : Addr} {o o' : HO}, J S H → S p = some o → NT o → NT o' → J (upd S p o') (upd H p o')
section
variable {J : Hp → Hp → Prop} {S H H' : Hp} {p : Addr} {o : HO}
theorem JL.fresh (hJ : JL J) (j : J S H) (h : H p = none) : S p = none := (hJ.same j).free h
theorem JL.add (hJ : JL J) (j : J S H) (h : H p = none) (n : NT o) : J (upd S p o) (upd H p o) := hJ.trk j (Same.new h) h upd_same n
/-- a new object: S grows -/
theorem JL.news {Q : VK} (hJ : JL J) (j : J S H) (n : NT o) (k : ∀ (p : Addr) (S1 H1 : Hp), Same S S1 → S1 p = some o → J S1 H1 → Same H H1 → H p = none → Q (.ref p) H1) : ∀ p, H p = none → Q (.ref p) (upd H p o) :=
  fun p hp => k p (upd S p o) (upd H p o) (Same.new (hJ.fresh j hp)) upd_same (hJ.add j hp n) (Same.new hp) hp
end
/-- the plain one: all stays -/
def J0 (S H : Hp) : Prop := Same S H
theorem jl0 : JL J0 where
  same := fun j => j
  ext := fun j e => Same.trans j e
  trk := fun {S H H' p o} j e h h' _ a u q => by
    by_cases z : a = p
    · rw [z, upd_same] at q
      cases q
      rw [z]
      exact h'
    · rw [upd_ne z] at q
      exact e _ _ (j _ _ q)
  put := fun {S H p o o'} j _ _ _ a u q => by
    by_cases z : a = p
    · rw [z, upd_same] at q
      cases q
      rw [z, upd_same]
    · rw [upd_ne z] at q ⊢
      exact j _ _ q
end L2
/-! St -/
/-! readings, step by step -/
namespace L2
open PySem PySem.Spec PyProof.Rows
section
variable {σ : St} {H : Hp} {Q : VK} {i : Nat} {v x y : V} {te ta tb tc : TE} {t : TA} {D : Ends} {K : PySem.W.Frag}
theorem r_var (h : σ[i]? = some (some v)) (q : Q v H) : tVar i σ H Q := ⟨v, h, q⟩
theorem r_c (q : Q v H) : tC v σ H Q := q
theorem r_op {r : R2} (h : ta σ H fun x H1 => tb σ H1 fun y H2 => r x y H2 Q) : tOp r ta tb σ H Q := h
theorem r_un {r : V → Hp → VK → Prop} (h : ta σ H fun x H1 => r x H1 Q) : tUn r ta σ H Q := h
theorem r_I0 {g : Int → Int → V} {a b : Int} (q : Q (g a b) H) : rI0 g (.int a) (.int b) H Q := ⟨a, b, rfl, rfl, q⟩
theorem r_I {C : Int → Int → Prop} {g : Int → Int → V} {a b : Int} (c : C a b) (q : Q (g a b) H) : rI C g (.int a) (.int b) H Q := ⟨a, b, rfl, rfl, c, q⟩
theorem r_U {g : Int → V} {a : Int} (q : Q (g a) H) : rU g (.int a) H Q := ⟨a, rfl, q⟩
theorem dec_i (a b : Int) : decide (V.int a = V.int b) = decide (a = b) := by
  by_cases e : a = b
  · rw [e]
    simp
  · rw [decide_eq_false e, decide_eq_false]
    intro z
    exact e (V.int.inj z)
theorem dec_s (a b : Str) : decide (V.str a = V.str b) = decide (a = b) := by
  by_cases e : a = b
  · rw [e]
    simp
  · rw [decide_eq_false e, decide_eq_false]
    intro z
    exact e (V.str.inj z)
theorem dec_b (a b : Bool) : decide (V.bl a = V.bl b) = decide (a = b) := by
  cases a <;> cases b <;> simp
theorem r_eqI {a b : Int} (q : Q (.bl (decide (a = b))) H) : rEq (.int a) (.int b) H Q := ⟨rfl, by rw [dec_i]; exact q⟩
theorem r_neI {a b : Int} (q : Q (.bl (!decide (a = b))) H) : rNe (.int a) (.int b) H Q := ⟨rfl, by rw [dec_i]; exact q⟩
theorem r_eqS {a b : Str} (q : Q (.bl (decide (a = b))) H) : rEq (.str a) (.str b) H Q := ⟨rfl, by rw [dec_s]; exact q⟩
theorem r_neS {a b : Str} (q : Q (.bl (!decide (a = b))) H) : rNe (.str a) (.str b) H Q := ⟨rfl, by rw [dec_s]; exact q⟩
theorem r_eqB {a b : Bool} (q : Q (.bl (decide (a = b))) H) : rEq (.bl a) (.bl b) H Q := ⟨rfl, by rw [dec_b]; exact q⟩
theorem r_neB {a b : Bool} (q : Q (.bl (!decide (a = b))) H) : rNe (.bl a) (.bl b) H Q := ⟨rfl, by rw [dec_b]; exact q⟩
theorem r_bl {b : Bool} {R : Bool → Prop} (q : R b) : ∃ k, V.bl b = .bl k ∧ R k := ⟨b, rfl, q⟩
theorem r_test {R : Bool → Hp → Prop} (h : te σ H fun x H' => ∃ k, x = .bl k ∧ R k H') : tTest te σ H R := h
theorem r_B {R : Bool → Hp → Prop} (h : te σ H fun x H' => ∃ k, x = .bl k ∧ R k H') : tB te σ H R := h
theorem r_not {tt : TT} {R : Bool → Hp → Prop} (h : tt σ H fun b H' => R (!b) H') : tNot tt σ H R := h
theorem r_and {tt uu : TT} {R : Bool → Hp → Prop} (h : tt σ H fun c H1 => if c = true then uu σ H1 R else R false H1) : tAnd tt uu σ H R := h
theorem r_or {tt uu : TT} {R : Bool → Hp → Prop} (h : tt σ H fun c H1 => if c = true then R true H1 else uu σ H1 R) : tOr tt uu σ H R := h
theorem r_chain {r r' : R2} (h : ta σ H fun x H1 => tb σ H1 fun y H2 => r x y H2 fun z H3 => ∃ k, z = .bl k ∧ (if k = true then tc σ H3 fun w' H4 => r' y w' H4 Q else Q (.bl false) H3)) : tChain r r' ta tb tc σ H Q := h
theorem r_ifE {tt : TT} (h : tt σ H fun c H1 => if c = true then ta σ H1 Q else tb σ H1 Q) : tIf tt ta tb σ H Q := h
theorem r_if {tt : TT} {t u : TS} (h : tt σ H fun c H1 => if c = true then t D σ H1 else u D σ H1) : tIfS tt t u D σ H := h
theorem r_seq {t u : TS} (h : t { D with nx := u D } σ H) : tSeq t u D σ H := h
theorem r_next (h : D.nx σ H) : tNext D σ H := h
theorem r_ret (h : te σ H D.rt) : tRet te D σ H := h
theorem r_drop (h : te σ H fun _ H1 => D.nx σ H1) : tDrop te D σ H := h
theorem r_asg {g : TG} (h : te σ H fun x H1 => g x σ H1 D.nx) : tAsg te g D σ H := h
theorem r_gn {R : St → Hp → Prop} (h : R (σ.set i (some v)) H) : gName i v σ H R := h
theorem r_gtup {n : Nat} {u : TGs} {R : St → Hp → Prop} {a : Addr} {xs : List V} (h1 : SqT K H a xs) (h2 : xs.length = n) (h : u xs σ H R) : gTup K n u (.ref a) σ H R := ⟨a, xs, rfl, h1, h2, h⟩
theorem r_gcons {g : TG} {u : TGs} {R : St → Hp → Prop} {r : List V} (h : g v σ H fun σ' H' => u r σ' H' R) : gCons g u (v :: r) σ H R := ⟨v, r, rfl, h⟩
theorem r_gnil {R : St → Hp → Prop} (h : R σ H) : gNil [] σ H R := ⟨rfl, h⟩
theorem r_nil {R : List V → Hp → Prop} (h : R [] H) : tNil σ H R := h
theorem r_cons {tr : TA} {R : List V → Hp → Prop} (h : te σ H fun x H1 => tr σ H1 fun xs H2 => R (x :: xs) H2) : tCons te tr σ H R := h
theorem r_CB {r : List V → Hp → VK → Prop} (h : t σ H fun vs H1 => r vs H1 Q) : tCB r t σ H Q := h
theorem r_F {sp : Sp} (h : t σ H fun vs H1 => sp vs H1 Q E0) : tF sp t σ H Q := h
theorem r_tM {C : Addr} {m : Str} {sp : Sp} (h : ta σ H fun x H1 => ∃ a dx fs, x = .ref a ∧ H1 a = some (.ins C dx fs) ∧ fs.lookup m = none ∧ t σ H1 fun vs H2 => sp (x :: vs) H2 Q E0) : tM C m sp ta t σ H Q := h
theorem r_M {C dx a : Addr} {m : Str} {fs : List (Str × V)} {R : Addr → Prop} (h1 : H a = some (.ins C dx fs)) (h2 : fs.lookup m = none) (h : R a) :
    ∃ a' dx' fs', V.ref a = .ref a' ∧ H a' = some (.ins C dx' fs') ∧ fs'.lookup m = none ∧ R a' := ⟨a, dx, fs, rfl, h1, h2, h⟩
theorem r_Mv {C dx a : Addr} {m : Str} {fs : List (Str × V)} {R : Prop} (h1 : H a = some (.ins C dx fs)) (h2 : fs.lookup m = none) (h : R) :
    ∃ a' dx' fs', V.ref a = .ref a' ∧ H a' = some (.ins C dx' fs') ∧ fs'.lookup m = none ∧ R := ⟨a, dx, fs, rfl, h1, h2, h⟩
theorem r_tFld {f : Str} (h : ta σ H fun x H1 => ∃ a C dx fs v, x = .ref a ∧ H1 a = some (.ins C dx fs) ∧ Cls K C ∧ NoAttr K C f ∧ fs.lookup f = some v ∧ Q v H1) : tFld K ta f σ H Q := h
theorem r_fld {C dx a : Addr} {f : Str} {fs : List (Str × V)} {R : V → Prop} (h1 : H a = some (.ins C dx fs)) (h2 : Cls K C) (h3 : NoAttr K C f) (h4 : fs.lookup f = some v) (q : R v) :
    ∃ a' C' dx' fs' v', V.ref a = .ref a' ∧ H a' = some (.ins C' dx' fs') ∧ Cls K C' ∧ NoAttr K C' f ∧ fs'.lookup f = some v' ∧ R v' := ⟨a, C, dx, fs, v, rfl, h1, h2, h3, h4, q⟩
theorem r_sFld {tv : TE} {f : Str} (h : tv σ H fun y H1 => ta σ H1 fun x H2 => ∃ a C dx fs, x = .ref a ∧ H2 a = some (.ins C dx fs) ∧ Cls K C ∧ NoAttr K C f ∧ fs.length < 1000 ∧ D.nx σ (upd H2 a (.ins C dx (putF f y fs)))) : sFld K ta tv f D σ H := h
theorem r_fldP {C dx a : Addr} {f : Str} {fs : List (Str × V)} {R : Hp → Prop} (h1 : H a = some (.ins C dx fs)) (h2 : Cls K C) (h3 : NoAttr K C f) (h4 : fs.length < 1000) (q : R (upd H a (.ins C dx (putF f y fs)))) :
    ∃ a' C' dx' fs', V.ref a = .ref a' ∧ H a' = some (.ins C' dx' fs') ∧ Cls K C' ∧ NoAttr K C' f ∧ fs'.length < 1000 ∧ R (upd H a' (.ins C' dx' (putF f y fs'))) := ⟨a, C, dx, fs, rfl, h1, h2, h3, h4, q⟩
theorem r_mul {a b : Int} (c : -(2 ^ 64) < a ∧ a < 2 ^ 64) (q : Q (.int (a * b)) H) : rI CMul (fun i j => .int (i * j)) (.int a) (.int b) H Q := ⟨a, b, rfl, rfl, .inl c, q⟩
theorem r_mulR {a b : Int} (c : -(2 ^ 64) < b ∧ b < 2 ^ 64) (q : Q (.int (a * b)) H) : rI CMul (fun i j => .int (i * j)) (.int a) (.int b) H Q := ⟨a, b, rfl, rfl, .inr c, q⟩
theorem r_mod {a b : Int} (c : 0 < b) (q : Q (.int (a % b)) H) : rI (fun _ j => 0 < j) (fun i j => .int (i % j)) (.int a) (.int b) H Q := ⟨a, b, rfl, rfl, c, q⟩
theorem r_div {a b : Int} (c : 0 < b ∧ b < 1073741824) (q : Q (.int (a / b)) H) : rI CDiv (fun i j => .int (i / j)) (.int a) (.int b) H Q := ⟨a, b, rfl, rfl, c, q⟩
theorem r_neg {a : Int} (q : Q (.int (-a)) H) : rU (fun i => .int (-i)) (.int a) H Q := ⟨a, rfl, q⟩
theorem r_isN {x : V} (q : Q (.bl (decide (x = .non))) H) : ∃ (_ : V.non = .non), Q (.bl (decide (x = .non))) H := ⟨rfl, q⟩
theorem r_andR {A : Prop} {B : Prop} (a : A) (b : B) : A ∧ B := ⟨a, b⟩
theorem r_stF {R : St → Hp → Prop} (h : R σ H) : R σ H := h
theorem r_ixL {a : Addr} {xs : List V} {j : Nat} {z : Int} (h1 : SqL K H a xs) (hz : z = (j : Int)) (h2 : xs[j]? = some v) (q : Q v H) : rIxL K (.ref a) (.int z) H Q := ⟨a, xs, z, v, rfl, rfl, h1, by rw [hz]; exact atI_nat h2, q⟩
theorem r_ixT {a : Addr} {xs : List V} {j : Nat} {z : Int} (h1 : SqT K H a xs) (hz : z = (j : Int)) (h2 : xs[j]? = some v) (q : Q v H) : rIxT K (.ref a) (.int z) H Q := ⟨a, xs, z, v, rfl, rfl, h1, by rw [hz]; exact atI_nat h2, q⟩
def LstN (xs : List V) (H : Hp) (Q : VK) : Prop := xs.length ≤ sizeLine ∧ ∀ p, H p = none → Q (.ref p) (upd H p (.lst xs))
def TupN (xs : List V) (H : Hp) (Q : VK) : Prop := xs.length ≤ sizeLine ∧ ∀ p, H p = none → Q (.ref p) (upd H p (.tup xs))
theorem r_lst (h : t σ H fun xs H1 => LstN xs H1 Q) : tLst t σ H Q := h
theorem r_tup (h : t σ H fun xs H1 => TupN xs H1 Q) : tTup t σ H Q := h
theorem ite_d {c A B : Prop} [Decidable c] (h1 : c → A) (h2 : ¬ c → B) : if decide c = true then A else B := by
  by_cases h : c
  · rw [if_pos (decide_eq_true h)]
    exact h1 h
  · rw [if_neg (by rw [decide_eq_false h]; exact Bool.false_ne_true)]
    exact h2 h
theorem ite_n {c A B : Prop} [Decidable c] (h1 : ¬ c → A) (h2 : c → B) : if (!decide c) = true then A else B := by
  by_cases h : c
  · rw [decide_eq_true h]
    exact iteF (h2 h)
  · rw [decide_eq_false h]
    exact iteT (h1 h)
end
/-- a for from its walk's start -/
def ForB (J : It) (g : TG) (tb : TS) (D : Ends) (σ : St) (H1 : Hp) : Prop := ∃ W : Nat → Nat → St → Hp → Prop, (∃ m, W 0 m σ H1) ∧ ∀ i m σ H, W i m σ H →
  (J.stop i H ∧ D.nx σ H) ∨ (J.go i H ∧ ∃ N : St → Hp → Prop, (∀ σ' H', N σ' H' → ∃ m', m' < m ∧ W (i + 1) m' σ' H') ∧ ∀ x H', J.yld i H x H' → g x σ H' fun σ2 H2 => tb { D with nx := N, ct := N, bk := D.nx } σ2 H2)
/-- a comprehension from its walk's start -/
def LcB (J : It) (g : TG) (tt : TT) (te : TE) (vs : List Nat) (σ : St) (H1 : Hp) (Q : VK) : Prop := ∀ D, H1 D = none → ∃ W : Nat → Nat → Hp → Prop, (∃ m, W 0 m (upd H1 D (.lst []))) ∧ ∀ i m H, W i m H →
  (J.stop i H ∧ Q (.ref D) H) ∨ (J.go i H ∧ ∃ Nx : Hp → Prop, (∀ H', Nx H' → ∃ m', m' < m ∧ W (i + 1) m' H') ∧ ∀ x H', J.yld i H x H' → g x (wipe σ vs) H' fun σ2 H2 => wipe σ2 vs = wipe σ vs ∧ tt σ2 H2 fun b H3 =>
    if b = true then te σ2 H3 fun y H4 => ∃ acc, H4 D = some (.lst acc) ∧ acc.length < sizeLine ∧ Nx (upd H4 D (.lst (acc ++ [y]))) else Nx H3)
section
variable {σ : St} {H : Hp} {Q : VK} {D : Ends}
theorem r_for {wi : TI} {g : TG} {tb : TS} (h : wi σ H fun J H1 => ForB J g tb D σ H1) : tFor wi g tb D σ H := h
theorem r_lc {wi : TI} {g : TG} {tt : TT} {te : TE} {vs : List Nat} (h : wi σ H fun J H1 => LcB J g tt te vs σ H1 Q) : tLc wi g tt te vs σ H Q := h
theorem for_B {J : It} {n : Nat} {G : Hp → Prop} {Y : Nat → Hp → V → Hp → Prop} (w : Walk J n G Y) {g : TG} {tb : TS} (Pv : Nat → St → Hp → Prop) (h0 : Pv 0 σ H) (hG : ∀ i σ H, i ≤ n → Pv i σ H → G H)
    (hs : ∀ i x σ H H', i < n → Pv i σ H → Y i H x H' → g x σ H' fun σ2 H2 => tb { D with nx := Pv (i + 1), ct := Pv (i + 1), bk := D.nx } σ2 H2) (hd : ∀ σ H, Pv n σ H → D.nx σ H) : ForB J g tb D σ H := for_it w Pv h0 hG hs hd
end
end L2
local macro_rules | `(tactic| tb_rel) => `(tactic| (with_reducible first
  | refine L2.r_ret ?_ | refine L2.r_seq ?_ | refine L2.r_asg ?_ | refine L2.r_gn ?_ | refine L2.r_if ?_ | refine L2.r_drop ?_ | refine L2.r_next ?_
  | refine L2.r_c ?_ | refine L2.r_op ?_ | refine L2.r_chain ?_ | refine L2.r_test ?_ | refine L2.r_B ?_ | refine L2.r_not ?_ | refine L2.r_and ?_ | refine L2.r_or ?_ | refine L2.r_ifE ?_ | refine L2.r_un ?_
  | refine L2.r_CB ?_ | refine L2.r_F ?_ | refine L2.r_cons ?_ | refine L2.r_nil ?_ | refine L2.r_tFld ?_ | refine L2.r_sFld ?_ | refine L2.r_tM ?_ | refine L2.r_tup ?_ | refine L2.r_lst ?_
  | refine L2.r_I0 ?_ | refine L2.r_neg ?_ | refine L2.r_eqI ?_ | refine L2.r_neI ?_ | refine L2.r_eqS ?_ | refine L2.r_neS ?_ | refine L2.r_eqB ?_ | refine L2.r_neB ?_ | refine L2.r_bl ?_ | refine L2.iteT ?_ | refine L2.iteF ?_))
namespace L2
open PySem PySem.Spec PyProof.Rows
end L2
local macro_rules | `(tactic| tb_rel) => `(tactic| with_reducible refine L2.r_var (by with_unfolding_all exact rfl) ?_)
namespace L2
open PySem PySem.Spec PyProof.Rows
/-! ### lists of ints -/
/-- what an append of a stable kind leaves -/
theorem sq_l {K : PySem.W.Frag} {H : Hp} {a : Addr} {xs : List V} (h : H a = some (.lst xs)) : SqL K H a xs := .of h
theorem sq_t {K : PySem.W.Frag} {H : Hp} {a : Addr} {xs : List V} (h : H a = some (.tup xs)) : SqT K H a xs := .of h
theorem Same.seqT {K : PySem.W.Frag} {H H' : Hp} {a : Addr} {xs : List V} (e : Same H H') (h : SqT K H a xs) : SqT K H' a xs := by
  rcases h with (h | ⟨o, h⟩) | h
  · exact .inl (.inl (e _ _ h))
  · exact .inl (.inr ⟨o, e _ _ h⟩)
  · exact .inr h
/-- a comprehension: what is made so far by its turn and the stable heap -/
theorem lc_J {It0 : It} {n : Nat} {G : Hp → Prop} {Y : Nat → Hp → V → Hp → Prop} (w : Walk It0 n G Y) {J : Hp → Hp → Prop} (hJ : JL J) {S0 H1 : Hp} {g : TG} {tt : TT} {te : TE} {vs : List Nat} {σ : St} {Q : VK} (j0 : J S0 H1)
    (Pv : Addr → Nat → List V → Hp → Prop) (h0 : ∀ D, Pv D 0 [] S0) (mono : ∀ D i acc S S', Pv D i acc S → Same S S' → Pv D i acc S') (hput : ∀ D i acc S l l', Pv D i acc S → S D = some (.lst l) → Pv D i acc (upd S D (.lst l')))
    (hlen : ∀ D i acc S, i ≤ n → Pv D i acc S → acc.length < sizeLine)
    (hG : ∀ S H, Same S0 S → J S H → G H)
    (hs : ∀ D i S H x H' acc (R : V → Hp → Prop) (R' : Hp → Prop), i < n → Same S0 S → J S H → S0 D = none → Pv D i acc S → Y i H x H' → (∀ y S4 H4, Same S S4 → J S4 H4 → Pv D (i + 1) (acc ++ [y]) S4 → R y H4) → (∀ S4 H3, Same S S4 → J S4 H3 → Pv D (i + 1) acc S4 → R' H3) →
      g x (wipe σ vs) H' fun σ2 H2 => wipe σ2 vs = wipe σ vs ∧ tt σ2 H2 fun b H3 => if b = true then te σ2 H3 R else R' H3)
    (hd : ∀ D acc S' H', Same S0 S' → J S' H' → S' D = some (.lst acc) → S0 D = none → H1 D = none → Pv D n acc S' → Q (.ref D) H') : LcB It0 g tt te vs σ H1 Q := by
  intro D hD
  have hS0 := hJ.fresh j0 hD
  refine lc_it w (Qd := fun H => Q (.ref D) H) (fun i H => ∃ S acc, Same S0 S ∧ J S H ∧ S D = some (.lst acc) ∧ Pv D i acc S) ?_ ?_ ?_ ?_
  · exact ⟨upd S0 D (.lst []), [], Same.new hS0, hJ.add j0 hD nt_lst, upd_same, mono _ _ _ _ _ (h0 D) (Same.new hS0)⟩
  · rintro i H hi ⟨S, acc, e, j, _, _⟩
    exact hG S H e j
  · rintro i x H H' hi ⟨S, acc, e, j, hd, p⟩ y
    refine hs D i S H x H' acc (fun y H4 => ∃ acc, H4 D = some (.lst acc) ∧ acc.length < sizeLine ∧ _) (fun H3 => _) hi e j hS0 p y ?_ ?_
    · intro y S4 H4 e4 j4 p4
      have h4 := e4 _ _ hd
      refine ⟨acc, hJ.same j4 _ _ h4, hlen D i acc S (Nat.le_of_lt hi) p, upd S4 D (.lst (acc ++ [y])), acc ++ [y], fun a o q => ?_, hJ.put j4 h4 nt_lst nt_lst, upd_same, hput _ _ _ _ _ _ p4 h4⟩
      rw [upd_ne (ne_of_none q hS0)]
      exact e4 _ _ (e _ _ q)
    · intro S4 H3 e4 j4 p4
      exact ⟨S4, acc, e.trans e4, j4, e4 _ _ hd, p4⟩
  · rintro H ⟨S, acc, e, j, hdd, p⟩
    exact hd D acc S H e j hdd hS0 hD p
end L2
/-! St2 -/
/-! readings: comprehensions of flat things over a heap that only grows; results -/
namespace L2
open PySem PySem.Spec PyProof.Rows
theorem take_snoc {α : Type} {xs : List α} {i : Nat} {a : α} (h : xs[i]? = some a) : xs.take (i + 1) = xs.take i ++ [a] := by
  rw [List.take_add_one, h]
  rfl
theorem lc_L {α : Type} {It0 : It} {n : Nat} {G : Hp → Prop} {Y : Nat → Hp → V → Hp → Prop} (w : Walk It0 n G Y) {H1 : Hp} {g : TG} {tt : TT} {te : TE} {vs : List Nat} {σ : St} {Q : VK}
    (xs : List α) (hn : xs.length = n) (hz : n < sizeLine) (c : α → Bool) (f : α → V)
    (hG : ∀ H, Same H1 H → G H)
    (hs : ∀ i a H x H' (R : V → Hp → Prop) (R' : Hp → Prop), xs[i]? = some a → Same H1 H → Y i H x H' → (c a = true → ∀ H4, Same H H4 → R (f a) H4) → (c a = false → ∀ H4, Same H H4 → R' H4) →
      g x (wipe σ vs) H' fun σ2 H2 => wipe σ2 vs = wipe σ vs ∧ tt σ2 H2 fun b H3 => if b = true then te σ2 H3 R else R' H3)
    (hd : ∀ D H', H1 D = none → Same H1 H' → H' D = some (.lst ((xs.filter c).map f)) → Q (.ref D) H') : LcB It0 g tt te vs σ H1 Q := by
  refine lc_J w jl0 (S0 := H1) (fun _ _ h => h) (fun _ i acc _ => acc = ((xs.take i).filter c).map f) (fun _ => rfl) (fun _ _ _ _ _ p _ => p) (fun _ _ _ _ _ _ p _ => p) (fun _ i acc S hi p => ?_) (fun S H e j => hG H (e.trans j)) (fun D i S H x H' acc R R' hi e j _ p y r r' => ?_) (fun D acc S' H' e j hd' _ hD p => ?_)
  · rw [p, List.length_map]
    refine Nat.lt_of_le_of_lt (List.length_filter_le _ _) ?_
    rw [List.length_take]
    omega
  · have ha : xs[i]? = some (xs[i]'(by omega)) := by simp [hn, hi]
    refine hs i _ H x H' R R' ha (e.trans j) y (fun hc H4 e4 => ?_) fun hc H4 e4 => ?_
    · refine r _ H H4 j e4 ?_
      rw [take_snoc ha, List.filter_append, List.map_append, ← p]
      simp [hc]
    · refine r' H H4 j e4 ?_
      rw [take_snoc ha, List.filter_append, List.map_append, ← p]
      simp [hc]
  · refine hd D H' hD (e.trans j) ?_
    rw [j _ _ hd', p, List.take_of_length_le (by omega)]
/-- no if -/
theorem lc_M {α : Type} {It0 : It} {n : Nat} {G : Hp → Prop} {Y : Nat → Hp → V → Hp → Prop} (w : Walk It0 n G Y) {H1 : Hp} {g : TG} {te : TE} {vs : List Nat} {σ : St} {Q : VK}
    (xs : List α) (hn : xs.length = n) (hz : n < sizeLine) (f : α → V)
    (hG : ∀ H, Same H1 H → G H)
    (hs : ∀ i a H x H' (R : V → Hp → Prop), xs[i]? = some a → Same H1 H → Y i H x H' → (∀ H4, Same H H4 → R (f a) H4) →
      g x (wipe σ vs) H' fun σ2 H2 => wipe σ2 vs = wipe σ vs ∧ te σ2 H2 R)
    (hd : ∀ D H', H1 D = none → Same H1 H' → H' D = some (.lst (xs.map f)) → Q (.ref D) H') : LcB It0 g tYes te vs σ H1 Q := by
  refine lc_J w jl0 (S0 := H1) (fun _ _ h => h) (fun _ i acc _ => acc = (xs.take i).map f) (fun _ => rfl) (fun _ _ _ _ _ p _ => p) (fun _ _ _ _ _ _ p _ => p) (fun _ i acc S hi p => ?_) (fun S H e j => hG H (e.trans j)) (fun D i S H x H' acc R R' hi e j _ p y r r' => ?_) (fun D acc S' H' e j hd' _ hD p => ?_)
  · rw [p, List.length_map, List.length_take]
    omega
  · have ha : xs[i]? = some (xs[i]'(by omega)) := by simp [hn, hi]
    have q := hs i _ H x H' R ha (e.trans j) y (fun H4 e4 => ?_)
    · exact q
    · refine r _ H H4 j e4 ?_
      rw [take_snoc ha, List.map_append, ← p]
      rfl
  · refine hd D H' hD (e.trans j) ?_
    rw [j _ _ hd', p, List.take_of_length_le (by omega)]
/-- no if, the items told by E -/
theorem lc_E {α : Type} {It0 : It} {n : Nat} {G : Hp → Prop} {Y : Nat → Hp → V → Hp → Prop} (w : Walk It0 n G Y) {H1 : Hp} {g : TG} {te : TE} {vs : List Nat} {σ : St} {Q : VK}
    (xs : List α) (hn : xs.length = n) (hz : n < sizeLine) (E : α → Hp → V → Prop) (mono : ∀ a S S' v, Same S S' → E a S v → E a S' v) (hput : ∀ a S v D l l', S D = some (.lst l) → E a S v → E a (upd S D (.lst l')) v)
    (hG : ∀ H, Same H1 H → G H)
    (hs : ∀ i a H x H' (R : V → Hp → Prop), xs[i]? = some a → Same H1 H → Y i H x H' → (∀ v H4, Same H H4 → E a H4 v → R v H4) →
      g x (wipe σ vs) H' fun σ2 H2 => wipe σ2 vs = wipe σ vs ∧ te σ2 H2 R)
    (hd : ∀ (D : Addr) (H' : Hp) (vs : List V), H1 D = none → Same H1 H' → H' D = some (.lst vs) → vs.length = xs.length → (∀ (i : Nat) (a : α) (v : V), xs[i]? = some a → vs[i]? = some v → E a H' v) → Q (.ref D) H') : LcB It0 g tYes te vs σ H1 Q := by
  refine lc_J w jl0 (S0 := H1) (fun _ _ h => h) (fun _ i (acc : List V) S => acc.length = i ∧ ∀ (j : Nat) (a : α) (v : V), xs[j]? = some a → acc[j]? = some v → E a S v) (fun _ => ⟨rfl, fun j a v _ h => (by rw [List.getElem?_nil] at h; cases h)⟩) (fun _ _ _ S S' p e => ⟨p.1, fun j a v h1 h2 => mono _ _ _ _ e (p.2 j a v h1 h2)⟩)
    (fun D _ _ S l l' p hl => ⟨p.1, fun j a v h1 h2 => hput _ _ _ _ _ _ hl (p.2 j a v h1 h2)⟩) (fun _ i acc S hi p => by rw [p.1]; omega) (fun S H e j => hG H (e.trans j)) (fun D i S H x H' acc R R' hi e j _ p y r r' => ?_) (fun D acc S' H' e j hd' _ hD p => ?_)
  · have ha : xs[i]? = some (xs[i]'(by omega)) := by simp [hn, hi]
    have q := hs i _ H x H' R ha (e.trans j) y (fun v H4 e4 hE => ?_)
    · exact q
    · refine r v H4 H4 (j.trans e4) (Same.refl _) ⟨by rw [List.length_append, p.1]; rfl, fun k a u h1 h2 => ?_⟩
      by_cases hk : k < acc.length
      · rw [List.getElem?_append_left hk] at h2
        exact mono _ _ _ _ (j.trans e4) (p.2 k a u h1 h2)
      · rw [List.getElem?_append_right (by omega)] at h2
        have hk2 : k = i := by
          have h3 : k - acc.length < 1 := by
            refine Decidable.byContradiction fun z => ?_
            rw [List.getElem?_eq_none (by simp; omega)] at h2
            cases h2
          have := p.1
          omega
        subst hk2
        have e1 := Option.some.inj (h1.symm.trans ha)
        rw [p.1, Nat.sub_self] at h2
        have e2 : v = u := Option.some.inj h2
        rw [e1, ← e2]
        exact hE
  · exact hd D H' acc hD (e.trans j) (j _ _ hd') (by rw [p.1, hn]) fun i a v h1 h2 => mono _ _ _ _ j (p.2 i a v h1 h2)
/-- a new flat object, or a constant one -/
def NewT (K : PySem.W.Frag) (H H' : Hp) (p : Addr) (xs : List V) : Prop := (H p = none ∧ H' p = some (.tup xs)) ∨ ∀ G, SqT K G p xs
theorem NewT.sq {K : PySem.W.Frag} {H H' : Hp} {p : Addr} {xs : List V} (n : NewT K H H' p xs) : SqT K H' p xs := n.elim (fun h => .of h.2) fun h => h H'
theorem NewT.trk {K : PySem.W.Frag} {J : Hp → Hp → Prop} (hJ : JL J) {S H H' : Hp} {p : Addr} {xs : List V} (j : J S H) (e : Same H H') (n : NewT K H H' p xs) : ∃ S', Same S S' ∧ J S' H' ∧ SqT K S' p xs := by
  rcases n with ⟨h, h'⟩ | h
  · exact ⟨upd S p (.tup xs), Same.new (hJ.fresh j h), hJ.trk j e h h' nt_tup, .of upd_same⟩
  · exact ⟨S, Same.refl S, hJ.ext j e, h S⟩
theorem NewT.back {K : PySem.W.Frag} {H0 H H' : Hp} {p : Addr} {xs : List V} (e : Same H0 H) (n : NewT K H H' p xs) : NewT K H0 H' p xs := n.imp (fun h => ⟨e.free h.1, h.2⟩) id
theorem NewT.fwd {K : PySem.W.Frag} {H H' H'' : Hp} {p : Addr} {xs : List V} (e : Same H' H'') (n : NewT K H H' p xs) : NewT K H H'' p xs := n.imp (fun h => ⟨h.1, e _ _ h.2⟩) id
theorem Same.seqL {K : PySem.W.Frag} {H H' : Hp} {a : Addr} {xs : List V} (e : Same H H') (h : SqL K H a xs) : SqL K H' a xs := by
  rcases h with (h | ⟨o, h⟩) | h
  · exact .inl (.inl (e _ _ h))
  · exact .inl (.inr ⟨o, e _ _ h⟩)
  · exact .inr h
/-- (c,) * k, the left tuple new or of the text -/
theorem r_rep {K : PySem.W.Frag} {H0 H : Hp} {l : Addr} {k : Int} {xs : List V} {Q : VK} (h : NewT K H0 H l xs) (e0 : Same H0 H) (hx : xs ≠ []) (hl : xs.length ≤ 1000) (h0 : 0 ≤ k) (h1 : k ≤ 1000)
    (q : ∀ p H', Same H H' → NewT K H0 H' p (List.replicate k.toNat xs).flatten → Q (.ref p) H') : rRepA K (.ref l) (.int k) H Q := by
  refine ⟨l, k, xs, rfl, rfl, h.sq, hx, h0, h1, hl, fun e => ?_, fun e p hp => ?_⟩
  · refine q l H (Same.refl H) ?_
    rw [e]
    have e2 : (List.replicate (Int.toNat 1) xs).flatten = xs := by simp
    rw [e2]
    exact h
  · exact q p _ (Same.new hp) (.inl ⟨e0.free hp, upd_same⟩)
/-- (e, ..) -/
theorem r_tupN {K : PySem.W.Frag} {H : Hp} {xs : List V} {Q : VK} (q : ∀ p H', Same H H' → NewT K H H' p xs → Q (.ref p) H') (hl : xs.length ≤ 1000 := by first | decide | exact Nat.le_of_ble_eq_true rfl) : TupN xs H Q :=
  ⟨Nat.le_trans hl (by decide), fun p hp => q p _ (Same.new hp) (.inl ⟨hp, upd_same⟩)⟩
theorem r_lstN {H : Hp} {xs : List V} {Q : VK} (q : ∀ p H', H p = none → Same H H' → H' p = some (.lst xs) → Q (.ref p) H') (hl : xs.length ≤ 1000 := by first | decide | exact Nat.le_of_ble_eq_true rfl) : LstN xs H Q :=
  ⟨Nat.le_trans hl (by decide), fun p hp => q p _ hp (Same.new hp) upd_same⟩
end L2
/-! Kx -/
/-! the rules whose reading names the written part, with it given -/
namespace L2
open PySem PySem.Spec PyProof.Rows
section
variable {X : Cx} (K : PySem.W.Frag)
theorem ix_listK (h : X.K = K := by rfl) : IxR X (rIxL K) := by
  subst h
  exact ix_list
theorem ix_tupK (h : X.K = K := by rfl) : IxR X (rIxT K) := by
  subst h
  exact ix_tup
theorem ix_dictIK (h : X.K = K := by rfl) : IxR X (rIxI K) := by
  subst h
  exact ix_dictI
theorem op_in_seqK (h : X.K = K := by rfl) : OpR X (compareOp .In) (rIn K false) := by
  subst h
  exact op_in_seq
theorem op_notIn_seqK (h : X.K = K := by rfl) : OpR X (compareOp .NotIn) (rIn K true) := by
  subst h
  exact op_notIn_seq
theorem op_catTK (h : X.K = K := by rfl) : OpR X (binaryOp .Add) (rCatT K) := by
  subst h
  exact op_catT
theorem op_repAK (h : X.K = K := by rfl) : OpR X (binaryOp .Mult) (rRepA K) := by
  subst h
  exact op_repA
theorem sl_tupK (h : X.K = K := by rfl) : SlR X (rSlT K) := by
  subst h
  exact sl_tup
theorem sl_listK (h : X.K = K := by rfl) : SlR X (rSlL K) := by
  subst h
  exact sl_list
theorem pget_listK (h : X.K = K := by rfl) : PGet X (rIxN K) := by
  subst h
  exact pget_list
theorem cr_sortedK (h : X.K = K := by rfl) : CallR X (.builtin "sorted") (rSorted K) := by
  subst h
  exact cr_sorted
theorem cr_sortedSK (h : X.K = K := by rfl) : CallR X (.builtin "sorted") (rSortedS K) := by
  subst h
  exact cr_sortedS
def rLenSeq (K : PySem.W.Frag) : List V → Hp → VK → Prop := fun xs H Q => ∃ p ys, xs = [.ref p] ∧ (SqL K H p ys ∨ SqT K H p ys) ∧ Q (.int ys.length) H
theorem call_len_seqK (h : X.K = K := by rfl) : CallR X (.builtin "len") (rLenSeq K) := by
  subst h
  exact call_len_seq
def rListOf (K : PySem.W.Frag) : List V → Hp → VK → Prop := fun xs H Q => ∃ p ys, xs = [.ref p] ∧ (SqL K H p ys ∨ SqT K H p ys) ∧ ∀ l, H l = none → Q (.ref l) (upd H l (.lst ys))
theorem call_list_ofK (h : X.K = K := by rfl) : CallR X (.type "list") (rListOf K) := by
  subst h
  exact call_list_of
theorem cr_allK (hc : X.calm = true) (h : X.K = K := by rfl) : CallR X (.builtin "all") (rAll K) := by
  subst h
  exact cr_all hc
theorem cr_maxK (hc : X.calm = true) (h : X.K = K := by rfl) : CallR X (.builtin "max") (rMax K) := by
  subst h
  exact cr_max hc
theorem op_eqDK (hu : X.A.units + 64 < cLine) (h : X.K = K := by rfl) : OpR X (compareOp .Eq) (rEqD K) := by
  subst h
  exact op_eqD hu
theorem op_neDK (hu : X.A.units + 64 < cLine) (h : X.K = K := by rfl) : OpR X (compareOp .NotEq) (rNeD K) := by
  subst h
  exact op_neD hu
theorem op_inDK (hu : X.A.units + 65 < cLine) (h : X.K = K := by rfl) : OpR X (compareOp .In) (rInD K) := by
  subst h
  exact op_inD hu
theorem op_notInDK (hu : X.A.units + 65 < cLine) (h : X.K = K := by rfl) : OpR X (compareOp .NotIn) (rNotInD K) := by
  subst h
  exact op_notInD hu
theorem call_isiK' (h : X.K = K := by rfl) : CallR X (.builtin "isinstance") (rIsi K) := by
  subst h
  exact call_isi
theorem pe_fldK {e : Expr} {f : Str} {pos : Pos} {ta : TE} (he : PE X e ta) (hb : attributeBase e f X.env (eval e X.env) = eval e X.env) (h : X.K = K := by rfl) : PE X (.Attribute e f pos) (tFld K ta f) := by
  subst h
  exact pe_fld he hb
theorem ps_fldK {o value : Expr} {f : Str} {pos pos' : Pos} {ta tv : TE} (ha : PE X o ta) (hv : PE X value tv) (hs : swapsWith value (some (.Attribute o f pos')) pos.line X.env = pure false) (h : X.K = K := by rfl) : PS X (.Assign [.Attribute o f pos'] value pos) (sFld K ta tv f) := by
  subst h
  exact ps_fld ha hv hs
theorem ps_fldaugK {o value : Expr} {f : Str} {pos tpos : Pos} {ta tv : TE} {op : Operator} {rd : V → V → Hp → VK → Prop} (ha : PE X o ta) (hv : PE X value tv) (hop : InOp X op rd) (h : X.K = K := by rfl) : PS X (.AugAssign (.Attribute o f tpos) op value pos) (sFldAug K ta tv rd f) := by
  subst h
  exact ps_fldaug ha hv hop
theorem pi_listK {tg l : Expr} {tl : TE} (hl : PE X l tl) (h : X.K = K := by rfl) : PI X tg l (iList K tl) := by
  subst h
  exact pi_list hl
theorem pi_tupK {tg l : Expr} {tl : TE} (hl : PE X l tl) (h : X.K = K := by rfl) : PI X tg l (iTup K tl) := by
  subst h
  exact pi_tup hl
theorem pi_enumK {e : Expr} {ta : TA} {p pos tpos : Pos} {elts : List Expr} {kk : Nat} (hg : Gl X "enumerate") (hm : X.mg "enumerate" = none) (ha : PA X [e] ta) (hs : starEach [e] X.env = [(false, eval e X.env)] := by rfl) (h : X.K = K := by rfl) :
    PI X (.Tuple elts kk tpos) (.Call (.Name "enumerate" p) [e] [] pos) (iEnum K ta) := by
  subst h
  exact pi_enum hg hm ha hs
theorem pi_enumTK {e : Expr} {ta : TA} {p pos tpos : Pos} {elts : List Expr} {kk : Nat} (hg : Gl X "enumerate") (hm : X.mg "enumerate" = none) (ha : PA X [e] ta) (hs : starEach [e] X.env = [(false, eval e X.env)] := by rfl) (h : X.K = K := by rfl) :
    PI X (.Tuple elts kk tpos) (.Call (.Name "enumerate" p) [e] [] pos) (iEnumT K ta) := by
  subst h
  exact pi_enumT hg hm ha hs
theorem pi_reversedK {tg e : Expr} {ta : TA} {p pos : Pos} (hg : Gl X "reversed") (hm : X.mg "reversed" = none) (ha : PA X [e] ta) (hs : starEach [e] X.env = [(false, eval e X.env)] := by rfl) (h : X.K = K := by rfl) : PI X tg (.Call (.Name "reversed" p) [e] [] pos) (iRev K ta) := by
  subst h
  exact pi_reversed hg hm ha hs
theorem pg_tupK {es : List Expr} {k : Nat} {t : TGs} {n : Nat} {pos : Pos} (hc : X.calm = true) (hh : PGs X es t)
    (hn : (assignEach es X.env).length = n := by rfl) (hst : (assignEach es X.env).findIdx? (·.1) = none := by rfl) (h : X.K = K := by rfl) : PG X (.Tuple es k pos) (gTup K n t) := by
  subst h
  exact pg_tup hc hh hn hst
theorem pe_tupleOfK {a : Expr} {ta : TE} {p pos : Pos} (hg : Gl X "tuple") (hm : X.mg "tuple" = none) (ha : PE X a ta) (na : starEach [a] X.env = (false, eval a X.env) :: starEach [] X.env := by rfl) (h : X.K = K := by rfl) :
    PE X (.Call (.Name "tuple" p) [a] [] pos) (tThen ta (kTup K)) := by
  subst h
  exact pe_tupleOf hg hm ha na
theorem pe_bmK {T : String} {name : Str} {id : String} {r : V → List V → Hp → VK → Prop} {o e : Expr} {es : List Expr} {apos cpos : Pos} {to : TE} {t : TA} (pa : PlainAttrs T) (slot : Slot T name id) (hty : typeOf (.builtin id) = pure (.type "method_descriptor")) (hm : MtR X id r) (ho : PE X o to) (ha : PA X (e :: es) t)
    (hbase : attributeBase o name X.env (eval o X.env) = eval o X.env := by rfl)
    (hfew : ((backTo cpos (starEach (e :: es) X.env)).all (fun x => !x.1) && (backToKw cpos (keywordEach [] X.env)).all (fun x => x.1.isSome)
      && decide ((e :: es).length + ([] : List Keyword).length + (if ([] : List Keyword).isEmpty then 0 else 1) < 30)) = true := by rfl)
    (hline : (apos.endLine == cpos.line) = true := by rfl) (hs : starEach (e :: es) X.env = (false, eval e X.env) :: starEach es X.env := by rfl) (hplain : (backTo cpos (starEach es X.env)).any (·.1) = false := by rfl) (h : X.K = K := by rfl) :
    PE X (.Call (.Attribute o name apos) (e :: es) [] cpos) (tBM K T r to t) := by
  subst h
  exact pe_bm pa slot hty hm ho ha hbase hfew hline hs hplain
theorem pi_zipSK (t1 t2 : Bool) {e e2 : Expr} {ta : TA} {p pos tpos kpos cpos : Pos} {j : Nat} {elts : List Expr} {kk : Nat} (hg : Gl X "zip") (hm : X.mg "zip" = none) (ha : PA X [e, e2] ta)
    (he : backTo pos (starEach [e, e2] X.env) = (false, eval e X.env) :: backTo pos (starEach [e2] X.env) := by rfl) (hpl : (backTo pos (starEach [e, e2] X.env)).any (·.1) = false := by rfl) (h : X.K = K := by rfl) :
    PI X (.Tuple elts kk tpos) (.Call (.Name "zip" p) [e, e2] [⟨some (Str.ofString "strict"), .Constant (.bool true) j cpos, kpos⟩] pos) (iZipS K t1 t2 ta) := by
  subst h
  exact pi_zipS t1 t2 hg hm ha he hpl
end
/-! the loops' and comprehensions' readings, opened -/
section
variable {σ : St} {H : Hp} {D : Ends} {K : PySem.W.Frag} {Q : VK}
variable {R : It → Hp → Prop} {tl : TE} {ta : TA}
theorem r_iList (h : tl σ H fun x H1 => ∃ a, x = .ref a ∧ (∃ xs, SqL K H1 a xs) ∧ R (Itl K a) H1) : iList K tl σ H R := h
theorem r_iTup (h : tl σ H fun x H1 => ∃ a, x = .ref a ∧ (∃ xs, SqT K H1 a xs) ∧ R (Itt K a) H1) : iTup K tl σ H R := h
theorem r_iRng1 (h : ta σ H fun vs H1 => ∃ j : Int, vs = [.int j] ∧ -(2 ^ 62) ≤ j ∧ j < 2 ^ 62 ∧ R (Itr 0 j.toNat) H1) : iRng1 ta σ H R := h
theorem r_iRng2 (h : ta σ H fun vs H1 => ∃ i j : Int, vs = [.int i, .int j] ∧ (-(2 ^ 62) ≤ i ∧ i < 2 ^ 62 ∧ -(2 ^ 62) ≤ j ∧ j < 2 ^ 62) ∧ R (Itr i (j - i).toNat) H1) : iRng2 ta σ H R := h
theorem r_iRng3 (h : ta σ H fun vs H1 => ∃ (i j c : Int) (n : Nat), vs = [.int i, .int j, .int c] ∧ RgC i j c n ∧ R (Itc i c n) H1) : iRng3 ta σ H R := h
theorem r_iRev (h : ta σ H fun vs H1 => ∃ (a : Addr) (xs : List V), vs = [.ref a] ∧ SqL K H1 a xs ∧ R (Itv K a xs.length) H1) : iRev K ta σ H R := h
theorem r_iEnum (h : ta σ H fun vs H1 => ∃ a xs, vs = [.ref a] ∧ SqL K H1 a xs ∧ R (Ite K a) H1) : iEnum K ta σ H R := h
theorem r_iEnumT (h : ta σ H fun vs H1 => ∃ a xs, vs = [.ref a] ∧ SqT K H1 a xs ∧ R (IteT K a) H1) : iEnumT K ta σ H R := h
theorem r_iZipS {t1 t2 : Bool} (h : ta σ H fun vs H1 => ∃ a b xs ys, vs = [.ref a, .ref b] ∧ SqX K t1 H1 a xs ∧ SqX K t2 H1 b ys ∧ R (ItzS K t1 t2 a b) H1) : iZipS K t1 t2 ta σ H R := h
theorem r_iStr (h : tl σ H fun v H1 => ∃ x, v = .str x ∧ R (Its x) H1) : iStr tl σ H R := h
/-! targets -/
theorem r_gP {i j : Nat} {T : Addr} {x y : V} {R : St → Hp → Prop} (h : H T = some (.tup [x, y])) (q : R ((σ.set i (some x)).set j (some y)) H) : gTup K 2 (gCons (gName i) (gCons (gName j) gNil)) (.ref T) σ H R :=
  r_gtup (.of h) rfl (r_gcons (r_gn (r_gcons (r_gn (r_gnil q)))))
theorem hu64 {A : Around} {k : Nat} (hr : Room k A) : A.units + 64 < cLine := by
  have := hr.un
  omega
theorem hu65 {A : Around} {k : Nat} (hr : Room k A) : A.units + 65 < cLine := by
  have := hr.un
  omega
theorem r_tw {P : Prop} (a : P) {B : Prop} (b : B) : P ∧ B := ⟨a, b⟩
theorem r_yes {R : Bool → Hp → Prop} (q : R true H) : tYes σ H R := q
theorem r_len {a : Addr} {xs : List V} (h : SqL K H a xs ∨ SqT K H a xs) (q : Q (.int xs.length) H) : rLenSeq K [.ref a] H Q := ⟨a, xs, rfl, h, q⟩
theorem r_tBM {T : String} {r : V → List V → Hp → VK → Prop} {to : TE} {t : TA} (h : to σ H fun x H1 => tyV K T x H1 ∧ t σ H1 fun xs H2 => r x xs H2 Q) : tBM K T r to t σ H Q := h
theorem r_app {l : Addr} {xs : List V} {y : V} (h : H l = some (.lst xs)) (hz : xs.length < 1000) (q : Q .non (upd H l (.lst (xs ++ [y])))) : rAppend (.ref l) [y] H Q := ⟨l, xs, y, rfl, rfl, h, Nat.lt_of_lt_of_le hz (by decide), q⟩
theorem r_ty {l : Addr} {xs : List V} {P : Prop} (h : H l = some (.lst xs)) (q : P) : tyV K "list" (.ref l) H ∧ P := ⟨.inl ⟨rfl, xs, .of h⟩, q⟩
theorem range_get {n i j : Nat} (h : (List.range n)[i]? = some j) : i < n ∧ j = i := by
  have hi : i < n := by
    refine Decidable.byContradiction fun z => ?_
    rw [List.getElem?_eq_none (by simp; omega)] at h
    cases h
  rw [List.getElem?_range hi] at h
  exact ⟨hi, (Option.some.inj h).symm⟩
theorem Same.put {H G : Hp} {D : Addr} {o : HO} (e : Same H G) (h : H D = none) : Same H (upd G D o) := fun a u q => by
  rw [upd_ne (ne_of_none q h)]
  exact e _ _ q
theorem map_get {α : Type} {f : α → V} {xs : List α} {i : Nat} {v : V} (h : (xs.map f)[i]? = some v) : ∃ a, xs[i]? = some a ∧ v = f a := by
  rw [List.getElem?_map] at h
  cases e : xs[i]? with
  | none => rw [e] at h; cases h
  | some a => rw [e] at h; exact ⟨a, rfl, (Option.some.inj h).symm⟩
theorem r_augS {to ti te : TE} {tget : V → V → Hp → VK → Prop} {tip : TIp} {tset : TSet} (h : to σ H fun o H1 => ti σ H1 fun i H2 => tget o i H2 fun x H3 => te σ H3 fun y H4 => tip x y H4 fun z H5 => tset o i z H5 fun H6 => D.nx σ H6) : tAugS to ti te tget tip tset D σ H := h
theorem r_sl {r : V → Option Int → Option Int → Hp → VK → Prop} {te : TE} {tl th : TO} (h : te σ H fun x H1 => tl σ H1 fun l H2 => th σ H2 fun u H3 => r x l u H3 Q) : L2.tSl r te tl th σ H Q := h
theorem r_part {t : TE} {R : Option Int → Hp → Prop} (h : t σ H fun x H1 => ∃ i, x = .int i ∧ R (some i) H1) : tPart t σ H R := h
theorem r_noPart {R : Option Int → Hp → Prop} (h : R none H) : tNoPart σ H R := h
theorem r_gsub {to ti : TE} {t : TSet} {v : V} {R : L2.St → Hp → Prop} (h : to σ H fun o H1 => ti σ H1 fun i H2 => t o i v H2 fun H3 => R σ H3) : gSub to ti t v σ H R := h
theorem r_aug {i : Nat} {te : TE} {ti : TIp} {x : V} (hx : σ[i]? = some (some x)) (h : te σ H fun y H1 => ti x y H1 fun z H2 => D.nx (σ.set i (some z)) H2) : tAug i te ti D σ H := ⟨x, hx, h⟩
theorem r_ip {f : Int → Int → Int} {a b : Int} (q : Q (.int (f a b)) H) : ipI f (.int a) (.int b) H Q := ⟨a, b, rfl, rfl, q⟩
theorem r_brk (h : D.bk σ H) : tBreak D σ H := h
theorem r_retN (h : D.rt .non H) : tRetN D σ H := h
theorem r_then {ta : TE} {k : V → Hp → VK → Prop} (h : ta σ H fun x H1 => k x H1 Q) : tThen ta k σ H Q := h
theorem r_andV {ta tb : TE} (h : ta σ H fun x H1 => ∃ c, x = .bl c ∧ if c = true then tb σ H1 Q else Q (.bl false) H1) : tAndV ta tb σ H Q := h
theorem r_orV {ta tb : TE} (h : ta σ H fun x H1 => ∃ c, x = .bl c ∧ if c = true then Q (.bl true) H1 else tb σ H1 Q) : tOrV ta tb σ H Q := h
theorem r_dget {td ty : TE} (h : td σ H fun x H1 => ty σ H1 fun y H2 => ∃ a v, x = .ref a ∧ DGet H2 a y (some v) ∧ Q v H2) : tDGet td ty σ H Q := h
theorem r_dput {td ty tv : TE} (h : tv σ H fun v H1 => td σ H1 fun x H2 => ty σ H2 fun y H3 => ∃ a H4, x = .ref a ∧ DPut H3 a y v H4 ∧ D.nx σ H4) : sDPut td ty tv D σ H := h
theorem r_din {td ty : TE} (h : ty σ H fun y H1 => td σ H1 fun x H2 => ∃ a o, x = .ref a ∧ DGet H2 a y o ∧ Q (.bl o.isSome) H2) : tDIn ty td σ H Q := h
theorem r_dnotin {td ty : TE} (h : ty σ H fun y H1 => td σ H1 fun x H2 => ∃ a o, x = .ref a ∧ DGet H2 a y o ∧ Q (.bl (!o.isSome)) H2) : tDNotIn ty td σ H Q := h
theorem r_fldaug {ta tv : TE} {rd : V → V → Hp → VK → Prop} {f : Str} (h : ta σ H fun x H1 => ∃ a C dx fs v, x = .ref a ∧ H1 a = some (.ins C dx fs) ∧ Cls K C ∧ NoAttr K C f ∧ fs.lookup f = some v ∧
  tv σ H1 fun y H2 => rd v y H2 fun z H3 => ∃ dx' fs', H3 a = some (.ins C dx' fs') ∧ fs'.length < 1000 ∧ D.nx σ (upd H3 a (.ins C dx' (putF f z fs')))) : sFldAug K ta tv rd f D σ H := h
def WhB (Pv : Nat → L2.St → Hp → Prop) (m : Nat) (tb : TS) (D : Ends) (σ : L2.St) (H1 : Hp) : Prop := ∃ N : L2.St → Hp → Prop, (∀ σ' H', N σ' H' → ∃ m', m' < m ∧ Pv m' σ' H') ∧ tb { D with nx := N, ct := N, bk := D.nx } σ H1
theorem while_m {c : TT} {tb : TS} (Pv : Nat → L2.St → Hp → Prop) (h0 : ∃ m, Pv m σ H) (hs : ∀ m σ H, Pv m σ H → c σ H fun b H1 => if b = true then WhB Pv m tb D σ H1 else D.nx σ H1) : tWhile c tb D σ H := ⟨Pv, h0, hs⟩
theorem r_wh {tb : TS} {Pv : Nat → L2.St → Hp → Prop} {m : Nat} (h : tb { D with nx := fun σ' H' => ∃ m', m' < m ∧ Pv m' σ' H', ct := fun σ' H' => ∃ m', m' < m ∧ Pv m' σ' H', bk := D.nx } σ H) : WhB Pv m tb D σ H := ⟨_, fun _ _ h => h, h⟩
theorem r_in {a : Addr} {x : V} {xs : List V} {neg : Bool} (h : SqL K H a xs ∨ SqT K H a xs) (h1 : flatV x = true) (h2 : xs.all flatV = true) (q : Q (.bl (if neg then !inV x xs else inV x xs)) H) : rIn K neg x (.ref a) H Q := ⟨a, xs, rfl, h, h1, h2, q⟩
def SameBut (p : Addr) (H H' : Hp) : Prop := ∀ b o, b ≠ p → H b = some o → H' b = some o
theorem SameBut.of {p : Addr} {H H' : Hp} (e : Same H H') : SameBut p H H' := fun b o _ q => e b o q
theorem SameBut.put {p : Addr} {H H' : Hp} {o : HO} (e : SameBut p H H') : SameBut p H (upd H' p o) := fun b u n q => by
  rw [upd_ne n]
  exact e b u n q
theorem SameBut.trans {p : Addr} {H H1 H2 : Hp} (a : SameBut p H H1) (b : SameBut p H1 H2) : SameBut p H H2 := fun c o n h => b c o n (a c o n h)
theorem SameBut.new {p dx : Addr} {H H3 : Hp} {C : Addr} (h1 : H p = none) (h2 : H dx = none) (e : SameBut p (upd (upd H dx (.own p)) p (.ins C dx [])) H3) : Same H H3 := fun b o q => by
  have n1 : b ≠ p := ne_of_none q h1
  have n2 : b ≠ dx := ne_of_none q h2
  refine e b o n1 ?_
  rw [upd_ne n1, upd_ne n2]
  exact q
end
end L2
local macro_rules | `(tactic| tb_rel) => `(tactic| (with_reducible first
  | refine L2.r_for ?_ | refine L2.r_lc ?_ | refine L2.r_iList ?_ | refine L2.r_iTup ?_ | refine L2.r_iRng1 ?_ | refine L2.r_iRng2 ?_ | refine L2.r_iRng3 ?_ | refine L2.r_iRev ?_ | refine L2.r_iEnum ?_ | refine L2.r_iEnumT ?_ | refine L2.r_iZipS ?_ | refine L2.r_iStr ?_ | refine L2.r_tBM ?_ | refine L2.r_yes ?_ | refine L2.r_augS ?_ | refine L2.r_sl ?_ | refine L2.r_part ?_ | refine L2.r_noPart ?_ | refine L2.r_gsub ?_ | refine L2.r_ip ?_ | refine L2.r_brk ?_ | refine L2.r_retN ?_ | refine L2.r_then ?_ | refine L2.r_andV ?_ | refine L2.r_orV ?_ | refine L2.r_dget ?_ | refine L2.r_dput ?_ | refine L2.r_din ?_ | refine L2.r_dnotin ?_ | refine L2.r_fldaug ?_ | refine L2.r_wh ?_))
namespace L2
open PySem PySem.Spec PyProof.Rows
end L2
local macro_rules | `(tactic| tb_rel) => `(tactic| with_reducible refine L2.r_aug (by with_unfolding_all exact rfl) ?_)
namespace L2
open PySem PySem.Spec PyProof.Rows
end L2
/-! Dp -/
/-! == and != of data -/
namespace L2
open PySem PySem.Spec PyProof.Rows LamX
def Lay (n : Nat) (d : PyData) : Prop := d.canLay0 = true ∧ d.depth ≤ n
theorem lay_int (n : Nat) (i : Int) : Lay n (.int i) := ⟨by simp [PyData.canLay0], by simp [PyData.depth]⟩
theorem lay_all {n : Nat} : ∀ {ds : List PyData}, (∀ d ∈ ds, Lay n d) → PyData.canLayAll0 ds = true ∧ PyData.depthAll ds ≤ n
  | [], _ => ⟨by simp [PyData.canLayAll0], by simp [PyData.depthAll]⟩
  | d :: ds, h => by
    have h1 := h d (List.mem_cons_self ..)
    have h2 := lay_all fun x hx => h x (List.mem_cons_of_mem d hx)
    refine ⟨by simp [PyData.canLayAll0, h1.1, h2.1], ?_⟩
    simp only [PyData.depthAll]
    have := h1.2
    omega
theorem lay_list {n : Nat} {ds : List PyData} (h : ∀ d ∈ ds, Lay n d) : Lay (n + 1) (.list ds) := by
  have := lay_all h
  exact ⟨by simp only [PyData.canLay0]; exact this.1, by simp only [PyData.depth]; omega⟩
theorem lay_tup {n : Nat} {ds : List PyData} (h : ∀ d ∈ ds, Lay n d) : Lay (n + 1) (.tuple ds) := by
  have := lay_all h
  exact ⟨by simp only [PyData.canLay0]; exact this.1, by simp only [PyData.depth]; omega⟩
theorem Lay.shaped {n : Nat} {d : PyData} (h : Lay n d) (hn : n ≤ 64) : SeqAt.shaped d = true := by
  show (d.canLay0 && decide (d.depth ≤ 64)) = true
  rw [Bool.and_eq_true]
  exact ⟨h.1, decide_eq_true (Nat.le_trans h.2 hn)⟩
theorem eqvAll_nil : ∀ (ds : List PyData), PyData.eqvAll ds [] = ds.isEmpty
  | [] => by simp [PyData.eqvAll]
  | d :: ds => by simp [PyData.eqvAll]
theorem eqv_nilL (ds : List PyData) : PyData.eqv (.list ds) (.list []) = ds.isEmpty := by
  simp only [PyData.eqv]
  exact eqvAll_nil ds
theorem eqv_nilT (ds : List PyData) : PyData.eqv (.tuple ds) (.tuple []) = ds.isEmpty := by
  simp only [PyData.eqv]
  exact eqvAll_nil ds
theorem eqvAll_ints : ∀ (xs ys : List Int), PyData.eqvAll (xs.map PyData.int) (ys.map PyData.int) = decide (xs = ys)
  | [], [] => by simp [PyData.eqvAll]
  | [], y :: ys => by simp [PyData.eqvAll]
  | x :: xs, [] => by simp [PyData.eqvAll]
  | x :: xs, y :: ys => by
    have ih := eqvAll_ints xs ys
    simp only [List.map_cons, PyData.eqvAll, PyData.eqv, ih]
    by_cases h : x = y
    · subst h
      simp
    · have : (x == y) = false := by simp [h]
      rw [this]
      simp [h]
section
variable {K : PySem.W.Frag} {H : Hp} {Q : VK}
theorem dpAll_len : ∀ {xs : List V} {ds : List PyData}, DpAll K H xs ds → xs.length = ds.length
  | _, _, .nil => rfl
  | _, _, .cons _ h => by simp [dpAll_len h]
theorem dp_ints : ∀ (ns : List Int), DpAll K H (ns.map V.int) (ns.map PyData.int)
  | [] => .nil
  | n :: ns => .cons (.int n) (dp_ints ns)
theorem dp_map {α : Type} {f : α → V} {g : α → PyData} : ∀ {l : List α}, (∀ x ∈ l, Dp K H (f x) (g x)) → DpAll K H (l.map f) (l.map g)
  | [], _ => .nil
  | x :: l, h => .cons (h x (List.mem_cons_self ..)) (dp_map fun y hy => h y (List.mem_cons_of_mem x hy))
theorem isEmpty_len {xs : List V} {ds : List PyData} (h : DpAll K H xs ds) : ds.isEmpty = xs.isEmpty := by
  cases h <;> rfl
/-- xs == [] -/
theorem r_eqNil {n : Nat} {a b : Addr} {xs : List V} {ds : List PyData} (h1 : SqL K H a xs) (h2 : SqL K H b []) (d : DpAll K H xs ds) (l : ∀ d ∈ ds, Lay n d) (hn : n < 64) (q : Q (.bl xs.isEmpty) H) : rEqD K (.ref a) (.ref b) H Q :=
  ⟨_, _, .lst h1 d, .lst h2 .nil, (lay_list l).shaped (by omega), (lay_list (n := 0) (fun d h => by cases h)).shaped (by omega), by rw [eqv_nilL, isEmpty_len d]; exact q⟩
/-- xs != [] -/
theorem r_neNil {n : Nat} {a b : Addr} {xs : List V} {ds : List PyData} (h1 : SqL K H a xs) (h2 : SqL K H b []) (d : DpAll K H xs ds) (l : ∀ d ∈ ds, Lay n d) (hn : n < 64) (q : Q (.bl (!xs.isEmpty)) H) : rNeD K (.ref a) (.ref b) H Q :=
  ⟨_, _, .lst h1 d, .lst h2 .nil, (lay_list l).shaped (by omega), (lay_list (n := 0) (fun d h => by cases h)).shaped (by omega), by rw [eqv_nilL, isEmpty_len d]; exact q⟩
theorem lay_ints (n : Nat) (ns : List Int) : ∀ d ∈ ns.map PyData.int, Lay n d := fun d h => by
  obtain ⟨i, _, rfl⟩ := List.mem_map.1 h
  exact lay_int n i
theorem r_eqNilI {a b : Addr} {ns : List Int} (h1 : SqL K H a (ns.map V.int)) (h2 : SqL K H b []) (q : Q (.bl (ns.map V.int).isEmpty) H) : rEqD K (.ref a) (.ref b) H Q := r_eqNil h1 h2 (dp_ints ns) (lay_ints 0 ns) (by omega) q
theorem r_neNilI {a b : Addr} {ns : List Int} (h1 : SqL K H a (ns.map V.int)) (h2 : SqL K H b []) (q : Q (.bl (!(ns.map V.int).isEmpty)) H) : rNeD K (.ref a) (.ref b) H Q := r_neNil h1 h2 (dp_ints ns) (lay_ints 0 ns) (by omega) q
end
/-! the heap up to tables -/
section
variable {P : Addr} {q : Str}
/-- S is what stays; the table at P is in order -/
def JT (P : Addr) (q : Str) (S H : Hp) : Prop := Same S H ∧ TabS H P q ∧ ∀ a o, S a = some o → NT o
theorem NT.upd {S : Hp} {p : Addr} {o : HO} (h : ∀ a o, S a = some o → NT o) (n : NT o) : ∀ a u, upd S p o a = some u → NT u := fun a u e => by
  by_cases z : a = p
  · rw [z, upd_same] at e
    cases e
    exact n
  · rw [upd_ne z] at e
    exact h _ _ e
theorem tabS_put {H : Hp} {p : Addr} {o o' : HO} (t : TabS H P q) (h : H p = some o) (n : NT o) : TabS (L2.upd H p o') P q := by
  obtain ⟨ps, h1, h2, h3⟩ := t
  refine ⟨ps, ?_, h2, fun pos cv e => ?_⟩
  · rw [upd_ne (fun z => by rw [← z, h1] at h; cases h; exact n.1 ps rfl)]
    exact h1
  · obtain ⟨c, e1, e2⟩ := h3 pos cv e
    refine ⟨c, e1, ?_⟩
    rw [upd_ne (fun z => by rw [← z, e2] at h; cases h; exact n.2 _ rfl)]
    exact e2
theorem jlT : JL (JT P q) where
  same := fun j => j.1
  ext := fun j e => ⟨j.1.trans e, j.2.1.ext e, j.2.2⟩
  trk := fun {S H H' p o} j e h h' n => ⟨jl0.trk j.1 e h h' n, j.2.1.ext e, NT.upd j.2.2 n⟩
  put := fun {S H p o o'} j h n n' => ⟨jl0.put j.1 h n n', tabS_put j.2.1 (j.1 _ _ h) n, NT.upd j.2.2 n'⟩
theorem JT.extN {S H H' : Hp} (j : JT P q S H) (e : ExtN H H') (t : TabS H' P q) : JT P q S H' := ⟨fun a o h => e a o (j.1 a o h) (j.2.2 a o h).1, t, j.2.2⟩
/-- all but a and the tables stays -/
def ExtB (a : Addr) (H H' : Hp) : Prop := ∀ b o, b ≠ a → H b = some o → NT o → H' b = some o
theorem ExtB.trans {a : Addr} {H H1 H2 : Hp} (x : ExtB a H H1) (y : ExtB a H1 H2) : ExtB a H H2 := fun b o n h t => y b o n (x b o n h t) t
theorem ExtB.of {a : Addr} {H H' : Hp} (e : Same H H') : ExtB a H H' := fun b o _ h _ => e b o h
theorem ExtB.ofN {a : Addr} {H H' : Hp} (e : ExtN H H') : ExtB a H H' := fun b o _ h n => e b o h n.1
theorem ExtB.put {a : Addr} {H H' : Hp} {o : HO} (x : ExtB a H H') : ExtB a H (L2.upd H' a o) := fun b u n h t => by
  rw [upd_ne n]
  exact x b u n h t
end
theorem r_sortLam {K : PySem.W.Frag} {P : Addr} {q : Str} {ta : TA} {σ : L2.St} {H : Hp} {Q : VK} (h : ta σ H fun vs H1 => ∃ (a : Addr) (xs : List V) (ks : List Int), vs = [.ref a] ∧ SqL K H1 a xs ∧ ks.length = xs.length ∧ xs.length < 64 ∧
  (∀ (i : Nat) (x : V), xs[i]? = some x → ∃ (T : Addr) (rest : List V) (k : Int), ks[i]? = some k ∧ x = .ref T ∧ SqT K H1 T (.int k :: rest)) ∧ TabS H1 P q ∧
  ∀ H2, ExtN H1 H2 → TabS H2 P q → ∀ ys p, SortedBy ks xs ys → H2 p = none → Q (.ref p) (upd H2 p (.lst ys))) : tSortLam K P q ta σ H Q := h
end L2
local macro_rules | `(tactic| tb_rel) => `(tactic| with_reducible refine L2.r_sortLam ?_)
namespace L2
open PySem PySem.Spec PyProof.Rows LamX
end L2
/-! Ct -/
/-! tuples joined, either may be empty -/
namespace L2
open PySem PySem.Spec PyProof.Rows
def rCatB (K : PySem.W.Frag) : R2 := fun x y H Q => ∃ a b xs ys, x = .ref a ∧ y = .ref b ∧ SqT K H a xs ∧ SqT K H b ys ∧ xs.length + ys.length ≤ sizeLine ∧
  (xs = [] → Q (.ref b) H) ∧ (xs ≠ [] → ys = [] → Q (.ref a) H) ∧ (xs ≠ [] → ys ≠ [] → ∀ p, H p = none → Q (.ref p) (upd H p (.tup (xs ++ ys))))
theorem op_catB {X : Cx} (K : PySem.W.Frag) (h : X.K = K := by rfl) : OpR X (binaryOp .Add) (rCatB K) := by
  subst h
  intro pins s σ H x y v u Q I rx ry h
  obtain ⟨a, b, xs, ys, rfl, rfl, ha, hb, hz, q0, q1, q2⟩ := h
  by_cases hx : xs = []
  · cases rx
    cases ry
    obtain ⟨its, r1, p1, _⟩ := I.tuple ha
    obtain ⟨its2, r2, p2, _⟩ := I.tuple hb
    obtain ⟨⟨cls, dd, data, sl⟩, ho, hc, n, hd⟩ := id p1
    obtain ⟨⟨cls2, dd2, data2, sl2⟩, ho2, hc2, n2, hd2⟩ := id p2
    simp only at hc hd hc2 hd2
    subst hc hd hc2 hd2
    have hv : its = [] := r1.nil_iff.mpr hx
    exact concat_meets ⟨_, ho, rfl⟩ ⟨_, ho2, rfl⟩ noFill_tuple_add seq_tuple_add PySem.F.slot_tuple_add PySem.F.entry_tuple_add (PySem.F.args_tuple_add_2 _ _) (tuple_addW0 a b its.toArray its2.toArray n n2 dd dd2 sl sl2 (by simp [hv])) ⟨ho, ho2, ⟨.ref b, H, I, rfl, q0 hx⟩⟩
  · exact op_catT pins s σ H _ _ v u Q I rx ry ⟨a, b, xs, ys, rfl, rfl, ha, hb, hx, hz, q1 hx, q2 hx⟩
section
variable {K : PySem.W.Frag} {H0 H : Hp} {a b : Addr} {xs ys : List V} {Q : VK}
theorem r_catS (ha : SqT K H a xs) (hb : SqT K H b ys) (hz : xs.length + ys.length ≤ 3000) (q : ∀ p H', Same H H' → SqT K H' p (xs ++ ys) → Q (.ref p) H') : rCatB K (.ref a) (.ref b) H Q :=
  ⟨a, b, xs, ys, rfl, rfl, ha, hb, Nat.le_trans hz (by decide), fun e => q b H (Same.refl H) (by rw [e, List.nil_append]; exact hb), fun _ e => q a H (Same.refl H) (by rw [e, List.append_nil]; exact ha),
    fun _ _ p hp => q p _ (Same.new hp) (.of upd_same)⟩
theorem r_catN (ha : NewT K H0 H a xs) (hb : NewT K H0 H b ys) (e0 : Same H0 H) (hz : xs.length + ys.length ≤ 3000) (q : ∀ p H', Same H H' → NewT K H0 H' p (xs ++ ys) → Q (.ref p) H') : rCatB K (.ref a) (.ref b) H Q :=
  ⟨a, b, xs, ys, rfl, rfl, ha.sq, hb.sq, Nat.le_trans hz (by decide), fun e => q b H (Same.refl H) (by rw [e, List.nil_append]; exact hb), fun _ e => q a H (Same.refl H) (by rw [e, List.append_nil]; exact ha),
    fun _ _ p hp => q p _ (Same.new hp) (.inl ⟨e0.free hp, upd_same⟩)⟩
end
theorem pe_gI {X : Cx} {x : Str} {i : Int} {pos : Pos} (h : ∃ t, X.mg x = some (.int i t)) (hg : Gl X x) (hd : (x == ("__debug__" : Str)) = false := by decide) : PE X (.Name x pos) (tC (.int i)) := by
  obtain ⟨t, h⟩ := h
  exact pe_glob (v := .int i) hg h ⟨t, rfl⟩ hd
theorem pe_gS {X : Cx} {x z : Str} {pos : Pos} (h : ∃ t, X.mg x = some (.str z t)) (hg : Gl X x) (hd : (x == ("__debug__" : Str)) = false := by decide) : PE X (.Name x pos) (tC (.str z)) := by
  obtain ⟨t, h⟩ := h
  exact pe_glob (v := .str z) hg h ⟨t, rfl⟩ hd
section
variable {σ : L2.St} {H : Hp} {Q : VK}
def MkB (C : Addr) (sp : Sp) (dvs : List V) (E : XK) (vs : List V) (H1 : Hp) (Q : VK) : Prop := ∀ x dx, H1 x = none → H1 dx = none → dx ≠ x →
  sp (.ref x :: (vs ++ dvs)) (upd (upd H1 dx (.own x)) x (.ins C dx [])) (fun v H2 => v = .non ∧ Q (.ref x) H2) E
theorem r_make {C : Addr} {sp : Sp} {dvs : List V} {E : XK} {t : TA} (h : t σ H fun vs H1 => MkB C sp dvs E vs H1 Q) : tMake C sp dvs E t σ H Q := h
def MkK (C : Addr) (n m : Nat) (sp : Sp) (gV : List V → List V → List V) (E : XK) (vs zs : List V) (H2 : Hp) (Q : VK) : Prop := vs.length = n ∧ zs.length = m ∧ ∀ x dx, H2 x = none → H2 dx = none → dx ≠ x →
  sp (gV (.ref x :: vs) zs) (upd (upd H2 dx (.own x)) x (.ins C dx [])) (fun v H3 => v = .non ∧ Q (.ref x) H3) E
theorem r_makeK {C : Addr} {n m : Nat} {sp : Sp} {gV : List V → List V → List V} {E : XK} {t tk : TA} (h : t σ H fun vs H1 => tk σ H1 fun zs H2 => MkK C n m sp gV E vs zs H2 Q) : tMakeK C n m sp gV E t tk σ H Q := h
theorem r_dnewK (q : ∀ p H', H p = none → Same H H' → H' p = some (.dK []) → Q (.ref p) H') : tDNewK σ H Q := fun p hp => q p _ hp (Same.new hp) upd_same
end
end L2
local macro_rules | `(tactic| tb_rel) => `(tactic| with_reducible first | refine L2.r_make ?_ | refine L2.r_makeK ?_)
namespace L2
open PySem PySem.Spec PyProof.Rows
section
variable {K : PySem.W.Frag} {H : Hp} {F T : Addr} {l l' xs : List V}
theorem ins_ne {C dx C' dx' a b : Addr} {fs fs' : List (Str × V)} (h1 : H a = some (.ins C dx fs)) (h2 : H b = some (.ins C' dx' fs')) (hne : fs ≠ fs') : a ≠ b := fun z => by
  rw [z, h2] at h1
  have e := Option.some.inj h1
  injection e with e1 e2 e3
  exact hne e3.symm
theorem seqT_putL (h : SqT K H T xs) (hF : H F = some (.lst l)) : SqT K (upd H F (.lst l')) T xs := by
  have key : ∀ o, H T = some o → (∀ l, o ≠ .lst l) → upd H F (.lst l') T = some o := fun o e n => by
    rw [upd_ne (fun z => by rw [z, hF] at e; cases e; exact n l rfl)]
    exact e
  rcases h with (h | ⟨o, h⟩) | h
  · exact .inl (.inl (key _ h fun l z => by cases z))
  · exact .inl (.inr ⟨o, key _ h fun l z => by cases z⟩)
  · exact .inr h
theorem seqT_putI {C dx : Addr} {fs fs' : List (Str × V)} (h : SqT K H T xs) (hF : H F = some (.ins C dx fs)) : SqT K (upd H F (.ins C dx fs')) T xs := by
  have key : ∀ o, H T = some o → (∀ C dx fs, o ≠ .ins C dx fs) → upd H F (.ins C dx fs') T = some o := fun o e n => by
    rw [upd_ne (fun z => by rw [z, hF] at e; cases e; exact n C dx fs rfl)]
    exact e
  rcases h with (h | ⟨o, h⟩) | h
  · exact .inl (.inl (key _ h fun _ _ _ z => by cases z))
  · exact .inl (.inr ⟨o, key _ h fun _ _ _ z => by cases z⟩)
  · exact .inr h
end
section
variable {K : PySem.W.Frag} {H : Hp} {σ : L2.St}
theorem r_g3 {i j k : Nat} {T : Addr} {x y z : V} {R : L2.St → Hp → Prop} (h : SqT K H T [x, y, z]) (q : R (((σ.set i (some x)).set j (some y)).set k (some z)) H) : gTup K 3 (gCons (gName i) (gCons (gName j) (gCons (gName k) gNil))) (.ref T) σ H R :=
  r_gtup h rfl (r_gcons (r_gn (r_gcons (r_gn (r_gcons (r_gn (r_gnil q)))))))
theorem r_g2 {i j : Nat} {T : Addr} {x y : V} {R : L2.St → Hp → Prop} (h : SqT K H T [x, y]) (q : R ((σ.set i (some x)).set j (some y)) H) : gTup K 2 (gCons (gName i) (gCons (gName j) gNil)) (.ref T) σ H R :=
  r_gtup h rfl (r_gcons (r_gn (r_gcons (r_gn (r_gnil q)))))
end
end L2
/-! F1 -/
namespace Mg
open PySem PySem.Spec PyProof.Rows L2
/-! ### fields: the mirror -/
def prm (q : Int) : Int := if q = 9 ∨ q = 3 then 3 else 2
def plc (q : Int) : Nat := if q = 4 then 2 else if q = 8 then 3 else if q = 16 then 4 else if q = 9 then 2 else 1
def Fq (q : Int) : Prop := q = 2 ∨ q = 3 ∨ q = 4 ∨ q = 8 ∨ q = 9 ∨ q = 16
def fF (q : Int) : List (Str × V) := [("many", .int q), ("prime", .int (prm q)), ("places", .int (plc q : Nat))]
theorem fF_many (q : Int) : (fF q).lookup ("many" : Str) = some (V.int q) := rfl
theorem fF_prime (q : Int) : (fF q).lookup ("prime" : Str) = some (V.int (prm q)) := rfl
theorem fF_places (q : Int) : (fF q).lookup ("places" : Str) = some (V.int (plc q : Nat)) := rfl
abbrev kF (K : PySem.W.Frag) : Addr := He.ga K "Field"
def FieldAt (K : PySem.W.Frag) (H : Hp) (p : Addr) (q : Int) : Prop := ∃ dx, H p = some (.ins (kF K) dx (fF q)) ∧ Fq q
theorem FieldAt.same {K : PySem.W.Frag} {H H' : Hp} {p : Addr} {q : Int} (f : FieldAt K H p q) (e : Same H H') : FieldAt K H' p q := let ⟨dx, h, x⟩ := f; ⟨dx, e _ _ h, x⟩
section
variable {P : Program} {w : World} {K : PySem.W.Frag} {mg : Str → Option Value} {base : Heap}
def sp_has (K : PySem.W.Frag) : Sp := SpN 2 fun vs H Q => ∃ p q a, vs = [.ref p, .int a] ∧ FieldAt K H p q ∧ Q (.bl (decide (0 ≤ a ∧ a < q))) H
theorem sc_Field_has : FnScope ["self", "one"] ["self", "one"] d_Field_has.scope := ⟨rfl, rfl, rfl, by decide +kernel, rfl, by decide +kernel, by decide +kernel⟩
theorem ok_Field_has (S : Says K mg) : Fn P w K mg base 1 (He.fAd K d_Field_has.at_) (sp_has K) := by
  refine fn_body (f_Field_has S) sc_Field_has rfl (fun _ _ _ _ _ _ us hl => match us, hl with | [_, _], _ => rfl) fun cdv A outer s H vs Q E hr h => ?_
  obtain ⟨p, q, a, rfl, ⟨dx, hp, hq⟩, k⟩ := h
  refine ⟨_, (pss_one (ps_ret (pe_chain op_le op_lt pe_int (pv 1) (pe_fldK K (pv 0) rfl)))), ?_⟩
  repeat tb_rel
  refine ite_d (fun h1 => ?_) fun h1 => ?_
  · repeat tb_rel
    refine r_fld hp (c_Field S) (a_Field_many S) (fF_many q) ?_
    repeat tb_rel
    have e : decide (a < q) = decide (0 ≤ a ∧ a < q) := by simp [h1]
    rw [e]
    exact k
  · have e : false = decide (0 ≤ a ∧ a < q) := by simp [h1]
    rw [e]
    exact k
end
end Mg
/-! F2 -/
namespace Mg
open PySem PySem.Spec PyProof.Rows L2
theorem prm_pos (q : Int) : 0 < prm q ∧ prm q < 4 := by
  unfold prm
  split <;> omega
theorem plc_le (q : Int) : 1 ≤ plc q ∧ plc q ≤ 4 := by
  unfold plc
  repeat' split
  all_goals omega
/-! the mirror -/
def figs (p : Int) : Nat → Int → List Int
  | 0, _ => []
  | n + 1, a => a % p :: figs p n (a / p)
def compF (p : Int) (xs : List Int) : Int := xs.foldr (fun f acc => acc * p + f % p) 0
def fadd (q a b s : Int) : Int :=
  if plc q = 1 then (a + s * b) % prm q else compF (prm q) ((List.range (plc q)).map fun i => (figs (prm q) (plc q) a).getD i 0 + s * (figs (prm q) (plc q) b).getD i 0)
theorem figs_length (p : Int) : ∀ (n : Nat) (a : Int), (figs p n a).length = n
  | 0, _ => rfl
  | n + 1, a => by simp [figs, figs_length p n (a / p)]
theorem figs_snoc (p : Int) (hp : 0 < p) : ∀ (n : Nat) (a : Int), figs p (n + 1) a = figs p n a ++ [(a / p ^ n) % p]
  | 0, a => by simp [figs]
  | n + 1, a => by
    rw [show figs p (n + 1 + 1) a = a % p :: figs p (n + 1) (a / p) from rfl, figs_snoc p hp n (a / p)]
    rw [show figs p (n + 1) a = a % p :: figs p n (a / p) from rfl]
    rw [List.cons_append, Int.ediv_ediv_of_nonneg (by omega), Int.pow_succ, Int.mul_comm]
section
variable {P : Program} {w : World} {K : PySem.W.Frag} {mg : Str → Option Value} {base : Heap}
theorem sc_Field_figures : FnScope ["self", "one", "found", "place", "figure"] ["self", "one"] d_Field_figures.scope := ⟨rfl, rfl, rfl, by decide +kernel, rfl, by decide +kernel, by decide +kernel⟩
def sp_figures (K : PySem.W.Frag) : Sp := SpN 2 fun vs H Q => ∃ p q a, vs = [.ref p, .int a] ∧ FieldAt K H p q ∧ ∀ D H', H D = none → Same H H' → H' D = some (.lst ((figs (prm q) (plc q) a).map V.int)) → Q (.ref D) H'
theorem ok_Field_figures (S : Says K mg) : Fn P w K mg base 1 (He.fAd K d_Field_figures.at_) (sp_figures K) := by
  refine fn_body (f_Field_figures S) sc_Field_figures rfl (fun _ _ _ _ _ _ us hl => match us, hl with | [_, _], _ => rfl) fun cdv A outer s H vs Q E hr h => ?_
  obtain ⟨p, q, a, rfl, ⟨dx, hp, hq⟩, k⟩ := h
  have hpp := prm_pos q
  have hpl := plc_le q
  refine ⟨_, (pss_cons (ps_set (i := 2) sc_Field_figures.nd rfl (by first | exact Or.inl rfl | exact Or.inr rfl) (pe_lst pa_nil)) (pss_cons (ps_for PassesOwn.never rfl (pi_range1 rfl (n_range S) (pa_cons (pe_fldK K (pv 0) rfl) pa_nil)) (pg_name (i := 3) sc_Field_figures.nd rfl (by first | exact Or.inl rfl | exact Or.inr rfl)) (pss_cons (ps_asg (pe_callB call_divmod (by rfl) (n_divmod S) (by decide +kernel) (pa_cons (pv 1) (pa_cons (pe_fldK K (pv 0) rfl) pa_nil))) (pg_tupK K (n := 2) rfl (pgs_cons (pg_name (i := 1) sc_Field_figures.nd rfl (by first | exact Or.inl rfl | exact Or.inr rfl)) (pgs_cons (pg_name (i := 4) sc_Field_figures.nd rfl (by first | exact Or.inl rfl | exact Or.inr rfl)) pgs_nil)))) (pss_one (ps_expr (pe_bmK K PySem.F.plainAttrs_list PySem.F.slot_list_append PySem.F.type_list_append mt_append (pv 2) (pa_cons (pv 4) pa_nil)))))) (pss_one (ps_ret (pv 2))))), ?_⟩
  repeat tb_rel
  refine r_lstN fun D H1 hD e1 h1 => ?_
  repeat tb_rel
  refine r_fld (e1 _ _ hp) (c_Field S) (a_Field_places S) (fF_places q) ?_
  repeat tb_rel
  refine ⟨_, rfl, by omega, by omega, ?_⟩
  refine for_B (walk_range (n := plc q)) (fun i σ G => ∃ x y, σ = [some (.ref p), some (.int (a / prm q ^ i)), some (.ref D), x, y] ∧ Same H G ∧ H1 D = some (.lst []) ∧ G D = some (.lst ((figs (prm q) i a).map V.int))) ⟨none, none, by simp [L2.start], e1, h1, h1⟩ (fun _ _ _ _ _ => trivial) ?_ ?_
  · rintro i x σ G G' hi ⟨x1, y1, rfl, e, _, hG⟩ ⟨rfl, rfl⟩
    repeat tb_rel
    refine r_fld (e _ _ hp) (c_Field S) (a_Field_prime S) (fF_prime q) ?_
    repeat tb_rel
    refine ⟨_, _, rfl, ⟨hpp.1, by omega⟩, fun T hT => ?_⟩
    refine r_gP upd_same ?_
    repeat tb_rel
    rw [show a / prm q ^ i / prm q = a / prm q ^ (i + 1) by rw [Int.pow_succ, ← Int.ediv_ediv_of_nonneg (Int.le_of_lt (Int.pow_pos hpp.1))]]
    have hG' : upd G' T (.tup [V.int (a / prm q ^ (i + 1)), V.int (a / prm q ^ i % prm q)]) D = some (.lst ((figs (prm q) i a).map V.int)) := Same.new hT _ _ hG
    refine r_ty hG' ?_
    repeat tb_rel
    refine r_app hG' (by rw [List.length_map, figs_length]; omega) ?_
    refine ⟨_, _, rfl, (e.trans (Same.new hT)).put hD, h1, ?_⟩
    · rw [upd_same, figs_snoc _ hpp.1]
      simp
  · rintro σ G ⟨x1, y1, rfl, e, _, hG⟩
    repeat tb_rel
    exact k D G hD e hG
theorem sc_Field_composed : FnScope ["self", "figures", "found", "figure"] ["self", "figures"] d_Field_composed.scope := ⟨rfl, rfl, rfl, by decide +kernel, rfl, by decide +kernel, by decide +kernel⟩
def sp_composed (K : PySem.W.Frag) : Sp := SpN 2 fun vs H Q => ∃ p q l xs, vs = [.ref p, .ref l] ∧ FieldAt K H p q ∧ SqL K H l (xs.map V.int) ∧ ∀ H', Same H H' → Q (.int (compF (prm q) xs)) H'
theorem ok_Field_composed (S : Says K mg) : Fn P w K mg base 1 (He.fAd K d_Field_composed.at_) (sp_composed K) := by
  refine fn_body (f_Field_composed S) sc_Field_composed rfl (fun _ _ _ _ _ _ us hl => match us, hl with | [_, _], _ => rfl) fun cdv A outer s H vs Q E hr h => ?_
  obtain ⟨p, q, l, xs, rfl, ⟨dx, hp, hq⟩, hl, k⟩ := h
  have hpp := prm_pos q
  refine ⟨_, (pss_cons (ps_set (i := 2) sc_Field_composed.nd rfl (by first | exact Or.inl rfl | exact Or.inr rfl) pe_int) (pss_cons (ps_for PassesOwn.never rfl (pi_reversedK K rfl (n_reversed S) (pa_cons (pv 1) pa_nil)) (pg_name (i := 3) sc_Field_composed.nd rfl (by first | exact Or.inl rfl | exact Or.inr rfl)) (pss_one (ps_set (i := 2) sc_Field_composed.nd rfl (by first | exact Or.inl rfl | exact Or.inr rfl) (pe_op op_add (pe_op op_mul (pv 2) (pe_fldK K (pv 0) rfl)) (pe_op op_mod (pv 3) (pe_fldK K (pv 0) rfl)))))) (pss_one (ps_ret (pv 2))))), ?_⟩
  repeat tb_rel
  refine ⟨_, _, rfl, hl, ?_⟩
  refine for_B walk_rev (fun i σ G => ∃ x, σ = [some (.ref p), some (.ref l), some (.int (compF (prm q) (xs.drop (xs.length - i)))), x] ∧ Same H G) ⟨none, by simp [L2.start, compF], Same.refl H⟩ (fun i σ G _ ⟨x, _, e⟩ => e.seqL hl) ?_ ?_
  · rintro i x σ G G' hi ⟨x1, rfl, e⟩ ⟨rfl, hx⟩
    rw [List.length_map] at hi hx
    have hx' : (xs.map V.int)[xs.length - 1 - i]? = some (.int (xs[xs.length - 1 - i]'(by omega))) := by simp [show xs.length - 1 - i < xs.length by omega]
    obtain rfl : x = .int (xs[xs.length - 1 - i]'(by omega)) := by
      rw [hx'] at hx
      exact (Option.some.inj hx).symm
    repeat tb_rel
    refine r_fld (e _ _ hp) (c_Field S) (a_Field_prime S) (fF_prime q) ?_
    refine r_I (.inr (by omega)) ?_
    repeat tb_rel
    refine r_fld (e _ _ hp) (c_Field S) (a_Field_prime S) (fF_prime q) ?_
    refine r_mod hpp.1 ?_
    repeat tb_rel
    refine ⟨some (.int (xs[xs.length - 1 - i]'(by omega))), ?_, e⟩
    rw [show xs.length - i = xs.length - 1 - i + 1 by omega]
    rw [show xs.drop (xs.length - (i + 1)) = xs[xs.length - 1 - i]'(by omega) :: xs.drop (xs.length - 1 - i + 1) by
      rw [show xs.length - (i + 1) = xs.length - 1 - i by omega]
      exact List.drop_eq_getElem_cons (by omega)]
    rfl
  · rintro σ G ⟨x1, rfl, e⟩
    repeat tb_rel
    have q := k G e
    rw [List.length_map, Nat.sub_self, List.drop_zero]
    exact q
theorem sc_Field_added : FnScope ["self", "one", "other", "sign", "figures", "at", "left"] ["self", "one", "other", "sign"] d_Field_added.scope := ⟨rfl, rfl, rfl, by decide +kernel, rfl, by decide +kernel, by decide +kernel⟩
def sp_added (K : PySem.W.Frag) : Sp := SpN 4 fun vs H Q => ∃ p q a b s, vs = [.ref p, .int a, .int b, .int s] ∧ FieldAt K H p q ∧ -4 < s ∧ s < 4 ∧ ∀ H', Same H H' → Q (.int (fadd q a b s)) H'
theorem ok_Field_added (S : Says K mg) : Fn P w K mg base 2 (He.fAd K d_Field_added.at_) (sp_added K) := by
  refine fn_body (f_Field_added S) sc_Field_added rfl (fun _ _ _ _ _ _ us hl => match us, hl with | [_, _, _, _], _ => rfl) fun cdv A outer s H vs Q E hr h => ?_
  obtain ⟨p, q, a, b, s, rfl, ⟨dx, hp, hq⟩, s1, s2, k⟩ := h
  have hpp := prm_pos q
  refine ⟨_, (pss_cons (ps_if (pt_cmpR op_eq (pe_fldK K (pv 0) rfl) pe_int (nomark _)) (pss_one (ps_ret (pe_op op_mod (pe_op op_add (pv 1) (pe_op op_mul (pv 3) (pv 2))) (pe_fldK K (pv 0) rfl)))) pss_nil) (pss_cons (ps_set (i := 4) sc_Field_added.nd rfl (by first | exact Or.inl rfl | exact Or.inr rfl) (pm (ok_Field_figures (K := K) S) (hr.mono (by decide)) (c_Field (K := K) S) (m_Field_figures (K := K) S) (pv 0) (pa_cons (pv 2) pa_nil))) (pss_one (ps_ret (pm (ok_Field_composed (K := K) S) (hr.mono (by decide)) (c_Field (K := K) S) (m_Field_composed (K := K) S) (pv 0) (pa_cons (pe_lc (own := [("at", 5), ("left", 6)]) rfl sc_Field_added.nd (pi_enumK K rfl (n_enumerate S) (pa_cons (pm (ok_Field_figures (K := K) S) (hr.mono (by decide)) (c_Field (K := K) S) (m_Field_figures (K := K) S) (pv 0) (pa_cons (pv 1) pa_nil)) pa_nil)) (blkOk_by (N := ["self", "one", "other", "sign", "figures", "at", "left"]) (sc := d_Field_added.scope) (by decide +kernel)) (fun _ _ _ _ _ => (pg_tupK K (n := 2) rfl (pgs_cons (pg_name (i := 5) sc_Field_added.nd rfl (by first | exact Or.inl rfl | exact Or.inr rfl)) (pgs_cons (pg_name (i := 6) sc_Field_added.nd rfl (by first | exact Or.inl rfl | exact Or.inr rfl)) pgs_nil)))) (fun _ _ _ _ _ => pts_nil) (fun _ _ _ _ _ => (pe_op op_add (pv 6) (pe_op op_mul (pv 3) (pe_ix (ix_listK K) (pv 4) (pv 5) (fun _ _ => rfl)))))) pa_nil)))))), ?_⟩
  repeat tb_rel
  refine r_fld hp (c_Field S) (a_Field_places S) (fF_places q) ?_
  repeat tb_rel
  refine ite_d (fun h1 => ?_) fun h1 => ?_
  · repeat tb_rel
    refine r_mul ⟨by omega, by omega⟩ ?_
    repeat tb_rel
    refine r_fld hp (c_Field S) (a_Field_prime S) (fF_prime q) ?_
    refine r_mod hpp.1 ?_
    have e : fadd q a b s = (a + s * b) % prm q := if_pos (by omega)
    rw [← e]
    exact k H (Same.refl H)
  · repeat tb_rel
    refine r_Mv hp rfl ?_
    repeat tb_rel
    refine ⟨rfl, p, q, b, rfl, ⟨dx, hp, hq⟩, fun D H1 hD e1 h1 => ?_⟩
    repeat tb_rel
    refine r_Mv (e1 _ _ hp) rfl ?_
    repeat tb_rel
    refine r_Mv (e1 _ _ hp) rfl ?_
    repeat tb_rel
    refine ⟨rfl, p, q, a, rfl, ⟨dx, e1 _ _ hp, hq⟩, fun D2 H2 hD2 e2 h2 => ?_⟩
    repeat tb_rel
    refine ⟨_, _, rfl, .of h2, ?_⟩
    refine lc_M walk_enum (List.range (plc q)) (by simp [figs_length]) (by rw [List.length_map, figs_length]; exact Nat.lt_of_le_of_lt (plc_le q).2 (by decide)) (fun i => .int ((figs (prm q) (plc q) a).getD i 0 + s * (figs (prm q) (plc q) b).getD i 0)) (fun G e => .of (e _ _ h2)) ?_ ?_
    · rintro i j G x G' R hj e ⟨T, x1, y1, rfl, hT, rfl, hx, hy⟩ hR
      obtain ⟨hlt, rfl⟩ := range_get hj
      cases Option.some.inj hx
      have hg1 : (figs (prm q) (plc q) a)[j]? = some ((figs (prm q) (plc q) a).getD j 0) := by simp [List.getD, figs_length, hlt]
      have hg2 : (figs (prm q) (plc q) b)[j]? = some ((figs (prm q) (plc q) b).getD j 0) := by simp [List.getD, figs_length, hlt]
      obtain ⟨z, hz, rfl⟩ := map_get hy
      obtain rfl := Option.some.inj (hz.symm.trans hg1)
      refine r_gP upd_same ?_
      refine ⟨rfl, ?_⟩
      repeat tb_rel
      refine r_ixL (.of ((Same.new hT) _ _ (e _ _ (e2 _ _ h1)))) rfl (by rw [List.getElem?_map, hg2]; rfl) ?_
      refine r_mul ⟨by omega, by omega⟩ ?_
      repeat tb_rel
      exact hR _ (Same.new hT)
    · intro D3 H4 hD3 e4 h4
      repeat tb_rel
      have e : fadd q a b s = compF (prm q) ((List.range (plc q)).map fun i => (figs (prm q) (plc q) a).getD i 0 + s * (figs (prm q) (plc q) b).getD i 0) := if_neg (by omega)
      refine ⟨rfl, p, q, D3, _, rfl, ⟨dx, e4 _ _ (e2 _ _ (e1 _ _ hp)), hq⟩, .of (by rw [h4, List.map_map]; rfl), fun H5 e5 => ?_⟩
      repeat tb_rel
      rw [← e]
      exact k H5 (e1.trans (e2.trans (e4.trans e5)))
end
end Mg
/-! F3 -/
namespace Mg
open PySem PySem.Spec PyProof.Rows L2
/-! ### the text's tuples and the rules -/
def SIZESl : List Int := [2, 3, 4, 5, 7, 8, 9, 11, 13, 16]
def BASESl : List Int := [2, 3, 5, 7, 11, 13]
def ruleF (q : Int) : List Int := if q = 4 then [1, 1] else if q = 8 then [1, 1, 0] else if q = 9 then [2, 0] else [1, 1, 0, 0]
section
variable {K : PySem.W.Frag} {mg : Str → Option Value}
theorem sizes_at (S : Says K mg) (H : Hp) : SqT K H (He.ga K "SIZES") (SIZESl.map V.int) := tupAtB_ok (He.ba S.more).1 H
theorem bases_at (S : Says K mg) (H : Hp) : SqT K H (He.ga K "BASES") (BASESl.map V.int) := tupAtB_ok (He.ba (He.ba S.more).2).1 H
theorem entB_ok {e : DictEntry} {k : Int} {is : List Int} (h : entB K e k is = true) : (∃ t, e.key = .int k t) ∧ e.hash = hashInt k ∧ ∃ a, e.val = .ref a ∧ ∀ H, SqT K H a (is.map V.int) := by
  obtain ⟨h1, h2⟩ := He.ba h
  obtain ⟨h3, h4⟩ := He.ba h2
  refine ⟨?_, of_decide_eq_true h3, ?_⟩
  · cases q : e.key with
    | int i t =>
      rw [q] at h1
      exact ⟨t, by rw [of_decide_eq_true h1]⟩
    | _ =>
      rw [q] at h1
      cases h1
  · cases q : e.val with
    | ref a =>
      rw [q] at h4
      exact ⟨a, rfl, tupAtB_ok h4⟩
    | _ =>
      rw [q] at h4
      cases h4
theorem rules_at (S : Says K mg) {q : Int} (hq : q = 4 ∨ q = 8 ∨ q = 9 ∨ q = 16) : ∃ es n a, K.lookup (He.ga K "RULES") = some ⟨.type "dict", none, .dict es n, #[]⟩ ∧ (∀ e ∈ es.toList, ∃ i t, e.key = .int i t ∧ e.hash = hashInt i) ∧
    findBy Value.isInt es q = some (.ref a) ∧ ∀ H, SqT K H a ((ruleF q).map V.int) := by
  have h := (He.ba (He.ba (He.ba S.more).2).2).1
  unfold rulesB at h
  cases lk : K.lookup (He.ga K "RULES") with
  | none =>
    rw [lk] at h
    cases h
  | some o =>
    rw [lk] at h
    obtain ⟨oc, od, dt, osl⟩ := o
    cases oc with
    | type c =>
      cases od with
      | some d => cases h
      | none =>
        cases dt with
        | dict es n =>
          obtain ⟨h1, h2⟩ := He.ba (show (decide (c = "dict") && (osl.isEmpty && (!(He.ga K "RULES" == sysModules) && (match es.toList with
            | [e1, e2, e3, e4] => entB K e1 4 [1, 1] && (entB K e2 8 [1, 1, 0] && (entB K e3 9 [2, 0] && entB K e4 16 [1, 1, 0, 0]))
            | _ => false)))) = true from h)
          obtain ⟨h3, h4⟩ := He.ba h2
          obtain ⟨_, h5⟩ := He.ba h4
          have es0 : osl = #[] := by
            cases osl with
            | mk l => cases l with
              | nil => rfl
              | cons _ _ => cases h3
          subst es0
          obtain rfl := of_decide_eq_true h1
          cases ql : es.toList with
          | nil =>
            rw [ql] at h5
            cases h5
          | cons e1 r1 => cases r1 with
            | nil =>
              rw [ql] at h5
              cases h5
            | cons e2 r2 => cases r2 with
              | nil =>
                rw [ql] at h5
                cases h5
              | cons e3 r3 => cases r3 with
                | nil =>
                  rw [ql] at h5
                  cases h5
                | cons e4 r4 => cases r4 with
                  | cons _ _ =>
                    rw [ql] at h5
                    cases h5
                  | nil =>
                    rw [ql] at h5
                    obtain ⟨p1, p5⟩ := He.ba h5
                    obtain ⟨p2, p6⟩ := He.ba p5
                    obtain ⟨p3, p4⟩ := He.ba p6
                    obtain ⟨⟨t1, k1⟩, s1, a1, v1, f1⟩ := entB_ok p1
                    obtain ⟨⟨t2, k2⟩, s2, a2, v2, f2⟩ := entB_ok p2
                    obtain ⟨⟨t3, k3⟩, s3, a3, v3, f3⟩ := entB_ok p3
                    obtain ⟨⟨t4, k4⟩, s4, a4, v4, f4⟩ := entB_ok p4
                    have fb : findBy Value.isInt es q = ([e1, e2, e3, e4].find? fun e => Value.isInt q e.key).map (·.val) := by
                      unfold findBy
                      rw [← ql]
                      simp
                    have hk : ∀ e ∈ [e1, e2, e3, e4], ∃ i t, e.key = .int i t ∧ e.hash = hashInt i := by
                      intro e he
                      rcases List.mem_cons.1 he with rfl | he
                      · exact ⟨_, _, k1, s1⟩
                      rcases List.mem_cons.1 he with rfl | he
                      · exact ⟨_, _, k2, s2⟩
                      rcases List.mem_cons.1 he with rfl | he
                      · exact ⟨_, _, k3, s3⟩
                      rcases List.mem_cons.1 he with rfl | he
                      · exact ⟨_, _, k4, s4⟩
                      · cases he
                    rcases hq with rfl | rfl | rfl | rfl
                    · exact ⟨es, n, a1, rfl, by rw [ql]; exact hk, by rw [fb]; simp [List.find?, k1, Value.isInt, v1], f1⟩
                    · exact ⟨es, n, a2, rfl, by rw [ql]; exact hk, by rw [fb]; simp [List.find?, k1, k2, Value.isInt, v2], f2⟩
                    · exact ⟨es, n, a3, rfl, by rw [ql]; exact hk, by rw [fb]; simp [List.find?, k1, k2, k3, Value.isInt, v3], f3⟩
                    · exact ⟨es, n, a4, rfl, by rw [ql]; exact hk, by rw [fb]; simp [List.find?, k1, k2, k3, k4, Value.isInt, v4], f4⟩
        | _ => cases h
    | _ => cases od <;> cases dt <;> cases h
end
theorem rule_bound : ∀ q ∈ ([4, 8, 9, 16] : List Int), ∀ v ∈ ruleF q, 0 ≤ v ∧ v ≤ 2 := by decide +kernel
/-! ### product: the mirror -/
def addAt (l : List Int) (k : Nat) (v : Int) : List Int := l.set k (l.getD k 0 + v)
def convR (x : Int) (i : Nat) (ys : List Int) (m : Nat) (l : List Int) : List Int := (List.range m).foldl (fun l j => addAt l (i + j) (x * ys.getD j 0)) l
def conv (xs ys : List Int) (m : Nat) (k : Nat) (l : List Int) : List Int := (List.range k).foldl (fun l i => convR (xs.getD i 0) i ys m l) l
def redR (at_ n : Nat) (ru : List Int) (m : Nat) (l : List Int) : List Int := (List.range m).foldl (fun l j => addAt l (at_ - n + j) (l.getD at_ 0 * ru.getD j 0)) l
def red (n : Nat) (ru : List Int) (k : Nat) (l : List Int) : List Int := (List.range k).foldl (fun l t => (redR (2 * n - 1 - t) n ru n l).set (2 * n - 1 - t) 0) l
def fmul (q a b : Int) : Int :=
  if plc q = 1 then a * b % prm q else
    compF (prm q) ((red (plc q) (ruleF q) (plc q) (conv (figs (prm q) (plc q) a) (figs (prm q) (plc q) b) (plc q) (plc q) (List.replicate (2 * plc q) 0))).take (plc q))
theorem foldl_range_succ {α : Type} (f : α → Nat → α) (a : α) (n : Nat) : (List.range (n + 1)).foldl f a = f ((List.range n).foldl f a) n := by
  rw [List.range_succ, List.foldl_append]
  rfl
theorem addAt_length (l : List Int) (k : Nat) (v : Int) : (addAt l k v).length = l.length := List.length_set ..
theorem foldl_len (f : List Int → Nat → List Int) (h : ∀ l j, (f l j).length = l.length) : ∀ (n : Nat) (l : List Int), ((List.range n).foldl f l).length = l.length
  | 0, l => rfl
  | n + 1, l => by rw [foldl_range_succ, h, foldl_len f h n l]
theorem convR_length (x : Int) (i : Nat) (ys : List Int) (m : Nat) (l : List Int) : (convR x i ys m l).length = l.length := foldl_len _ (fun l j => addAt_length ..) _ _
theorem conv_length (xs ys : List Int) (m k : Nat) (l : List Int) : (conv xs ys m k l).length = l.length := foldl_len _ (fun l j => convR_length ..) _ _
theorem redR_length (t n : Nat) (ru : List Int) (m : Nat) (l : List Int) : (redR t n ru m l).length = l.length := foldl_len _ (fun l j => addAt_length ..) _ _
theorem red_length (n : Nat) (ru : List Int) (k : Nat) (l : List Int) : (red n ru k l).length = l.length := foldl_len _ (fun l j => by rw [List.length_set, redR_length]) _ _
theorem getD_some {l : List Int} {k : Nat} (h : k < l.length) : l[k]? = some (l.getD k 0) := by simp [List.getD, h]
section
variable {P : Program} {w : World} {K : PySem.W.Frag} {mg : Str → Option Value} {base : Heap} {H : Hp} {Q : VK} {σ : L2.St} {D : Ends}
theorem r_ixN {L : Addr} {l : List Int} {z : Int} {k : Nat} (h : H L = some (.lst (l.map V.int))) (hz : z = (k : Int)) (hk : k < l.length) (q : Q (.int (l.getD k 0)) H) : rIxN K (.ref L) (.int z) H Q :=
  ⟨L, _, z, _, rfl, rfl, .of h, by omega, by rw [hz, Int.toNat_natCast, List.getElem?_map, getD_some hk]; rfl, q⟩
theorem r_setI {R : Hp → Prop} {L : Addr} {l : List Int} {z v : Int} {k : Nat} (h : H L = some (.lst (l.map V.int))) (hz : z = (k : Int)) (hk : k < l.length) (q : R (upd H L (.lst ((l.set k v).map V.int)))) : rSetL (.ref L) (.int z) (.int v) H R :=
  ⟨L, _, z, k, rfl, rfl, h, by rw [hz]; unfold ixN; rw [if_pos (by omega), if_pos (by rw [List.length_map]; omega), Int.toNat_natCast], by rw [List.map_set] at q; exact q⟩
theorem r_ixI {es : Array DictEntry} {n : Nat} {u : Value} {z : V} {d : Addr} {i : Int} (h1 : K.lookup d = some ⟨.type "dict", none, .dict es n, #[]⟩) (h2 : ∀ e ∈ es.toList, ∃ i t, e.key = .int i t ∧ e.hash = hashInt i) (h3 : findBy Value.isInt es i = some u) (h4 : RelV z u) (q : Q z H) : rIxI K (.ref d) (.int i) H Q :=
  ⟨d, i, es, n, u, z, rfl, rfl, h1, h2, h3, h4, q⟩
theorem cutV_take (xs : List V) (k : Nat) : cutV xs none (some (k : Int)) = xs.take k := by
  unfold cutV
  rw [HT.sIx_none, HT.sIx_nat, List.drop_zero, Nat.sub_zero]
  by_cases h : k ≤ xs.length
  · rw [Nat.min_eq_left h]
  · rw [Nat.min_eq_right (by omega), List.take_of_length_le (by omega), List.take_of_length_le (by omega)]
theorem figs_bound (p : Int) (hp : 0 < p) : ∀ (n : Nat) (a v : Int), v ∈ figs p n a → 0 ≤ v ∧ v < p
  | 0, a, v, h => by cases h
  | n + 1, a, v, h => by
    rcases List.mem_cons.1 h with rfl | h
    · exact ⟨Int.emod_nonneg _ (by omega), Int.emod_lt_of_pos _ hp⟩
    · exact figs_bound p hp n _ v h
theorem sc_Field_product : FnScope ["self", "one", "other", "long", "rule", "at", "left", "to", "right", "figure"] ["self", "one", "other"] d_Field_product.scope := ⟨rfl, rfl, rfl, by decide +kernel, rfl, by decide +kernel, by decide +kernel⟩
def sp_product (K : PySem.W.Frag) : Sp := SpN 3 fun vs H Q => ∃ p q a b, vs = [.ref p, .int a, .int b] ∧ FieldAt K H p q ∧ (0 ≤ a ∧ a < q) ∧ (0 ≤ b ∧ b < q) ∧ ∀ H', Same H H' → Q (.int (fmul q a b)) H'
theorem ok_Field_product (S : Says K mg) : Fn P w K mg base 2 (He.fAd K d_Field_product.at_) (sp_product K) := by
  refine fn_body (f_Field_product S) sc_Field_product rfl (fun _ _ _ _ _ _ us hl => match us, hl with | [_, _, _], _ => rfl) fun cdv A outer s H vs Q E hr h => ?_
  obtain ⟨p, q, a, b, rfl, ⟨dx, hp, hq⟩, ha, hb, k⟩ := h
  have hpp := prm_pos q
  have hpl := plc_le q
  have hq16 : q ≤ 16 := by
    rcases hq with h | h | h | h | h | h <;> omega
  refine ⟨_, (pss_cons (ps_if (pt_cmpR op_eq (pe_fldK K (pv 0) rfl) pe_int (nomark _)) (pss_one (ps_ret (pe_op op_mod (pe_op op_mul (pv 1) (pv 2)) (pe_fldK K (pv 0) rfl)))) pss_nil) (pss_cons (ps_set (i := 3) sc_Field_product.nd rfl (by first | exact Or.inl rfl | exact Or.inr rfl) (pe_op op_rep (pe_lst (pa_cons pe_int pa_nil)) (pe_op op_mul pe_int (pe_fldK K (pv 0) rfl)))) (pss_cons (ps_for PassesOwn.never rfl (pi_enumK K rfl (n_enumerate S) (pa_cons (pm (ok_Field_figures (K := K) S) (hr.mono (by decide)) (c_Field (K := K) S) (m_Field_figures (K := K) S) (pv 0) (pa_cons (pv 1) pa_nil)) pa_nil)) (pg_tupK K (n := 2) rfl (pgs_cons (pg_name (i := 5) sc_Field_product.nd rfl (by first | exact Or.inl rfl | exact Or.inr rfl)) (pgs_cons (pg_name (i := 6) sc_Field_product.nd rfl (by first | exact Or.inl rfl | exact Or.inr rfl)) pgs_nil))) (pss_one (ps_for PassesOwn.never rfl (pi_enumK K rfl (n_enumerate S) (pa_cons (pm (ok_Field_figures (K := K) S) (hr.mono (by decide)) (c_Field (K := K) S) (m_Field_figures (K := K) S) (pv 0) (pa_cons (pv 2) pa_nil)) pa_nil)) (pg_tupK K (n := 2) rfl (pgs_cons (pg_name (i := 7) sc_Field_product.nd rfl (by first | exact Or.inl rfl | exact Or.inr rfl)) (pgs_cons (pg_name (i := 8) sc_Field_product.nd rfl (by first | exact Or.inl rfl | exact Or.inr rfl)) pgs_nil))) (pss_one (ps_augS (pv 3) (pe_op op_add (pv 5) (pv 7)) (pget_listK K) (pe_op op_mul (pv 6) (pv 8)) ip_add set_list))))) (pss_cons (ps_set (i := 4) sc_Field_product.nd rfl (by first | exact Or.inl rfl | exact Or.inr rfl) (pe_ix (ix_dictIK K) (pe_glob (v := .ref (He.ga K "RULES")) rfl (g_RULES S) rfl) (pe_fldK K (pv 0) rfl) (fun _ _ => rfl))) (pss_cons (ps_for PassesOwn.never rfl (pi_range3 rfl (n_range S) (pa_cons (pe_op op_sub (pe_op op_mul pe_int (pe_fldK K (pv 0) rfl)) pe_int) (pa_cons (pe_op op_sub (pe_fldK K (pv 0) rfl) pe_int) (pa_cons (pe_un un_neg pe_int) pa_nil)))) (pg_name (i := 5) sc_Field_product.nd rfl (by first | exact Or.inl rfl | exact Or.inr rfl)) (pss_cons (ps_for PassesOwn.never rfl (pi_enumTK K rfl (n_enumerate S) (pa_cons (pv 4) pa_nil)) (pg_tupK K (n := 2) rfl (pgs_cons (pg_name (i := 7) sc_Field_product.nd rfl (by first | exact Or.inl rfl | exact Or.inr rfl)) (pgs_cons (pg_name (i := 9) sc_Field_product.nd rfl (by first | exact Or.inl rfl | exact Or.inr rfl)) pgs_nil))) (pss_one (ps_augS (pv 3) (pe_op op_add (pe_op op_sub (pv 5) (pe_fldK K (pv 0) rfl)) (pv 7)) (pget_listK K) (pe_op op_mul (pe_ix (ix_listK K) (pv 3) (pv 5) (fun _ _ => rfl)) (pv 9)) ip_add set_list))) (pss_one (ps_asg pe_int (pg_sub (pv 3) (pv 5) set_list))))) (pss_one (ps_ret (pm (ok_Field_composed (K := K) S) (hr.mono (by decide)) (c_Field (K := K) S) (m_Field_composed (K := K) S) (pv 0) (pa_cons (pe_slice (sl_listK K) (pv 3) po_none (po_some (pe_fldK K (pv 0) rfl))) pa_nil))))))))), ?_⟩
  repeat tb_rel
  refine r_fld hp (c_Field S) (a_Field_places S) (fF_places q) ?_
  repeat tb_rel
  refine ite_d (fun h1 => ?_) fun h1 => ?_
  · repeat tb_rel
    refine r_mul ⟨by omega, by omega⟩ ?_
    repeat tb_rel
    refine r_fld hp (c_Field S) (a_Field_prime S) (fF_prime q) ?_
    refine r_mod hpp.1 ?_
    have e : fmul q a b = a * b % prm q := if_pos (by omega)
    rw [← e]
    exact k H (Same.refl H)
  · repeat tb_rel
    have h1' : plc q ≠ 1 := by omega
    have hq4 : q = 4 ∨ q = 8 ∨ q = 9 ∨ q = 16 := by
      rcases hq with rfl | rfl | rfl | rfl | rfl | rfl
      · exact absurd rfl h1'
      · exact absurd rfl h1'
      · exact .inl rfl
      · exact .inr (.inl rfl)
      · exact .inr (.inr (.inl rfl))
      · exact .inr (.inr (.inr rfl))
    refine r_lstN fun D H1 hD e1 h1L => ?_
    repeat tb_rel
    refine r_fld (e1 _ _ hp) (c_Field S) (a_Field_places S) (fF_places q) ?_
    refine r_mul ⟨by omega, by omega⟩ ?_
    refine ⟨D, _, _, rfl, rfl, h1L, by omega, by omega, ?_, fun L hL => ?_⟩
    · refine Nat.le_trans (m := 1 * 8) (Nat.mul_le_mul (Nat.le_refl _) (by omega)) (by decide)
    repeat tb_rel
    have hHL : H L = none := e1.free hL
    have e2 : Same H (upd H1 L (.lst (List.replicate (2 * (plc q : Int)).toNat [V.int 0]).flatten)) := e1.put hHL
    refine r_Mv (e2 _ _ hp) rfl ?_
    repeat tb_rel
    refine ⟨rfl, p, q, a, rfl, ⟨dx, e2 _ _ hp, hq⟩, fun A G1 hA e3 hA1 => ?_⟩
    have hLA : L ≠ A := ne_of_none upd_same hA
    have hL1 : G1 L = some (.lst ((List.replicate (2 * plc q) (0 : Int)).map V.int)) := by
      have z := e3 L _ upd_same
      rw [z, show (2 * (plc q : Int)).toNat = 2 * plc q by omega]
      simp
    have e4 : Same H G1 := e2.trans e3
    have hAH : H A = none := e2.free hA
    clear hA hL e1 e2 e3 h1L hD
    generalize hl0 : List.replicate (2 * plc q) (0 : Int) = l0 at hL1
    have hl0n : l0.length = 2 * plc q := by rw [← hl0, List.length_replicate]
    repeat tb_rel
    refine ⟨_, _, rfl, .of hA1, ?_⟩
    have hla := figs_length (prm q) (plc q) a
    have hlb := figs_length (prm q) (plc q) b
    generalize hfa : figs (prm q) (plc q) a = fa at hla hA1
    generalize hfb : figs (prm q) (plc q) b = fb at hlb
    refine for_B walk_enum (fun i σ G => ∃ x5 x6 x7 x8, σ = [some (.ref p), some (.int a), some (.int b), some (.ref L), none, x5, x6, x7, x8, none] ∧ Same H G ∧ G A = some (.lst (fa.map V.int)) ∧ G L = some (.lst ((conv fa fb (plc q) i l0).map V.int)))
      ⟨none, none, none, none, rfl, e4, hA1, hL1⟩ (fun i σ G _ ⟨_, _, _, _, _, _, h, _⟩ => .of h) ?_ ?_
    · rintro i x σ G G' hi ⟨x5, x6, x7, x8, rfl, e, hGA, hGL⟩ ⟨T, x, y, rfl, hT, rfl, hx, hy⟩
      obtain rfl := Option.some.inj hx
      obtain ⟨u, hu, rfl⟩ := map_get hy
      rw [List.length_map] at hi
      refine r_gP upd_same ?_
      repeat tb_rel
      have e5 := e.trans (Same.new hT (o := .tup [.int (i : Nat), .int u]))
      refine r_Mv (e5 _ _ hp) rfl ?_
      repeat tb_rel
      refine ⟨rfl, p, q, b, rfl, ⟨dx, e5 _ _ hp, hq⟩, fun B G2 hB e6 hB2 => ?_⟩
      have hA2 := e6 _ _ (Same.new hT (o := .tup [.int (i : Nat), .int u]) _ _ hGA)
      have hL2 := e6 _ _ (Same.new hT (o := .tup [.int (i : Nat), .int u]) _ _ hGL)
      have hLB : L ≠ B := ne_of_none (Same.new hT (o := .tup [.int (i : Nat), .int u]) _ _ hGL) hB
      rw [hfb] at hB2
      repeat tb_rel
      refine ⟨_, _, rfl, .of hB2, ?_⟩
      refine for_B walk_enum (fun j σ G => ∃ x7 x8, σ = [some (.ref p), some (.int a), some (.int b), some (.ref L), none, some (.int (i : Nat)), some (.int u), x7, x8, none] ∧ Same H G ∧ G A = some (.lst (fa.map V.int)) ∧ G B = some (.lst (fb.map V.int)) ∧ G L = some (.lst ((convR u i fb j (conv fa fb (plc q) i l0)).map V.int)))
        ⟨_, _, rfl, e5.trans e6, hA2, hB2, hL2⟩ (fun i σ G _ ⟨_, _, _, _, _, h, _⟩ => .of h) ?_ ?_
      · rintro j x σ G3 G3' hj ⟨x7, x8, rfl, e7, hA3, hB3, hL3⟩ ⟨T2, x, y, rfl, hT2, rfl, hx2, hy2⟩
        obtain rfl := Option.some.inj hx2
        obtain ⟨v, hv, rfl⟩ := map_get hy2
        rw [List.length_map] at hj
        refine r_gP upd_same ?_
        repeat tb_rel
        have hlen : (convR u i fb j (conv fa fb (plc q) i l0)).length = 2 * plc q := by rw [convR_length, conv_length, hl0n]
        have n2 : Same G3 (upd G3 T2 (.tup [.int (j : Nat), .int v])) := Same.new hT2
        refine r_ixN (n2 _ _ hL3) (k := i + j) (by omega) (by omega) ?_
        repeat tb_rel
        refine r_mul ⟨?_, ?_⟩ ?_
        · have z := figs_bound (prm q) hpp.1 (plc q) a u (by rw [hfa]; exact List.mem_of_getElem? hu)
          omega
        · have z := figs_bound (prm q) hpp.1 (plc q) a u (by rw [hfa]; exact List.mem_of_getElem? hu)
          omega
        repeat tb_rel
        refine r_setI (n2 _ _ hL3) (k := i + j) (by omega) (by omega) ?_
        refine ⟨_, _, rfl, (e7.trans n2).put hHL, ?_, ?_, ?_⟩
        · rw [upd_ne hLA.symm]
          exact n2 _ _ hA3
        · rw [upd_ne hLB.symm]
          exact n2 _ _ hB3
        · rw [upd_same]
          unfold convR
          rw [foldl_range_succ]
          unfold addAt
          rw [show fb.getD j 0 = v by simp [List.getD, hv]]
      · rintro σ G3 ⟨x7, x8, rfl, e7, hA3, hB3, hL3⟩
        refine ⟨_, _, _, _, rfl, e7, hA3, ?_⟩
        rw [hL3, List.length_map, hlb]
        unfold conv
        rw [foldl_range_succ, show fa.getD i 0 = u by simp [List.getD, hu]]
    · rintro σ G ⟨x5, x6, x7, x8, rfl, e, hGA, hGL⟩
      repeat tb_rel
      refine r_fld (e _ _ hp) (c_Field S) (a_Field_many S) (fF_many q) ?_
      obtain ⟨es, n, R, r1, r2, r3, hR⟩ := rules_at S hq4
      refine r_ixI r1 r2 r3 (z := .ref R) rfl ?_
      repeat tb_rel
      refine r_fld (e _ _ hp) (c_Field S) (a_Field_places S) (fF_places q) ?_
      refine r_mul ⟨by omega, by omega⟩ ?_
      repeat tb_rel
      refine r_fld (e _ _ hp) (c_Field S) (a_Field_places S) (fF_places q) ?_
      repeat tb_rel
      refine ⟨_, _, _, plc q, rfl, ?_, ?_⟩
      · have z := RgC.neg (i := 2 * (plc q : Int) - 1) (j := (plc q : Int) - 1) (by omega) (by omega) (by omega) (by omega)
        rw [show (2 * (plc q : Int) - 1 - ((plc q : Int) - 1)).toNat = plc q by omega] at z
        exact z
      rw [List.length_map, hla] at hGL
      generalize hl1 : conv fa fb (plc q) (plc q) l0 = l1 at hGL
      have hl1n : l1.length = 2 * plc q := by rw [← hl1, conv_length, hl0n]
      have hru : (ruleF q).length = plc q := by
        rcases hq4 with rfl | rfl | rfl | rfl <;> rfl
      refine for_B walk_rangeC (fun i σ G => ∃ x5 x7 x9, σ = [some (.ref p), some (.int a), some (.int b), some (.ref L), some (.ref R), x5, x6, x7, x8, x9] ∧ Same H G ∧ G L = some (.lst ((red (plc q) (ruleF q) i l1).map V.int)))
        ⟨_, _, _, rfl, e, hGL⟩ (fun _ _ _ _ _ => trivial) ?_ ?_
      · rintro i x σ G G' hi ⟨x5, x7, x9, rfl, e, hGL⟩ ⟨rfl, rfl⟩
        have eat : (2 * (plc q : Int) - 1 + (i : Nat) * -1) = ((2 * plc q - 1 - i : Nat) : Int) := by omega
        show gName 5 (V.int (2 * (plc q : Int) - 1 + (i : Nat) * -1)) _ _ _
        rw [eat]
        generalize hat : 2 * plc q - 1 - i = at_
        repeat tb_rel
        refine ⟨_, _, rfl, hR _, ?_⟩
        refine for_B walk_enumT (fun j σ G => ∃ x7 x9, σ = [some (.ref p), some (.int a), some (.int b), some (.ref L), some (.ref R), some (.int (at_ : Nat)), x6, x7, x8, x9] ∧ Same H G ∧ G L = some (.lst ((redR at_ (plc q) (ruleF q) j (red (plc q) (ruleF q) i l1)).map V.int)))
          ⟨_, _, rfl, e, hGL⟩ (fun _ _ G _ _ => hR G) ?_ ?_
        · rintro j x σ G3 G3' hj ⟨x7, x9, rfl, e7, hL3⟩ ⟨T2, x, y, rfl, hT2, rfl, hx2, hy2⟩
          obtain rfl := Option.some.inj hx2
          obtain ⟨v, hv, rfl⟩ := map_get hy2
          rw [List.length_map, hru] at hj
          refine r_gP upd_same ?_
          repeat tb_rel
          have n2 : Same G3 (upd G3 T2 (.tup [.int (j : Nat), .int v])) := Same.new hT2
          refine r_fld (n2 _ _ (e7 _ _ hp)) (c_Field S) (a_Field_places S) (fF_places q) ?_
          repeat tb_rel
          have hlen : (redR at_ (plc q) (ruleF q) j (red (plc q) (ruleF q) i l1)).length = 2 * plc q := by rw [redR_length, red_length, hl1n]
          refine r_ixN (n2 _ _ hL3) (k := at_ - plc q + j) (by omega) (by omega) ?_
          repeat tb_rel
          refine r_ixL (.of (n2 _ _ hL3)) rfl (by rw [List.getElem?_map, getD_some (by omega)]; rfl) ?_
          repeat tb_rel
          refine r_mulR ?_ ?_
          · have hv2 : v ∈ ruleF q := List.mem_of_getElem? hv
            have : 0 ≤ v ∧ v ≤ 2 := by
              refine rule_bound q ?_ v hv2
              rcases hq4 with rfl | rfl | rfl | rfl <;> decide
            omega
          repeat tb_rel
          refine r_setI (n2 _ _ hL3) (k := at_ - plc q + j) (by omega) (by omega) ?_
          refine ⟨_, _, rfl, (e7.trans n2).put hHL, ?_⟩
          rw [upd_same]
          unfold redR
          rw [foldl_range_succ]
          unfold addAt
          rw [show (ruleF q).getD j 0 = v by simp [List.getD, hv]]
        · rintro σ G3 ⟨x7, x9, rfl, e7, hL3⟩
          repeat tb_rel
          have hlen : (redR at_ (plc q) (ruleF q) (plc q) (red (plc q) (ruleF q) i l1)).length = 2 * plc q := by rw [redR_length, red_length, hl1n]
          rw [List.length_map, hru] at hL3
          refine r_setI hL3 rfl (by omega) ?_
          refine ⟨_, _, _, rfl, e7.put hHL, ?_⟩
          rw [upd_same]
          unfold red
          rw [foldl_range_succ, hat]
      · rintro σ G ⟨x5, x7, x9, rfl, e, hGL⟩
        repeat tb_rel
        refine r_Mv (e _ _ hp) rfl ?_
        repeat tb_rel
        refine r_fld (e _ _ hp) (c_Field S) (a_Field_places S) (fF_places q) ?_
        refine ⟨_, rfl, ?_⟩
        refine ⟨_, _, rfl, .of hGL, fun M hM => ?_⟩
        repeat tb_rel
        have n3 : Same G (upd G M (.lst (cutV ((red (plc q) (ruleF q) (plc q) l1).map V.int) none (some (plc q : Nat))))) := Same.new hM
        refine ⟨rfl, p, q, M, (red (plc q) (ruleF q) (plc q) l1).take (plc q), rfl, ⟨dx, n3 _ _ (e _ _ hp), hq⟩, .of ?_, fun H5 e5 => ?_⟩
        · rw [upd_same, cutV_take, List.map_take]
        repeat tb_rel
        have ee : fmul q a b = compF (prm q) ((red (plc q) (ruleF q) (plc q) (conv (figs (prm q) (plc q) a) (figs (prm q) (plc q) b) (plc q) (plc q) (List.replicate (2 * plc q) 0))).take (plc q)) := if_neg h1'
        have k2 := k H5 (e.trans (n3.trans e5))
        rw [ee, hl0, hfa, hfb, hl1] at k2
        exact k2
end
end Mg
/-! F4 -/
namespace Mg
open PySem PySem.Spec PyProof.Rows L2
/-! ### rows: the mirror -/
def finvL (q a : Int) : List Int := ((List.range (q - 1).toNat).filter fun i : Nat => decide (fmul q a (1 + (i : Int)) = 1)).map fun i : Nat => 1 + (i : Int)
def finv (q a : Int) : Int := (finvL q a).headD 0
def rscale (q : Int) (xs : List Int) (c : Int) : List Int := xs.map fun x => fmul q x c
def rjoin (q : Int) (xs ys : List Int) (s : Int) : List Int := (xs.zip ys).map fun z => fadd q z.1 z.2 s
def InR (q : Int) (xs : List Int) : Prop := ∀ x ∈ xs, 0 ≤ x ∧ x < q
def fblend (q : Int) (width : Nat) (l : List (List Int × Int)) : List Int := l.foldl (fun f z => if z.2 ≠ 0 then rjoin q f (rscale q z.1 z.2) 1 else f) (List.replicate width 0)
theorem Fq.le {q : Int} (h : Fq q) : 2 ≤ q ∧ q ≤ 16 := by
  rcases h with h | h | h | h | h | h <;> omega
theorem finv_ok : ∀ q ∈ ([2, 3, 4, 8, 9, 16] : List Int), ∀ i ∈ List.range 15, ((i : Nat) : Int) + 1 < q → finvL q ((i : Nat) + 1) ≠ [] := by decide +kernel
theorem finvL_ne {q a : Int} (hq : Fq q) (h0 : a ≠ 0) (ha : 0 ≤ a ∧ a < q) : finvL q a ≠ [] := by
  have := hq.le
  have z := finv_ok q (by rcases hq with rfl | rfl | rfl | rfl | rfl | rfl <;> decide) (a - 1).toNat (List.mem_range.2 (by omega)) (by omega)
  rw [show (((a - 1).toNat : Nat) : Int) + 1 = a by omega] at z
  exact z
section
variable {P : Program} {w : World} {K : PySem.W.Frag} {mg : Str → Option Value} {base : Heap}
theorem sc_Field_inverse : FnScope ["self", "one", "other"] ["self", "one"] d_Field_inverse.scope := ⟨rfl, rfl, rfl, by decide +kernel, rfl, by decide +kernel, by decide +kernel⟩
def sp_inverse (K : PySem.W.Frag) : Sp := SpN 2 fun vs H Q => ∃ p q a, vs = [.ref p, .int a] ∧ FieldAt K H p q ∧ (0 ≤ a ∧ a < q) ∧ a ≠ 0 ∧ ∀ H', Same H H' → Q (.int (finv q a)) H'
theorem ok_Field_inverse (S : Says K mg) : Fn P w K mg base 3 (He.fAd K d_Field_inverse.at_) (sp_inverse K) := by
  refine fn_body (f_Field_inverse S) sc_Field_inverse rfl (fun _ _ _ _ _ _ us hl => match us, hl with | [_, _], _ => rfl) fun cdv A outer s H vs Q E hr h => ?_
  obtain ⟨p, q, a, rfl, ⟨dx, hp, hq⟩, ha, h0, k⟩ := h
  have hq16 := hq.le
  refine ⟨_, (pss_one (ps_ret (pe_ix (ix_listK K) (pe_lc (own := [("other", 2)]) rfl sc_Field_inverse.nd (pi_range2 rfl (n_range S) (pa_cons pe_int (pa_cons (pe_fldK K (pv 0) rfl) pa_nil))) (blkOk_by (N := ["self", "one", "other"]) (sc := d_Field_inverse.scope) (by decide +kernel)) (fun _ _ _ _ _ => (pg_name (i := 2) sc_Field_inverse.nd rfl (by first | exact Or.inl rfl | exact Or.inr rfl))) (fun _ _ _ _ _ => (pts_one (pt_cmpR op_eq (pm (ok_Field_product (K := K) S) (hr.mono (by decide)) (c_Field (K := K) S) (m_Field_product (K := K) S) (pv 0) (pa_cons (pv 1) (pa_cons (pv 2) pa_nil))) pe_int (nomark _)))) (fun _ _ _ _ _ => (pv 2))) pe_int (fun _ _ => rfl)))), ?_⟩
  repeat tb_rel
  refine r_fld hp (c_Field S) (a_Field_many S) (fF_many q) ?_
  repeat tb_rel
  refine ⟨_, _, rfl, by omega, ?_⟩
  refine lc_L walk_range (List.range (q - 1).toNat) (by simp) (Nat.lt_of_lt_of_le (m := 16) (by omega) (by decide)) (fun i : Nat => decide (fmul q a (1 + (i : Int)) = 1)) (fun i : Nat => .int (1 + (i : Int))) (fun _ _ => trivial) ?_ ?_
  · rintro i j G x G' R R' hj e ⟨rfl, rfl⟩ hR hR'
    obtain ⟨hlt, rfl⟩ := range_get hj
    repeat tb_rel
    refine ⟨rfl, ?_⟩
    repeat tb_rel
    refine r_Mv (e _ _ hp) rfl ?_
    repeat tb_rel
    refine ⟨rfl, p, q, a, _, rfl, ⟨dx, e _ _ hp, hq⟩, ha, by omega, fun H5 e5 => ?_⟩
    repeat tb_rel
    refine ite_d (fun h1 => ?_) fun h1 => ?_
    · repeat tb_rel
      exact hR (decide_eq_true h1) H5 e5
    · exact hR' (decide_eq_false h1) H5 e5
  · intro D H4 hD e4 h4
    repeat tb_rel
    have hne := finvL_ne hq h0 ha
    have e : ((List.range (q - 1).toNat).filter fun i : Nat => decide (fmul q a (1 + (i : Int)) = 1)).map (fun i : Nat => V.int (1 + (i : Int))) = (finvL q a).map V.int := by
      unfold finvL
      rw [List.map_map]
      rfl
    rw [e] at h4
    cases hl : finvL q a with
    | nil => exact absurd hl hne
    | cons u r =>
      refine r_ixL (.of h4) (j := 0) rfl (by rw [hl]; rfl) ?_
      have k2 := k H4 e4
      unfold finv at k2
      rw [hl] at k2
      exact k2
theorem sc_Field_needs_row : FnScope ["self", "row", "width", "one"] ["self", "row", "width"] d_Field_needs_row.scope := ⟨rfl, rfl, rfl, by decide +kernel, rfl, by decide +kernel, by decide +kernel⟩
def sp_needs_row (K : PySem.W.Frag) : Sp := SpN 3 fun vs H Q => ∃ p q r xs width, vs = [.ref p, .ref r, .int width] ∧ FieldAt K H p q ∧ SqT K H r (xs.map V.int) ∧ InR q xs ∧ width = (xs.length : Int) ∧ xs.length ≤ 1000 ∧ ∀ H', Same H H' → Q .non H'
theorem ok_Field_needs_row (S : Says K mg) : Fn P w K mg base 2 (He.fAd K d_Field_needs_row.at_) (sp_needs_row K) := by
  refine fn_body (f_Field_needs_row S) sc_Field_needs_row rfl (fun _ _ _ _ _ _ us hl => match us, hl with | [_, _, _], _ => rfl) fun cdv A outer s H vs Q E hr h => ?_
  obtain ⟨p, q, r, xs, width, rfl, ⟨dx, hp, hq⟩, hr2, hin, hwd, hz, k⟩ := h
  refine ⟨_, (pss_one (ps_if (PW.pt (pw_or (pt_cmpR op_ne (pe_callB (call_len_seqK K) (by rfl) (n_len S) PySem.boot_len (pa_cons (pv 1) pa_nil)) (pv 2) (nomark _)) (pw_or1 (pt_not (pt_val (pe_callB (cr_allK K rfl) (by rfl) (n_all S) (by decide +kernel) (pa_cons (pe_lc (own := [("one", 3)]) rfl sc_Field_needs_row.nd (pi_tupK K (pv 1)) (blkOk_by (N := ["self", "row", "width", "one"]) (sc := d_Field_needs_row.scope) (by decide +kernel)) (fun _ _ _ _ _ => (pg_name (i := 3) sc_Field_needs_row.nd rfl (by first | exact Or.inl rfl | exact Or.inr rfl))) (fun _ _ _ _ _ => pts_nil) (fun _ _ _ _ _ => (pm (ok_Field_has (K := K) S) (hr.mono (by decide)) (c_Field (K := K) S) (m_Field_has (K := K) S) (pv 0) (pa_cons (pv 3) pa_nil)))) pa_nil))))))) (pss_one ps_never) pss_nil)), ?_⟩
  repeat tb_rel
  refine r_len (.inr hr2) ?_
  repeat tb_rel
  rw [List.length_map, ← hwd]
  refine ite_n (fun h => absurd rfl h) fun _ => ?_
  repeat tb_rel
  refine ⟨_, rfl, ⟨_, hr2⟩, ?_⟩
  refine lc_M walk_tup xs (by simp) (by rw [List.length_map]; exact Nat.lt_of_le_of_lt hz (by decide)) (fun x => .bl (decide (0 ≤ x ∧ x < q))) (fun G e => e.seqT hr2) ?_ ?_
  · rintro i x G y G' R hx e ⟨rfl, hy⟩ hR
    obtain ⟨z, hz2, rfl⟩ := map_get hy
    obtain rfl := Option.some.inj (hx.symm.trans hz2)
    repeat tb_rel
    refine ⟨rfl, ?_⟩
    repeat tb_rel
    refine r_Mv (e _ _ hp) rfl ?_
    repeat tb_rel
    exact ⟨rfl, p, q, x, rfl, ⟨dx, e _ _ hp, hq⟩, hR _ (Same.refl _)⟩
  · intro D H4 hD e4 h4
    repeat tb_rel
    refine ⟨D, xs.map fun x => decide (0 ≤ x ∧ x < q), rfl, .of (by rw [h4, List.map_map]; rfl), ?_⟩
    have e : ((xs.map fun x => decide (0 ≤ x ∧ x < q)).all id) = true := by
      rw [List.all_eq_true]
      intro b hb
      obtain ⟨x, hx, rfl⟩ := List.mem_map.1 hb
      exact decide_eq_true (hin x hx)
    rw [e]
    repeat tb_rel
    refine iteF ?_
    exact k H4 e4
theorem sc_Field_scaled : FnScope ["self", "row", "share", "one"] ["self", "row", "share"] d_Field_scaled.scope := ⟨rfl, rfl, rfl, by decide +kernel, rfl, by decide +kernel, by decide +kernel⟩
def sp_scaled (K : PySem.W.Frag) : Sp := SpN 3 fun vs H Q => ∃ p q r xs c, vs = [.ref p, .ref r, .int c] ∧ FieldAt K H p q ∧ SqT K H r (xs.map V.int) ∧ InR q xs ∧ (0 ≤ c ∧ c < q) ∧ xs.length ≤ 1000 ∧ ∀ u H', Same H H' → NewT K H H' u ((rscale q xs c).map V.int) → Q (.ref u) H'
theorem ok_Field_scaled (S : Says K mg) : Fn P w K mg base 3 (He.fAd K d_Field_scaled.at_) (sp_scaled K) := by
  refine fn_body (f_Field_scaled S) sc_Field_scaled rfl (fun _ _ _ _ _ _ us hl => match us, hl with | [_, _, _], _ => rfl) fun cdv A outer s H vs Q E hr h => ?_
  obtain ⟨p, q, r, xs, c, rfl, ⟨dx, hp, hq⟩, hr2, hin, hc, hz, k⟩ := h
  refine ⟨_, (pss_one (ps_ret (pe_tupleOfK K rfl (n_tuple S) (pe_lc (own := [("one", 3)]) rfl sc_Field_scaled.nd (pi_tupK K (pv 1)) (blkOk_by (N := ["self", "row", "share", "one"]) (sc := d_Field_scaled.scope) (by decide +kernel)) (fun _ _ _ _ _ => (pg_name (i := 3) sc_Field_scaled.nd rfl (by first | exact Or.inl rfl | exact Or.inr rfl))) (fun _ _ _ _ _ => pts_nil) (fun _ _ _ _ _ => (pm (ok_Field_product (K := K) S) (hr.mono (by decide)) (c_Field (K := K) S) (m_Field_product (K := K) S) (pv 0) (pa_cons (pv 3) (pa_cons (pv 2) pa_nil)))))))), ?_⟩
  repeat tb_rel
  refine ⟨_, rfl, ⟨_, hr2⟩, ?_⟩
  refine lc_M walk_tup xs (by simp) (by rw [List.length_map]; exact Nat.lt_of_le_of_lt hz (by decide)) (fun x => .int (fmul q x c)) (fun G e => e.seqT hr2) ?_ ?_
  · rintro i x G y G' R hx e ⟨rfl, hy⟩ hR
    obtain ⟨z, hz2, rfl⟩ := map_get hy
    obtain rfl := Option.some.inj (hx.symm.trans hz2)
    repeat tb_rel
    refine ⟨rfl, ?_⟩
    repeat tb_rel
    refine r_Mv (e _ _ hp) rfl ?_
    repeat tb_rel
    exact ⟨rfl, p, q, x, c, rfl, ⟨dx, e _ _ hp, hq⟩, hin x (List.mem_of_getElem? hx), hc, hR⟩
  · intro D H4 hD e4 h4
    refine .inl ⟨D, _, rfl, .of h4, fun u hu => ?_⟩
    refine k u _ (e4.trans (Same.new hu)) (.inl ⟨e4.free hu, ?_⟩)
    rw [upd_same]
    unfold rscale
    rw [List.map_map]
    rfl
theorem sc_Field_joined : FnScope ["self", "row", "other", "sign", "one", "two"] ["self", "row", "other", "sign"] d_Field_joined.scope := ⟨rfl, rfl, rfl, by decide +kernel, rfl, by decide +kernel, by decide +kernel⟩
def sp_joined (K : PySem.W.Frag) : Sp := SpN 4 fun vs H Q => ∃ p q r t xs ys s, vs = [.ref p, .ref r, .ref t, .int s] ∧ FieldAt K H p q ∧ SqT K H r (xs.map V.int) ∧ SqT K H t (ys.map V.int) ∧ xs.length = ys.length ∧ (-4 < s ∧ s < 4) ∧ xs.length ≤ 1000 ∧ ∀ u H', Same H H' → NewT K H H' u ((rjoin q xs ys s).map V.int) → Q (.ref u) H'
theorem raw_Field_joined (S : Says K mg) {fd : FuncData} (F : FunD K d_Field_joined.name d_Field_joined.qual d_Field_joined.params d_Field_joined.body d_Field_joined.scope (d_Field_joined.dvs K) (d_Field_joined.kws K) (He.fAd K d_Field_joined.at_) fd) :
    FnOk P w K mg base CX0 3 (He.fAd K d_Field_joined.at_) fd ["self", "row", "other", "sign"] (sp_joined K) := by
  refine fn_ok F sc_Field_joined rfl fun cdv A outer s H vs Q E hr h => ?_
  obtain ⟨p, q, r, t, xs, ys, c, rfl, ⟨dx, hp, hq⟩, hr2, ht2, hlen, hc, hz, k⟩ := h
  refine ⟨_, (pss_one (ps_ret (pe_tupleOfK K rfl (n_tuple S) (pe_lc (own := [("one", 4), ("two", 5)]) rfl sc_Field_joined.nd (pi_zipSK K true true rfl (n_zip S) (pa_cons (pv 1) (pa_cons (pv 2) pa_nil))) (blkOk_by (N := ["self", "row", "other", "sign", "one", "two"]) (sc := d_Field_joined.scope) (by decide +kernel)) (fun _ _ _ _ _ => (pg_tupK K (n := 2) rfl (pgs_cons (pg_name (i := 4) sc_Field_joined.nd rfl (by first | exact Or.inl rfl | exact Or.inr rfl)) (pgs_cons (pg_name (i := 5) sc_Field_joined.nd rfl (by first | exact Or.inl rfl | exact Or.inr rfl)) pgs_nil)))) (fun _ _ _ _ _ => pts_nil) (fun _ _ _ _ _ => (pm (ok_Field_added (K := K) S) (hr.mono (by decide)) (c_Field (K := K) S) (m_Field_added (K := K) S) (pv 0) (pa_cons (pv 4) (pa_cons (pv 5) (pa_cons (pv 3) pa_nil))))))))), ?_⟩
  repeat tb_rel
  refine ⟨_, _, _, _, rfl, hr2, ht2, ?_⟩
  refine lc_M (walk_zipS (xs := xs.map V.int) (ys := ys.map V.int) (n := xs.length) (by simp) (by simp [hlen])) (xs.zip ys) (by simp [hlen]) (Nat.lt_of_le_of_lt hz (by decide)) (fun z => .int (fadd q z.1 z.2 c)) (fun G e => ⟨e.seqT hr2, e.seqT ht2⟩) ?_ ?_
  · rintro i ⟨x, y⟩ G v G' R hx e ⟨T, x1, y1, rfl, hT, rfl, hx1, hy1⟩ hR
    obtain ⟨x2, hx2, rfl⟩ := map_get hx1
    obtain ⟨y2, hy2, rfl⟩ := map_get hy1
    have hxy : x = x2 ∧ y = y2 := by
      have z := List.getElem?_zip_eq_some.1 hx
      exact ⟨Option.some.inj (z.1.symm.trans hx2), Option.some.inj (z.2.symm.trans hy2)⟩
    obtain ⟨rfl, rfl⟩ := hxy
    refine r_gP upd_same ?_
    refine ⟨rfl, ?_⟩
    repeat tb_rel
    have n := Same.new hT (o := .tup [.int x, .int y])
    refine r_Mv (n _ _ (e _ _ hp)) rfl ?_
    repeat tb_rel
    exact ⟨rfl, p, q, x, y, c, rfl, ⟨dx, n _ _ (e _ _ hp), hq⟩, hc.1, hc.2, fun H' e' => hR H' (n.trans e')⟩
  · intro D H4 hD e4 h4
    refine .inl ⟨D, _, rfl, .of h4, fun u hu => ?_⟩
    refine k u _ (e4.trans (Same.new hu)) (.inl ⟨e4.free hu, ?_⟩)
    rw [upd_same]
    unfold rjoin
    rw [List.map_map]
    rfl
theorem ok_Field_joined (S : Says K mg) : Fn P w K mg base 3 (He.fAd K d_Field_joined.at_) (sp_joined K) := by
  obtain ⟨fd, F⟩ := f_Field_joined S
  obtain ⟨ds, hd, hb⟩ := F.binds1 (ps := ["self", "row", "other", "sign"]) 4 1 (fun z => by cases z) rfl (fun T kV doc pm an cdv ct us its hu hi => match us, hu, its, hi with | [_, _, _, _], _, [_], _ => ⟨_, rfl, rfl⟩)
  have q := (raw_Field_joined (P := P) (w := w) (base := base) S F).raw hb hd
  exact q.imp fun vs H Q E h => by rw [show (d_Field_joined.dvs K).drop 1 = [] from rfl, List.append_nil]; exact h
theorem ok_Field_joined2 (S : Says K mg) : Fn P w K mg base 3 (He.fAd K d_Field_joined.at_) (fun vs H Q E => sp_joined K (vs ++ [.int 1]) H Q E) := by
  obtain ⟨fd, F⟩ := f_Field_joined S
  obtain ⟨ds, hd, hb⟩ := F.binds1 (ps := ["self", "row", "other", "sign"]) 3 0 (fun z => by cases z) rfl (fun T kV doc pm an cdv ct us its hu hi => match us, hu, its, hi with | [_, _, _], _, [_], _ => ⟨_, rfl, rfl⟩)
  exact (raw_Field_joined (P := P) (w := w) (base := base) S F).raw hb hd
end
end Mg
/-! F5 -/
namespace Mg
open PySem PySem.Spec PyProof.Rows L2
/-- rows: their tuples -/
def RowsAt (K : PySem.W.Frag) (H : Hp) (rs : List (Addr × List Int)) : Prop := ∀ z ∈ rs, SqT K H z.1 (z.2.map V.int)
def refs (rs : List (Addr × List Int)) : List V := rs.map fun z => .ref z.1
theorem RowsAt.same {K : PySem.W.Frag} {H H' : Hp} {rs : List (Addr × List Int)} (h : RowsAt K H rs) (e : Same H H') : RowsAt K H' rs := fun z hz => e.seqT (h z hz)
theorem rscale_length (q : Int) (xs : List Int) (c : Int) : (rscale q xs c).length = xs.length := List.length_map ..
theorem rjoin_length (q : Int) (xs ys : List Int) (s : Int) (h : xs.length = ys.length) : (rjoin q xs ys s).length = xs.length := by
  unfold rjoin
  rw [List.length_map, List.length_zip, ← h, Nat.min_self]
theorem fblend_length (q : Int) (n : Nat) : ∀ (l : List (List Int × Int)), (∀ z ∈ l, z.1.length = n) → (fblend q n l).length = n := by
  have h : ∀ (l : List (List Int × Int)) (f : List Int), f.length = n → (∀ z ∈ l, z.1.length = n) → (l.foldl (fun f z => if z.2 ≠ 0 then rjoin q f (rscale q z.1 z.2) 1 else f) f).length = n := by
    intro l
    induction l with
    | nil => exact fun f hf _ => hf
    | cons z l ih =>
      intro f hf hl
      refine ih _ ?_ fun y hy => hl y (List.mem_cons_of_mem _ hy)
      show (if z.2 ≠ 0 then rjoin q f (rscale q z.1 z.2) 1 else f).length = n
      split
      · rw [rjoin_length _ _ _ _ (by rw [rscale_length, hf, hl z (List.mem_cons_self ..)]), hf]
      · exact hf
  exact fun l hl => h l _ (List.length_replicate ..) hl
theorem fblend_snoc (q : Int) (n : Nat) (l : List (List Int × Int)) (z : List Int × Int) : fblend q n (l ++ [z]) = if z.2 ≠ 0 then rjoin q (fblend q n l) (rscale q z.1 z.2) 1 else fblend q n l := by
  unfold fblend
  rw [List.foldl_append]
  rfl
section
variable {P : Program} {w : World} {K : PySem.W.Frag} {mg : Str → Option Value} {base : Heap}
theorem sc_Field_blend : FnScope ["self", "rows", "shares", "width", "found", "row", "share"] ["self", "rows", "shares", "width"] d_Field_blend.scope := ⟨rfl, rfl, rfl, by decide +kernel, rfl, by decide +kernel, by decide +kernel⟩
def sp_blend (K : PySem.W.Frag) : Sp := SpN 4 fun vs H Q => ∃ p q l rs t cs n, vs = [.ref p, .ref l, .ref t, .int (n : Nat)] ∧ FieldAt K H p q ∧ SqL K H l (refs rs) ∧ RowsAt K H rs ∧ SqT K H t (cs.map V.int) ∧ rs.length = cs.length ∧ rs.length ≤ 1000 ∧
  (∀ z ∈ rs, InR q z.2 ∧ z.2.length = n) ∧ InR q cs ∧ n ≤ 1000 ∧ ∀ u H', Same H H' → NewT K H H' u ((fblend q n ((rs.map (·.2)).zip cs)).map V.int) → Q (.ref u) H'
theorem ok_Field_blend (S : Says K mg) : Fn P w K mg base 4 (He.fAd K d_Field_blend.at_) (sp_blend K) := by
  refine fn_body (f_Field_blend S) sc_Field_blend rfl (fun _ _ _ _ _ _ us hl => match us, hl with | [_, _, _, _], _ => rfl) fun cdv A outer s H vs Q E hr h => ?_
  obtain ⟨p, q, l, rs, t, cs, n, rfl, ⟨dx, hp, hq⟩, hl, hrs, ht, hlen, hz, hin, hcs, hn, k⟩ := h
  refine ⟨_, (pss_cons (ps_set (i := 4) sc_Field_blend.nd rfl (by first | exact Or.inl rfl | exact Or.inr rfl) (pe_op (op_repAK K) (pe_tup (pa_cons pe_int pa_nil)) (pv 3))) (pss_cons (ps_for PassesOwn.never rfl (pi_zipSK K false true rfl (n_zip S) (pa_cons (pv 1) (pa_cons (pv 2) pa_nil))) (pg_tupK K (n := 2) rfl (pgs_cons (pg_name (i := 5) sc_Field_blend.nd rfl (by first | exact Or.inl rfl | exact Or.inr rfl)) (pgs_cons (pg_name (i := 6) sc_Field_blend.nd rfl (by first | exact Or.inl rfl | exact Or.inr rfl)) pgs_nil))) (pss_one (ps_if (pt_cmpR op_ne (pv 6) pe_int (nomark _)) (pss_one (ps_set (i := 4) sc_Field_blend.nd rfl (by first | exact Or.inl rfl | exact Or.inr rfl) (pm (ok_Field_joined2 (K := K) S) (hr.mono (by decide)) (c_Field (K := K) S) (m_Field_joined (K := K) S) (pv 0) (pa_cons (pv 4) (pa_cons (pm (ok_Field_scaled (K := K) S) (hr.mono (by decide)) (c_Field (K := K) S) (m_Field_scaled (K := K) S) (pv 0) (pa_cons (pv 5) (pa_cons (pv 6) pa_nil))) pa_nil))))) pss_nil))) (pss_one (ps_ret (pv 4))))), ?_⟩
  repeat tb_rel
  refine r_tupN (K := K) fun u0 H0 e0 n0 => ?_
  repeat tb_rel
  refine r_rep n0 e0 (by simp) (by simp) (by omega) (by omega) fun u1 H1 e1 n1 => ?_
  repeat tb_rel
  have hrep : (List.replicate (Int.toNat (n : Nat)) [V.int 0]).flatten = (List.replicate n (0 : Int)).map V.int := by simp
  rw [hrep] at n1
  have ee := e0.trans e1
  refine ⟨_, _, _, _, rfl, ee.seqL hl, ee.seqT ht, ?_⟩
  refine for_B (walk_zipS (xs := refs rs) (ys := cs.map V.int) (n := rs.length) (by simp [refs]) (by simp [hlen]))
    (fun i σ G => ∃ u x5 x6, σ = [some (.ref p), some (.ref l), some (.ref t), some (.int (n : Nat)), some (.ref u), x5, x6] ∧ Same H G ∧ NewT K H G u ((fblend q n (((rs.map (·.2)).zip cs).take i)).map V.int))
    ⟨u1, _, _, rfl, ee, n1⟩ (fun i σ G _ ⟨_, _, _, _, e, _⟩ => ⟨e.seqL hl, e.seqT ht⟩) ?_ ?_
  · rintro i v σ G G' hi ⟨u, x5, x6, rfl, e, nu⟩ ⟨T, x1, y1, rfl, hT, rfl, hx1, hy1⟩
    obtain ⟨⟨a, r⟩, ha, rfl⟩ := map_get hx1
    obtain ⟨c, hc, rfl⟩ := map_get hy1
    have hmem := List.mem_of_getElem? ha
    have ez : ((rs.map (·.2)).zip cs)[i]? = some (r, c) := List.getElem?_zip_eq_some.2 ⟨by rw [List.getElem?_map, ha]; rfl, hc⟩
    refine r_gP upd_same ?_
    have nn := Same.new hT (o := .tup [.ref a, .int c])
    repeat tb_rel
    rw [take_snoc ez, fblend_snoc]
    refine ite_n (fun h1 => ?_) fun h1 => ?_
    · repeat tb_rel
      refine r_Mv (nn _ _ (e _ _ hp)) rfl ?_
      repeat tb_rel
      refine r_Mv (nn _ _ (e _ _ hp)) rfl ?_
      repeat tb_rel
      refine ⟨rfl, p, q, a, r, c, rfl, ⟨dx, nn _ _ (e _ _ hp), hq⟩, (e.trans nn).seqT (hrs _ hmem), (hin _ hmem).1, hcs c (List.mem_of_getElem? hc), by have := (hin _ hmem).2; simp only at this; omega, fun u2 H5 e5 n5 => ?_⟩
      repeat tb_rel
      have e6 := e.trans (nn.trans e5)
      have hL1 : (fblend q n (((rs.map (·.2)).zip cs).take i)).length = n := fblend_length _ _ _ fun z hz => by
        obtain ⟨y, hy, e⟩ := List.mem_map.1 (List.of_mem_zip (List.mem_of_mem_take hz)).1
        rw [← e]
        exact (hin y hy).2
      refine ⟨rfl, p, q, u, u2, _, _, 1, rfl, ⟨dx, e6 _ _ hp, hq⟩, (nn.trans e5).seqT nu.sq, n5.sq, ?_, ⟨by omega, by omega⟩, ?_, fun u3 H7 e7 n7 => ?_⟩
      · rw [hL1, rscale_length]
        exact (hin _ hmem).2.symm
      · rw [hL1]
        exact hn
      repeat tb_rel
      refine ⟨u3, _, _, rfl, e6.trans e7, ?_⟩
      rw [if_pos h1]
      exact n7.back e6
    · rw [if_neg (by simpa using h1)]
      exact ⟨u, _, _, rfl, e.trans nn, nu.fwd nn⟩
  · rintro σ G ⟨u, x5, x6, rfl, e, nu⟩
    repeat tb_rel
    refine k u G e ?_
    rwa [List.take_of_length_le (by rw [List.length_zip, List.length_map]; omega)] at nu
theorem sc_grown : FnScope ["one", "many", "found", "turn"] ["one", "many"] d_grown.scope := ⟨rfl, rfl, rfl, by decide +kernel, rfl, by decide +kernel, by decide +kernel⟩
def sp_grown (K : PySem.W.Frag) : Sp := SpN 2 fun vs H Q => ∃ (a : Int) (m : Nat), vs = [.int a, .int (m : Nat)] ∧ (0 ≤ a ∧ a < 16) ∧ m ≤ 1000 ∧ Q (.int (a ^ m)) H
theorem ok_grown (S : Says K mg) : Fn P w K mg base 1 (He.fAd K d_grown.at_) (sp_grown K) := by
  refine fn_body (f_grown S) sc_grown rfl (fun _ _ _ _ _ _ us hl => match us, hl with | [_, _], _ => rfl) fun cdv A outer s H vs Q E hr h => ?_
  obtain ⟨a, m, rfl, ha, hm, k⟩ := h
  refine ⟨_, (pss_cons (ps_set (i := 2) sc_grown.nd rfl (by first | exact Or.inl rfl | exact Or.inr rfl) pe_int) (pss_cons (ps_for PassesOwn.never rfl (pi_range1 rfl (n_range S) (pa_cons (pv 1) pa_nil)) (pg_name (i := 3) sc_grown.nd rfl (by first | exact Or.inl rfl | exact Or.inr rfl)) (pss_one (ps_aug (i := 2) sc_grown.nd rfl (by first | exact Or.inl rfl | exact Or.inr rfl) (pv 0) ip_mul))) (pss_one (ps_ret (pv 2))))), ?_⟩
  repeat tb_rel
  refine ⟨_, rfl, by omega, by omega, ?_⟩
  refine for_B (walk_range (n := m)) (fun i σ G => ∃ x, σ = [some (.int a), some (.int (m : Nat)), some (.int (a ^ i)), x] ∧ G = H) ⟨none, by simp [L2.start], rfl⟩ (fun _ _ _ _ _ => trivial) ?_ ?_
  · rintro i v σ G G' hi ⟨x, rfl, rfl⟩ ⟨rfl, rfl⟩
    repeat tb_rel
    refine ⟨_, _, rfl, rfl, .inr (by omega), ?_⟩
    rw [show a ^ i * a = a ^ (i + 1) from (Int.pow_succ ..).symm]
    exact ⟨_, rfl, rfl⟩
  · rintro σ G ⟨x, rfl, rfl⟩
    repeat tb_rel
    exact k
theorem sc_Field_init : FnScope ["self", "size", "base"] ["self", "size"] d_Field_init.scope := ⟨rfl, rfl, rfl, by decide +kernel, rfl, by decide +kernel, by decide +kernel⟩
theorem prm_size : ∀ q ∈ ([2, 3, 4, 8, 9, 16] : List Int), ((BASESl.filter fun b => decide (q % b = 0)).head? = some (prm q)) ∧ inV (V.int q) (SIZESl.map V.int) = true ∧ ∀ j ∈ List.range 6, 1 ≤ j → (decide (prm q ^ j < q) = decide (j < plc q)) := by decide +kernel
theorem Fq.mem {q : Int} (h : Fq q) : q ∈ ([2, 3, 4, 8, 9, 16] : List Int) := by
  rcases h with rfl | rfl | rfl | rfl | rfl | rfl <;> decide
theorem bases_pos : ∀ b ∈ BASESl, 0 < b ∧ b < 100 := by decide
def sp_Field_init (K : PySem.W.Frag) : Sp := SpN 2 fun vs H Q => ∃ p dx q, vs = [.ref p, .int q] ∧ H p = some (.ins (kF K) dx []) ∧ Fq q ∧ ∀ H', SameBut p H H' → FieldAt K H' p q → Q .non H'
theorem raw_Field_init (S : Says K mg) {fd : FuncData} (F : FunD K d_Field_init.name d_Field_init.qual d_Field_init.params d_Field_init.body d_Field_init.scope (d_Field_init.dvs K) (d_Field_init.kws K) (He.fAd K d_Field_init.at_) fd) :
    FnOk P w K mg base CX0 2 (He.fAd K d_Field_init.at_) fd ["self", "size"] (sp_Field_init K) := by
  refine fn_ok F sc_Field_init rfl fun cdv A outer s H vs Q E hr h => ?_
  obtain ⟨p, dx, q, rfl, hp, hq, k⟩ := h
  obtain ⟨b1, b2, b3⟩ := prm_size q hq.mem
  have hpp := prm_pos q
  have hpl := plc_le q
  refine ⟨_, (pss_cons (ps_if (pt_cmpR (op_notIn_seqK K) (pv 1) (pe_glob (v := .ref (He.ga K "SIZES")) rfl (g_SIZES S) rfl) rfl) (pss_one ps_never) pss_nil) (pss_cons (ps_fldK K (pv 0) (pv 1) rfl) (pss_cons (ps_fldK K (pv 0) (pe_ix (ix_listK K) (pe_lc (own := [("base", 2)]) rfl sc_Field_init.nd (pi_tupK K (pe_glob (v := .ref (He.ga K "BASES")) rfl (g_BASES S) rfl)) (blkOk_by (N := ["self", "size", "base"]) (sc := d_Field_init.scope) (by decide +kernel)) (fun _ _ _ _ _ => (pg_name (i := 2) sc_Field_init.nd rfl (by first | exact Or.inl rfl | exact Or.inr rfl))) (fun _ _ _ _ _ => (pts_one (pt_cmpR op_eq (pe_op op_mod (pv 1) (pv 2)) pe_int (nomark _)))) (fun _ _ _ _ _ => (pv 2))) pe_int (fun _ _ => rfl)) rfl) (pss_cons (ps_fldK K (pv 0) pe_int rfl) (pss_one (ps_while PassesOwn.never (pt_cmpR op_lt (pc (ok_grown (K := K) S) (hr.mono (by decide)) (g_grown S) (f_grown S).choose_spec.kp rfl (pa_cons (pe_fldK K (pv 0) rfl) (pa_cons (pe_fldK K (pv 0) rfl) pa_nil))) (pv 1) (nomark _)) (pss_one (ps_fldaugK K (pv 0) pe_int in_add)))))))), ?_⟩
  repeat tb_rel
  refine r_in (.inr (sizes_at S H)) rfl (by decide) ?_
  rw [b2]
  repeat tb_rel
  refine iteF ?_
  repeat tb_rel
  refine r_fldP hp (c_Field S) (a_Field_many S) (by decide) ?_
  repeat tb_rel
  refine ⟨_, rfl, ⟨_, bases_at S _⟩, ?_⟩
  refine lc_L walk_tup BASESl (by simp) (by decide) (fun b => decide (q % b = 0)) (fun b => .int b) (fun G e => bases_at S G) ?_ ?_
  · rintro i b G y G' R R' hx e ⟨rfl, hy⟩ hR hR'
    obtain ⟨z, hz2, rfl⟩ := map_get hy
    obtain rfl := Option.some.inj (hx.symm.trans hz2)
    have hb := bases_pos b (List.mem_of_getElem? hx)
    repeat tb_rel
    refine ⟨rfl, ?_⟩
    repeat tb_rel
    refine r_mod hb.1 ?_
    repeat tb_rel
    refine ite_d (fun h1 => ?_) fun h1 => ?_
    · repeat tb_rel
      exact hR (decide_eq_true h1) _ (Same.refl _)
    · exact hR' (decide_eq_false h1) _ (Same.refl _)
  · intro D H4 hD e4 h4
    repeat tb_rel
    have ep := e4 _ _ upd_same
    cases hl : BASESl.filter fun b => decide (q % b = 0) with
    | nil =>
      rw [hl] at b1
      cases b1
    | cons u r =>
      rw [hl] at h4 b1
      obtain rfl := Option.some.inj b1
      refine r_ixL (.of h4) (j := 0) rfl rfl ?_
      repeat tb_rel
      refine r_fldP ep (c_Field S) (a_Field_prime S) (Nat.le_of_ble_eq_true rfl) ?_
      repeat tb_rel
      refine r_fldP upd_same (c_Field S) (a_Field_places S) (Nat.le_of_ble_eq_true rfl) ?_
      repeat tb_rel
      have s3 : SameBut p H H4 := fun b o n h => e4 b o (by rw [upd_ne n]; exact h)
      refine while_m (fun m σ G => ∃ j x, m = 5 - j ∧ 1 ≤ j ∧ j ≤ plc q ∧ σ = [some (.ref p), some (.int q), x] ∧ SameBut p H G ∧ G p = some (.ins (kF K) dx [("many", .int q), ("prime", .int (prm q)), ("places", .int (j : Nat))]))
        ⟨_, 1, _, rfl, Nat.le_refl _, hpl.1, rfl, s3.put.put, upd_same⟩ ?_
      rintro m σ G ⟨j, x, rfl, hj1, hj2, rfl, s4, hG⟩
      repeat tb_rel
      refine r_fld hG (c_Field S) (a_Field_prime S) rfl ?_
      repeat tb_rel
      refine r_fld hG (c_Field S) (a_Field_places S) rfl ?_
      repeat tb_rel
      refine ⟨rfl, prm q, j, rfl, by omega, by omega, ?_⟩
      repeat tb_rel
      rw [b3 j (List.mem_range.2 (by omega)) hj1]
      refine ite_d (fun h1 => ?_) fun h1 => ?_
      · repeat tb_rel
        refine ⟨p, _, dx, _, _, rfl, hG, c_Field S, a_Field_places S, rfl, ?_⟩
        repeat tb_rel
        refine ⟨_, _, rfl, rfl, dx, _, hG, by simp, ?_⟩
        exact ⟨5 - (j + 1), by omega, j + 1, _, rfl, by omega, by omega, rfl, s4.put, upd_same⟩
      · repeat tb_rel
        have ej : j = plc q := by omega
        rw [ej] at hG
        exact k G s4 ⟨dx, hG, hq⟩
end
end Mg
/-! S1 -/
namespace Mg
open PySem PySem.Spec PyProof.Rows L2 LamX
/-! ### ranges -/
theorem fadd_range0 : ∀ q ∈ ([2, 3, 4, 8, 9, 16] : List Int), ∀ a ∈ List.range 16, ∀ b ∈ List.range 16, ((a : Nat) : Int) < q → ((b : Nat) : Int) < q →
    ((0 ≤ fadd q (a : Nat) (b : Nat) 1 ∧ fadd q (a : Nat) (b : Nat) 1 < q) ∧ (0 ≤ fadd q (a : Nat) (b : Nat) (-1) ∧ fadd q (a : Nat) (b : Nat) (-1) < q) ∧ (0 ≤ fmul q (a : Nat) (b : Nat) ∧ fmul q (a : Nat) (b : Nat) < q)) := by decide +kernel
theorem frange {q a b : Int} (hq : Fq q) (ha : 0 ≤ a ∧ a < q) (hb : 0 ≤ b ∧ b < q) : (0 ≤ fadd q a b 1 ∧ fadd q a b 1 < q) ∧ (0 ≤ fadd q a b (-1) ∧ fadd q a b (-1) < q) ∧ (0 ≤ fmul q a b ∧ fmul q a b < q) := by
  have := hq.le
  have z := fadd_range0 q hq.mem a.toNat (List.mem_range.2 (by omega)) b.toNat (List.mem_range.2 (by omega)) (by omega) (by omega)
  rw [Int.toNat_of_nonneg ha.1, Int.toNat_of_nonneg hb.1] at z
  exact z
theorem inR_scale {q c : Int} {xs : List Int} (hq : Fq q) (h : InR q xs) (hc : 0 ≤ c ∧ c < q) : InR q (rscale q xs c) := fun x hx => by
  obtain ⟨y, hy, rfl⟩ := List.mem_map.1 hx
  exact (frange hq (h y hy) hc).2.2
theorem inR_join {q s : Int} {xs ys : List Int} (hq : Fq q) (h : InR q xs) (h2 : InR q ys) (hs : s = 1 ∨ s = -1) : InR q (rjoin q xs ys s) := fun x hx => by
  obtain ⟨⟨a, b⟩, hy, rfl⟩ := List.mem_map.1 hx
  have z := List.of_mem_zip hy
  rcases hs with rfl | rfl
  · exact (frange hq (h a z.1) (h2 b z.2)).1
  · exact (frange hq (h a z.1) (h2 b z.2)).2.1
/-! ### spans: the mirror -/
def firstL (xs : List Int) : List Nat := (List.range xs.length).filter fun i => decide (xs.getD i 0 ≠ 0)
def firstP (xs : List Int) : Option Nat := (firstL xs).head?
def optI : Option Nat → V
  | none => .non
  | some i => .int (i : Nat)
abbrev Lead := List (Nat × List Int)
def lowerF (q : Int) (ls : Lead) (row : List Int) : List Int := ls.foldl (fun r z => if r.getD z.1 0 ≠ 0 then rjoin q r (rscale q z.2 (r.getD z.1 0)) (-1) else r) row
theorem lowerF_snoc (q : Int) (ls : Lead) (z : Nat × List Int) (row : List Int) : lowerF q (ls ++ [z]) row = if (lowerF q ls row).getD z.1 0 ≠ 0 then rjoin q (lowerF q ls row) (rscale q z.2 ((lowerF q ls row).getD z.1 0)) (-1) else lowerF q ls row := by
  unfold lowerF
  rw [List.foldl_append]
  rfl
structure LdR where
  T : Addr
  kp : Addr
  sh : Addr
  pl : Nat
  row : List Int
  shs : List Int
structure LdOk (K : PySem.W.Frag) (H : Hp) (q : Int) (n m : Nat) (z : LdR) : Prop where
  tup : SqT K H z.T [.int (z.pl : Nat), .ref z.kp, .ref z.sh]
  kp : SqT K H z.kp (z.row.map V.int)
  sh : SqT K H z.sh (z.shs.map V.int)
  len : z.row.length = n
  inr : InR q z.row
  lenS : z.shs.length = m
  inrS : InR q z.shs
  pl : z.pl < n
theorem LdOk.same {K : PySem.W.Frag} {H H' : Hp} {q : Int} {n m : Nat} {z : LdR} (l : LdOk K H q n m z) (e : Same H H') : LdOk K H' q n m z := ⟨e.seqT l.tup, e.seqT l.kp, e.seqT l.sh, l.len, l.inr, l.lenS, l.inrS, l.pl⟩
theorem LdOk.ext {K : PySem.W.Frag} {H H' : Hp} {q : Int} {n m : Nat} {z : LdR} (l : LdOk K H q n m z) (e : ExtN H H') : LdOk K H' q n m z := ⟨extN_t e l.tup, extN_t e l.kp, extN_t e l.sh, l.len, l.inr, l.lenS, l.inrS, l.pl⟩
def leadOf (zs : List LdR) : Lead := zs.map fun z => (z.pl, z.row)
def refZ (zs : List LdR) : List V := zs.map fun z => .ref z.T
abbrev kS (K : PySem.W.Frag) : Addr := He.ga K "Span"
def fS (f : Addr) (n : Nat) (L : Addr) (m : Nat) : List (Str × V) := [("field_of", .ref f), ("width", .int (n : Nat)), ("lead_rows", .ref L), ("many", .int (m : Nat))]
structure SpanOk (K : PySem.W.Frag) (H : Hp) (a : Addr) (q : Int) (n : Nat) (ls : Lead) (dx f L : Addr) (zs : List LdR) : Prop where
  self : H a = some (.ins (kS K) dx (fS f n L ls.length))
  fld : FieldAt K H f q
  lst : H L = some (.lst (refZ zs))
  ok : ∀ z ∈ zs, LdOk K H q n ls.length z
  eq : ls = leadOf zs
def SpanAt (K : PySem.W.Frag) (H : Hp) (a : Addr) (q : Int) (n : Nat) (ls : Lead) : Prop := ∃ dx f L zs, SpanOk K H a q n ls dx f L zs
section
variable {P : Program} {w : World} {K : PySem.W.Frag} {mg : Str → Option Value} {base : Heap} {H : Hp} {σ : L2.St}
theorem sc_first_place : FnScope ["row", "places", "at", "one"] ["row"] d_first_place.scope := ⟨rfl, rfl, rfl, by decide +kernel, rfl, by decide +kernel, by decide +kernel⟩
def sp_first_place (K : PySem.W.Frag) : Sp := SpN 1 fun vs H Q => ∃ r xs, vs = [.ref r] ∧ SqT K H r (xs.map V.int) ∧ xs.length ≤ 1000 ∧ ∀ H', Same H H' → Q (optI (firstP xs)) H'
theorem ok_first_place (S : Says K mg) : Fn P w K mg base 1 (He.fAd K d_first_place.at_) (sp_first_place K) := by
  refine fn_body (f_first_place S) sc_first_place rfl (fun _ _ _ _ _ _ us hl => match us, hl with | [_], _ => rfl) fun cdv A outer s H vs Q E hr h => ?_
  obtain ⟨r, xs, rfl, hr2, hz, k⟩ := h
  refine ⟨_, (pss_cons (ps_setLc (i := 1) (own := [("at", 2), ("one", 3)]) rfl sc_first_place.nd rfl rfl (sw_true rfl rfl rfl (by decide +kernel)) (pi_enumTK K rfl (n_enumerate S) (pa_cons (pv 0) pa_nil)) (blkOk_by (N := ["row", "places", "at", "one"]) (sc := d_first_place.scope) (by decide +kernel)) (fun _ _ _ _ _ => (pg_tupK K (n := 2) rfl (pgs_cons (pg_name (i := 2) sc_first_place.nd rfl (by first | exact Or.inl rfl | exact Or.inr rfl)) (pgs_cons (pg_name (i := 3) sc_first_place.nd rfl (by first | exact Or.inl rfl | exact Or.inr rfl)) pgs_nil)))) (fun _ _ _ _ _ => (pts_one (pt_cmpR op_ne (pv 3) pe_int (nomark _)))) (fun _ _ _ _ _ => (pv 2))) (pss_one (ps_ret (pe_ifExp (pt_cmpR (op_neDK K (hu64 hr)) (pv 1) (pe_lst pa_nil) (nomark _)) (pe_ix (ix_listK K) (pv 1) pe_int (fun _ _ => rfl)) pe_non)))), ?_⟩
  repeat tb_rel
  refine ⟨_, _, rfl, hr2, ?_⟩
  refine lc_L walk_enumT (List.range xs.length) (by simp) (by rw [List.length_map]; exact Nat.lt_of_le_of_lt hz (by decide)) (fun i => decide (xs.getD i 0 ≠ 0)) (fun i => .int (i : Nat)) (fun G e => e.seqT hr2) ?_ ?_
  · rintro i j G v G' R R' hj e ⟨T, x1, y1, rfl, hT, rfl, hx1, hy1⟩ hR hR'
    obtain ⟨hlt, rfl⟩ := range_get hj
    obtain rfl := Option.some.inj hx1
    obtain ⟨y, hy, rfl⟩ := map_get hy1
    have ey : xs.getD j 0 = y := by simp [List.getD, hy]
    refine r_gP upd_same ?_
    refine ⟨rfl, ?_⟩
    repeat tb_rel
    refine ite_n (fun h1 => ?_) fun h1 => ?_
    · repeat tb_rel
      exact hR (decide_eq_true (by rw [ey]; exact h1)) _ (Same.new hT)
    · exact hR' (decide_eq_false (by rw [ey]; simpa using h1)) _ (Same.new hT)
  · intro D H4 hD e4 h4
    repeat tb_rel
    refine r_lstN fun E1 H5 hE e5 h5 => ?_
    have e : ((List.range xs.length).filter fun i => decide (xs.getD i 0 ≠ 0)).map (fun i : Nat => V.int (i : Nat)) = ((firstL xs).map fun i : Nat => (i : Int)).map V.int := by
      rw [List.map_map]
      rfl
    rw [e] at h4
    refine r_neNilI (.of (e5 _ _ h4)) (.of h5) ?_
    have k2 := k H5 (e4.trans e5)
    unfold firstP at k2
    cases hl : firstL xs with
    | nil =>
      rw [hl] at k2
      repeat tb_rel
      refine iteF ?_
      repeat tb_rel
      exact k2
    | cons u l =>
      rw [hl] at k2 h4
      repeat tb_rel
      refine iteT ?_
      repeat tb_rel
      refine r_ixL (.of (e5 _ _ h4)) (j := 0) rfl rfl ?_
      exact k2
theorem sc_Span_len : FnScope ["self"] ["self"] d_Span_len.scope := ⟨rfl, rfl, rfl, by decide +kernel, rfl, by decide +kernel, by decide +kernel⟩
def sp_Span_len (K : PySem.W.Frag) : Sp := SpN 1 fun vs H Q => ∃ a q n ls, vs = [.ref a] ∧ SpanAt K H a q n ls ∧ Q (.int (ls.length : Nat)) H
theorem raw_Span_len (S : Says K mg) {fd : FuncData} (F : FunD K d_Span_len.name d_Span_len.qual d_Span_len.params d_Span_len.body d_Span_len.scope [] [] (He.fAd K d_Span_len.at_) fd) :
    FnOk P w K mg base CX0 1 (He.fAd K d_Span_len.at_) fd ["self"] (sp_Span_len K) := by
  refine fn_ok F sc_Span_len rfl fun cdv A outer s H vs Q E hr h => ?_
  obtain ⟨a, q, n, ls, rfl, ⟨dx, f, L, zs, so⟩, k⟩ := h
  refine ⟨_, (pss_one (ps_ret (pe_callB (call_len_seqK K) (by rfl) (n_len S) PySem.boot_len (pa_cons (pe_fldK K (pv 0) rfl) pa_nil)))), ?_⟩
  repeat tb_rel
  refine r_fld so.self (c_Span S) (a_Span_lead_rows S) rfl ?_
  repeat tb_rel
  refine r_len (.inl (.of so.lst)) ?_
  repeat tb_rel
  rw [so.eq] at k
  unfold leadOf at k
  unfold refZ
  rw [List.length_map] at k ⊢
  exact k
theorem sc_Span_lowered : FnScope ["self", "row", "parts", "place", "kept", "shares", "share"] ["self", "row"] d_Span_lowered.scope := ⟨rfl, rfl, rfl, by decide +kernel, rfl, by decide +kernel, by decide +kernel⟩
def sp_Span_lowered (K : PySem.W.Frag) : Sp := SpN 2 fun vs H Q => ∃ a q n ls r xs, vs = [.ref a, .ref r] ∧ SpanAt K H a q n ls ∧ SqT K H r (xs.map V.int) ∧ InR q xs ∧ xs.length = n ∧ n ≤ 1000 ∧ ls.length ≤ 50 ∧
  ∀ T H' r' p' ps, Same H H' → H' T = some (.tup [.ref r', .ref p']) → SqT K H' r' ((lowerF q ls xs).map V.int) → InR q (lowerF q ls xs) → (lowerF q ls xs).length = n → SqT K H' p' (ps.map V.int) → InR q ps → ps.length = ls.length → Q (.ref T) H'
theorem ok_Span_lowered (S : Says K mg) : Fn P w K mg base 4 (He.fAd K d_Span_lowered.at_) (sp_Span_lowered K) := by
  refine fn_body (f_Span_lowered S) sc_Span_lowered rfl (fun _ _ _ _ _ _ us hl => match us, hl with | [_, _], _ => rfl) fun cdv A outer s H vs Q E hr h => ?_
  obtain ⟨a, q, n, ls, r, xs, rfl, ⟨dx, f, L, zs, so⟩, hr2, hin, hlen, hn, hls, k⟩ := h
  have hq : Fq q := let ⟨_, _, h⟩ := so.fld; h
  refine ⟨_, (pss_cons (ps_set (i := 2) sc_Span_lowered.nd rfl (by first | exact Or.inl rfl | exact Or.inr rfl) (pe_op (op_repAK K) (pe_tup (pa_cons pe_int pa_nil)) (pe_fldK K (pv 0) rfl))) (pss_cons (ps_for PassesOwn.never rfl (pi_listK K (pe_fldK K (pv 0) rfl)) (pg_tupK K (n := 3) rfl (pgs_cons (pg_name (i := 3) sc_Span_lowered.nd rfl (by first | exact Or.inl rfl | exact Or.inr rfl)) (pgs_cons (pg_name (i := 4) sc_Span_lowered.nd rfl (by first | exact Or.inl rfl | exact Or.inr rfl)) (pgs_cons (pg_name (i := 5) sc_Span_lowered.nd rfl (by first | exact Or.inl rfl | exact Or.inr rfl)) pgs_nil)))) (pss_cons (ps_set (i := 6) sc_Span_lowered.nd rfl (by first | exact Or.inl rfl | exact Or.inr rfl) (pe_ix (ix_tupK K) (pv 1) (pv 3) (fun _ _ => rfl))) (pss_one (ps_if (pt_cmpR op_ne (pv 6) pe_int (nomark _)) (pss_cons (ps_set (i := 1) sc_Span_lowered.nd rfl (by first | exact Or.inl rfl | exact Or.inr rfl) (pm (ok_Field_joined (K := K) S) (hr.mono (by decide)) (c_Field (K := K) S) (m_Field_joined (K := K) S) (pe_fldK K (pv 0) rfl) (pa_cons (pv 1) (pa_cons (pm (ok_Field_scaled (K := K) S) (hr.mono (by decide)) (c_Field (K := K) S) (m_Field_scaled (K := K) S) (pe_fldK K (pv 0) rfl) (pa_cons (pv 4) (pa_cons (pv 6) pa_nil))) (pa_cons (pe_un un_neg pe_int) pa_nil))))) (pss_one (ps_set (i := 2) sc_Span_lowered.nd rfl (by first | exact Or.inl rfl | exact Or.inr rfl) (pm (ok_Field_joined2 (K := K) S) (hr.mono (by decide)) (c_Field (K := K) S) (m_Field_joined (K := K) S) (pe_fldK K (pv 0) rfl) (pa_cons (pv 2) (pa_cons (pm (ok_Field_scaled (K := K) S) (hr.mono (by decide)) (c_Field (K := K) S) (m_Field_scaled (K := K) S) (pe_fldK K (pv 0) rfl) (pa_cons (pv 5) (pa_cons (pv 6) pa_nil))) pa_nil)))))) pss_nil)))) (pss_one (ps_ret (pe_tup (pa_cons (pv 1) (pa_cons (pv 2) pa_nil))))))), ?_⟩
  repeat tb_rel
  refine r_tupN (K := K) fun u0 H0 e0 n0 => ?_
  repeat tb_rel
  refine r_fld (e0 _ _ so.self) (c_Span S) (a_Span_many S) rfl ?_
  repeat tb_rel
  refine r_rep n0 e0 (by simp) (by simp) (by omega) (by omega) fun u1 H1 e1 n1 => ?_
  repeat tb_rel
  have ee := e0.trans e1
  have hrep : (List.replicate (Int.toNat (ls.length : Nat)) [V.int 0]).flatten = (List.replicate ls.length (0 : Int)).map V.int := by simp
  rw [hrep] at n1
  refine r_fld (ee _ _ so.self) (c_Span S) (a_Span_lead_rows S) rfl ?_
  repeat tb_rel
  refine ⟨_, rfl, ⟨_, .of (ee _ _ so.lst)⟩, ?_⟩
  refine for_B (walk_list (xs := refZ zs)) (fun i σ G => ∃ r' p' ps x3 x4 x5 x6, σ = [some (.ref a), some (.ref r'), some (.ref p'), x3, x4, x5, x6] ∧ Same H G ∧ SqT K G r' ((lowerF q (ls.take i) xs).map V.int) ∧ InR q (lowerF q (ls.take i) xs) ∧ (lowerF q (ls.take i) xs).length = n ∧ SqT K G p' (ps.map V.int) ∧ InR q ps ∧ ps.length = ls.length)
    ⟨r, u1, List.replicate ls.length 0, _, _, _, _, rfl, ee, ee.seqT hr2, hin, hlen, n1.sq, fun x hx => by rw [List.eq_of_mem_replicate hx]; have := hq.le; omega, by simp⟩ (fun i σ G _ ⟨_, _, _, _, _, _, _, _, e, _⟩ => .of (e _ _ so.lst)) ?_ ?_
  · rintro i v σ G G' hi ⟨r', p', ps, x3, x4, x5, x6, rfl, e, hr', hin', hlen', hp', hps, hpl⟩ ⟨rfl, hv⟩
    obtain ⟨z, hz, rfl⟩ := map_get hv
    have zo := (so.ok z (List.mem_of_getElem? hz)).same e
    have hls2 : ls[i]? = some (z.pl, z.row) := by rw [so.eq]; unfold leadOf; rw [List.getElem?_map, hz]; rfl
    rw [take_snoc hls2, lowerF_snoc]
    generalize hlow : lowerF q (ls.take i) xs = low at hr' hin' hlen'
    refine r_g3 zo.tup ?_
    repeat tb_rel
    have hpl2 : z.pl < low.length := by rw [hlen']; exact zo.pl
    refine r_ixT hr' (j := z.pl) rfl (by rw [List.getElem?_map, getD_some hpl2]; rfl) ?_
    repeat tb_rel
    have hsr : 0 ≤ low.getD z.pl 0 ∧ low.getD z.pl 0 < q := hin' _ (List.mem_of_getElem? (getD_some hpl2))
    refine ite_n (fun h1 => ?_) fun h1 => ?_
    · repeat tb_rel
      refine r_fld (e _ _ so.self) (c_Span S) (a_Span_field_of S) rfl ?_
      obtain ⟨dxf, hf, _⟩ := so.fld
      refine r_Mv (e _ _ hf) rfl ?_
      repeat tb_rel
      refine r_fld (e _ _ so.self) (c_Span S) (a_Span_field_of S) rfl ?_
      refine r_Mv (e _ _ hf) rfl ?_
      repeat tb_rel
      refine ⟨rfl, f, q, z.kp, z.row, _, rfl, ⟨dxf, e _ _ hf, hq⟩, zo.kp, zo.inr, hsr, by rw [zo.len]; exact hn, fun u2 H2 e2 n2 => ?_⟩
      repeat tb_rel
      refine ⟨rfl, f, q, r', u2, low, _, -1, rfl, ⟨dxf, e2 _ _ (e _ _ hf), hq⟩, e2.seqT hr', n2.sq, by rw [rscale_length, zo.len, hlen'], by omega, by rw [hlen']; exact hn, fun u3 H3 e3 n3 => ?_⟩
      repeat tb_rel
      have ef := e.trans (e2.trans e3)
      refine r_fld (ef _ _ so.self) (c_Span S) (a_Span_field_of S) rfl ?_
      refine r_Mv (ef _ _ hf) rfl ?_
      repeat tb_rel
      refine r_fld (ef _ _ so.self) (c_Span S) (a_Span_field_of S) rfl ?_
      refine r_Mv (ef _ _ hf) rfl ?_
      repeat tb_rel
      have hl50 : z.shs.length ≤ 1000 := by rw [zo.lenS]; omega
      refine ⟨rfl, f, q, z.sh, z.shs, _, rfl, ⟨dxf, ef _ _ hf, hq⟩, (e2.trans e3).seqT zo.sh, zo.inrS, hsr, hl50, fun u4 H4 e4 n4 => ?_⟩
      repeat tb_rel
      refine ⟨rfl, f, q, p', u4, ps, _, 1, rfl, ⟨dxf, e4 _ _ (ef _ _ hf), hq⟩, (e2.trans (e3.trans e4)).seqT hp', n4.sq, by rw [rscale_length, zo.lenS, hpl], by omega, by omega, fun u5 H5 e5 n5 => ?_⟩
      repeat tb_rel
      refine ⟨u3, u5, rjoin q ps (rscale q z.shs (low.getD z.pl 0)) 1, _, _, _, _, rfl, ef.trans (e4.trans e5), ?_, ?_, ?_, n5.sq, inR_join hq hps (inR_scale hq zo.inrS hsr) (.inl rfl), ?_⟩
      · rw [if_pos h1]
        exact (e4.trans e5).seqT n3.sq
      · rw [if_pos h1]
        exact inR_join hq hin' (inR_scale hq zo.inr hsr) (.inr rfl)
      · rw [if_pos h1, rjoin_length _ _ _ _ (by rw [rscale_length, zo.len, hlen']), hlen']
      · rw [rjoin_length _ _ _ _ (by rw [rscale_length, zo.lenS, hpl]), hpl]
    · repeat tb_rel
      rw [if_neg (by simpa using h1)]
      exact ⟨r', p', ps, _, _, _, _, rfl, e, hr', hin', hlen', hp', hps, hpl⟩
  · rintro σ G ⟨r', p', ps, x3, x4, x5, x6, rfl, e, hr', hin', hlen', hp', hps, hpl⟩
    have elen : (refZ zs).length = ls.length := by rw [so.eq]; simp [refZ, leadOf]
    rw [elen, List.take_length] at hr' hin' hlen'
    repeat tb_rel
    exact ⟨(by show 2 ≤ sizeLine; decide), fun T hT => k T _ r' p' ps (e.trans (Same.new hT)) upd_same ((Same.new hT).seqT hr') hin' hlen' ((Same.new hT).seqT hp') hps hpl⟩
end
end Mg
/-! S2 -/
namespace L2
open PySem PySem.Spec PyProof.Rows LamX
theorem pe_sortLamK (K : PySem.W.Frag) {X : Cx} {x q : Str} {scope : Scope} {params : Arguments} {e : Expr} {ta : TA} {c P : Addr} {p p1 p2 p3 lpos kpos pos : Pos} {j : Nat} (L : LamS1 x scope) (hg : Gl X "sorted") (hm : X.mg "sorted" = none) (hr : Room 3 X.A) (ha : PA X [e] ta)
    (TB : TabB X.base X.mg c P) (hcode : X.env.code = .ref c) (hdef : defaultsOf params X.env = ([], []))
    (hbind : ∀ (q : Str) (cl : List (Str × Addr)) (pm cv ctv v : Value), bindArgs (PySem.W.kla_fn "<lambda>" q params (.Subscript (.Name x p1) (.Constant (.int 0) j p2) p3) scope cl pm cv ctv) ⟨[v], []⟩ = pure [(x, v)])
    (hq : X.env.qual ++ "<lambda>" = q := by rfl)
    (hs : starEach [e] X.env = [(false, eval e X.env)] := by rfl) (hdb : (x == ("__debug__" : Str)) = false := by decide)
    (he : backTo pos (starEach [e] X.env) = (false, eval e X.env) :: backTo pos (starEach [] X.env) := by rfl) (hpl : (backTo pos (starEach [e] X.env)).any (·.1) = false := by rfl) (h : X.K = K := by rfl) :
    PE X (.Call (.Name "sorted" p) [e] [⟨some (Str.ofString "key"), .Lambda params (.Subscript (.Name x p1) (.Constant (.int 0) j p2) p3) scope lpos, kpos⟩] pos) (tSortLam K P q ta) := by
  subst h hq
  exact pe_sortLam (k := 0) L hg hm hr ha TB hcode hdef hbind hs hdb he hpl
section
variable {P : Program} {w : World} {K : PySem.W.Frag} {mg : Str → Option Value} {base : Heap} {d : He.DefD} {N ps : List Str} {k n : Nat}
/-- as fn_ok, the code object known -/
theorem fn_okC {fd : FuncData} {dvs : List V} {kws : List (Str × V)} {pre : List V → Hp → VK → Prop} (F : FunD K d.name d.qual d.params d.body d.scope dvs kws (He.fAd K d.at_) fd) (sc : FnScope N ps d.scope) (hn : n = ps.length)
    (hbody : ∀ (A : Around) (outer : List Env) (s : Shared) (H : Hp) (vs : List V) (Q : VK) (E : XK), Room k (A.deeper (envOfC d.qual d.scope s.heap.objs.size (He.fAd K d.at_) (.ref (He.codeOf K d.at_)))) → pre vs H Q →
      ∃ t, PSs (cxOf CX0 P w K mg base N d.qual d.scope (He.fAd K d.at_) (.ref (He.codeOf K d.at_)) A outer s H E).nox d.body t ∧ t { nx := fun _ H' => Q .non H', rt := Q } (start N vs) H) : FnOk P w K mg base CX0 (k + 1) (He.fAd K d.at_) fd ps (SpN n pre) := by
  obtain ⟨oc, od, dV, kV, doc, pm, an, cdv, ct, osl, rfl, lk, hcd, _, _⟩ := F.ex
  obtain ⟨c, rfl⟩ := He.codeIn_ref hcd
  have e : He.codeOf K d.at_ = c := He.codeOf_eq lk rfl
  refine fn_of lk hcd sc (fun vs H Q E h => h.1.trans hn) fun A outer s H vs Q E hr h => ?_
  rw [e] at hbody
  obtain ⟨t, h1, h2⟩ := hbody A outer s H vs Q E hr h.2
  exact ⟨t, h1.nox, h2⟩
end
end L2
namespace Mg
open PySem PySem.Spec PyProof.Rows L2 LamX
abbrev cPut (K : PySem.W.Frag) : Addr := He.codeOf K ("Span", some "put")
abbrev pTab (K : PySem.W.Frag) : Addr := He.tabOf K (cPut K)
def qPut : Str := "Span.put.<locals>.<lambda>"
def putL (q : Int) (ls : Lead) (left : List Int) (p : Nat) : Lead :=
  (p, rscale q left (finv q (left.getD p 0))) :: ls.map fun z => (z.1, rjoin q z.2 (rscale q (rscale q left (finv q (left.getD p 0))) (z.2.getD p 0)) (-1))
def PutR (q : Int) (ls : Lead) (row : List Int) (b : Bool) (ls' : Lead) : Prop := match firstP (lowerF q ls row) with
  | none => b = false ∧ ls' = ls
  | some p => b = true ∧ ls'.Perm (putL q ls (lowerF q ls row) p) ∧ ls'.Pairwise fun a b => a.1 ≤ b.1
theorem firstP_lt {xs : List Int} {p : Nat} (h : firstP xs = some p) : p < xs.length ∧ xs.getD p 0 ≠ 0 := by
  have z := List.mem_of_mem_head? (show p ∈ (firstL xs).head? from h)
  have z2 := List.mem_filter.1 z
  exact ⟨List.mem_range.1 z2.1, of_decide_eq_true z2.2⟩
theorem finv_range0 : ∀ q ∈ ([2, 3, 4, 8, 9, 16] : List Int), ∀ a ∈ List.range 16, ((a : Nat) : Int) < q → 1 ≤ a → 0 ≤ finv q (a : Nat) ∧ finv q (a : Nat) < q := by decide +kernel
theorem finv_range {q a : Int} (hq : Fq q) (ha : 0 ≤ a ∧ a < q) (h0 : a ≠ 0) : 0 ≤ finv q a ∧ finv q a < q := by
  have := hq.le
  have z := finv_range0 q hq.mem a.toNat (List.mem_range.2 (by omega)) (by omega) (by omega)
  rw [Int.toNat_of_nonneg ha.1] at z
  exact z
theorem perm_map {α β : Type} {f : α → β} : ∀ {l : List α} {ps : List β}, ps.Perm (l.map f) → ∃ l' : List α, l'.Perm l ∧ ps = l'.map f
  | [], ps, h => ⟨[], .nil, List.Perm.eq_nil h⟩
  | a :: l, ps, h => by
    have hm : f a ∈ ps := h.mem_iff.2 (List.mem_cons_self ..)
    obtain ⟨s, t, rfl⟩ := List.append_of_mem hm
    have h2 : (s ++ t).Perm (l.map f) := (List.perm_middle.symm.trans h).cons_inv
    obtain ⟨l', p, e⟩ := perm_map h2
    obtain ⟨l1, l2, rfl, rfl, rfl⟩ := List.map_eq_append_iff.1 e.symm
    exact ⟨l1 ++ a :: l2, List.perm_middle.trans (p.cons a), by simp⟩
theorem zip_leads {ps : List (Int × V)} {zs : List LdR} (h : ps.Perm ((zs.map fun z => ((z.pl : Nat) : Int)).zip (refZ zs))) : ∃ zs' : List LdR, zs'.Perm zs ∧ ps = zs'.map fun z => (((z.pl : Nat) : Int), V.ref z.T) := by
  have e : (zs.map fun z => ((z.pl : Nat) : Int)).zip (refZ zs) = zs.map fun z => (((z.pl : Nat) : Int), V.ref z.T) := by
    unfold refZ
    rw [List.zip_map']
  rw [e] at h
  exact perm_map h
section
variable {P : Program} {w : World} {K : PySem.W.Frag} {mg : Str → Option Value} {base : Heap} {H : Hp} {σ : L2.St}
theorem sc_Span_put : FnScope ["self", "row", "place", "share", "own", "fresh", "found", "left", "parts", "at", "kept", "shares", "part"] ["self", "row"] d_Span_put.scope := ⟨rfl, rfl, rfl, by decide +kernel, rfl, by decide +kernel, by decide +kernel⟩
def sp_Span_put (K : PySem.W.Frag) : Sp := SpN 2 fun vs H Q => ∃ a q n ls r xs, vs = [.ref a, .ref r] ∧ SpanAt K H a q n ls ∧ SqT K H r (xs.map V.int) ∧ InR q xs ∧ xs.length = n ∧ n ≤ 1000 ∧ ls.length ≤ 40 ∧ TabS H (pTab K) qPut ∧
  ∀ b ls' H', PutR q ls xs b ls' → ExtB a H H' → TabS H' (pTab K) qPut → SpanAt K H' a q n ls' → Q (.bl b) H'
theorem ok_Span_put (S : Says K mg) (TB : TabB base mg (cPut K) (pTab K)) : Fn P w K mg base 5 (He.fAd K d_Span_put.at_) (sp_Span_put K) := by
  obtain ⟨fd, F⟩ := f_Span_put S
  refine FnOk.fnR (fn_okC F sc_Span_put rfl fun A outer s H vs Q E hr h => ?_) (F.bindsN (fun _ _ _ _ _ _ us hl => match us, hl with | [_, _], _ => rfl))
  obtain ⟨a, q, n, ls, r, xs, rfl, ⟨dx, f, L, zs, so⟩, hr2, hin, hlen, hn, hls, htab, k⟩ := h
  have hq : Fq q := let ⟨_, _, h⟩ := so.fld; h
  refine ⟨_, (pss_cons (ps_expr (pm (ok_Field_needs_row (K := K) S) (hr.mono (by decide)) (c_Field (K := K) S) (m_Field_needs_row (K := K) S) (pe_fldK K (pv 0) rfl) (pa_cons (pv 1) (pa_cons (pe_fldK K (pv 0) rfl) pa_nil)))) (pss_cons (ps_asg (pm (ok_Span_lowered (K := K) S) (hr.mono (by decide)) (c_Span (K := K) S) (m_Span_lowered (K := K) S) (pv 0) (pa_cons (pe_tupleOfK K rfl (n_tuple S) (pv 1)) pa_nil)) (pg_tupK K (n := 2) rfl (pgs_cons (pg_name (i := 7) sc_Span_put.nd rfl (by first | exact Or.inl rfl | exact Or.inr rfl)) (pgs_cons (pg_name (i := 8) sc_Span_put.nd rfl (by first | exact Or.inl rfl | exact Or.inr rfl)) pgs_nil)))) (pss_cons (ps_set (i := 2) sc_Span_put.nd rfl (by first | exact Or.inl rfl | exact Or.inr rfl) (pc (ok_first_place (K := K) S) (hr.mono (by decide)) (g_first_place S) (f_first_place S).choose_spec.kp rfl (pa_cons (pv 7) pa_nil))) (pss_cons (ps_if (pt_cmpR op_isN (pv 2) pe_non (nomark _)) (pss_one (ps_ret pe_bl)) pss_nil) (pss_cons (ps_fldaugK K (pv 0) pe_int in_add) (pss_cons (ps_set (i := 3) sc_Span_put.nd rfl (by first | exact Or.inl rfl | exact Or.inr rfl) (pm (ok_Field_inverse (K := K) S) (hr.mono (by decide)) (c_Field (K := K) S) (m_Field_inverse (K := K) S) (pe_fldK K (pv 0) rfl) (pa_cons (pe_ix (ix_tupK K) (pv 7) (pv 2) (fun _ _ => rfl)) pa_nil))) (pss_cons (ps_set (i := 4) sc_Span_put.nd rfl (by first | exact Or.inl rfl | exact Or.inr rfl) (pm (ok_Field_joined (K := K) S) (hr.mono (by decide)) (c_Field (K := K) S) (m_Field_joined (K := K) S) (pe_fldK K (pv 0) rfl) (pa_cons (pe_op (op_catB K) (pe_op (op_repAK K) (pe_tup (pa_cons pe_int pa_nil)) (pe_op op_sub (pe_fldK K (pv 0) rfl) pe_int)) (pe_tup (pa_cons pe_int pa_nil))) (pa_cons (pe_op (op_catB K) (pv 8) (pe_tup (pa_cons pe_int pa_nil))) (pa_cons (pe_un un_neg pe_int) pa_nil))))) (pss_cons (ps_set (i := 5) sc_Span_put.nd rfl (by first | exact Or.inl rfl | exact Or.inr rfl) (pe_tup (pa_cons (pv 2) (pa_cons (pm (ok_Field_scaled (K := K) S) (hr.mono (by decide)) (c_Field (K := K) S) (m_Field_scaled (K := K) S) (pe_fldK K (pv 0) rfl) (pa_cons (pv 7) (pa_cons (pv 3) pa_nil))) (pa_cons (pm (ok_Field_scaled (K := K) S) (hr.mono (by decide)) (c_Field (K := K) S) (m_Field_scaled (K := K) S) (pe_fldK K (pv 0) rfl) (pa_cons (pv 4) (pa_cons (pv 3) pa_nil))) pa_nil))))) (pss_cons (ps_set (i := 6) sc_Span_put.nd rfl (by first | exact Or.inl rfl | exact Or.inr rfl) (pe_lst (pa_cons (pv 5) pa_nil))) (pss_cons (ps_for PassesOwn.never rfl (pi_listK K (pe_fldK K (pv 0) rfl)) (pg_tupK K (n := 3) rfl (pgs_cons (pg_name (i := 9) sc_Span_put.nd rfl (by first | exact Or.inl rfl | exact Or.inr rfl)) (pgs_cons (pg_name (i := 10) sc_Span_put.nd rfl (by first | exact Or.inl rfl | exact Or.inr rfl)) (pgs_cons (pg_name (i := 11) sc_Span_put.nd rfl (by first | exact Or.inl rfl | exact Or.inr rfl)) pgs_nil)))) (pss_cons (ps_set (i := 12) sc_Span_put.nd rfl (by first | exact Or.inl rfl | exact Or.inr rfl) (pe_ix (ix_tupK K) (pv 10) (pv 2) (fun _ _ => rfl))) (pss_one (ps_expr (pe_bmK K PySem.F.plainAttrs_list PySem.F.slot_list_append PySem.F.type_list_append mt_append (pv 6) (pa_cons (pe_tup (pa_cons (pv 9) (pa_cons (pm (ok_Field_joined (K := K) S) (hr.mono (by decide)) (c_Field (K := K) S) (m_Field_joined (K := K) S) (pe_fldK K (pv 0) rfl) (pa_cons (pv 10) (pa_cons (pm (ok_Field_scaled (K := K) S) (hr.mono (by decide)) (c_Field (K := K) S) (m_Field_scaled (K := K) S) (pe_fldK K (pv 0) rfl) (pa_cons (pe_ix (ix_tupK K) (pv 5) pe_int (fun _ _ => rfl)) (pa_cons (pv 12) pa_nil))) (pa_cons (pe_un un_neg pe_int) pa_nil)))) (pa_cons (pm (ok_Field_joined (K := K) S) (hr.mono (by decide)) (c_Field (K := K) S) (m_Field_joined (K := K) S) (pe_fldK K (pv 0) rfl) (pa_cons (pe_op (op_catB K) (pv 11) (pe_tup (pa_cons pe_int pa_nil))) (pa_cons (pm (ok_Field_scaled (K := K) S) (hr.mono (by decide)) (c_Field (K := K) S) (m_Field_scaled (K := K) S) (pe_fldK K (pv 0) rfl) (pa_cons (pe_ix (ix_tupK K) (pv 5) pe_int (fun _ _ => rfl)) (pa_cons (pv 12) pa_nil))) (pa_cons (pe_un un_neg pe_int) pa_nil)))) pa_nil)))) pa_nil)))))) (pss_cons (ps_fldK K (pv 0) (pe_sortLamK K (q := qPut) ⟨rfl, rfl, rfl, rfl⟩ rfl (n_sorted S) (hr.mono (by decide)) (pa_cons (pv 6) pa_nil) TB rfl rfl (fun _ _ _ _ _ _ => rfl)) rfl) (pss_one (ps_ret pe_bl))))))))))))), ?_⟩
  obtain ⟨dxf, hf, _⟩ := so.fld
  repeat tb_rel
  refine r_fld so.self (c_Span S) (a_Span_field_of S) rfl ?_
  refine r_Mv hf rfl ?_
  repeat tb_rel
  refine r_fld so.self (c_Span S) (a_Span_width S) rfl ?_
  repeat tb_rel
  refine ⟨rfl, f, q, r, xs, _, rfl, ⟨dxf, hf, hq⟩, hr2, hin, by rw [hlen], by omega, fun H1 e1 => ?_⟩
  repeat tb_rel
  refine r_Mv (e1 _ _ so.self) rfl ?_
  repeat tb_rel
  refine .inr ⟨r, _, rfl, e1.seqT hr2, ?_⟩
  repeat tb_rel
  have so1 : SpanAt K H1 a q n ls := ⟨dx, f, L, zs, e1 _ _ so.self, so.fld.same e1, e1 _ _ so.lst, fun z hz => (so.ok z hz).same e1, so.eq⟩
  refine ⟨rfl, a, q, n, ls, r, xs, rfl, so1, e1.seqT hr2, hin, hlen, hn, by omega, fun T H2 r' p' ps e2 hT hr' hinr hlr hp' hps hpl => ?_⟩
  clear so1
  have e12 := e1.trans e2
  clear e1 e2 H1
  generalize hleft : lowerF q ls xs = left at hr' hinr hlr
  refine r_g2 (.of hT) ?_
  repeat tb_rel
  refine ⟨rfl, r', left, rfl, hr', by omega, fun H3 e3 => ?_⟩
  repeat tb_rel
  have e13 := e12.trans e3
  cases hfp : firstP left with
  | none =>
    refine ⟨rfl, ?_⟩
    repeat tb_rel
    refine iteT ?_
    repeat tb_rel
    refine k false ls H3 ?_ (.of e13) (htab.ext e13) ⟨dx, f, L, zs, e13 _ _ so.self, so.fld.same e13, e13 _ _ so.lst, fun z hz => (so.ok z hz).same e13, so.eq⟩
    unfold PutR
    rw [hleft, hfp]
    exact ⟨rfl, rfl⟩
  | some p =>
    obtain ⟨hpl2, hp0⟩ := firstP_lt hfp
    have hlp := hinr _ (List.mem_of_getElem? (getD_some hpl2))
    refine ⟨rfl, ?_⟩
    repeat tb_rel
    refine iteF ?_
    repeat tb_rel
    refine ⟨a, _, dx, _, _, rfl, e13 _ _ so.self, c_Span S, a_Span_many S, rfl, ?_⟩
    repeat tb_rel
    refine ⟨_, _, rfl, rfl, dx, _, e13 _ _ so.self, Nat.le_of_ble_eq_true rfl, ?_⟩
    repeat tb_rel
    -- the heap with many counted
    have hself : upd H3 a (.ins (kS K) dx (fS f n L (ls.length + 1))) a = some (.ins (kS K) dx (fS f n L (ls.length + 1))) := upd_same
    have b3 : ExtB a H (upd H3 a (.ins (kS K) dx (fS f n L (ls.length + 1)))) := (ExtB.of e13).put
    have t3 : TabS (upd H3 a (.ins (kS K) dx (fS f n L (ls.length + 1)))) (pTab K) qPut := tabS_put (htab.ext e13) (e13 _ _ so.self) nt_ins
    have hr3 : SqT K (upd H3 a (.ins (kS K) dx (fS f n L (ls.length + 1)))) r' (left.map V.int) := seqT_putI (e3.seqT hr') (e13 _ _ so.self)
    have hp3 : SqT K (upd H3 a (.ins (kS K) dx (fS f n L (ls.length + 1)))) p' (ps.map V.int) := seqT_putI (e3.seqT hp') (e13 _ _ so.self)
    have hf3 : upd H3 a (.ins (kS K) dx (fS f n L (ls.length + 1))) f = some (.ins (kF K) dxf (fF q)) := by
      rw [upd_ne (ins_ne hf so.self fun z => by
        have := congrArg List.length z
        simp [fF, fS] at this)]
      exact e13 _ _ hf
    have hL3 : upd H3 a (.ins (kS K) dx (fS f n L (ls.length + 1))) L = some (.lst (refZ zs)) := by
      rw [upd_ne (ne_of so.lst so.self (by intro z; cases z))]
      exact e13 _ _ so.lst
    have hz3 : ∀ z ∈ zs, LdOk K (upd H3 a (.ins (kS K) dx (fS f n L (ls.length + 1)))) q n ls.length z := fun z hz => by
      have l := (so.ok z hz).same e13
      exact ⟨seqT_putI l.tup (e13 _ _ so.self), seqT_putI l.kp (e13 _ _ so.self), seqT_putI l.sh (e13 _ _ so.self), l.len, l.inr, l.lenS, l.inrS, l.pl⟩
    have hzl : zs.length = ls.length := by rw [so.eq]; simp [leadOf]
    have hleq := so.eq
    generalize hG3 : upd H3 a (.ins (kS K) dx (fS f n L (ls.length + 1))) = G3 at hself b3 t3 hr3 hp3 hf3 hL3 hz3
    have hG3' : upd H3 a (.ins (He.ga K "Span") dx (putF "many" (.int ((ls.length : Int) + 1)) (fS f n L ls.length))) = G3 := hG3
    rw [hG3']
    clear hG3 hG3' hr' hp' hT hf so e12 e13 e3 H3 H2 hr2 htab
    refine r_fld hself (c_Span S) (a_Span_field_of S) rfl ?_
    refine r_Mv hf3 rfl ?_
    repeat tb_rel
    refine r_ixT hr3 (j := p) rfl (by rw [List.getElem?_map, getD_some hpl2]; rfl) ?_
    repeat tb_rel
    refine ⟨rfl, f, q, _, rfl, ⟨dxf, hf3, hq⟩, hlp, hp0, fun H4 e4 => ?_⟩
    repeat tb_rel
    generalize hinv : finv q (left.getD p 0) = iv
    have hivr : 0 ≤ iv ∧ iv < q := by rw [← hinv]; exact finv_range hq hlp hp0
    refine r_fld (e4 _ _ hself) (c_Span S) (a_Span_field_of S) rfl ?_
    refine r_Mv (e4 _ _ hf3) rfl ?_
    repeat tb_rel
    refine r_tupN (K := K) fun u0 H5 e5 n5 => ?_
    repeat tb_rel
    refine r_fld (e5 _ _ (e4 _ _ hself)) (c_Span S) (a_Span_many S) rfl ?_
    repeat tb_rel
    refine r_rep n5 e5 (by simp) (by simp) (by omega) (by omega) fun u1 H6 e6 n6 => ?_
    repeat tb_rel
    refine r_tupN (K := K) fun u2 H7 e7 n7 => ?_
    repeat tb_rel
    have e47 := e4.trans (e5.trans (e6.trans e7))
    have hrep : (List.replicate (Int.toNat (((ls.length + 1 : Nat) : Int) - 1)) [V.int 0]).flatten = (List.replicate ls.length (0 : Int)).map V.int := by
      rw [show (((ls.length + 1 : Nat) : Int) - 1) = (ls.length : Int) by omega]
      simp
    rw [hrep] at n6
    refine r_catS (n6.fwd e7).sq n7.sq (by simp; omega) fun u3 H8 e8 s8 => ?_
    repeat tb_rel
    refine r_tupN (K := K) fun u4 H9 e9 n9 => ?_
    repeat tb_rel
    have e49 := e47.trans (e8.trans e9)
    refine r_catS (e49.seqT hp3) n9.sq (by simp [hpl]; omega) fun u5 H10 e10 s10 => ?_
    repeat tb_rel
    have e410 := e49.trans e10
    have ex1 : (List.replicate ls.length (0 : Int)).map V.int ++ [V.int 1] = (List.replicate ls.length (0 : Int) ++ [1]).map V.int := by simp
    have ex2 : ps.map V.int ++ [V.int 0] = (ps ++ [0]).map V.int := by simp
    rw [ex1] at s8
    rw [ex2] at s10
    have hq2 := hq.le
    have inr01 : InR q (List.replicate ls.length (0 : Int) ++ [1]) := fun x hx => by
      rcases List.mem_append.1 hx with h | h
      · rw [List.eq_of_mem_replicate h]
        omega
      · rw [List.mem_singleton.1 h]
        omega
    have inr0 : ∀ {l : List Int}, InR q l → InR q (l ++ [0]) := fun h x hx => by
      rcases List.mem_append.1 hx with h' | h'
      · exact h x h'
      · rw [List.mem_singleton.1 h']
        omega
    refine ⟨rfl, f, q, u3, u5, _, _, -1, rfl, ⟨dxf, e410 _ _ hf3, hq⟩, (e9.trans e10).seqT s8, s10, by simp [hpl], by omega, by simp; omega, fun u6 H11 e11 n11 => ?_⟩
    repeat tb_rel
    have e411 := e410.trans e11
    have hown : InR q (rjoin q (List.replicate ls.length (0 : Int) ++ [1]) (ps ++ [0]) (-1)) := inR_join hq inr01 (inr0 hps) (.inr rfl)
    have hownl : (rjoin q (List.replicate ls.length (0 : Int) ++ [1]) (ps ++ [0]) (-1)).length = ls.length + 1 := by rw [rjoin_length _ _ _ _ (by simp [hpl])]; simp
    generalize rjoin q (List.replicate ls.length (0 : Int) ++ [1]) (ps ++ [0]) (-1) = own at n11 hown hownl
    refine r_fld (e411 _ _ hself) (c_Span S) (a_Span_field_of S) rfl ?_
    refine r_Mv (e411 _ _ hf3) rfl ?_
    repeat tb_rel
    refine ⟨rfl, f, q, r', left, iv, rfl, ⟨dxf, e411 _ _ hf3, hq⟩, e411.seqT hr3, hinr, hivr, by omega, fun u7 H12 e12 n12 => ?_⟩
    repeat tb_rel
    have e412 := e411.trans e12
    refine r_fld (e412 _ _ hself) (c_Span S) (a_Span_field_of S) rfl ?_
    refine r_Mv (e412 _ _ hf3) rfl ?_
    repeat tb_rel
    refine ⟨rfl, f, q, u6, own, iv, rfl, ⟨dxf, e412 _ _ hf3, hq⟩, e12.seqT n11.sq, hown, hivr, by omega, fun u8 H13 e13 n13 => ?_⟩
    repeat tb_rel
    have e413 := e412.trans e13
    refine r_tupN (K := K) fun u9 H14 e14 n14 => ?_
    repeat tb_rel
    refine r_lstN fun F' H15 hF e15 h15 => ?_
    repeat tb_rel
    have e415 := e413.trans (e14.trans e15)
    have hFG : G3 F' = none := (e413.trans e14).free hF
    -- the fresh row
    generalize hfr : rscale q left iv = fr at n12
    have hfrR : InR q fr := by rw [← hfr]; exact inR_scale hq hinr hivr
    have hfrl : fr.length = n := by rw [← hfr, rscale_length, hlr]
    generalize hsf : rscale q own iv = sf at n13
    have hsfR : InR q sf := by rw [← hsf]; exact inR_scale hq hown hivr
    have hsfl : sf.length = ls.length + 1 := by rw [← hsf, rscale_length, hownl]
    have ok0 : LdOk K H15 q n (ls.length + 1) ⟨u9, u7, u8, p, fr, sf⟩ := ⟨e15.seqT n14.sq, ((e13.trans e14).trans e15).seqT n12.sq, (e14.trans e15).seqT n13.sq, hfrl, hfrR, hsfl, hsfR, by show p < n; omega⟩
    refine r_fld (e415 _ _ hself) (c_Span S) (a_Span_lead_rows S) rfl ?_
    repeat tb_rel
    refine ⟨_, rfl, ⟨_, .of (e415 _ _ hL3)⟩, ?_⟩
    refine for_B (walk_list (xs := refZ zs)) (fun i σ G => ∃ x9 x10 x11 x12 news, σ = [some (.ref a), some (.ref r), some (.int (p : Nat)), some (.int iv), some (.ref u6), some (.ref u9), some (.ref F'), some (.ref r'), some (.ref p'), x9, x10, x11, x12] ∧ Same G3 G ∧ G F' = some (.lst (refZ news)) ∧
        LdOk K G q n (ls.length + 1) ⟨u9, u7, u8, p, fr, sf⟩ ∧ (∀ z ∈ news, LdOk K G q n (ls.length + 1) z) ∧ leadOf news = (p, fr) :: (ls.take i).map fun z => (z.1, rjoin q z.2 (rscale q fr (z.2.getD p 0)) (-1)))
      ⟨_, _, _, _, [⟨u9, u7, u8, p, fr, sf⟩], rfl, e415, h15, ok0, fun z hz => by rw [List.mem_singleton.1 hz]; exact ok0, rfl⟩ (fun i σ G _ ⟨_, _, _, _, _, _, e, _⟩ => .of (e _ _ hL3)) ?_ ?_
    · rintro i v σ G G' hi ⟨x9, x10, x11, x12, news, rfl, e, hGF, u9ok, hnews, hlead⟩ ⟨rfl, hv⟩
      obtain ⟨z, hz, rfl⟩ := map_get hv
      have zo := (hz3 z (List.mem_of_getElem? hz)).same e
      have hls2 : ls[i]? = some (z.pl, z.row) := by rw [hleq]; unfold leadOf; rw [List.getElem?_map, hz]; rfl
      refine r_g3 zo.tup ?_
      repeat tb_rel
      have hzp : p < z.row.length := by rw [zo.len]; omega
      have hpr := zo.inr _ (List.mem_of_getElem? (getD_some hzp))
      refine r_ixT zo.kp (j := p) rfl (by rw [List.getElem?_map, getD_some hzp]; rfl) ?_
      repeat tb_rel
      generalize hpt : z.row.getD p 0 = pt at hpr
      refine r_ty hGF ?_
      repeat tb_rel
      refine r_fld (e _ _ hself) (c_Span S) (a_Span_field_of S) rfl ?_
      refine r_Mv (e _ _ hf3) rfl ?_
      repeat tb_rel
      refine r_fld (e _ _ hself) (c_Span S) (a_Span_field_of S) rfl ?_
      refine r_Mv (e _ _ hf3) rfl ?_
      repeat tb_rel
      refine r_ixT u9ok.tup (j := 1) rfl rfl ?_
      repeat tb_rel
      refine ⟨rfl, f, q, u7, fr, pt, rfl, ⟨dxf, e _ _ hf3, hq⟩, u9ok.kp, hfrR, hpr, by omega, fun v1 J1 c1 m1 => ?_⟩
      repeat tb_rel
      refine ⟨rfl, f, q, z.kp, v1, z.row, _, -1, rfl, ⟨dxf, c1 _ _ (e _ _ hf3), hq⟩, c1.seqT zo.kp, m1.sq, by rw [rscale_length, zo.len, hfrl], by omega, by rw [zo.len]; exact hn, fun v2 J2 c2 m2 => ?_⟩
      repeat tb_rel
      have c12 := e.trans (c1.trans c2)
      refine r_fld (c12 _ _ hself) (c_Span S) (a_Span_field_of S) rfl ?_
      refine r_Mv (c12 _ _ hf3) rfl ?_
      repeat tb_rel
      refine r_tupN (K := K) fun v3 J3 c3 m3 => ?_
      repeat tb_rel
      refine r_catS ((c1.trans (c2.trans c3)).seqT zo.sh) m3.sq (by simp [zo.lenS]; omega) fun v4 J4 c4 m4 => ?_
      repeat tb_rel
      have c14 := c12.trans (c3.trans c4)
      have ex3 : z.shs.map V.int ++ [V.int 0] = (z.shs ++ [0]).map V.int := by simp
      rw [ex3] at m4
      refine r_fld (c14 _ _ hself) (c_Span S) (a_Span_field_of S) rfl ?_
      refine r_Mv (c14 _ _ hf3) rfl ?_
      repeat tb_rel
      refine r_ixT ((c1.trans (c2.trans (c3.trans c4))).seqT u9ok.tup) (j := 2) rfl rfl ?_
      repeat tb_rel
      refine ⟨rfl, f, q, u8, sf, pt, rfl, ⟨dxf, c14 _ _ hf3, hq⟩, (c1.trans (c2.trans (c3.trans c4))).seqT u9ok.sh, hsfR, hpr, by omega, fun v5 J5 c5 m5 => ?_⟩
      repeat tb_rel
      refine ⟨rfl, f, q, v4, v5, _, _, -1, rfl, ⟨dxf, c5 _ _ (c14 _ _ hf3), hq⟩, c5.seqT m4, m5.sq, by rw [rscale_length]; simp [zo.lenS, hsfl], by omega, by simp [zo.lenS]; omega, fun v6 J6 c6 m6 => ?_⟩
      repeat tb_rel
      refine r_tupN (K := K) fun v7 J7 c7 m7 => ?_
      repeat tb_rel
      have cG : Same G' J7 := c1.trans (c2.trans (c3.trans (c4.trans (c5.trans (c6.trans c7)))))
      have hz7 := cG _ _ hGF
      have hnl : (refZ news).length ≤ 50 := by
        have : (leadOf news).length = (refZ news).length := by simp [leadOf, refZ]
        rw [← this, hlead]
        simp
        omega
      refine r_app hz7 (by omega) ?_
      refine ⟨_, _, _, _, news ++ [⟨v7, v2, v6, z.pl, rjoin q z.row (rscale q fr pt) (-1), rjoin q (z.shs ++ [0]) (rscale q sf pt) (-1)⟩], rfl, (e.trans cG).put hFG, ?_, ?_, ?_, ?_⟩
      · rw [upd_same]
        simp [refZ]
      · exact ⟨seqT_putL (cG.seqT u9ok.tup) hz7, seqT_putL (cG.seqT u9ok.kp) hz7, seqT_putL (cG.seqT u9ok.sh) hz7, u9ok.len, u9ok.inr, u9ok.lenS, u9ok.inrS, u9ok.pl⟩
      · intro y hy
        rcases List.mem_append.1 hy with hy | hy
        · have l := (hnews y hy).same cG
          exact ⟨seqT_putL l.tup hz7, seqT_putL l.kp hz7, seqT_putL l.sh hz7, l.len, l.inr, l.lenS, l.inrS, l.pl⟩
        · rw [List.mem_singleton.1 hy]
          exact ⟨seqT_putL m7.sq hz7, seqT_putL (((c3.trans c4).trans (c5.trans (c6.trans c7))).seqT m2.sq) hz7, seqT_putL (c7.seqT m6.sq) hz7, by show (rjoin q z.row (rscale q fr pt) (-1)).length = n; rw [rjoin_length _ _ _ _ (by rw [rscale_length, zo.len, hfrl]), zo.len],
            inR_join hq zo.inr (inR_scale hq hfrR hpr) (.inr rfl), by show (rjoin q (z.shs ++ [0]) (rscale q sf pt) (-1)).length = ls.length + 1; rw [rjoin_length _ _ _ _ (by rw [rscale_length]; simp [zo.lenS, hsfl])]; simp [zo.lenS], inR_join hq (inr0 zo.inrS) (inR_scale hq hsfR hpr) (.inr rfl), zo.pl⟩
      · rw [take_snoc hls2, List.map_append, ← List.cons_append, ← hlead]
        unfold leadOf
        rw [List.map_append, ← hpt]
        rfl
    · rintro σ G ⟨x9, x10, x11, x12, news, rfl, e, hGF, u9ok, hnews, hlead⟩
      repeat tb_rel
      rw [show (refZ zs).length = ls.length by simp [refZ, hzl], List.take_length] at hlead
      have hnl : news.length = ls.length + 1 := by
        have : (leadOf news).length = news.length := by simp [leadOf]
        rw [← this, hlead]
        simp
      refine ⟨F', _, news.map fun z => ((z.pl : Nat) : Int), rfl, .of hGF, by simp [refZ], by simp [refZ]; omega, ?_, t3.ext e, fun G2 ge gt ys F2 hsort hF2 => ?_⟩
      · intro i x hx
        obtain ⟨z, hz, rfl⟩ := map_get hx
        exact ⟨z.T, _, _, by rw [List.getElem?_map, hz]; rfl, rfl, (hnews z (List.mem_of_getElem? hz)).tup⟩
      obtain ⟨pz, hperm, rfl, hpw⟩ := hsort
      obtain ⟨zs', hpm, rfl⟩ := zip_leads hperm
      repeat tb_rel
      have hself2 : upd G2 F2 (.lst ((zs'.map fun z => (((z.pl : Nat) : Int), V.ref z.T)).map (·.2))) a = some (.ins (kS K) dx (fS f n L (ls.length + 1))) := Same.new hF2 _ _ (ge _ _ (e _ _ hself) (by intro ps z; cases z))
      refine r_fldP hself2 (c_Span S) (a_Span_lead_rows S) (Nat.le_of_ble_eq_true rfl) ?_
      repeat tb_rel
      have hll : (leadOf zs').length = ls.length + 1 := by
        simp only [leadOf, List.length_map]
        rw [hpm.length_eq, hnl]
      refine k true (leadOf zs') _ ?_ ((b3.trans ((ExtB.of e).trans ((ExtB.ofN ge).trans (ExtB.of (Same.new hF2))))).put) (tabS_put (gt.ext (Same.new hF2)) hself2 nt_ins) ?_
      · unfold PutR
        rw [hleft, hfp]
        refine ⟨rfl, ?_, ?_⟩
        · have hpl3 : (leadOf zs').Perm (leadOf news) := hpm.map _
          rw [hlead] at hpl3
          unfold putL
          rw [hinv, hfr]
          exact hpl3
        · have := List.pairwise_map.1 hpw
          refine List.pairwise_map.2 (this.imp fun {x y} h => ?_)
          have h : ((x.pl : Nat) : Int) ≤ ((y.pl : Nat) : Int) := h
          show x.pl ≤ y.pl
          omega
      · refine ⟨dx, f, F2, zs', ?_, ?_, ?_, ?_, rfl⟩
        · rw [upd_same, hll]
          rfl
        · refine ⟨dxf, ?_, hq⟩
          rw [upd_ne (ins_ne (Same.new hF2 _ _ (ge _ _ (e _ _ hf3) (by intro ps z; cases z))) hself2 fun z => by
            have := congrArg List.length z
            simp [fF, fS] at this)]
          exact Same.new hF2 _ _ (ge _ _ (e _ _ hf3) (by intro ps z; cases z))
        · rw [upd_ne (ne_of upd_same hself2 (by intro z; cases z)), upd_same]
          simp [refZ]
        · intro z hz
          have l := (hnews z (hpm.mem_iff.1 hz)).ext ge |>.same (Same.new hF2 (o := .lst ((zs'.map fun z => (((z.pl : Nat) : Int), V.ref z.T)).map (·.2))))
          rw [hll]
          exact ⟨seqT_putI l.tup hself2, seqT_putI l.kp hself2, seqT_putI l.sh hself2, l.len, l.inr, l.lenS, l.inrS, l.pl⟩
end
end Mg
/-! S3 -/
namespace Mg
open PySem PySem.Spec PyProof.Rows L2 LamX
inductive SpanRun (q : Int) : List (List Int) → Lead → Prop where
  | nil : SpanRun q [] []
  | snoc {rows : List (List Int)} {ls ls' : Lead} {r : List Int} {b : Bool} : SpanRun q rows ls → PutR q ls r b ls' → SpanRun q (rows ++ [r]) ls'
theorem PutR.len {q : Int} {ls ls' : Lead} {r : List Int} {b : Bool} (h : PutR q ls r b ls') : ls'.length ≤ ls.length + 1 := by
  unfold PutR at h
  cases e : firstP (lowerF q ls r) with
  | none =>
    rw [e] at h
    rw [h.2]
    omega
  | some p =>
    rw [e] at h
    rw [h.2.1.length_eq]
    simp [putL]
theorem SpanRun.len {q : Int} {rows : List (List Int)} {ls : Lead} (h : SpanRun q rows ls) : ls.length ≤ rows.length := by
  induction h with
  | nil => exact Nat.le_refl _
  | snoc h p ih =>
    have := p.len
    rw [List.length_append]
    show _ ≤ _ + 1
    omega
section
variable {P : Program} {w : World} {K : PySem.W.Frag} {mg : Str → Option Value} {base : Heap}
theorem seqL_ext {a : Addr} {H H' : Hp} {l : Addr} {xs : List V} {C dx : Addr} {fs : List (Str × V)} (e : ExtB a H H') (ha : H a = some (.ins C dx fs)) (h : H l = some (.lst xs)) : H' l = some (.lst xs) :=
  e l _ (ne_of h ha (by intro z; cases z)) h nt_lst
theorem seqT_ext {a : Addr} {H H' : Hp} {l : Addr} {xs : List V} {C dx : Addr} {fs : List (Str × V)} (e : ExtB a H H') (ha : H a = some (.ins C dx fs)) (h : SqT K H l xs) (hz : ∀ o, H l = some (.frz o (.tup xs)) → False) : SqT K H' l xs := by
  rcases h with (h | ⟨o, h⟩) | h
  · exact .inl (.inl (e l _ (ne_of h ha (by intro z; cases z)) h nt_tup))
  · exact (hz o h).elim
  · exact .inr h
theorem nt_frz {o : Obj} {u : HO} : NT (.frz o u) := ⟨fun ps z => (by cases z), fun ps z => (by cases z)⟩
theorem seqT_extB {a : Addr} {H H' : Hp} {l : Addr} {xs : List V} {C dx : Addr} {fs : List (Str × V)} (e : ExtB a H H') (ha : H a = some (.ins C dx fs)) (h : SqT K H l xs) : SqT K H' l xs := by
  rcases h with (h | ⟨o, h⟩) | h
  · exact .inl (.inl (e l _ (ne_of h ha (by intro z; cases z)) h nt_tup))
  · exact .inl (.inr ⟨o, e l _ (ne_of h ha (by intro z; cases z)) h nt_frz⟩)
  · exact .inr h
theorem sc_Span_init : FnScope ["self", "field", "width", "rows", "row"] ["self", "field", "width", "rows"] d_Span_init.scope := ⟨rfl, rfl, rfl, by decide +kernel, rfl, by decide +kernel, by decide +kernel⟩
def sp_Span_init (K : PySem.W.Frag) : Sp := SpN 4 fun vs H Q => ∃ a dx f q n l rs, vs = [.ref a, .ref f, .int (n : Nat), .ref l] ∧ H a = some (.ins (kS K) dx []) ∧ FieldAt K H f q ∧ H l = some (.lst (refs rs)) ∧ RowsAt K H rs ∧ (∀ z ∈ rs, InR q z.2 ∧ z.2.length = n) ∧ rs.length ≤ 40 ∧ n ≤ 1000 ∧ TabS H (pTab K) qPut ∧
  ∀ ls H', SpanRun q (rs.map (·.2)) ls → ExtB a H H' → TabS H' (pTab K) qPut → SpanAt K H' a q n ls → Q .non H'
theorem raw_Span_init (S : Says K mg) (TB : TabB base mg (cPut K) (pTab K)) {fd : FuncData} (F : FunD K d_Span_init.name d_Span_init.qual d_Span_init.params d_Span_init.body d_Span_init.scope (d_Span_init.dvs K) (d_Span_init.kws K) (He.fAd K d_Span_init.at_) fd) :
    FnOk P w K mg base CX0 6 (He.fAd K d_Span_init.at_) fd ["self", "field", "width", "rows"] (sp_Span_init K) := by
  refine fn_ok F sc_Span_init rfl fun cdv A outer s H vs Q E hr h => ?_
  obtain ⟨a, dx, f, q, n, l, rs, rfl, ha, hf, hl, hrs, hin, hz, hn, htab, k⟩ := h
  refine ⟨_, (pss_cons (ps_fldK K (pv 0) (pv 1) rfl) (pss_cons (ps_fldK K (pv 0) (pv 2) rfl) (pss_cons (ps_fldK K (pv 0) (pe_lst pa_nil) rfl) (pss_cons (ps_fldK K (pv 0) pe_int rfl) (pss_one (ps_for PassesOwn.never rfl (pi_listK K (pv 3)) (pg_name (i := 4) sc_Span_init.nd rfl (by first | exact Or.inl rfl | exact Or.inr rfl)) (pss_one (ps_expr (pm (ok_Span_put (K := K) S TB) (hr.mono (by decide)) (c_Span (K := K) S) (m_Span_put (K := K) S) (pv 0) (pa_cons (pv 4) pa_nil)))))))))), ?_⟩
  repeat tb_rel
  refine r_fldP ha (c_Span S) (a_Span_field_of S) (by decide) ?_
  repeat tb_rel
  refine r_fldP upd_same (c_Span S) (a_Span_width S) (Nat.le_of_ble_eq_true rfl) ?_
  repeat tb_rel
  refine r_lstN fun L H1 hL e1 h1 => ?_
  repeat tb_rel
  refine r_fldP (e1 _ _ upd_same) (c_Span S) (a_Span_lead_rows S) (Nat.le_of_ble_eq_true rfl) ?_
  repeat tb_rel
  refine r_fldP upd_same (c_Span S) (a_Span_many S) (Nat.le_of_ble_eq_true rfl) ?_
  repeat tb_rel
  have hH1a : H1 a = some (.ins (kS K) dx [("field_of", .ref f), ("width", .int (n : Nat))]) := e1 _ _ upd_same
  have hLa : L ≠ a := ne_of h1 hH1a (by intro z; cases z)
  have b1 : ExtB a H H1 := ExtB.trans (ExtB.put (ExtB.put (.of (Same.refl H)))) (.of e1)
  have t1 : TabS H1 (pTab K) qPut := (tabS_put (tabS_put htab ha nt_ins) upd_same nt_ins).ext e1
  have hG : ∀ o o', ExtB a H (upd (upd H1 a o) a o') := fun o o' => b1.put.put
  have hGt : TabS (upd (upd H1 a (.ins (kS K) dx (putF "lead_rows" (.ref L) [("field_of", .ref f), ("width", .int (n : Nat))]))) a (.ins (kS K) dx (fS f n L 0))) (pTab K) qPut := tabS_put (tabS_put t1 hH1a nt_ins) upd_same nt_ins
  have hGL : upd (upd H1 a (.ins (kS K) dx (putF "lead_rows" (.ref L) [("field_of", .ref f), ("width", .int (n : Nat))]))) a (.ins (kS K) dx (fS f n L 0)) L = some (.lst []) := by
    rw [upd_ne hLa, upd_ne hLa]
    exact h1
  have hGa : upd (upd H1 a (.ins (kS K) dx (putF "lead_rows" (.ref L) [("field_of", .ref f), ("width", .int (n : Nat))]))) a (.ins (kS K) dx (fS f n L 0)) a = some (.ins (kS K) dx (fS f n L 0)) := upd_same
  have hGb := hG (.ins (kS K) dx (putF "lead_rows" (.ref L) [("field_of", .ref f), ("width", .int (n : Nat))])) (.ins (kS K) dx (fS f n L 0))
  generalize hGG : upd (upd H1 a (.ins (kS K) dx (putF "lead_rows" (.ref L) [("field_of", .ref f), ("width", .int (n : Nat))]))) a (.ins (kS K) dx (fS f n L 0)) = G at hGt hGL hGa hGb
  obtain ⟨dxf, hf0, hq⟩ := hf
  have hfa : f ≠ a := ins_ne hf0 ha (by intro z; cases z)
  have hfG : G f = some (.ins (kF K) dxf (fF q)) := hGb f _ hfa hf0 nt_ins
  have sp0 : SpanAt K G a q n [] := ⟨dx, f, L, [], hGa, ⟨dxf, hfG, hq⟩, hGL, fun z hz => (by cases hz), rfl⟩
  refine ⟨_, rfl, ⟨_, .of (by first | exact seqL_ext hGb ha hl | (rw [← hGG] at hGb; exact seqL_ext hGb ha hl))⟩, ?_⟩
  refine for_B (walk_list (xs := refs rs)) (fun i σ G => ∃ x ls, σ = [some (.ref a), some (.ref f), some (.int (n : Nat)), some (.ref l), x] ∧ SpanRun q ((rs.map (·.2)).take i) ls ∧ ExtB a H G ∧ TabS G (pTab K) qPut ∧ SpanAt K G a q n ls)
    ⟨_, [], rfl, .nil, by first | exact hGb | (rw [← hGG] at hGb; exact hGb), by first | exact hGt | (rw [← hGG] at hGt; exact hGt), by first | exact sp0 | (rw [← hGG] at sp0; exact sp0)⟩ (fun i σ G _ ⟨_, _, _, _, e, _⟩ => .of (seqL_ext e ha hl)) ?_ ?_
  · rintro i v σ G1 G' hi ⟨x, ls, rfl, hrun, e, ht, hs⟩ ⟨rfl, hv⟩
    obtain ⟨z, hz2, rfl⟩ := map_get hv
    have hm := List.mem_of_getElem? hz2
    have hi2 : i < rs.length := by simpa [refs] using hi
    obtain ⟨dx2, f2, L2, zs2, so⟩ := hs
    have so' := so
    repeat tb_rel
    refine r_Mv so.self rfl ?_
    repeat tb_rel
    have hlen := hrun.len
    rw [List.length_take] at hlen
    refine ⟨rfl, a, q, n, ls, z.1, z.2, rfl, ⟨dx2, f2, L2, zs2, so'⟩, seqT_extB e ha (hrs z hm), (hin z hm).1, (hin z hm).2, hn, by omega, ht, fun b ls' H2 hput e2 t2 s2 => ?_⟩
    repeat tb_rel
    refine ⟨_, ls', rfl, ?_, e.trans e2, t2, s2⟩
    rw [take_snoc (a := z.2) (by rw [List.getElem?_map, hz2]; rfl)]
    exact .snoc hrun hput
  · rintro σ G1 ⟨x, ls, rfl, hrun, e, ht, hs⟩
    repeat tb_rel
    rw [List.take_of_length_le (by simp [refs])] at hrun
    exact k ls G1 hrun e ht hs
end
end Mg
/-! N1 -/
namespace Mg
open PySem PySem.Spec PyProof.Rows L2
/-! ### nets -/
theorem seqT_putD {K : PySem.W.Frag} {H : Hp} {F T : Addr} {xs : List V} {kvs kvs' : List (Key × V)} (h : SqT K H T xs) (hF : H F = some (.dK kvs)) : SqT K (upd H F (.dK kvs')) T xs := by
  have key : ∀ o, H T = some o → (∀ l, o ≠ .dK l) → upd H F (.dK kvs') T = some o := fun o e n => by
    rw [upd_ne (fun z => by rw [z, hF] at e; cases e; exact n kvs rfl)]
    exact e
  rcases h with (h | ⟨o, h⟩) | h
  · exact .inl (.inl (key _ h fun l z => by cases z))
  · exact .inl (.inr ⟨o, key _ h fun l z => by cases z⟩)
  · exact .inr h
structure Road where
  mark : Int
  one : Str
  other : Str
  slow : Int
abbrev kN (K : PySem.W.Frag) : Addr := He.ga K "Net"
def fN (dN dR : Addr) : List (Str × V) := [("named", .ref dN), ("roads", .ref dR)]
def namD (names : List Str) : List (Key × V) := names.map fun s => (Sum.inr s, .bl true)
def roaD (zs : List (Addr × Road)) : List (Key × V) := zs.map fun z => (Sum.inl z.2.mark, .ref z.1)
def rdV (r : Road) : List V := [.str r.one, .str r.other, .int r.slow]
def rdV4 (r : Road) : List V := [.int r.mark, .str r.one, .str r.other, .int r.slow]
structure NetOk (K : PySem.W.Frag) (H : Hp) (p : Addr) (names : List Str) (rs : List Road) (dx dN dR : Addr) (zs : List (Addr × Road)) : Prop where
  self : H p = some (.ins (kN K) dx (fN dN dR))
  nam : H dN = some (.dK (namD names))
  roa : H dR = some (.dK (roaD zs))
  tup : ∀ z ∈ zs, SqT K H z.1 (rdV z.2)
  eq : rs = (zs.map (·.2)).reverse
  asc : rs.Pairwise fun a b => a.mark < b.mark
  nd : names.Nodup
  few : names.length ≤ 20 ∧ rs.length ≤ 30
  dd : dN ≠ dR
def NetAt (K : PySem.W.Frag) (H : Hp) (p : Addr) (names : List Str) (rs : List Road) : Prop := ∃ dx dN dR zs, NetOk K H p names rs dx dN dR zs
theorem NetOk.same {K : PySem.W.Frag} {H H' : Hp} {p : Addr} {names : List Str} {rs : List Road} {dx dN dR : Addr} {zs : List (Addr × Road)} (n : NetOk K H p names rs dx dN dR zs) (e : Same H H') : NetOk K H' p names rs dx dN dR zs :=
  ⟨e _ _ n.self, e _ _ n.nam, e _ _ n.roa, fun z hz => e.seqT (n.tup z hz), n.eq, n.asc, n.nd, n.few, n.dd⟩
theorem NetAt.same {K : PySem.W.Frag} {H H' : Hp} {p : Addr} {names : List Str} {rs : List Road} (n : NetAt K H p names rs) (e : Same H H') : NetAt K H' p names rs := let ⟨dx, dN, dR, zs, h⟩ := n; ⟨dx, dN, dR, zs, h.same e⟩
/-! dicts -/
theorem valV_namD (s : Str) : ∀ names : List Str, valV (namD names) (Sum.inr s) = if s ∈ names then some (.bl true) else none
  | [] => rfl
  | x :: l => by
    show valV ((Sum.inr x, V.bl true) :: namD l) (Sum.inr s) = _
    by_cases h : x = s
    · rw [valV_pos (by rw [h]), if_pos (by rw [h]; exact List.mem_cons_self ..)]
    · rw [valV_neg (by intro z; exact h (Sum.inr.inj z)), valV_namD s l]
      by_cases h2 : s ∈ l
      · rw [if_pos h2, if_pos (List.mem_cons_of_mem _ h2)]
      · rw [if_neg h2, if_neg (by intro z; exact (List.mem_cons.1 z).elim (fun z => h z.symm) h2)]
theorem valV_roaD_none {m : Int} : ∀ {zs : List (Addr × Road)}, (∀ z ∈ zs, z.2.mark ≠ m) → valV (roaD zs) (Sum.inl m) = none
  | [], _ => rfl
  | z :: l, h => by
    show valV ((Sum.inl z.2.mark, V.ref z.1) :: roaD l) (Sum.inl m) = _
    rw [valV_neg (fun e => h z (List.mem_cons_self ..) (Sum.inl.inj e))]
    exact valV_roaD_none fun y hy => h y (List.mem_cons_of_mem _ hy)
theorem valV_roaD {z : Addr × Road} : ∀ {zs : List (Addr × Road)}, zs.Pairwise (fun a b => a.2.mark ≠ b.2.mark) → z ∈ zs → valV (roaD zs) (Sum.inl z.2.mark) = some (.ref z.1)
  | [], _, h => by cases h
  | y :: l, hp, h => by
    show valV ((Sum.inl y.2.mark, V.ref y.1) :: roaD l) (Sum.inl z.2.mark) = _
    rcases List.mem_cons.1 h with rfl | h
    · exact valV_pos rfl
    · rw [valV_neg (fun e => (List.pairwise_cons.1 hp).1 z h (Sum.inl.inj e))]
      exact valV_roaD (List.pairwise_cons.1 hp).2 h
section
variable {K : PySem.W.Frag} {H : Hp} {p : Addr} {names : List Str} {rs : List Road} {dx dN dR : Addr} {zs : List (Addr × Road)}
theorem NetOk.ne (n : NetOk K H p names rs dx dN dR zs) : zs.Pairwise fun a b => a.2.mark ≠ b.2.mark := by
  have h := n.asc
  rw [n.eq, List.pairwise_reverse] at h
  exact (List.pairwise_map.1 h).imp fun {a b} h => Int.ne_of_gt h
theorem NetOk.len (n : NetOk K H p names rs dx dN dR zs) : zs.length = rs.length := by rw [n.eq]; simp
theorem NetOk.mem (n : NetOk K H p names rs dx dN dR zs) {r : Road} (h : r ∈ rs) : ∃ t, (t, r) ∈ zs := by
  rw [n.eq, List.mem_reverse, List.mem_map] at h
  obtain ⟨⟨t, r'⟩, h1, rfl⟩ := h
  exact ⟨t, h1⟩
end
def MarkIn (m : Int) (rs : List Road) : Prop := ∃ r ∈ rs, r.mark = m
section
variable {P : Program} {w : World} {K : PySem.W.Frag} {mg : Str → Option Value} {base : Heap}
theorem sc_Net_need_house : FnScope ["self", "name"] ["self", "name"] d_Net_need_house.scope := ⟨rfl, rfl, rfl, by decide +kernel, rfl, by decide +kernel, by decide +kernel⟩
def sp_need_house (K : PySem.W.Frag) : Sp := SpN 2 fun vs H Q => ∃ p names rs s, vs = [.ref p, .str s] ∧ NetAt K H p names rs ∧ s ∈ names ∧ Q .non H
theorem ok_Net_need_house (S : Says K mg) : Fn P w K mg base 1 (He.fAd K d_Net_need_house.at_) (sp_need_house K) := by
  refine fn_body (f_Net_need_house S) sc_Net_need_house rfl (fun _ _ _ _ _ _ us hl => match us, hl with | [_, _], _ => rfl) fun cdv A outer s H vs Q E hr h => ?_
  obtain ⟨p, names, rs, z, rfl, ⟨dx, dN, dR, zs, n⟩, hm, k⟩ := h
  refine ⟨_, (pss_one (ps_if (pt_cmp (pc_dnotin (hu_of hr) (pv 1) (pe_fldK K (pv 0) rfl))) (pss_one ps_never) pss_nil)), ?_⟩
  repeat tb_rel
  refine r_fld n.self (c_Net S) (a_Net_named S) rfl ?_
  refine ⟨dN, _, rfl, DGet.k (k := Sum.inr z) n.nam, ?_⟩
  rw [valV_namD, if_pos hm]
  repeat tb_rel
  refine iteF ?_
  repeat tb_rel
  exact k
theorem sc_Net_need_line : FnScope ["self", "number"] ["self", "number"] d_Net_need_line.scope := ⟨rfl, rfl, rfl, by decide +kernel, rfl, by decide +kernel, by decide +kernel⟩
def sp_need_line (K : PySem.W.Frag) : Sp := SpN 2 fun vs H Q => ∃ p names rs m, vs = [.ref p, .int m] ∧ NetAt K H p names rs ∧ MarkIn m rs ∧ Q .non H
theorem ok_Net_need_line (S : Says K mg) : Fn P w K mg base 1 (He.fAd K d_Net_need_line.at_) (sp_need_line K) := by
  refine fn_body (f_Net_need_line S) sc_Net_need_line rfl (fun _ _ _ _ _ _ us hl => match us, hl with | [_, _], _ => rfl) fun cdv A outer s H vs Q E hr h => ?_
  obtain ⟨p, names, rs, m, rfl, ⟨dx, dN, dR, zs, n⟩, ⟨r, hr2, rfl⟩, k⟩ := h
  obtain ⟨t, ht⟩ := n.mem hr2
  refine ⟨_, (pss_one (ps_if (pt_cmp (pc_dnotin (hu_of hr) (pv 1) (pe_fldK K (pv 0) rfl))) (pss_one ps_never) pss_nil)), ?_⟩
  repeat tb_rel
  refine r_fld n.self (c_Net S) (a_Net_roads S) rfl ?_
  refine ⟨dR, _, rfl, DGet.k (k := Sum.inl r.mark) n.roa, ?_⟩
  rw [valV_roaD n.ne ht]
  repeat tb_rel
  refine iteF ?_
  repeat tb_rel
  exact k
def NameOk (s : Str) : Prop := 1 ≤ s.length ∧ s.length ≤ 6 ∧ ∀ c ∈ s.cps.toList, c ∈ ("abcdefghijklmnopqrstuvwxyz" : Str).cps.toList
theorem sc_need_name : FnScope ["name", "sign"] ["name"] d_need_name.scope := ⟨rfl, rfl, rfl, by decide +kernel, rfl, by decide +kernel, by decide +kernel⟩
def sp_need_name : Sp := SpN 1 fun vs H Q => ∃ s, vs = [.str s] ∧ NameOk s ∧ ∀ H', Same H H' → Q .non H'
theorem ok_need_name (S : Says K mg) : Fn P w K mg base 1 (He.fAd K d_need_name.at_) sp_need_name := by
  refine fn_body (f_need_name S) sc_need_name rfl (fun _ _ _ _ _ _ us hl => match us, hl with | [_], _ => rfl) fun cdv A outer s H vs Q E hr h => ?_
  obtain ⟨z, rfl, ⟨h1, h2, h3⟩, k⟩ := h
  refine ⟨_, (pss_one (ps_if (PW.pt (pw_or (pt_not (pt_chain op_le op_le pe_int (pe_callB call_len_str (by rfl) (n_len S) PySem.boot_len (pa_cons (pv 0) pa_nil)) (pe_gI (i_LONGEST S) rfl))) (pw_or1 (pt_not (pt_val (pe_callB (cr_allK K rfl) (by rfl) (n_all S) (by decide +kernel) (pa_cons (pe_lc (own := [("sign", 1)]) rfl sc_need_name.nd (pi_str (pv 0)) (blkOk_by (N := ["name", "sign"]) (sc := d_need_name.scope) (by decide +kernel)) (fun _ _ _ _ _ => (pg_name (i := 1) sc_need_name.nd rfl (by first | exact Or.inl rfl | exact Or.inr rfl))) (fun _ _ _ _ _ => pts_nil) (fun _ _ _ _ _ => (pe_cmpR op_in_sign (pv 1) (pe_gS (i_LETTERS S) rfl) rfl))) pa_nil))))))) (pss_one ps_never) pss_nil)), ?_⟩
  repeat tb_rel
  refine ⟨z, rfl, Nat.le_trans h2 (by decide), ?_⟩
  repeat tb_rel
  refine ite_d (fun _ => ?_) fun h => absurd (by omega) h
  repeat tb_rel
  refine ite_n (fun h => absurd (by omega) h) fun _ => ?_
  repeat tb_rel
  refine ⟨z, rfl, ?_⟩
  refine lc_M (walk_str (z := z)) z.cps.toList (by simp) (Nat.lt_of_le_of_lt h2 (by decide)) (fun c => .bl (decide (c ∈ ("abcdefghijklmnopqrstuvwxyz" : Str).cps.toList))) (fun _ _ => trivial) ?_ ?_
  · rintro i c G y G' R hx e ⟨rfl, c', hc', rfl⟩ hR
    have ec : c = c' := by
      rw [Array.getElem?_toList] at hx
      exact Option.some.inj (hx.symm.trans hc')
    subst ec
    repeat tb_rel
    refine ⟨rfl, ?_⟩
    repeat tb_rel
    exact ⟨_, _, rfl, rfl, hR _ (Same.refl _)⟩
  · intro D H4 hD e4 h4
    repeat tb_rel
    refine ⟨D, z.cps.toList.map fun c => decide (c ∈ ("abcdefghijklmnopqrstuvwxyz" : Str).cps.toList), rfl, .of (by rw [h4, List.map_map]; rfl), ?_⟩
    rw [show ((z.cps.toList.map fun c => decide (c ∈ ("abcdefghijklmnopqrstuvwxyz" : Str).cps.toList)).all id) = true by
      rw [List.all_eq_true]
      intro b hb
      obtain ⟨x, hx, rfl⟩ := List.mem_map.1 hb
      exact decide_eq_true (h3 x hx)]
    repeat tb_rel
    refine iteF ?_
    repeat tb_rel
    exact k H4 e4
end
end Mg
/-! N2 -/
namespace Mg
open PySem PySem.Spec PyProof.Rows L2
section
variable {P : Program} {w : World} {K : PySem.W.Frag} {mg : Str → Option Value} {base : Heap}
theorem sc_Net_init : FnScope ["self"] ["self"] d_Net_init.scope := ⟨rfl, rfl, rfl, by decide +kernel, rfl, by decide +kernel, by decide +kernel⟩
def sp_Net_init (K : PySem.W.Frag) : Sp := SpN 1 fun vs H Q => ∃ p dx, vs = [.ref p] ∧ H p = some (.ins (kN K) dx []) ∧ ∀ H' dN dR, SameBut p H H' → NetOk K H' p [] [] dx dN dR [] → H dN = none → H dR = none → Q .non H'
theorem raw_Net_init (S : Says K mg) {fd : FuncData} (F : FunD K d_Net_init.name d_Net_init.qual d_Net_init.params d_Net_init.body d_Net_init.scope [] [] (He.fAd K d_Net_init.at_) fd) :
    FnOk P w K mg base CX0 1 (He.fAd K d_Net_init.at_) fd ["self"] (sp_Net_init K) := by
  refine fn_ok F sc_Net_init rfl fun cdv A outer s H vs Q E hr h => ?_
  obtain ⟨p, dx, rfl, hp, k⟩ := h
  refine ⟨_, (pss_cons (ps_fldK K (pv 0) pe_dnewK rfl) (pss_one (ps_fldK K (pv 0) pe_dnewK rfl))), ?_⟩
  repeat tb_rel
  refine r_dnewK fun dN H1 hN e1 h1 => ?_
  repeat tb_rel
  refine r_fldP (e1 _ _ hp) (c_Net S) (a_Net_named S) (by decide) ?_
  repeat tb_rel
  refine r_dnewK fun dR H2 hR e2 h2 => ?_
  repeat tb_rel
  have hp2 := e2 _ _ (upd_same (H := H1) (a := p) (o := .ins (He.ga K "Net") dx (putF "named" (.ref dN) [])))
  refine r_fldP hp2 (c_Net S) (a_Net_roads S) (Nat.le_of_ble_eq_true rfl) ?_
  repeat tb_rel
  have hNp : dN ≠ p := ne_of h1 (e1 _ _ hp) (by intro z; cases z)
  have hRp : dR ≠ p := ne_of h2 hp2 (by intro z; cases z)
  have hHR : H dR = none := by
    cases e : H dR with
    | none => rfl
    | some o =>
      exfalso
      rw [upd_ne hRp, e1 _ _ e] at hR
      cases hR
  refine k _ dN dR (fun b o hb q => ?_) ⟨upd_same, ?_, ?_, fun z hz => (by cases hz), rfl, .nil, .nil, by decide, fun z => ?_⟩ hN hHR
  · rw [upd_ne hb]
    refine e2 _ _ ?_
    rw [upd_ne hb]
    exact e1 _ _ q
  · rw [upd_ne hNp]
    refine e2 _ _ ?_
    rw [upd_ne hNp]
    exact h1
  · rw [upd_ne hRp]
    exact h2
  · rw [← z] at hR
    rw [upd_ne hNp, h1] at hR
    cases hR
theorem sc_Net_house : FnScope ["self", "name"] ["self", "name"] d_Net_house.scope := ⟨rfl, rfl, rfl, by decide +kernel, rfl, by decide +kernel, by decide +kernel⟩
def sp_house (K : PySem.W.Frag) : Sp := SpN 2 fun vs H Q => ∃ p names rs s dx dN dR zs, vs = [.ref p, .str s] ∧ NetOk K H p names rs dx dN dR zs ∧ NameOk s ∧ ¬ s ∈ names ∧ names.length < 12 ∧
  ∀ H', SameBut dN H H' → NetOk K H' p (names ++ [s]) rs dx dN dR zs → Q .non H'
theorem ok_Net_house (S : Says K mg) : Fn P w K mg base 2 (He.fAd K d_Net_house.at_) (sp_house K) := by
  refine fn_body (f_Net_house S) sc_Net_house rfl (fun _ _ _ _ _ _ us hl => match us, hl with | [_, _], _ => rfl) fun cdv A outer s H vs Q E hr h => ?_
  obtain ⟨p, names, rs, z, dx, dN, dR, zs, rfl, n, hok, hnot, hfew, k⟩ := h
  refine ⟨_, (pss_cons (ps_expr (pc (ok_need_name (K := K) S) (hr.mono (by decide)) (g_need_name S) (f_need_name S).choose_spec.kp rfl (pa_cons (pv 1) pa_nil))) (pss_cons (ps_if (pt_cmp (pc_din (hu_of hr) (pv 1) (pe_fldK K (pv 0) rfl))) (pss_one ps_never) pss_nil) (pss_cons (ps_if (pt_cmpR op_ge (pe_callB call_lenD (by rfl) (n_len S) PySem.boot_len (pa_cons (pe_fldK K (pv 0) rfl) pa_nil)) (pe_gI (i_MOST_HOUSES S) rfl) (nomark _)) (pss_one ps_never) pss_nil) (pss_one (ps_dput (hu_of hr) (pe_fldK K (pv 0) rfl) (pv 1) pe_bl rfl))))), ?_⟩
  repeat tb_rel
  refine ⟨rfl, z, rfl, hok, fun H1 e1 => ?_⟩
  have n1 := n.same e1
  repeat tb_rel
  refine r_fld n1.self (c_Net S) (a_Net_named S) rfl ?_
  refine ⟨dN, _, rfl, DGet.k (k := Sum.inr z) n1.nam, ?_⟩
  rw [valV_namD, if_neg hnot]
  repeat tb_rel
  refine iteF ?_
  repeat tb_rel
  refine r_fld n1.self (c_Net S) (a_Net_named S) rfl ?_
  repeat tb_rel
  refine ⟨dN, _, rfl, n1.nam, ?_⟩
  repeat tb_rel
  refine ite_d (fun h => absurd h (by simp [namD]; omega)) fun _ => ?_
  repeat tb_rel
  refine r_fld n1.self (c_Net S) (a_Net_named S) rfl ?_
  repeat tb_rel
  refine ⟨dN, _, rfl, DPut.k (k := Sum.inr z) n1.nam (by simp [namD]; exact Nat.lt_trans hfew (by decide)), ?_⟩
  have hv : valV (namD names) (Sum.inr z) = none := by rw [valV_namD, if_neg hnot]
  have hput : putK (namD names) (Sum.inr z) (V.bl true) = namD (names ++ [z]) := by
    rw [putK_new _ hv]
    simp [namD]
  rw [hput]
  have hself : upd H1 dN (.dK (namD (names ++ [z]))) p = some (.ins (kN K) dx (fN dN dR)) := by
    rw [upd_ne (ne_of n1.self n1.nam (by intro z; cases z))]
    exact n1.self
  refine k _ (SameBut.put (SameBut.of e1)) ⟨hself, upd_same, ?_, fun y hy => ?_, n.eq, n.asc, ?_, ⟨?_, n.few.2⟩, n.dd⟩
  · rw [upd_ne n1.dd.symm]
    exact n1.roa
  · exact seqT_putD (n1.tup y hy) n1.nam
  · refine List.nodup_append.2 ⟨n.nd, by simp, fun a ha b hb e => ?_⟩
    rw [List.mem_singleton.1 hb] at e
    exact hnot (e ▸ ha)
  · rw [List.length_append]
    show _ + 1 ≤ 20
    omega
theorem sc_Net_line : FnScope ["self", "one", "other", "slow", "number", "own"] ["self", "one", "other", "slow", "number"] d_Net_line.scope := ⟨rfl, rfl, rfl, by decide +kernel, rfl, by decide +kernel, by decide +kernel⟩
def roadOk (names : List Str) (r : Road) : Prop := r.one ∈ names ∧ r.other ∈ names ∧ r.one ≠ r.other ∧ (1 ≤ r.slow ∧ r.slow ≤ 4) ∧ 1 ≤ r.mark ∧ r.mark ≤ 99
def sp_line (K : PySem.W.Frag) : Sp := SpN 5 fun vs H Q => ∃ p names rs r dx dN dR zs, vs = [.ref p, .str r.one, .str r.other, .int r.slow, .int r.mark] ∧ NetOk K H p names rs dx dN dR zs ∧ roadOk names r ∧ (∀ y ∈ rs, r.mark < y.mark) ∧ rs.length < 30 ∧
  ∀ H' t, SameBut dR H H' → NetOk K H' p names (r :: rs) dx dN dR (zs ++ [(t, r)]) → Q (.int r.mark) H'
theorem raw_Net_line (S : Says K mg) {fd : FuncData} (F : FunD K d_Net_line.name d_Net_line.qual d_Net_line.params d_Net_line.body d_Net_line.scope (d_Net_line.dvs K) (d_Net_line.kws K) (He.fAd K d_Net_line.at_) fd) :
    FnOk P w K mg base CX0 2 (He.fAd K d_Net_line.at_) fd ["self", "one", "other", "slow", "number"] (sp_line K) := by
  refine fn_ok F sc_Net_line rfl fun cdv A outer s H vs Q E hr h => ?_
  obtain ⟨p, names, rs, r, dx, dN, dR, zs, rfl, n, ⟨h1, h2, h3, h4, h5, h6⟩, hlt, hfew, k⟩ := h
  refine ⟨_, (pss_cons (ps_expr (pm (ok_Net_need_house (K := K) S) (hr.mono (by decide)) (c_Net (K := K) S) (m_Net_need_house (K := K) S) (pv 0) (pa_cons (pv 1) pa_nil))) (pss_cons (ps_expr (pm (ok_Net_need_house (K := K) S) (hr.mono (by decide)) (c_Net (K := K) S) (m_Net_need_house (K := K) S) (pv 0) (pa_cons (pv 2) pa_nil))) (pss_cons (ps_if (pt_cmpR op_eq (pv 1) (pv 2) (nomark _)) (pss_one ps_never) pss_nil) (pss_cons (ps_if (pt_not (pt_chain op_le op_le pe_int (pv 3) (pe_gI (i_MOST_SLOW S) rfl))) (pss_one ps_never) pss_nil) (pss_cons (ps_set (i := 5) sc_Net_line.nd rfl (by first | exact Or.inl rfl | exact Or.inr rfl) (pe_ifExp (pt_cmpR op_isN (pv 4) pe_non (nomark _)) (pe_never) (pv 4))) (pss_cons (ps_if (pt_not (pt_chain op_le op_le pe_int (pv 5) (pe_gI (i_MOST_NUMBER S) rfl))) (pss_one ps_never) pss_nil) (pss_cons (ps_if (pt_cmp (pc_din (hu_of hr) (pv 5) (pe_fldK K (pv 0) rfl))) (pss_one ps_never) pss_nil) (pss_cons (ps_if (pt_cmpR op_ge (pe_callB call_lenD (by rfl) (n_len S) PySem.boot_len (pa_cons (pe_fldK K (pv 0) rfl) pa_nil)) (pe_gI (i_MOST_LINES S) rfl) (nomark _)) (pss_one ps_never) pss_nil) (pss_cons (ps_dput (hu_of hr) (pe_fldK K (pv 0) rfl) (pv 5) (pe_tup (pa_cons (pv 1) (pa_cons (pv 2) (pa_cons (pv 3) pa_nil)))) rfl) (pss_one (ps_ret (pv 5)))))))))))), ?_⟩
  repeat tb_rel
  refine r_Mv n.self rfl ?_
  repeat tb_rel
  refine ⟨rfl, p, names, rs, _, rfl, ⟨dx, dN, dR, zs, n⟩, h1, ?_⟩
  repeat tb_rel
  refine r_Mv n.self rfl ?_
  repeat tb_rel
  refine ⟨rfl, p, names, rs, _, rfl, ⟨dx, dN, dR, zs, n⟩, h2, ?_⟩
  repeat tb_rel
  refine ite_d (fun h => absurd h h3) fun _ => ?_
  repeat tb_rel
  refine ite_d (fun _ => ?_) fun h => absurd h4.1 h
  repeat tb_rel
  refine ite_n (fun h => absurd h4.2 h) fun _ => ?_
  repeat tb_rel
  refine ⟨rfl, ?_⟩
  repeat tb_rel
  refine iteF ?_
  repeat tb_rel
  refine ite_d (fun _ => ?_) fun h => absurd h5 h
  repeat tb_rel
  refine ite_n (fun h => absurd h6 h) fun _ => ?_
  repeat tb_rel
  refine r_fld n.self (c_Net S) (a_Net_roads S) rfl ?_
  have hv : valV (roaD zs) (Sum.inl r.mark) = none := valV_roaD_none fun z hz e => by
    have hm : z.2 ∈ rs := by
      rw [n.eq, List.mem_reverse]
      exact List.mem_map.2 ⟨z, hz, rfl⟩
    have := hlt _ hm
    omega
  refine ⟨dR, _, rfl, DGet.k (k := Sum.inl r.mark) n.roa, ?_⟩
  rw [hv]
  repeat tb_rel
  refine iteF ?_
  repeat tb_rel
  refine r_fld n.self (c_Net S) (a_Net_roads S) rfl ?_
  repeat tb_rel
  refine ⟨dR, _, rfl, n.roa, ?_⟩
  repeat tb_rel
  have hzl : (roaD zs).length < 30 := by
    unfold roaD
    rw [List.length_map, n.len]
    exact hfew
  refine ite_d (fun h => absurd h (by omega)) fun _ => ?_
  repeat tb_rel
  refine r_tupN (K := K) fun t H1 e1 nt => ?_
  have n1 := n.same e1
  repeat tb_rel
  refine r_fld n1.self (c_Net S) (a_Net_roads S) rfl ?_
  repeat tb_rel
  refine ⟨dR, _, rfl, DPut.k (k := Sum.inl r.mark) n1.roa (Nat.lt_trans hzl (by decide)), ?_⟩
  have hput : putK (roaD zs) (Sum.inl r.mark) (V.ref t) = roaD (zs ++ [(t, r)]) := by
    rw [putK_new _ hv]
    simp [roaD]
  rw [hput]
  repeat tb_rel
  refine k _ t (SameBut.put (SameBut.of e1)) ⟨?_, ?_, upd_same, fun y hy => ?_, ?_, ?_, n.nd, ⟨n.few.1, ?_⟩, n.dd⟩
  · rw [upd_ne (ne_of n1.self n1.roa (by intro z; cases z))]
    exact n1.self
  · rw [upd_ne n1.dd]
    exact n1.nam
  · rcases List.mem_append.1 hy with hy | hy
    · exact seqT_putD (n1.tup y hy) n1.roa
    · rw [List.mem_singleton.1 hy]
      exact seqT_putD nt.sq n1.roa
  · rw [n.eq]
    simp
  · exact List.pairwise_cons.2 ⟨hlt, n.asc⟩
  · rw [List.length_cons]
    omega
theorem sc_Net_houses : FnScope ["self"] ["self"] d_Net_houses.scope := ⟨rfl, rfl, rfl, by decide +kernel, rfl, by decide +kernel, by decide +kernel⟩
def sp_houses (K : PySem.W.Frag) : Sp := SpN 1 fun vs H Q => ∃ p names rs, vs = [.ref p] ∧ NetAt K H p names rs ∧ ∀ (D : Addr) (H' : Hp) (ys : List Str), H D = none → Same H H' → H' D = some (.lst (ys.map V.str)) → ys.Perm names → Q (.ref D) H'
theorem ok_Net_houses (S : Says K mg) : Fn P w K mg base 1 (He.fAd K d_Net_houses.at_) (sp_houses K) := by
  refine fn_body (f_Net_houses S) sc_Net_houses rfl (fun _ _ _ _ _ _ us hl => match us, hl with | [_], _ => rfl) fun cdv A outer s H vs Q E hr h => ?_
  obtain ⟨p, names, rs, rfl, ⟨dx, dN, dR, zs, n⟩, k⟩ := h
  refine ⟨_, (pss_one (ps_ret (pe_callB (cr_sortedSK K) (by rfl) (n_sorted S) (by decide +kernel) (pa_cons (pe_callTy (call_list_dK rfl) (by rfl) (n_list S) (by decide +kernel) (pa_cons (pe_fldK K (pv 0) rfl) pa_nil)) pa_nil)))), ?_⟩
  repeat tb_rel
  refine r_fld n.self (c_Net S) (a_Net_named S) rfl ?_
  repeat tb_rel
  refine ⟨dN, _, rfl, n.nam, fun E1 hE => ?_⟩
  repeat tb_rel
  have e : (namD names).map (fun kv => kV kv.1) = names.map V.str := by
    unfold namD
    rw [List.map_map]
    rfl
  rw [e]
  have hf := n.few
  refine ⟨E1, names, rfl, .of upd_same, by omega, fun ys D hp hs hD => ?_⟩
  exact k D _ ys ((Same.new hE).free hD) ((Same.new hE).trans (Same.new hD)) upd_same hp
theorem sc_Net_numbers : FnScope ["self"] ["self"] d_Net_numbers.scope := ⟨rfl, rfl, rfl, by decide +kernel, rfl, by decide +kernel, by decide +kernel⟩
def marks (rs : List Road) : List Int := rs.map (·.mark)
def sp_numbers (K : PySem.W.Frag) : Sp := SpN 1 fun vs H Q => ∃ p names rs, vs = [.ref p] ∧ NetAt K H p names rs ∧ ∀ D H', H D = none → Same H H' → H' D = some (.lst ((marks rs).map V.int)) → Q (.ref D) H'
theorem marks_sorted {rs : List Road} (h : rs.Pairwise fun a b => a.mark < b.mark) {ys : List Int} (hp : ys.Perm (marks rs.reverse)) (hs : ys.Pairwise (· ≤ ·)) : ys = marks rs := by
  have h2 : (marks rs).Pairwise (· ≤ ·) := List.pairwise_map.2 (h.imp fun h => Int.le_of_lt h)
  refine List.Perm.eq_of_pairwise (le := (· ≤ ·)) (fun a b _ _ h1 h2 => Int.le_antisymm h1 h2) hs h2 (hp.trans ?_)
  unfold marks
  exact (List.reverse_perm rs).map _
theorem ok_Net_numbers (S : Says K mg) : Fn P w K mg base 1 (He.fAd K d_Net_numbers.at_) (sp_numbers K) := by
  refine fn_body (f_Net_numbers S) sc_Net_numbers rfl (fun _ _ _ _ _ _ us hl => match us, hl with | [_], _ => rfl) fun cdv A outer s H vs Q E hr h => ?_
  obtain ⟨p, names, rs, rfl, ⟨dx, dN, dR, zs, n⟩, k⟩ := h
  refine ⟨_, (pss_one (ps_ret (pe_callB (cr_sortedK K) (by rfl) (n_sorted S) (by decide +kernel) (pa_cons (pe_callTy (call_list_dK rfl) (by rfl) (n_list S) (by decide +kernel) (pa_cons (pe_fldK K (pv 0) rfl) pa_nil)) pa_nil)))), ?_⟩
  repeat tb_rel
  refine r_fld n.self (c_Net S) (a_Net_roads S) rfl ?_
  repeat tb_rel
  refine ⟨dR, _, rfl, n.roa, fun E1 hE => ?_⟩
  repeat tb_rel
  have e : (roaD zs).map (fun kv => kV kv.1) = (marks rs.reverse).map V.int := by
    rw [n.eq, List.reverse_reverse]
    unfold roaD marks
    rw [List.map_map, List.map_map, List.map_map]
    rfl
  rw [e]
  have hf := n.few
  refine ⟨E1, marks rs.reverse, rfl, .of upd_same, by unfold marks; rw [List.length_map, List.length_reverse]; omega, fun ys D hp hs hD => ?_⟩
  rw [marks_sorted n.asc hp hs]
  exact k D _ ((Same.new hE).free hD) ((Same.new hE).trans (Same.new hD)) upd_same
theorem sc_Net_ends : FnScope ["self", "number"] ["self", "number"] d_Net_ends.scope := ⟨rfl, rfl, rfl, by decide +kernel, rfl, by decide +kernel, by decide +kernel⟩
def sp_ends (K : PySem.W.Frag) : Sp := SpN 2 fun vs H Q => ∃ p names rs r, vs = [.ref p, .int r.mark] ∧ NetAt K H p names rs ∧ r ∈ rs ∧ ∀ t, SqT K H t (rdV r) → Q (.ref t) H
theorem ok_Net_ends (S : Says K mg) : Fn P w K mg base 2 (He.fAd K d_Net_ends.at_) (sp_ends K) := by
  refine fn_body (f_Net_ends S) sc_Net_ends rfl (fun _ _ _ _ _ _ us hl => match us, hl with | [_, _], _ => rfl) fun cdv A outer s H vs Q E hr h => ?_
  obtain ⟨p, names, rs, r, rfl, n, hm, k⟩ := h
  have nn := n
  obtain ⟨dx, dN, dR, zs, n⟩ := n
  obtain ⟨t, ht⟩ := n.mem hm
  refine ⟨_, (pss_cons (ps_expr (pm (ok_Net_need_line (K := K) S) (hr.mono (by decide)) (c_Net (K := K) S) (m_Net_need_line (K := K) S) (pv 0) (pa_cons (pv 1) pa_nil))) (pss_one (ps_ret (pe_dget (hu_of hr) (pe_fldK K (pv 0) rfl) (pv 1) (fun _ _ => rfl))))), ?_⟩
  repeat tb_rel
  refine r_Mv n.self rfl ?_
  repeat tb_rel
  refine ⟨rfl, p, names, rs, _, rfl, nn, ⟨r, hm, rfl⟩, ?_⟩
  repeat tb_rel
  refine r_fld n.self (c_Net S) (a_Net_roads S) rfl ?_
  repeat tb_rel
  refine ⟨dR, _, rfl, ?_, k t (n.tup _ ht)⟩
  rw [← valV_roaD n.ne ht]
  exact DGet.k (k := Sum.inl r.mark) n.roa
end
end Mg
/-! N3 -/
namespace L2
open PySem PySem.Spec PyProof.Rows
theorem r_g4 {K : PySem.W.Frag} {H : Hp} {σ : L2.St} {i j k l : Nat} {T : Addr} {x y z u : V} {R : L2.St → Hp → Prop} (h : SqT K H T [x, y, z, u]) (q : R ((((σ.set i (some x)).set j (some y)).set k (some z)).set l (some u)) H) : gTup K 4 (gCons (gName i) (gCons (gName j) (gCons (gName k) (gCons (gName l) gNil)))) (.ref T) σ H R :=
  r_gtup h rfl (r_gcons (r_gn (r_gcons (r_gn (r_gcons (r_gn (r_gcons (r_gn (r_gnil q)))))))))
theorem eqV_str (a b : Str) : eqV (.str a) (.str b) = decide (a = b) := by
  show (a == b) = _
  by_cases h : a = b
  · subst h
    simp
  · rw [decide_eq_false h]
    exact beq_eq_false_iff_ne.2 h
theorem inV_str (s : Str) : ∀ l : List Str, inV (.str s) (l.map V.str) = decide (s ∈ l)
  | [] => rfl
  | x :: l => by
    have ih := inV_str s l
    unfold inV at ih ⊢
    rw [List.map_cons, List.any_cons, ih, eqV_str]
    by_cases h : x = s
    · subst h
      simp
    · have h2 : ¬ s = x := fun z => h z.symm
      simp [h, h2]
theorem eqV_int (a b : Int) : eqV (.int a) (.int b) = decide (a = b) := by
  show (a == b) = _
  by_cases h : a = b
  · subst h
    simp
  · rw [decide_eq_false h]
    exact beq_eq_false_iff_ne.2 h
theorem inV_int (s : Int) : ∀ l : List Int, inV (.int s) (l.map V.int) = decide (s ∈ l)
  | [] => rfl
  | x :: l => by
    have ih := inV_int s l
    unfold inV at ih ⊢
    rw [List.map_cons, List.any_cons, ih, eqV_int]
    by_cases h : x = s
    · subst h
      simp
    · have h2 : ¬ s = x := fun z => h z.symm
      simp [h, h2]
theorem flat_str (l : List Str) : (l.map V.str).all flatV = true := by
  rw [List.all_eq_true]
  intro v hv
  obtain ⟨x, _, rfl⟩ := List.mem_map.1 hv
  rfl
theorem flat_int (l : List Int) : (l.map V.int).all flatV = true := by
  rw [List.all_eq_true]
  intro v hv
  obtain ⟨x, _, rfl⟩ := List.mem_map.1 hv
  rfl
theorem r_lockE {t : TE} {σ : L2.St} {H : Hp} {Q : VK} {d : Addr} {kvs : List (Key × V)} (hd : H d = some (.dK kvs)) (h : ∀ od, t σ (upd H d (.frz od (.dK kvs))) fun v H' => H' d = some (.frz od (.dK kvs)) ∧ Q v (upd H' d (.dK kvs))) : tLockE t σ H Q := ⟨d, _, hd, trivial, h⟩
theorem r_iVals {td : TE} {σ : L2.St} {H : Hp} {R : It → Hp → Prop} (h : td σ H fun x H1 => ∃ d o kvs, x = .ref d ∧ H1 d = some (.frz o (.dK kvs)) ∧ R (Itd d o kvs) H1) : iVals td σ H R := h
theorem r_iKeys {td : TE} {σ : L2.St} {H : Hp} {R : It → Hp → Prop} (h : td σ H fun x H1 => ∃ d o, x = .ref d ∧ ((∃ kvs, H1 d = some (.frz o (.dK kvs)) ∧ R (Itk d o kvs) H1) ∨ ∃ kvs, H1 d = some (.frz o (.dT kvs)) ∧ R (Itkt d o kvs) H1)) : iKeys td σ H R := h
end L2
local macro_rules | `(tactic| tb_rel) => `(tactic| with_reducible first | refine L2.r_iVals ?_ | refine L2.r_iKeys ?_)
namespace L2
open PySem PySem.Spec PyProof.Rows
theorem seqT_lock {K : PySem.W.Frag} {H : Hp} {F T : Addr} {xs : List V} {kvs : List (Key × V)} {o : HO} (h : SqT K H T xs) (hF : H F = some (.dK kvs)) : SqT K (upd H F o) T xs := by
  have key : ∀ u, H T = some u → (∀ l, u ≠ .dK l) → upd H F o T = some u := fun u e n => by
    rw [upd_ne (fun z => by rw [z, hF] at e; cases e; exact n kvs rfl)]
    exact e
  rcases h with (h | ⟨o, h⟩) | h
  · exact .inl (.inl (key _ h fun l z => by cases z))
  · exact .inl (.inr ⟨o, key _ h fun l z => by cases z⟩)
  · exact .inr h
/-- the lock taken away -/
theorem Same.unlock {H H' : Hp} {d : Addr} {od : Obj} {kvs : List (Key × V)} (hd : H d = some (.dK kvs)) (e : Same (upd H d (.frz od (.dK kvs))) H') : Same H (upd H' d (.dK kvs)) := fun b o q => by
  by_cases z : b = d
  · rw [z, hd] at q
    rw [z, upd_same]
    exact q
  · rw [upd_ne z]
    refine e b o ?_
    rw [upd_ne z]
    exact q
end L2
namespace Mg
open PySem PySem.Spec PyProof.Rows L2
def LinesAt (K : PySem.W.Frag) (H : Hp) (vs : List V) (rs : List Road) : Prop := vs.length = rs.length ∧ ∀ (i : Nat) (r : Road) (v : V), rs[i]? = some r → vs[i]? = some v → ∃ t, v = .ref t ∧ SqT K H t (rdV4 r)
section
variable {P : Program} {w : World} {K : PySem.W.Frag} {mg : Str → Option Value} {base : Heap}
theorem sc_Net_lines : FnScope ["self", "number"] ["self"] d_Net_lines.scope := ⟨rfl, rfl, rfl, by decide +kernel, rfl, by decide +kernel, by decide +kernel⟩
def sp_lines (K : PySem.W.Frag) : Sp := SpN 1 fun vs H Q => ∃ p names rs, vs = [.ref p] ∧ NetAt K H p names rs ∧ ∀ (D : Addr) (H' : Hp) (us : List V), H D = none → Same H H' → H' D = some (.lst us) → LinesAt K H' us rs → Q (.ref D) H'
theorem ok_Net_lines (S : Says K mg) : Fn P w K mg base 2 (He.fAd K d_Net_lines.at_) (sp_lines K) := by
  refine fn_body (f_Net_lines S) sc_Net_lines rfl (fun _ _ _ _ _ _ us hl => match us, hl with | [_], _ => rfl) fun cdv A outer s H vs Q E hr h => ?_
  obtain ⟨p, names, rs, rfl, n, k⟩ := h
  have nn := n
  obtain ⟨dx, dN, dR, zs, n⟩ := n
  refine ⟨_, (pss_one (ps_ret (pe_lc (own := [("number", 1)]) rfl sc_Net_lines.nd (pi_listK K (pm0 (ok_Net_numbers (K := K) S) (hr.mono (by decide)) (c_Net (K := K) S) (m_Net_numbers (K := K) S) (pv 0))) (blkOk_by (N := ["self", "number"]) (sc := d_Net_lines.scope) (by decide +kernel)) (fun _ _ _ _ _ => (pg_name (i := 1) sc_Net_lines.nd rfl (by first | exact Or.inl rfl | exact Or.inr rfl))) (fun _ _ _ _ _ => pts_nil) (fun _ _ _ _ _ => (pe_op (op_catB K) (pe_tup (pa_cons (pv 1) pa_nil)) (pe_dget (hu_of hr) (pe_fldK K (pv 0) rfl) (pv 1) (fun _ _ => rfl))))))), ?_⟩
  repeat tb_rel
  refine r_Mv n.self rfl ?_
  repeat tb_rel
  refine ⟨rfl, p, names, rs, rfl, nn, fun D H1 hD e1 h1 => ?_⟩
  repeat tb_rel
  refine ⟨_, rfl, ⟨_, .of h1⟩, ?_⟩
  refine lc_E walk_list rs (by simp [marks]) (by have := n.few; simp [marks]; exact Nat.lt_of_le_of_lt this.2 (by decide)) (fun r S v => ∃ t, v = .ref t ∧ SqT K S t (rdV4 r)) (fun r S S' v e ⟨t, h1, h2⟩ => ⟨t, h1, e.seqT h2⟩) (fun r S v D l l' hl ⟨t, h1, h2⟩ => ⟨t, h1, seqT_putL h2 hl⟩) (fun G e => .of (e _ _ h1)) ?_ ?_
  · rintro i r G x G' R hr2 e ⟨rfl, hx⟩ hR
    have hx2 : x = .int r.mark := by
      unfold marks at hx
      rw [List.map_map, List.getElem?_map, hr2] at hx
      exact (Option.some.inj hx).symm
    subst hx2
    have n1 := (n.same e1).same e
    obtain ⟨t, ht⟩ := n.mem (List.mem_of_getElem? hr2)
    repeat tb_rel
    refine ⟨rfl, ?_⟩
    repeat tb_rel
    refine r_tupN (K := K) fun u G1 e2 n2 => ?_
    repeat tb_rel
    have n3 := n1.same e2
    refine r_fld n3.self (c_Net S) (a_Net_roads S) rfl ?_
    repeat tb_rel
    refine ⟨dR, .ref t, rfl, ?_, ?_⟩
    · rw [← valV_roaD n.ne ht]
      exact DGet.k (k := Sum.inl r.mark) n3.roa
    refine r_catS n2.sq (n3.tup _ ht) (by simp [rdV]) fun u3 G4 e4 s4 => ?_
    exact hR _ G4 (e2.trans e4) ⟨u3, rfl, s4⟩
  · intro E1 H4 us hE e4 h4 hl hE2
    exact k E1 H4 us (e1.free hE) (e1.trans e4) h4 ⟨hl, hE2⟩
theorem sc_Net_into : FnScope ["self", "name", "number", "one", "other", "slow"] ["self", "name"] d_Net_into.scope := ⟨rfl, rfl, rfl, by decide +kernel, rfl, by decide +kernel, by decide +kernel⟩
def sp_into (K : PySem.W.Frag) : Sp := SpN 2 fun vs H Q => ∃ p names rs s, vs = [.ref p, .str s] ∧ NetAt K H p names rs ∧ s ∈ names ∧ ∀ (D : Addr) (H' : Hp), H D = none → Same H H' → H' D = some (.lst ((marks (rs.filter fun r => decide (r.other = s))).map V.int)) → Q (.ref D) H'
theorem ok_Net_into (S : Says K mg) : Fn P w K mg base 3 (He.fAd K d_Net_into.at_) (sp_into K) := by
  refine fn_body (f_Net_into S) sc_Net_into rfl (fun _ _ _ _ _ _ us hl => match us, hl with | [_, _], _ => rfl) fun cdv A outer s H vs Q E hr h => ?_
  obtain ⟨p, names, rs, z, rfl, n, hm, k⟩ := h
  have nn := n
  obtain ⟨dx, dN, dR, zs, n⟩ := n
  refine ⟨_, (pss_cons (ps_expr (pm (ok_Net_need_house (K := K) S) (hr.mono (by decide)) (c_Net (K := K) S) (m_Net_need_house (K := K) S) (pv 0) (pa_cons (pv 1) pa_nil))) (pss_one (ps_ret (pe_lc (own := [("number", 2), ("one", 3), ("other", 4), ("slow", 5)]) rfl sc_Net_into.nd (pi_listK K (pm0 (ok_Net_lines (K := K) S) (hr.mono (by decide)) (c_Net (K := K) S) (m_Net_lines (K := K) S) (pv 0))) (blkOk_by (N := ["self", "name", "number", "one", "other", "slow"]) (sc := d_Net_into.scope) (by decide +kernel)) (fun _ _ _ _ _ => (pg_tupK K (n := 4) rfl (pgs_cons (pg_name (i := 2) sc_Net_into.nd rfl (by first | exact Or.inl rfl | exact Or.inr rfl)) (pgs_cons (pg_name (i := 3) sc_Net_into.nd rfl (by first | exact Or.inl rfl | exact Or.inr rfl)) (pgs_cons (pg_name (i := 4) sc_Net_into.nd rfl (by first | exact Or.inl rfl | exact Or.inr rfl)) (pgs_cons (pg_name (i := 5) sc_Net_into.nd rfl (by first | exact Or.inl rfl | exact Or.inr rfl)) pgs_nil)))))) (fun _ _ _ _ _ => (pts_one (pt_cmpR op_eq (pv 4) (pv 1) (nomark _)))) (fun _ _ _ _ _ => (pv 2)))))), ?_⟩
  repeat tb_rel
  refine r_Mv n.self rfl ?_
  repeat tb_rel
  refine ⟨rfl, p, names, rs, _, rfl, nn, hm, ?_⟩
  repeat tb_rel
  refine r_Mv n.self rfl ?_
  repeat tb_rel
  refine ⟨rfl, p, names, rs, rfl, nn, fun D H1 us hD e1 h1 hl => ?_⟩
  repeat tb_rel
  refine ⟨_, rfl, ⟨_, .of h1⟩, ?_⟩
  refine lc_L walk_list rs hl.1.symm (by rw [hl.1]; exact Nat.lt_of_le_of_lt n.few.2 (by decide)) (fun r => decide (r.other = z)) (fun r => .int r.mark) (fun G e => .of (e _ _ h1)) ?_ ?_
  · rintro i r G x G' R R' hr2 e ⟨rfl, hx⟩ hR hR'
    obtain ⟨t, rfl, ht⟩ := hl.2 i r x hr2 hx
    refine r_g4 (e.seqT ht) ?_
    refine ⟨rfl, ?_⟩
    repeat tb_rel
    refine ite_d (fun h1 => ?_) fun h1 => ?_
    · repeat tb_rel
      exact hR (decide_eq_true h1) _ (Same.refl _)
    · exact hR' (decide_eq_false h1) _ (Same.refl _)
  · intro E1 H4 hE e4 h4
    refine k E1 H4 (e1.free hE) (e1.trans e4) ?_
    rw [h4]
    unfold marks
    rw [List.map_map]
    rfl
theorem sc_Net_out_of : FnScope ["self", "name", "number", "one", "other", "slow"] ["self", "name"] d_Net_out_of.scope := ⟨rfl, rfl, rfl, by decide +kernel, rfl, by decide +kernel, by decide +kernel⟩
def sp_out_of (K : PySem.W.Frag) : Sp := SpN 2 fun vs H Q => ∃ p names rs s, vs = [.ref p, .str s] ∧ NetAt K H p names rs ∧ s ∈ names ∧ ∀ (D : Addr) (H' : Hp), H D = none → Same H H' → H' D = some (.lst ((marks (rs.filter fun r => decide (r.one = s))).map V.int)) → Q (.ref D) H'
theorem ok_Net_out_of (S : Says K mg) : Fn P w K mg base 3 (He.fAd K d_Net_out_of.at_) (sp_out_of K) := by
  refine fn_body (f_Net_out_of S) sc_Net_out_of rfl (fun _ _ _ _ _ _ us hl => match us, hl with | [_, _], _ => rfl) fun cdv A outer s H vs Q E hr h => ?_
  obtain ⟨p, names, rs, z, rfl, n, hm, k⟩ := h
  have nn := n
  obtain ⟨dx, dN, dR, zs, n⟩ := n
  refine ⟨_, (pss_cons (ps_expr (pm (ok_Net_need_house (K := K) S) (hr.mono (by decide)) (c_Net (K := K) S) (m_Net_need_house (K := K) S) (pv 0) (pa_cons (pv 1) pa_nil))) (pss_one (ps_ret (pe_lc (own := [("number", 2), ("one", 3), ("other", 4), ("slow", 5)]) rfl sc_Net_out_of.nd (pi_listK K (pm0 (ok_Net_lines (K := K) S) (hr.mono (by decide)) (c_Net (K := K) S) (m_Net_lines (K := K) S) (pv 0))) (blkOk_by (N := ["self", "name", "number", "one", "other", "slow"]) (sc := d_Net_out_of.scope) (by decide +kernel)) (fun _ _ _ _ _ => (pg_tupK K (n := 4) rfl (pgs_cons (pg_name (i := 2) sc_Net_out_of.nd rfl (by first | exact Or.inl rfl | exact Or.inr rfl)) (pgs_cons (pg_name (i := 3) sc_Net_out_of.nd rfl (by first | exact Or.inl rfl | exact Or.inr rfl)) (pgs_cons (pg_name (i := 4) sc_Net_out_of.nd rfl (by first | exact Or.inl rfl | exact Or.inr rfl)) (pgs_cons (pg_name (i := 5) sc_Net_out_of.nd rfl (by first | exact Or.inl rfl | exact Or.inr rfl)) pgs_nil)))))) (fun _ _ _ _ _ => (pts_one (pt_cmpR op_eq (pv 3) (pv 1) (nomark _)))) (fun _ _ _ _ _ => (pv 2)))))), ?_⟩
  repeat tb_rel
  refine r_Mv n.self rfl ?_
  repeat tb_rel
  refine ⟨rfl, p, names, rs, _, rfl, nn, hm, ?_⟩
  repeat tb_rel
  refine r_Mv n.self rfl ?_
  repeat tb_rel
  refine ⟨rfl, p, names, rs, rfl, nn, fun D H1 us hD e1 h1 hl => ?_⟩
  repeat tb_rel
  refine ⟨_, rfl, ⟨_, .of h1⟩, ?_⟩
  refine lc_L walk_list rs hl.1.symm (by rw [hl.1]; exact Nat.lt_of_le_of_lt n.few.2 (by decide)) (fun r => decide (r.one = z)) (fun r => .int r.mark) (fun G e => .of (e _ _ h1)) ?_ ?_
  · rintro i r G x G' R R' hr2 e ⟨rfl, hx⟩ hR hR'
    obtain ⟨t, rfl, ht⟩ := hl.2 i r x hr2 hx
    refine r_g4 (e.seqT ht) ?_
    refine ⟨rfl, ?_⟩
    repeat tb_rel
    refine ite_d (fun h1 => ?_) fun h1 => ?_
    · repeat tb_rel
      exact hR (decide_eq_true h1) _ (Same.refl _)
    · exact hR' (decide_eq_false h1) _ (Same.refl _)
  · intro E1 H4 hE e4 h4
    refine k E1 H4 (e1.free hE) (e1.trans e4) ?_
    rw [h4]
    unfold marks
    rw [List.map_map]
    rfl
theorem sc_Net_twin : FnScope ["self", "other"] ["self"] d_Net_twin.scope := ⟨rfl, rfl, rfl, by decide +kernel, rfl, by decide +kernel, by decide +kernel⟩
def sp_twin (K : PySem.W.Frag) : Sp := SpN 1 fun vs H Q => ∃ p names rs, vs = [.ref p] ∧ NetAt K H p names rs ∧ ∀ (u : Addr) (H' : Hp), Same H H' → NetAt K H' u names rs → Q (.ref u) H'
theorem ok_Net_twin (S : Says K mg) : Fn P w K mg base 3 (He.fAd K d_Net_twin.at_) (sp_twin K) := by
  refine fn_body (f_Net_twin S) sc_Net_twin rfl (fun _ _ _ _ _ _ us hl => match us, hl with | [_], _ => rfl) fun cdv A outer s H vs Q E hr h => ?_
  obtain ⟨p, names, rs, rfl, ⟨dx, dN, dR, zs, n⟩, k⟩ := h
  obtain ⟨fdN, FN⟩ := f_Net_init S
  have bN := FN.bindsN (ps := ["self"]) (fun _ _ _ _ _ _ us hl => match us, hl with | [_], _ => rfl)
  refine ⟨_, (pss_cons (ps_set (i := 1) sc_Net_twin.nd rfl (by first | exact Or.inl rfl | exact Or.inr rfl) (pe_make0 (k_Net (K := K) S) (raw_Net_init S FN) (hr.mono (by decide)) rfl (g_Net S) bN .nil pass0)) (pss_cons (ps_fldK K (pv 1) (pe_callTy call_dictD (by rfl) (n_dict S) (by decide +kernel) (pa_cons (pe_fldK K (pv 0) rfl) pa_nil)) rfl) (pss_cons (ps_fldK K (pv 1) (pe_callTy call_dictD (by rfl) (n_dict S) (by decide +kernel) (pa_cons (pe_fldK K (pv 0) rfl) pa_nil)) rfl) (pss_one (ps_ret (pv 1)))))), ?_⟩
  repeat tb_rel
  intro x dy hx hdy hne
  refine ⟨rfl, x, dy, rfl, upd_same, fun H1 d1 d2 e1 m h1 h2 => ⟨rfl, ?_⟩⟩
  repeat tb_rel
  have es : Same H H1 := SameBut.new hx hdy e1
  have n1 := n.same es
  refine r_fld n1.self (c_Net S) (a_Net_named S) rfl ?_
  repeat tb_rel
  refine ⟨dN, _, rfl, .inl n1.nam, fun d3 h3 => ?_⟩
  repeat tb_rel
  have e3 : Same H1 (upd H1 d3 (.dK (namD names))) := Same.new h3
  have m3 := m.same e3
  refine r_fldP m3.self (c_Net S) (a_Net_named S) (Nat.le_of_ble_eq_true rfl) ?_
  repeat tb_rel
  have hxs : ∀ {o : HO}, Same H (upd (upd H1 d3 (.dK (namD names))) x o) := (es.trans e3).put hx
  have n3 := n.same (hxs (o := .ins (He.ga K "Net") dy (putF "named" (.ref d3) (fN d1 d2))))
  refine r_fld n3.self (c_Net S) (a_Net_roads S) rfl ?_
  repeat tb_rel
  refine ⟨dR, _, rfl, .inl n3.roa, fun d4 h4 => ?_⟩
  repeat tb_rel
  have e4 := Same.new h4 (o := .dK (roaD zs))
  have x4 := e4 _ _ (upd_same (H := upd H1 d3 (.dK (namD names))) (a := x) (o := .ins (He.ga K "Net") dy (putF "named" (.ref d3) (fN d1 d2))))
  refine r_fldP x4 (c_Net S) (a_Net_roads S) (Nat.le_of_ble_eq_true rfl) ?_
  repeat tb_rel
  have h34 : d3 ≠ x := ne_of upd_same m3.self (by intro z; cases z)
  have h4x : d4 ≠ x := ne_of (upd_same (o := .dK (roaD zs))) x4 (by intro z; cases z)
  have d43 : d3 ≠ d4 := ne_of_none (by rw [upd_ne h34]; exact upd_same) h4
  refine k x _ ((hxs.trans e4).put hx) ⟨dy, d3, d4, zs, upd_same, ?_, ?_, fun z hz => ?_, n.eq, n.asc, n.nd, n.few, d43⟩
  · rw [upd_ne h34]
    refine e4 _ _ ?_
    rw [upd_ne h34, upd_same]
  · rw [upd_ne h4x, upd_same]
  · exact seqT_putI (e4.seqT (n3.tup z hz)) x4
end
end Mg
/-! N4 -/
namespace Mg
open PySem PySem.Spec PyProof.Rows L2
/-! ### the order that is told -/
def TopP (rs : List Road) (told : List Str) : Prop := ∀ (pre : List Str) (n : Str) (post : List Str), told = pre ++ n :: post → ∀ r ∈ rs, r.other = n → r.one ∈ pre
theorem TopP.snoc {rs : List Road} {told : List Str} {n : Str} (h : TopP rs told) (hn : ∀ r ∈ rs, r.other = n → r.one ∈ told) : TopP rs (told ++ [n]) := by
  intro pre m post e r hr hm
  rcases List.append_eq_append_iff.1 e with ⟨as, h1, h2⟩ | ⟨bs, h1, h2⟩
  · cases as with
    | nil =>
      rw [List.append_nil] at h1
      rw [List.nil_append] at h2
      cases h2
      rw [h1]
      exact hn r hr hm
    | cons a as =>
      rw [List.cons_append] at h2
      cases as <;> cases h2
  · cases bs with
    | nil =>
      rw [List.append_nil] at h1
      rw [List.nil_append] at h2
      cases h2
      rw [← h1]
      exact hn r hr hm
    | cons b bs =>
      rw [List.cons_append] at h2
      injection h2 with h3 h4
      subst h3
      exact h pre m bs h1 r hr hm
theorem nodup_len : ∀ {l names : List Str}, l.Nodup → (∀ x ∈ l, x ∈ names) → l.length ≤ names.length
  | [], _, _, _ => Nat.zero_le _
  | a :: l, names, hn, hs => by
    have h1 := List.nodup_cons.1 hn
    have ha := hs a (List.mem_cons_self ..)
    have := nodup_len (names := names.erase a) h1.2 fun x hx => (List.mem_erase_of_ne (fun z => h1.1 (by rw [← z]; exact hx))).2 (hs x (List.mem_cons_of_mem _ hx))
    rw [List.length_erase_of_mem ha] at this
    have hp := List.length_pos_of_mem ha
    rw [List.length_cons]
    omega
def Done (names : List Str) (rs : List Road) (told : List Str) : Prop := ∀ n ∈ names, ¬ n ∈ told → ∃ r ∈ rs, r.other = n ∧ ¬ r.one ∈ told
structure Told (names : List Str) (rs : List Road) (told : List Str) : Prop where
  top : TopP rs told
  nd : told.Nodup
  sub : ∀ x ∈ told, x ∈ names
theorem told_nil (names : List Str) (rs : List Road) : Told names rs [] := ⟨fun pre n post e => (by cases pre <;> cases e), .nil, fun x h => (by cases h)⟩
section
variable {P : Program} {w : World} {K : PySem.W.Frag} {mg : Str → Option Value} {base : Heap}
theorem sc_Net_told_order : FnScope ["self", "told", "going", "name", "one", "other", "slow"] ["self"] d_Net_told_order.scope := ⟨rfl, rfl, rfl, by decide +kernel, rfl, by decide +kernel, by decide +kernel⟩
def sp_told (K : PySem.W.Frag) : Sp := SpN 1 fun vs H Q => ∃ p names rs, vs = [.ref p] ∧ NetAt K H p names rs ∧ ∀ (D : Addr) (H' : Hp) (told : List Str), H D = none → Same H H' → H' D = some (.lst (told.map V.str)) → Told names rs told → Done names rs told → Q (.ref D) H'
theorem ok_Net_told_order (S : Says K mg) : Fn P w K mg base 2 (He.fAd K d_Net_told_order.at_) (sp_told K) := by
  refine fn_body (f_Net_told_order S) sc_Net_told_order rfl (fun _ _ _ _ _ _ us hl => match us, hl with | [_], _ => rfl) fun cdv A outer s H vs Q E hr h => ?_
  obtain ⟨p, names, rs, rfl, n, k⟩ := h
  have nn := n
  obtain ⟨dx, dN, dR, zs, n⟩ := n
  refine ⟨_, (pss_cons (ps_set (i := 1) sc_Net_told_order.nd rfl (by first | exact Or.inl rfl | exact Or.inr rfl) (pe_lst pa_nil)) (pss_cons (ps_set (i := 2) sc_Net_told_order.nd rfl (by first | exact Or.inl rfl | exact Or.inr rfl) pe_bl) (pss_cons (ps_while PassesOwn.never (pt_val (pv 2)) (pss_cons (ps_set (i := 2) sc_Net_told_order.nd rfl (by first | exact Or.inl rfl | exact Or.inr rfl) pe_bl) (pss_one (ps_for PassesOwn.never rfl (pi_listK K (pm0 (ok_Net_houses (K := K) S) (hr.mono (by decide)) (c_Net (K := K) S) (m_Net_houses (K := K) S) (pv 0))) (pg_name (i := 3) sc_Net_told_order.nd rfl (by first | exact Or.inl rfl | exact Or.inr rfl)) (pss_one (ps_if (PW.pt (pw_and (pt_cmpR (op_notIn_seqK K) (pv 3) (pv 1) rfl) (pw_and1 (pt_val (pe_callB (cr_allK K rfl) (by rfl) (n_all S) (by decide +kernel) (pa_cons (pe_lock (pe_lc (own := [("one", 4), ("other", 5), ("slow", 6)]) rfl sc_Net_told_order.nd (pi_values (pe_fldK K (pv 0) rfl)) (blkOk_by (N := ["self", "told", "going", "name", "one", "other", "slow"]) (sc := d_Net_told_order.scope) (by decide +kernel)) (fun _ _ _ _ _ => (pg_tupK K (n := 3) rfl (pgs_cons (pg_name (i := 4) sc_Net_told_order.nd rfl (by first | exact Or.inl rfl | exact Or.inr rfl)) (pgs_cons (pg_name (i := 5) sc_Net_told_order.nd rfl (by first | exact Or.inl rfl | exact Or.inr rfl)) (pgs_cons (pg_name (i := 6) sc_Net_told_order.nd rfl (by first | exact Or.inl rfl | exact Or.inr rfl)) pgs_nil))))) (fun _ _ _ _ _ => (pts_one (pt_cmpR op_eq (pv 5) (pv 3) (nomark _)))) (fun _ _ _ _ _ => (pe_cmpR (op_in_seqK K) (pv 4) (pv 1) rfl)))) pa_nil)))))) (pss_cons (ps_expr (pe_bmK K PySem.F.plainAttrs_list PySem.F.slot_list_append PySem.F.type_list_append mt_append (pv 1) (pa_cons (pv 3) pa_nil))) (pss_cons (ps_set (i := 2) sc_Net_told_order.nd rfl (by first | exact Or.inl rfl | exact Or.inr rfl) pe_bl) (pss_one ps_break))) pss_nil)))))) (pss_one (ps_ret (pv 1)))))), ?_⟩
  repeat tb_rel
  refine r_lstN fun T H1 hT e1 h1 => ?_
  repeat tb_rel
  refine while_m (fun m σ G => ∃ told going x3 x4 x5 x6, m = 2 * (names.length - told.length) + (if going = true then 1 else 0) ∧ σ = [some (.ref p), some (.ref T), some (.bl going), x3, x4, x5, x6] ∧ Same H G ∧ G T = some (.lst (told.map V.str)) ∧ Told names rs told ∧ (going = false → Done names rs told))
    ⟨_, [], true, _, _, _, _, rfl, rfl, e1, h1, told_nil _ _, fun h => (by cases h)⟩ ?_
  rintro m σ G ⟨told, going, x3, x4, x5, x6, rfl, rfl, e, hG, ht, hdn⟩
  repeat tb_rel
  cases going with
  | false =>
    refine iteF ?_
    repeat tb_rel
    exact k T G told hT e hG ht (hdn rfl)
  | true =>
    refine iteT ?_
    repeat tb_rel
    refine r_Mv (e _ _ n.self) rfl ?_
    repeat tb_rel
    refine ⟨rfl, p, names, rs, rfl, nn.same e, fun D G1 ys hD e2 hD1 hp => ?_⟩
    repeat tb_rel
    refine ⟨_, rfl, ⟨_, .of hD1⟩, ?_⟩
    have hT1 := e2 _ _ hG
    have hns := nodup_len ht.nd ht.sub
    refine for_B (walk_list (xs := ys.map V.str)) (fun i σ G' => ∃ x3 x4 x5 x6, σ = [some (.ref p), some (.ref T), some (.bl false), x3, x4, x5, x6] ∧ Same G1 G' ∧ ∀ j < i, ∀ y, ys[j]? = some y → ¬ y ∈ told → ∃ r ∈ rs, r.other = y ∧ ¬ r.one ∈ told)
      ⟨_, _, _, _, rfl, Same.refl _, fun j hj => by omega⟩ (fun i σ G _ ⟨_, _, _, _, _, e, _⟩ => .of (e _ _ hD1)) ?_ ?_
    · rintro i v σ G0 G2 hi ⟨x3, x4, x5, x6, rfl, e3, hrej⟩ ⟨rfl, hv⟩
      obtain ⟨y, hy, rfl⟩ := map_get hv
      have hyn : y ∈ names := hp.mem_iff.1 (List.mem_of_getElem? hy)
      have hT2 := e3 _ _ hT1
      have e13 := e.trans (e2.trans e3)
      repeat tb_rel
      refine r_in (.inl (.of hT2)) rfl (flat_str told) ?_
      rw [inV_str]
      repeat tb_rel
      refine ite_n (fun h1 => ?_) fun h1 => ?_
      · repeat tb_rel
        have n2 := n.same e13
        refine r_lockE n2.roa fun od => ?_
        have hp2 : upd G2 dR (.frz od (.dK (roaD zs))) p = some (.ins (kN K) dx (fN dN dR)) := by
          rw [upd_ne (ne_of n2.self n2.roa (by intro z; cases z))]
          exact n2.self
        have hTR : T ≠ dR := ne_of hT2 n2.roa (by intro z; cases z)
        repeat tb_rel
        refine r_fld hp2 (c_Net S) (a_Net_roads S) rfl ?_
        refine ⟨dR, od, _, rfl, upd_same, ?_⟩
        refine lc_L walk_values zs (by simp [roaD]) (by unfold roaD; rw [List.length_map, n.len]; exact Nat.lt_of_le_of_lt n.few.2 (by decide)) (fun z => decide (z.2.other = y)) (fun z => .bl (decide (z.2.one ∈ told))) (fun G e => e _ _ upd_same) ?_ ?_
        · rintro j ⟨t, r⟩ G3 x G3' R R' hz e4 ⟨rfl, kk, hkk⟩ hR hR'
          have ex : x = .ref t := by
            unfold roaD at hkk
            rw [List.getElem?_map, hz] at hkk
            exact (Prod.mk.inj (Option.some.inj hkk)).2.symm
          subst ex
          refine r_g3 (e4.seqT (seqT_lock (n2.tup _ (List.mem_of_getElem? hz)) n2.roa)) ?_
          refine ⟨rfl, ?_⟩
          repeat tb_rel
          refine ite_d (fun h2 => ?_) fun h2 => ?_
          · repeat tb_rel
            refine r_in (.inl (.of (e4 _ _ (by rw [upd_ne hTR]; exact hT2)))) rfl (flat_str told) ?_
            rw [inV_str]
            exact hR (decide_eq_true h2) _ (Same.refl _)
          · exact hR' (decide_eq_false h2) _ (Same.refl _)
        · intro D3 H4 hD3 e4 h4
          refine ⟨e4 _ _ upd_same, ?_⟩
          have hD3R : D3 ≠ dR := fun z => by
            rw [z, upd_same] at hD3
            cases hD3
          have e5 : Same G2 (upd H4 dR (.dK (roaD zs))) := Same.unlock n2.roa e4
          repeat tb_rel
          refine ⟨D3, (zs.filter fun z => decide (z.2.other = y)).map fun z => decide (z.2.one ∈ told), rfl, .of ?_, ?_⟩
          · rw [upd_ne hD3R, h4, List.map_map]
            rfl
          repeat tb_rel
          cases hall : ((zs.filter fun z => decide (z.2.other = y)).map fun z => decide (z.2.one ∈ told)).all id with
          | true =>
            refine iteT ?_
            repeat tb_rel
            refine r_ty (e5 _ _ hT2) ?_
            repeat tb_rel
            have htl : told.length ≤ 20 := Nat.le_trans hns n.few.1
            refine r_app (e5 _ _ hT2) (by rw [List.length_map]; omega) ?_
            repeat tb_rel
            have hpreds : ∀ r ∈ rs, r.other = y → r.one ∈ told := fun r hr hro => by
              obtain ⟨t, ht⟩ := n.mem hr
              have := List.all_eq_true.1 hall (decide (r.one ∈ told)) (List.mem_map.2 ⟨(t, r), List.mem_filter.2 ⟨ht, decide_eq_true hro⟩, rfl⟩)
              exact of_decide_eq_true this
            have hsub : ∀ x ∈ told ++ [y], x ∈ names := fun x hx => by
              rcases List.mem_append.1 hx with hx | hx
              · exact ht.sub x hx
              · rw [List.mem_singleton.1 hx]
                exact hyn
            have hnd2 : (told ++ [y]).Nodup := List.nodup_append.2 ⟨ht.nd, by simp, fun a ha b hb e => by
              rw [List.mem_singleton.1 hb] at e
              exact h1 (by rw [← e]; exact ha)⟩
            have hl2 := nodup_len hnd2 hsub
            rw [List.length_append] at hl2
            have hl2 : told.length + 1 ≤ names.length := hl2
            refine ⟨2 * (names.length - (told ++ [y]).length) + 1, ?_, told ++ [y], true, _, _, _, _, rfl, rfl, (e13.trans e5).put hT, ?_, ⟨ht.top.snoc hpreds, hnd2, hsub⟩, fun h => (by cases h)⟩
            · rw [List.length_append]
              show 2 * (names.length - (told.length + 1)) + 1 < 2 * (names.length - told.length) + 1
              omega
            · rw [upd_same]
              simp
          | false =>
            refine iteF ?_
            repeat tb_rel
            refine ⟨_, _, _, _, rfl, e3.trans e5, fun j hj u hu hut => ?_⟩
            by_cases hji : j < i
            · exact hrej j hji u hu hut
            · have : j = i := by omega
              subst this
              obtain rfl := Option.some.inj (hu.symm.trans hy)
              rw [List.all_eq_false] at hall
              obtain ⟨b, hb, hbf⟩ := hall
              obtain ⟨⟨t, r⟩, hz, rfl⟩ := List.mem_map.1 hb
              obtain ⟨hz1, hz2⟩ := List.mem_filter.1 hz
              refine ⟨r, ?_, of_decide_eq_true hz2, fun z => hbf (decide_eq_true z)⟩
              rw [n.eq, List.mem_reverse]
              exact List.mem_map.2 ⟨_, hz1, rfl⟩
      · repeat tb_rel
        refine ⟨_, _, _, _, rfl, e3, fun j hj u hu hut => ?_⟩
        by_cases hji : j < i
        · exact hrej j hji u hu hut
        · have : j = i := by omega
          subst this
          obtain rfl := Option.some.inj (hu.symm.trans hy)
          exact absurd (by simpa using h1) hut
    · rintro σ G2 ⟨x3, x4, x5, x6, rfl, e3, hrej⟩
      refine ⟨2 * (names.length - told.length) + 0, by simp, told, false, _, _, _, _, rfl, rfl, e.trans (e2.trans e3), e3 _ _ hT1, ht, fun _ n hn hnt => ?_⟩
      obtain ⟨j, hj⟩ := List.getElem?_of_mem (hp.mem_iff.2 hn)
      have hjl : j < ys.length := by
        refine Decidable.byContradiction fun z => ?_
        rw [List.getElem?_eq_none (by omega)] at hj
        cases hj
      exact hrej j (by rw [List.length_map]; exact hjl) n hj hnt
/-! ring, order -/
def Acyc (names : List Str) (rs : List Road) : Prop := (∀ r ∈ rs, r.one ∈ names) ∧ ∃ rank : Str → Nat, ∀ r ∈ rs, rank r.one < rank r.other
theorem told_all {names : List Str} {rs : List Road} {told : List Str} (ha : Acyc names rs) (hd : Done names rs told) : ∀ n ∈ names, n ∈ told := by
  obtain ⟨h1, rank, h2⟩ := ha
  have key : ∀ k : Nat, ∀ n ∈ names, rank n ≤ k → n ∈ told := by
    intro k
    induction k with
    | zero =>
      intro n hn hk
      refine Decidable.byContradiction fun z => ?_
      obtain ⟨r, hr, e, _⟩ := hd n hn z
      have := h2 r hr
      rw [e] at this
      omega
    | succ k ih =>
      intro n hn hk
      refine Decidable.byContradiction fun z => ?_
      obtain ⟨r, hr, e, ht⟩ := hd n hn z
      have := h2 r hr
      rw [e] at this
      exact ht (ih _ (h1 r hr) (by omega))
  exact fun n hn => key _ n hn (Nat.le_refl _)
theorem sc_Net_ring : FnScope ["self", "told", "left", "here", "seen", "back", "number", "name", "line"] ["self"] d_Net_ring.scope := ⟨rfl, rfl, rfl, by decide +kernel, rfl, by decide +kernel, by decide +kernel⟩
def sp_ring (K : PySem.W.Frag) : Sp := SpN 1 fun vs H Q => ∃ p names rs, vs = [.ref p] ∧ NetAt K H p names rs ∧ Acyc names rs ∧ ∀ H', Same H H' → Q .non H'
theorem ok_Net_ring (S : Says K mg) : Fn P w K mg base 3 (He.fAd K d_Net_ring.at_) (sp_ring K) := by
  refine fn_body (f_Net_ring S) sc_Net_ring rfl (fun _ _ _ _ _ _ us hl => match us, hl with | [_], _ => rfl) fun cdv A outer s H vs Q E hr h => ?_
  obtain ⟨p, names, rs, rfl, n, ha, k⟩ := h
  have nn := n
  obtain ⟨dx, dN, dR, zs, n⟩ := n
  refine ⟨_, (pss_cons (ps_set (i := 1) sc_Net_ring.nd rfl (by first | exact Or.inl rfl | exact Or.inr rfl) (pm0 (ok_Net_told_order (K := K) S) (hr.mono (by decide)) (c_Net (K := K) S) (m_Net_told_order (K := K) S) (pv 0))) (pss_cons (ps_set (i := 2) sc_Net_ring.nd rfl (by first | exact Or.inl rfl | exact Or.inr rfl) (pe_lc (own := [("name", 7)]) rfl sc_Net_ring.nd (pi_listK K (pm0 (ok_Net_houses (K := K) S) (hr.mono (by decide)) (c_Net (K := K) S) (m_Net_houses (K := K) S) (pv 0))) (blkOk_by (N := ["self", "told", "left", "here", "seen", "back", "number", "name", "line"]) (sc := d_Net_ring.scope) (by decide +kernel)) (fun _ _ _ _ _ => (pg_name (i := 7) sc_Net_ring.nd rfl (by first | exact Or.inl rfl | exact Or.inr rfl))) (fun _ _ _ _ _ => (pts_one (pt_cmpR (op_notIn_seqK K) (pv 7) (pv 1) rfl))) (fun _ _ _ _ _ => (pv 7)))) (pss_cons (ps_if (pt_cmpR (op_eqDK K (hu64 hr)) (pv 2) (pe_lst pa_nil) (nomark _)) (pss_one (ps_ret pe_non)) pss_nil) pss_never))), ?_⟩
  repeat tb_rel
  refine r_Mv n.self rfl ?_
  repeat tb_rel
  refine ⟨rfl, p, names, rs, rfl, nn, fun T H1 told hT e1 h1 ht hd => ?_⟩
  repeat tb_rel
  refine r_Mv (e1 _ _ n.self) rfl ?_
  repeat tb_rel
  refine ⟨rfl, p, names, rs, rfl, nn.same e1, fun D H2 ys hD e2 h2 hp => ?_⟩
  repeat tb_rel
  refine ⟨_, rfl, ⟨_, .of h2⟩, ?_⟩
  have hall := told_all ha hd
  refine lc_L walk_list ys (by simp) (by rw [List.length_map, hp.length_eq]; exact Nat.lt_of_le_of_lt n.few.1 (by decide)) (fun y => decide (¬ y ∈ told)) (fun y => .str y) (fun G e => .of (e _ _ h2)) ?_ ?_
  · rintro i y G x G' R R' hy e ⟨rfl, hx⟩ hR hR'
    obtain ⟨z, hz, rfl⟩ := map_get hx
    obtain rfl := Option.some.inj (hy.symm.trans hz)
    repeat tb_rel
    refine ⟨rfl, ?_⟩
    repeat tb_rel
    refine r_in (.inl (.of (e _ _ (e2 _ _ h1)))) rfl (flat_str told) ?_
    rw [inV_str]
    repeat tb_rel
    refine ite_n (fun h => ?_) fun h => ?_
    · repeat tb_rel
      exact hR (decide_eq_true h) _ (Same.refl _)
    · exact hR' (decide_eq_false (fun z => z (by simpa using h))) _ (Same.refl _)
  · intro D3 H4 hD3 e4 h4
    have hnil : ys.filter (fun y => decide (¬ y ∈ told)) = [] := by
      rw [List.filter_eq_nil_iff]
      intro y hy
      have := hall y (hp.mem_iff.1 hy)
      simp [this]
    rw [hnil] at h4
    repeat tb_rel
    refine r_lstN fun E1 H5 hE e5 h5 => ?_
    refine r_eqNil (n := 0) (.of (e5 _ _ h4)) (.of h5) .nil (fun d h => by cases h) (by omega) ?_
    repeat tb_rel
    refine iteT ?_
    repeat tb_rel
    exact k H5 (e1.trans (e2.trans (e4.trans e5)))
theorem sc_Net_order : FnScope ["self", "found"] ["self"] d_Net_order.scope := ⟨rfl, rfl, rfl, by decide +kernel, rfl, by decide +kernel, by decide +kernel⟩
def sp_order (K : PySem.W.Frag) : Sp := SpN 1 fun vs H Q => ∃ p names rs, vs = [.ref p] ∧ NetAt K H p names rs ∧ Acyc names rs ∧ ∀ (D : Addr) (H' : Hp) (told : List Str), H D = none → Same H H' → H' D = some (.lst (told.map V.str)) → Told names rs told → (∀ n ∈ names, n ∈ told) → Q (.ref D) H'
theorem ok_Net_order (S : Says K mg) : Fn P w K mg base 4 (He.fAd K d_Net_order.at_) (sp_order K) := by
  refine fn_body (f_Net_order S) sc_Net_order rfl (fun _ _ _ _ _ _ us hl => match us, hl with | [_], _ => rfl) fun cdv A outer s H vs Q E hr h => ?_
  obtain ⟨p, names, rs, rfl, n, ha, k⟩ := h
  have nn := n
  obtain ⟨dx, dN, dR, zs, n⟩ := n
  refine ⟨_, (pss_cons (ps_set (i := 1) sc_Net_order.nd rfl (by first | exact Or.inl rfl | exact Or.inr rfl) (pm0 (ok_Net_ring (K := K) S) (hr.mono (by decide)) (c_Net (K := K) S) (m_Net_ring (K := K) S) (pv 0))) (pss_cons (ps_if (pt_cmpR op_notN (pv 1) pe_non (nomark _)) (pss_one ps_never) pss_nil) (pss_one (ps_ret (pm0 (ok_Net_told_order (K := K) S) (hr.mono (by decide)) (c_Net (K := K) S) (m_Net_told_order (K := K) S) (pv 0)))))), ?_⟩
  repeat tb_rel
  refine r_Mv n.self rfl ?_
  repeat tb_rel
  refine ⟨rfl, p, names, rs, rfl, nn, ha, fun H1 e1 => ?_⟩
  repeat tb_rel
  refine ⟨rfl, ?_⟩
  repeat tb_rel
  refine iteF ?_
  repeat tb_rel
  refine r_Mv (e1 _ _ n.self) rfl ?_
  repeat tb_rel
  exact ⟨rfl, p, names, rs, rfl, nn.same e1, fun T H2 told hT e2 h2 ht hd => k T H2 told (e1.free hT) (e1.trans e2) h2 ht (told_all ha hd)⟩
end
end Mg
/-! Ls -/
/-! len(set(xs)): texts that all differ; tuples of ints (the loop of HandS.Strs turned to more than one text) -/
namespace SN
open PySem PySem.Spec PyProof.Rows SS
section
variable {prog : Program} {w : World} {A : Around} {R : Result → Shared → Prop} {I : Addr} {fp wr : List Addr} {G : Array GenState → Array GenState → Prop} {n : Nat} {P : Nat → Value → Prop} {St : Nat → Shared → Prop}
theorem loopStrN (W : WalksS prog w A.in1 I fp wr G n P St) (S : Addr) (hSf : S ∉ fp) (xs : List Str) (hsz : xs.length = n) (hn1 : n ≤ 60) (hnd : xs.Nodup)
    (hval : ∀ i v, P i v → ∃ t, v = .str (xs.getD i Str.empty) t) :
    ∀ (k i : Nat) (s : Shared), n - i = k → i ≤ n → St i s →
      s.heap.SetOf (PySem.strKind prog w) S (fun k' => (xs.take i).any (· == k')) i →
      (∀ s', Moved (S :: wr) G s s' → s'.heap.SetOf (PySem.strKind prog w) S (fun k' => (xs.take n).any (· == k')) n → R (.ok (.ret .none)) s') →
      codeAny (model prog w) A (.builtin "set.update.loop" ⟨[.ref S, .ref I], []⟩) R s := by
  have hSw : S ∉ wr := fun h => hSf (W.sub _ h)
  have hsub : ∀ b ∈ wr, b ∈ S :: wr := fun b hb => List.mem_cons_of_mem _ hb
  intro k
  induction k with
  | zero =>
    intro i s hk hi hst hS hR
    have hin : i = n := by omega
    subst hin
    refine codeAny_builtin PyProof.Rows.F.entry_set_update_loop ?_
    rw [Around.under_plainId PyProof.Rows.F.plain_set_update_loop _]
    show wpAny _ A.in1 (pyNext (.ref I) >>= _) _ _ s
    refine wpAny_bind (W.done s _ _ hst fun s' hm => ?_)
    show wpAny _ A.in1 (ret Value.none) _ _ s'
    exact wpAny_pure (hR s' (hm.mono hsub) (by
      obtain ⟨o, es, ep, t, ho, rest⟩ := hS
      exact ⟨o, es, ep, t, hm.heap S _ hSw ho, rest⟩))
  | succ k ih =>
    intro i s hk hi hst hS hR
    have hlt : i < n := by omega
    refine codeAny_builtin PyProof.Rows.F.entry_set_update_loop ?_
    rw [Around.under_plainId PyProof.Rows.F.plain_set_update_loop _]
    show wpAny _ A.in1 (pyNext (.ref I) >>= _) _ _ s
    refine wpAny_bind (W.item i s _ _ hlt hst fun v s' hP hst' hm => ?_)
    obtain ⟨t, rfl⟩ := hval i v hP
    have hS' : s'.heap.SetOf (PySem.strKind prog w) S (fun k' => (xs.take i).any (· == k')) i := by
      obtain ⟨o, es, ep, tb, ho, rest⟩ := hS
      exact ⟨o, es, ep, tb, hm.heap S _ hSw ho, rest⟩
    show wpAny _ A.in1 (holding [Value.str (xs.getD i Str.empty) t] (setAdd S (.str (xs.getD i Str.empty) t)) >>= _) _ _ s'
    refine wpAny_bind (wpAny_holding ?_)
    unfold setAdd
    refine wpAny_holding ?_
    refine wpAny_bind ((PySem.strKind prog w).pyHash (k := xs.getD i Str.empty) (strKind_is _ _ _ _) ?_)
    refine wpAny_setAddHashed_of (knd := PySem.strKind prog w) (s := { s' with toks := s'.toks + 1 }) (strKind_is _ _ _ _) rfl hS' (by unfold scanBound; omega) fun h' hsb hS2 => ?_
    have hxi : xs[i]? = some (xs.getD i Str.empty) := by simp [List.getD, show i < xs.length by omega]
    have hno : ((xs.take i).any (· == xs.getD i Str.empty)) = false := by
      rw [List.any_eq_false]
      intro y hy hye
      have e := eq_of_beq hye
      rw [e] at hy
      obtain ⟨j, hj⟩ := List.getElem?_of_mem hy
      have hji : j < i := by
        refine Decidable.byContradiction fun z => ?_
        rw [List.getElem?_eq_none (by rw [List.length_take]; omega)] at hj
        cases hj
      rw [List.getElem?_take_of_lt hji] at hj
      obtain ⟨h1, e1⟩ := List.getElem?_eq_some_iff.1 hj
      obtain ⟨h2, e2⟩ := List.getElem?_eq_some_iff.1 hxi
      exact absurd ((e1.trans e2.symm)) (List.pairwise_iff_getElem.1 hnd j i h1 h2 hji)
    have hSi : h'.SetOf (PySem.strKind prog w) S (fun k' => (xs.take (i + 1)).any (· == k')) (i + 1) := by
      rw [hno] at hS2
      refine SetOf_congr hS2 (fun k' => ?_) (by simp)
      rw [List.take_add_one, hxi]
      simp only [Option.toList, List.any_append, List.any_cons, List.any_nil, Bool.or_false]
      by_cases e : k' = xs.getD i Str.empty
      · subst e
        simp
      · have hb : (xs.getD i Str.empty == k') = false := by simpa [beq_iff_eq] using (fun h' : xs.getD i Str.empty = k' => e h'.symm)
        rw [hb, decide_eq_false e]
    refine wpAny_pure ⟨plainId_quiet PyProof.Rows.F.plain_set_update_loop _, ih (i + 1) _ (by omega) hlt (W.frame _ s' _ _ hst' (Nat.le_succ _) fun b hb o e => ?_) hSi fun s'' hm'' hS'' => ?_⟩
    · rw [hsb.2 b (fun h : b = S => hSf (by rw [← h]; exact hb))]; exact e
    · refine hR s'' (Moved.trans W.gtrans ((hm.mono hsub).then_heap (Nat.le_succ _) fun b o hb e => ?_) hm'') hS''
      rw [hsb.2 b (fun h : b = S => hb (by rw [h]; exact List.mem_cons_self))]; exact e
end
section
variable {prog : Program} {w : World} {A : Around} {E : Value → Shared → Prop} {s : Shared}
set_option maxHeartbeats 3200000 in
theorem call_set_listN {l : Addr} {items : Array Value} {xs : List Str} {Q : Value → Shared → Prop}
    (hh : A.handled = none) (hl : s.heap.IsList l items) (hi : PyProof.Rows.StrsAre items.toList xs) (hn1 : xs.length ≤ 60) (hnd : xs.Nodup)
    (h : ∀ (h' : Heap) (tk : Nat), h'.SetOf (PySem.strKind prog w) s.heap.objs.size (fun k' => (xs.take items.size).any (· == k')) items.size →
      (∀ b o, b < s.heap.objs.size → s.heap.get? b = some o → h'.get? b = some o) → Q (.ref s.heap.objs.size) { s with heap := h', toks := tk }) :
    wpAny (model prog w) A (call (.type "set") [.ref l]) Q E s := by
  obtain ⟨c, tl, hmro⟩ := PySem.F.called_set.mro
  have hmade := PySem.F.called_set.made
  have hsub := PySem.F.called_set.sub
  refine wpAny_call (codeAny_of_tree ?_)
  show wpAny _ _ (callAny (.type "set") _) _ _ _
  refine wpAny_pure ⟨Code.quiet_builtin _ (by decide +kernel), codeAny_builtin PySem.F.entry_type_call ?_⟩
  rw [Around.under_plain (weight_type_call_type "set" [.ref l] []) rfl]
  have h1 := PySem.F.called_set.notType
  have h2 := PySem.F.called_set.canCreate
  have hct := PySem.F.typeCall_set_1 (.ref l)
  repeat (any_goals (first | assumption | wp_step))
  refine codeAny_mono (code_set_new_1 (.ref l) (E := E) (Q₁ := fun obj s₁ => ∃ led : Bool, obj = .ref s.heap.objs.size ∧ s₁ = { s with heap := s.heap.push { cls := .type "set", dict := none, data := .set #[] 0 (.fresh 0 0 led) } }) fun led => ⟨led, rfl, rfl⟩) fun r s₁ hr => ?_
  cases r with
  | error e => exact hr
  | ok fl =>
    cases fl with
    | ret obj =>
      obtain ⟨led, rfl, rfl⟩ := hr
      have hS : (s.heap.push { cls := .type "set", dict := none, data := .set #[] 0 (.fresh 0 0 led) }).get? s.heap.objs.size = some { cls := .type "set", dict := none, data := .set #[] 0 (.fresh 0 0 led) } := Heap.get?_push_size _ rfl
      have hT : Shared.TypeIs { s with heap := s.heap.push { cls := .type "set", dict := none, data := .set #[] 0 (.fresh 0 0 led) } } (.ref s.heap.objs.size) "set" := ⟨_, hS, rfl⟩
      have hli := PySem.F.called_set.init.lookup
      have hbi := PySem.F.called_set.init.bind (.ref s.heap.objs.size)
      repeat (any_goals (first | assumption | wp_step))
      refine codeAny_mono (codeAny_call_builtin (R := wants (fun r s₂ => r = .none ∧ ∃ h' tk, s₂ = { s with heap := h', toks := tk } ∧
          h'.SetOf (PySem.strKind prog w) s.heap.objs.size (fun k' => (xs.take items.size).any (· == k')) items.size ∧
          (∀ b o, b < s.heap.objs.size → s.heap.get? b = some o → h'.get? b = some o)) E) PySem.F.called_set.init.plain PySem.F.entry_set_init (check_set_init_1 hT ?_)) fun r₂ s₂ hr₂ => ?_
      · obtain ⟨ol, hol, hcl, nl, hdl⟩ := hl
        obtain ⟨ocls, odict, odata, oslots⟩ := ol
        simp only at hcl hdl
        subst hcl; subst hdl
        have hol' : (s.heap.push { cls := .type "set", dict := none, data := .set #[] 0 (.fresh 0 0 led) }).get? l = some { cls := .type "list", dict := odict, data := .seq items nl, slots := oslots } := Heap.get?_push_of_some _ hol
        have hsls := PySem.F.sub_list_set
        have hslf := PySem.F.sub_list_frozenset
        have hne : (Value.type "list" == Value.type "dict") = false := by decide
        have hl1 : (s.heap.push { cls := .type "set", dict := none, data := .set #[] 0 (.fresh 0 0 led) }).IsList l items := ⟨_, hol', rfl, nl, rfl⟩
        unfold Builtin.«set.__init__» noKeywords Builtin.Frozenset.updateFrom
        generalize hPI : pyIter = PI
        wp_walk
        subst hPI
        refine wpAny_pyIter_list hl1 ?_
        refine wpAny_bind (wpAny_runValue ?_)
        have hlS : l < s.heap.objs.size := Heap.lt_size hol
        have hh3 : A.in1.in1.in1.handled = none := by simp [hh]
        have hneI : l ≠ (s.heap.push { cls := .type "set", dict := none, data := .set #[] 0 (.fresh 0 0 led) }).objs.size := by
          rw [Heap.size_push]; exact Nat.ne_of_lt (Nat.lt_succ_of_lt hlS)
        have hSf : s.heap.objs.size ∉ [(s.heap.push { cls := .type "set", dict := none, data := .set #[] 0 (.fresh 0 0 led) }).objs.size, l] := by
          rw [Heap.size_push]; simp only [List.mem_cons, List.mem_singleton, List.not_mem_nil, or_false, not_or]
          exact ⟨Nat.ne_of_lt (Nat.lt_succ_self _), Nat.ne_of_gt hlS⟩
        have hsz : xs.length = items.size := by rw [← StrsAre.len_eq hi, Array.length_toList]
        have hval : ∀ (i : Nat) (v : Value), items[i]? = some v → ∃ t, v = .str (xs.getD i Str.empty) t := fun i v hv => strs_at hi i v (by rw [Array.getElem?_toList]; exact hv)
        refine loopStrN ((Walks.list hh3 _ l hneI items).toS) s.heap.objs.size
          hSf xs hsz (by rw [← hsz]; exact hn1) hnd hval (items.size - 0) 0 _ (by omega) (Nat.zero_le _)
          ⟨⟨_, Heap.get?_push_size _ rfl, rfl, rfl⟩, (hl1.push _)⟩ ?hS0 ?hR
        case hS0 =>
          have hget : ((s.heap.push { cls := .type "set", dict := none, data := .set #[] 0 (.fresh 0 0 led) }).push { cls := .type "list_iterator", data := .fields #[.ref l, .int 0 0] }).get? s.heap.objs.size
              = some { cls := .type "set", dict := none, data := .set #[] 0 (.fresh 0 0 led) } := Heap.get?_push_of_some _ hS
          exact PyProof.Rows.SetOf_congr ((PyProof.Rows.setObjOf_fresh (knd := PySem.strKind prog w) led).setOf hget (by unfold scanBound; omega)) (fun _ => rfl) rfl
        case hR =>
          intro s' hm hS'
          obtain ⟨h', g', d', tk', os'⟩ := s'
          have eg : g' = s.gens := hm.gens
          have ed : d' = s.drawn := hm.drawn
          have eo : os' = s.os := hm.os
          subst eg; subst ed; subst eo
          show wpAny _ _ _ _ _ _
          refine wpAny_pure ?_
          show wpAny _ _ (ret Value.none) _ _ _
          refine wpAny_pure ⟨rfl, h', tk', rfl, hS', fun b o hb e => ?_⟩
          have hb1 : b ≠ s.heap.objs.size := Nat.ne_of_lt hb
          have hb2 : b ≠ (s.heap.push { cls := .type "set", dict := none, data := .set #[] 0 (.fresh 0 0 led) }).objs.size := by
            rw [Heap.size_push]; exact Nat.ne_of_lt (Nat.lt_succ_of_lt hb)
          exact hm.heap b o (by simp only [List.mem_cons, List.mem_singleton, List.not_mem_nil, or_false, not_or]; exact ⟨hb1, hb2⟩) (Heap.get?_push_of_some _ (Heap.get?_push_of_some _ e))
      · cases r₂ with
        | error e => exact hr₂
        | ok fl₂ =>
          cases fl₂ with
          | ret r =>
            obtain ⟨rfl, h', tk, rfl, hS', hk'⟩ := hr₂
            repeat (any_goals (first | assumption | wp_step))
            exact h _ _ hS' hk'
          | _ => exact hr₂.elim
    | _ => exact hr.elim
end
end SN
namespace L2
open PySem PySem.Spec PyProof.Rows
section
variable {X : Cx}
def tLenSetS (K : PySem.W.Frag) (ta : TE) : TE := fun σ H Q => ta σ H fun x H1 => ∃ l, ∃ xs : List Str, x = .ref l ∧ SqL K H1 l (xs.map V.str) ∧ xs.Nodup ∧ xs.length ≤ 60 ∧ Q (.int xs.length) H1
theorem pe_lenSetS (K : PySem.W.Frag) {a : Expr} {ta : TE} {p p2 q pos : Pos} (hc : X.calm = true) (hg : Gl X "len") (hm : X.mg "len" = none) (hg2 : Gl X "set") (hm2 : X.mg "set" = none) (ha : PE X a ta)
    (na : starEach [a] X.env = (false, eval a X.env) :: starEach [] X.env := by rfl) (hK : X.K = K := by rfl) : PE X (.Call (.Name "len" p) [.Call (.Name "set" p2) [a] [] q] [] pos) (tLenSetS K ta) := by
  subst hK
  refine ⟨fun pins s σ H Q I h => ?_⟩
  refine Call_ (ld_blt I hg hm boot_len ?_)
  refine PyProof.Rows.callWith_builtin1 (PyProof.Rows.args_cons ?_ rfl) rfl rfl
  refine Call_ (ld_blt I hg2 hm2 boot_set ?_)
  refine PyProof.Rows.callWith_type1 (PyProof.Rows.args_cons (thn (ha.run pins s σ H _ I h) fun v s1 ⟨x, H1, I1, r1, q1⟩ => PyProof.Rows.args_nil ?_) na) na rfl
  obtain ⟨l, xs, rfl, hq, hnd, hl, q1⟩ := q1
  cases r1
  obtain ⟨its, r, pl, hz⟩ := I1.list hq
  have hlen : its.toArray.size = xs.length := by rw [List.size_toArray, ← r.length, List.length_map]
  refine SN.call_set_listN (I1.ok.hd hc) pl.isList (by simpa using strsAre_of r) hl hnd fun h' tk hS hk => ?_
  refine PyProof.Rows.args_nil ?_
  rw [hlen] at hS
  obtain ⟨o, es, ep, t, ho, hex, hd, _, _, _, hf, hn⟩ := hS
  have I2 : Inv X pins σ H1 { s1 with heap := h', toks := tk } := I1.kept fun b o e => hk b o (Heap.lt_size e) e
  exact call_len_set ho hex hd hf (by rw [hn] <;> omega) ⟨.int xs.length, H1, I2.tok _, ⟨_, by rw [hn]⟩, q1⟩
def tLenSetT (K : PySem.W.Frag) (ta : TE) : TE := fun σ H Q => ta σ H fun x H1 => ∃ (l : Addr) (ks : List (Addr × List Int)), x = .ref l ∧ SqL K H1 l (ks.map fun p => V.ref p.1) ∧ (∀ p ∈ ks, SqT K H1 p.1 (p.2.map V.int)) ∧ ks.length < 64 ∧
  ∀ n : Nat, (∃ L : List (Addr × List Int), n = L.length ∧ ∀ p ∈ ks, p.2 ∈ L.map (·.2)) → Q (.int n) H1
theorem pe_lenSetT (K : PySem.W.Frag) {a : Expr} {ta : TE} {p p2 q pos : Pos} (hc : X.calm = true) (hu : X.A.units + 64 < cLine) (hg : Gl X "len") (hm : X.mg "len" = none) (hg2 : Gl X "set") (hm2 : X.mg "set" = none) (ha : PE X a ta)
    (na : starEach [a] X.env = (false, eval a X.env) :: starEach [] X.env := by rfl) (hK : X.K = K := by rfl) : PE X (.Call (.Name "len" p) [.Call (.Name "set" p2) [a] [] q] [] pos) (tLenSetT K ta) := by
  subst hK
  refine ⟨fun pins s σ H Q I h => ?_⟩
  refine Call_ (ld_blt I hg hm boot_len ?_)
  refine PyProof.Rows.callWith_builtin1 (PyProof.Rows.args_cons ?_ rfl) rfl rfl
  refine Call_ (ld_blt I hg2 hm2 boot_set ?_)
  refine PyProof.Rows.callWith_type1 (PyProof.Rows.args_cons (thn (ha.run pins s σ H _ I h) fun v s1 ⟨x, H1, I1, r1, q1⟩ => PyProof.Rows.args_nil ?_) na) na rfl
  obtain ⟨l, ks, rfl, hq, hk, hl, q1⟩ := q1
  cases r1
  obtain ⟨its, r, pl, hz⟩ := I1.list hq
  have hit : its.toArray.toList = ks.map fun p => Value.ref p.1 := by simpa using refs_of_vals r
  refine call_set_tups ks (I1.ok.hd hc) pl.isList hit (fun p hp => I1.isT (hk p hp)) hl (by omega) fun h' tk L es ep t R g hkp => ?_
  refine PyProof.Rows.args_nil ?_
  have I2 : Inv X pins σ H1 { s1 with heap := h', toks := tk } := I1.kept hkp
  obtain ⟨o, ho, hex, hd⟩ := R.ob
  have hs := R.size (s := { s1 with heap := h', toks := tk })
  exact call_len_set ho hex hd (R.fits (s := { s1 with heap := h', toks := tk })) (by have := R.few; omega) ⟨.int L.length, H1, I2.tok _, ⟨_, by rw [hs]⟩, q1 _ ⟨L, rfl, fun p hp => g.all p (by rw [List.take_length]; exact hp)⟩⟩
end
theorem r_lenSetS {K : PySem.W.Frag} {ta : TE} {σ : L2.St} {H : Hp} {Q : VK} (h : ta σ H fun x H1 => ∃ l, ∃ xs : List Str, x = .ref l ∧ SqL K H1 l (xs.map V.str) ∧ xs.Nodup ∧ xs.length ≤ 60 ∧ Q (.int xs.length) H1) : tLenSetS K ta σ H Q := h
theorem r_lenSetT {K : PySem.W.Frag} {ta : TE} {σ : L2.St} {H : Hp} {Q : VK} (h : ta σ H fun x H1 => ∃ (l : Addr) (ks : List (Addr × List Int)), x = .ref l ∧ SqL K H1 l (ks.map fun p => V.ref p.1) ∧ (∀ p ∈ ks, SqT K H1 p.1 (p.2.map V.int)) ∧ ks.length < 64 ∧
  ∀ n : Nat, (∃ L : List (Addr × List Int), n = L.length ∧ ∀ p ∈ ks, p.2 ∈ L.map (·.2)) → Q (.int n) H1) : tLenSetT K ta σ H Q := h
end L2
local macro_rules | `(tactic| tb_rel) => `(tactic| with_reducible first | refine L2.r_lenSetS ?_ | refine L2.r_lenSetT ?_)
namespace L2
open PySem PySem.Spec PyProof.Rows
end L2
/-! T1 -/
namespace Mg
open PySem PySem.Spec PyProof.Rows L2
/-! ### tasks -/
theorem nodup_lenI {α : Type} [BEq α] [LawfulBEq α] : ∀ {l names : List α}, l.Nodup → (∀ x ∈ l, x ∈ names) → l.length ≤ names.length
  | [], _, _, _ => Nat.zero_le _
  | a :: l, names, hn, hs => by
    have h1 := List.nodup_cons.1 hn
    have ha := hs a (List.mem_cons_self ..)
    have := nodup_lenI (names := names.erase a) h1.2 fun x hx => (List.mem_erase_of_ne (fun z => h1.1 (by rw [← z]; exact hx))).2 (hs x (List.mem_cons_of_mem _ hx))
    rw [List.length_erase_of_mem ha] at this
    have hp := List.length_pos_of_mem ha
    rw [List.length_cons]
    omega
section
variable {P : Program} {w : World} {K : PySem.W.Frag} {mg : Str → Option Value} {base : Heap}
theorem sc_need_letters : FnScope ["letters"] ["letters"] d_need_letters.scope := ⟨rfl, rfl, rfl, by decide +kernel, rfl, by decide +kernel, by decide +kernel⟩
def sp_need_letters : Sp := SpN 1 fun vs H Q => ∃ m : Int, vs = [.int m] ∧ 1 ≤ m ∧ m ≤ 4 ∧ Q .non H
theorem ok_need_letters (S : Says K mg) : Fn P w K mg base 1 (He.fAd K d_need_letters.at_) sp_need_letters := by
  refine fn_body (f_need_letters S) sc_need_letters rfl (fun _ _ _ _ _ _ us hl => match us, hl with | [_], _ => rfl) fun cdv A outer s H vs Q E hr h => ?_
  obtain ⟨m, rfl, h1, h2, k⟩ := h
  refine ⟨_, (pss_one (ps_if (pt_not (pt_chain op_le op_le pe_int (pv 0) (pe_gI (i_MOST_LETTERS S) rfl))) (pss_one ps_never) pss_nil)), ?_⟩
  repeat tb_rel
  refine ite_d (fun _ => ?_) fun h => absurd h1 h
  repeat tb_rel
  refine ite_n (fun h => absurd h2 h) fun _ => ?_
  repeat tb_rel
  exact k
/-- a loss: marks that rise, at least one -/
def LossOk (ns : List Int) : Prop := ns ≠ [] ∧ ns.Pairwise (· < ·) ∧ ns.length ≤ 50
theorem sc_is_loss : FnScope ["lines", "at"] ["lines"] d_is_loss.scope := ⟨rfl, rfl, rfl, by decide +kernel, rfl, by decide +kernel, by decide +kernel⟩
def sp_is_loss (K : PySem.W.Frag) : Sp := SpN 1 fun vs H Q => ∃ t ns, vs = [.ref t] ∧ SqT K H t (ns.map V.int) ∧ LossOk ns ∧ ∀ H', Same H H' → Q (.bl true) H'
theorem ok_is_loss (S : Says K mg) : Fn P w K mg base 1 (He.fAd K d_is_loss.at_) (sp_is_loss K) := by
  refine fn_body (f_is_loss S) sc_is_loss rfl (fun _ _ _ _ _ _ us hl => match us, hl with | [_], _ => rfl) fun cdv A outer s H vs Q E hr h => ?_
  obtain ⟨t, ns, rfl, ht, ⟨h1, h2, h3⟩, k⟩ := h
  have hpos : 0 < ns.length := List.length_pos_iff.2 h1
  refine ⟨_, (pss_one (ps_ret (pe_and (pe_cmpR op_gt (pe_callB (call_len_seqK K) (by rfl) (n_len S) PySem.boot_len (pa_cons (pv 0) pa_nil)) pe_int (nomark _)) (pe_one (pe_callB (cr_allK K rfl) (by rfl) (n_all S) (by decide +kernel) (pa_cons (pe_lc (own := [("at", 1)]) rfl sc_is_loss.nd (pi_range2 rfl (n_range S) (pa_cons pe_int (pa_cons (pe_callB (call_len_seqK K) (by rfl) (n_len S) PySem.boot_len (pa_cons (pv 0) pa_nil)) pa_nil))) (blkOk_by (N := ["lines", "at"]) (sc := d_is_loss.scope) (by decide +kernel)) (fun _ _ _ _ _ => (pg_name (i := 1) sc_is_loss.nd rfl (by first | exact Or.inl rfl | exact Or.inr rfl))) (fun _ _ _ _ _ => pts_nil) (fun _ _ _ _ _ => (pe_cmpR op_lt (pe_ix (ix_tupK K) (pv 0) (pe_op op_sub (pv 1) pe_int) (fun _ _ => rfl)) (pe_ix (ix_tupK K) (pv 0) (pv 1) (fun _ _ => rfl)) (nomark _)))) pa_nil)))))), ?_⟩
  repeat tb_rel
  refine r_len (.inr ht) ?_
  repeat tb_rel
  rw [List.length_map]
  refine ite_d (fun _ => ?_) fun h => absurd (by omega) h
  repeat tb_rel
  refine r_len (.inr ht) ?_
  repeat tb_rel
  rw [List.length_map]
  refine ⟨_, _, rfl, by omega, ?_⟩
  refine lc_M walk_range (List.range (ns.length - 1)) (by simp) (Nat.lt_of_le_of_lt (m := 50) (by omega) (by decide)) (fun i : Nat => .bl (decide (ns.getD i 0 < ns.getD (i + 1) 0))) (fun _ _ => trivial) ?_ ?_
  · rintro i j G x G' R hj e ⟨rfl, rfl⟩ hR
    obtain ⟨hlt, rfl⟩ := range_get hj
    repeat tb_rel
    refine ⟨rfl, ?_⟩
    repeat tb_rel
    refine r_ixT (e.seqT ht) (j := j) (by omega) (by rw [List.getElem?_map, getD_some (by omega)]; rfl) ?_
    repeat tb_rel
    refine r_ixT (e.seqT ht) (j := j + 1) (by omega) (by rw [List.getElem?_map, getD_some (by omega)]; rfl) ?_
    repeat tb_rel
    exact hR _ (Same.refl _)
  · intro D H4 hD e4 h4
    repeat tb_rel
    refine ⟨D, (List.range (ns.length - 1)).map fun i : Nat => decide (ns.getD i 0 < ns.getD (i + 1) 0), rfl, .of (by rw [h4, List.map_map]; rfl), ?_⟩
    rw [show (((List.range (ns.length - 1)).map fun i : Nat => decide (ns.getD i 0 < ns.getD (i + 1) 0)).all id) = true by
      rw [List.all_eq_true]
      intro b hb
      obtain ⟨i, hi, rfl⟩ := List.mem_map.1 hb
      have hi := List.mem_range.1 hi
      have ha : i < ns.length := by omega
      have hb2 : i + 1 < ns.length := by omega
      refine decide_eq_true ?_
      rw [show ns.getD i 0 = ns[i] by simp [List.getD, ha], show ns.getD (i + 1) 0 = ns[i + 1] by simp [List.getD, hb2]]
      exact List.pairwise_iff_getElem.1 h2 i (i + 1) ha hb2 (by omega)]
    repeat tb_rel
    exact k H4 e4
/-- losses as tuples -/
def LossesOk (ls : List (Addr × List Int)) : Prop := ls.length ≤ 3 ∧ (ls.map (·.2)).Nodup ∧ ∀ z ∈ ls, LossOk z.2
theorem sc_need_losses : FnScope ["losses", "some", "lines"] ["losses"] d_need_losses.scope := ⟨rfl, rfl, rfl, by decide +kernel, rfl, by decide +kernel, by decide +kernel⟩
def sp_need_losses (K : PySem.W.Frag) : Sp := SpN 1 fun vs H Q => ∃ l ls, vs = [.ref l] ∧ SqL K H l (refs ls) ∧ RowsAt K H ls ∧ LossesOk ls ∧ ∀ H', Same H H' → Q .non H'
theorem ok_need_losses (S : Says K mg) : Fn P w K mg base 2 (He.fAd K d_need_losses.at_) (sp_need_losses K) := by
  refine fn_body (f_need_losses S) sc_need_losses rfl (fun _ _ _ _ _ _ us hl => match us, hl with | [_], _ => rfl) fun cdv A outer s H vs Q E hr h => ?_
  obtain ⟨l, ls, rfl, hl, hrs, ⟨h1, h2, h3⟩, k⟩ := h
  refine ⟨_, (pss_cons (ps_setLc (i := 1) (own := [("lines", 2)]) rfl sc_need_losses.nd rfl rfl (sw_true rfl rfl rfl (by decide +kernel)) (pi_listK K (pv 0)) (blkOk_by (N := ["losses", "some", "lines"]) (sc := d_need_losses.scope) (by decide +kernel)) (fun _ _ _ _ _ => (pg_name (i := 2) sc_need_losses.nd rfl (by first | exact Or.inl rfl | exact Or.inr rfl))) (fun _ _ _ _ _ => pts_nil) (fun _ _ _ _ _ => (pe_tupleOfK K rfl (n_tuple S) (pv 2)))) (pss_one (ps_if (PW.pt (pw_or (pt_cmpR op_gt (pe_callB (call_len_seqK K) (by rfl) (n_len S) PySem.boot_len (pa_cons (pv 1) pa_nil)) (pe_gI (i_MOST_LOSSES S) rfl) (nomark _)) (pw_or (pt_cmpR op_lt (pe_lenSetT K rfl (hu64 hr) rfl (n_len S) rfl (n_set S) (pv 1)) (pe_callB (call_len_seqK K) (by rfl) (n_len S) PySem.boot_len (pa_cons (pv 1) pa_nil)) (nomark _)) (pw_or1 (pt_not (pt_val (pe_callB (cr_allK K rfl) (by rfl) (n_all S) (by decide +kernel) (pa_cons (pe_lc (own := [("lines", 2)]) rfl sc_need_losses.nd (pi_listK K (pv 1)) (blkOk_by (N := ["losses", "some", "lines"]) (sc := d_need_losses.scope) (by decide +kernel)) (fun _ _ _ _ _ => (pg_name (i := 2) sc_need_losses.nd rfl (by first | exact Or.inl rfl | exact Or.inr rfl))) (fun _ _ _ _ _ => pts_nil) (fun _ _ _ _ _ => (pc (ok_is_loss (K := K) S) (hr.mono (by decide)) (g_is_loss S) (f_is_loss S).choose_spec.kp rfl (pa_cons (pv 2) pa_nil)))) pa_nil)))))))) (pss_one ps_never) pss_nil))), ?_⟩
  repeat tb_rel
  refine ⟨_, rfl, ⟨_, hl⟩, ?_⟩
  refine lc_M walk_list ls (by simp [refs]) (by unfold refs; rw [List.length_map]; exact Nat.lt_of_le_of_lt h1 (by decide)) (fun z => .ref z.1) (fun G e => e.seqL hl) ?_ ?_
  · rintro i z G x G' R hz e ⟨rfl, hx⟩ hR
    obtain ⟨z2, hz2, rfl⟩ := map_get hx
    obtain rfl := Option.some.inj (hz.symm.trans hz2)
    repeat tb_rel
    refine ⟨rfl, ?_⟩
    repeat tb_rel
    exact .inr ⟨z.1, _, rfl, e.seqT (hrs z (List.mem_of_getElem? hz)), hR _ (Same.refl _)⟩
  · intro D H4 hD e4 h4
    repeat tb_rel
    have hrs4 := hrs.same e4
    refine r_len (.inl (.of h4)) ?_
    repeat tb_rel
    rw [List.length_map]
    refine ite_d (fun h => absurd h (by omega)) fun _ => ?_
    repeat tb_rel
    refine ⟨D, ls, rfl, .of h4, hrs4, by omega, fun n ⟨L, hn, hL⟩ => ?_⟩
    repeat tb_rel
    refine r_len (.inl (.of h4)) ?_
    repeat tb_rel
    rw [List.length_map]
    have hge : ls.length ≤ n := by
      rw [hn, ← List.length_map (as := ls) (·.2), ← List.length_map (as := L) (·.2)]
      exact nodup_lenI h2 fun x hx => by
        obtain ⟨p, hp, rfl⟩ := List.mem_map.1 hx
        exact hL p hp
    refine ite_d (fun h => absurd h (by omega)) fun _ => ?_
    repeat tb_rel
    refine ⟨_, rfl, ⟨_, .of h4⟩, ?_⟩
    refine lc_M walk_list ls (by simp) (by rw [List.length_map]; exact Nat.lt_of_le_of_lt h1 (by decide)) (fun _ => .bl true) (fun G e => .of (e _ _ h4)) ?_ ?_
    · rintro i z G x G' R hz e ⟨rfl, hx⟩ hR
      obtain ⟨z2, hz2, rfl⟩ := map_get hx
      obtain rfl := Option.some.inj (hz.symm.trans hz2)
      have hm := List.mem_of_getElem? hz
      repeat tb_rel
      refine ⟨rfl, ?_⟩
      repeat tb_rel
      exact ⟨rfl, z.1, z.2, rfl, e.seqT (hrs4 z hm), h3 z hm, fun H5 e5 => hR H5 e5⟩
    · intro D5 H5 hD5 e5 h5
      repeat tb_rel
      refine ⟨D5, ls.map fun _ => true, rfl, .of (by rw [h5, List.map_map]; rfl), ?_⟩
      rw [show ((ls.map fun _ => true).all id) = true by
        rw [List.all_eq_true]
        intro b hb
        obtain ⟨_, _, rfl⟩ := List.mem_map.1 hb
        rfl]
      repeat tb_rel
      refine iteF ?_
      repeat tb_rel
      exact k H5 (e4.trans e5)
end
end Mg
/-! T2 -/
namespace L2
open PySem PySem.Spec PyProof.Rows
section
variable {K : PySem.W.Frag} {p : Addr} {H G : Hp} {C dx : Addr} {fs : List (Str × V)} {xs : List V} {l T : Addr}
theorem but_at {o : HO} (e : SameBut p H G) (hp : H p = some (.ins C dx fs)) (h : H l = some o) (n : ∀ C dx fs, o ≠ .ins C dx fs) : G l = some o :=
  e l o (fun z => by rw [z, hp] at h; cases h; exact n _ _ _ rfl) h
theorem but_ins {C' dx' : Addr} {fs' : List (Str × V)} (e : SameBut p H G) (hp : H p = some (.ins C dx fs)) (h : H l = some (.ins C' dx' fs')) (n : fs' ≠ fs) : G l = some (.ins C' dx' fs') :=
  e l _ (ins_ne h hp n) h
theorem but_seqT (e : SameBut p H G) (hp : H p = some (.ins C dx fs)) (h : SqT K H T xs) : SqT K G T xs := by
  rcases h with (h | ⟨o, h⟩) | h
  · exact .inl (.inl (but_at e hp h fun _ _ _ z => by cases z))
  · exact .inl (.inr ⟨o, but_at e hp h fun _ _ _ z => by cases z⟩)
  · exact .inr h
theorem but_seqL (e : SameBut p H G) (hp : H p = some (.ins C dx fs)) (h : SqL K H T xs) : SqL K G T xs := by
  rcases h with (h | ⟨o, h⟩) | h
  · exact .inl (.inl (but_at e hp h fun _ _ _ z => by cases z))
  · exact .inl (.inr ⟨o, but_at e hp h fun _ _ _ z => by cases z⟩)
  · exact .inr h
end
end L2
namespace Mg
open PySem PySem.Spec PyProof.Rows L2
structure TSpec where
  names : List Str
  rs : List Road
  src : Str
  ears : List Str
  m : Nat
  gone : List (List Int)
  q : Int
structure TSpec.Ok (T : TSpec) : Prop where
  acyc : Acyc T.names T.rs
  src : T.src ∈ T.names
  ears : ∀ e ∈ T.ears, e ∈ T.names
  earsNd : T.ears.Nodup
  earsLen : 1 ≤ T.ears.length ∧ T.ears.length ≤ 4
  srcEar : ¬ T.src ∈ T.ears
  m : 1 ≤ T.m ∧ T.m ≤ 4
  gone : T.gone.length ≤ 3 ∧ T.gone.Nodup ∧ ∀ z ∈ T.gone, LossOk z
  goneIn : ∀ z ∈ T.gone, ∀ x ∈ z, MarkIn x T.rs
  q : Fq T.q
  others : ∀ r ∈ T.rs, r.other ∈ T.names
  txt : ∀ n ∈ T.names, PyData.strOk n = true
abbrev kT (K : PySem.W.Frag) : Addr := He.ga K "Task"
def fT (rk f wb : Addr) (src : Str) (er : Addr) (m : Nat) (gn : Addr) : List (Str × V) := [("rank_of", .ref rk), ("field_of", .ref f), ("web", .ref wb), ("start", .str src), ("ears", .ref er), ("many", .int (m : Nat)), ("gone", .ref gn)]
structure TaskOk (K : PySem.W.Frag) (H : Hp) (p : Addr) (T : TSpec) (dx rk f wb er gn : Addr) (told : List Str) (gs : List (Addr × List Int)) : Prop where
  self : H p = some (.ins (kT K) dx (fT rk f wb T.src er T.m gn))
  rk : H rk = some (.lst (told.map V.str))
  tok : Told T.names T.rs told
  all : ∀ n ∈ T.names, n ∈ told
  fld : FieldAt K H f T.q
  web : NetAt K H wb T.names T.rs
  ear : H er = some (.lst (T.ears.map V.str))
  gon : H gn = some (.lst (refs gs))
  rows : RowsAt K H gs
  geq : T.gone = gs.map (·.2)
  ok : T.Ok
def TaskAt (K : PySem.W.Frag) (H : Hp) (p : Addr) (T : TSpec) : Prop := ∃ dx rk f wb er gn told gs, TaskOk K H p T dx rk f wb er gn told gs
theorem TaskOk.same {K : PySem.W.Frag} {H H' : Hp} {p : Addr} {T : TSpec} {dx rk f wb er gn : Addr} {told : List Str} {gs : List (Addr × List Int)} (t : TaskOk K H p T dx rk f wb er gn told gs) (e : Same H H') : TaskOk K H' p T dx rk f wb er gn told gs :=
  ⟨e _ _ t.self, e _ _ t.rk, t.tok, t.all, t.fld.same e, t.web.same e, e _ _ t.ear, e _ _ t.gon, t.rows.same e, t.geq, t.ok⟩
theorem TaskAt.same {K : PySem.W.Frag} {H H' : Hp} {p : Addr} {T : TSpec} (t : TaskAt K H p T) (e : Same H H') : TaskAt K H' p T := let ⟨dx, rk, f, wb, er, gn, told, gs, h⟩ := t; ⟨dx, rk, f, wb, er, gn, told, gs, h.same e⟩
theorem NetAt.but {K : PySem.W.Frag} {H G : Hp} {p n : Addr} {C dx : Addr} {names : List Str} {rs : List Road} {fs : List (Str × V)} (h : NetAt K H n names rs) (hp : H p = some (.ins C dx fs)) (hf : ∀ dN dR, fN dN dR ≠ fs) (e : SameBut p H G) : NetAt K G n names rs := by
  obtain ⟨dx, dN, dR, zs, h⟩ := h
  refine ⟨dx, dN, dR, zs, but_ins e hp h.self (hf _ _), but_at e hp h.nam (fun _ _ _ z => by cases z), but_at e hp h.roa (fun _ _ _ z => by cases z), fun z hz => but_seqT e hp (h.tup z hz), h.eq, h.asc, h.nd, h.few, h.dd⟩
section
variable {P : Program} {w : World} {K : PySem.W.Frag} {mg : Str → Option Value} {base : Heap}
theorem sc_Task_init : FnScope ["self", "net", "source", "hearers", "letters", "losses", "size", "name", "lines", "number"] ["self", "net", "source", "hearers", "letters", "losses", "size"] d_Task_init.scope := ⟨rfl, rfl, rfl, by decide +kernel, rfl, by decide +kernel, by decide +kernel⟩
def sp_Task_init (K : PySem.W.Frag) : Sp := SpN 7 fun vs H Q => ∃ p dx n er ls gs T, vs = [.ref p, .ref n, .str T.src, .ref er, .int (T.m : Nat), .ref ls, .int T.q] ∧ H p = some (.ins (kT K) dx []) ∧ NetAt K H n T.names T.rs ∧ H er = some (.lst (T.ears.map V.str)) ∧
  H ls = some (.lst (refs gs)) ∧ RowsAt K H gs ∧ T.gone = gs.map (·.2) ∧ T.Ok ∧ ∀ H', SameBut p H H' → TaskAt K H' p T → Q .non H'
theorem raw_Task_init (S : Says K mg) {fd : FuncData} (F : FunD K d_Task_init.name d_Task_init.qual d_Task_init.params d_Task_init.body d_Task_init.scope (d_Task_init.dvs K) (d_Task_init.kws K) (He.fAd K d_Task_init.at_) fd) :
    FnOk P w K mg base CX0 5 (He.fAd K d_Task_init.at_) fd ["self", "net", "source", "hearers", "letters", "losses", "size"] (sp_Task_init K) := by
  refine fn_ok F sc_Task_init rfl fun cdv A outer s H vs Q E hr h => ?_
  obtain ⟨p, dx, n, er, ls, gs, T, rfl, hp, hn, her, hls, hgs, hgeq, ok, k⟩ := h
  obtain ⟨fdF, FF⟩ := f_Field_init S
  obtain ⟨dsF, rF, bF⟩ := FF.binds1 (ps := ["self", "size"]) 2 1 (fun z => by cases z) rfl (fun T kV doc pm an cdv ct us its hu hi => match us, hu, its, hi with | [_, _], _, [_], _ => ⟨_, rfl, rfl⟩)
  refine ⟨_, (pss_cons (ps_fldK K (pv 0) (pm0 (ok_Net_order (K := K) S) (hr.mono (by decide)) (c_Net (K := K) S) (m_Net_order (K := K) S) (pv 1)) rfl) (pss_cons (ps_expr (pm (ok_Net_need_house (K := K) S) (hr.mono (by decide)) (c_Net (K := K) S) (m_Net_need_house (K := K) S) (pv 1) (pa_cons (pv 2) pa_nil))) (pss_cons (ps_if (PW.pt (pw_or (pt_not (pt_chain op_le op_le pe_int (pe_callB (call_len_seqK K) (by rfl) (n_len S) PySem.boot_len (pa_cons (pv 3) pa_nil)) (pe_gI (i_MOST_HEARERS S) rfl))) (pw_or (pt_cmpR op_lt (pe_lenSetS K rfl rfl (n_len S) rfl (n_set S) (pv 3)) (pe_callB (call_len_seqK K) (by rfl) (n_len S) PySem.boot_len (pa_cons (pv 3) pa_nil)) (nomark _)) (pw_or1 (pt_cmpR (op_in_seqK K) (pv 2) (pv 3) rfl))))) (pss_one ps_never) pss_nil) (pss_cons (ps_for PassesOwn.never rfl (pi_listK K (pv 3)) (pg_name (i := 7) sc_Task_init.nd rfl (by first | exact Or.inl rfl | exact Or.inr rfl)) (pss_one (ps_expr (pm (ok_Net_need_house (K := K) S) (hr.mono (by decide)) (c_Net (K := K) S) (m_Net_need_house (K := K) S) (pv 1) (pa_cons (pv 7) pa_nil))))) (pss_cons (ps_expr (pc (ok_need_letters (K := K) S) (hr.mono (by decide)) (g_need_letters S) (f_need_letters S).choose_spec.kp rfl (pa_cons (pv 4) pa_nil))) (pss_cons (ps_expr (pc (ok_need_losses (K := K) S) (hr.mono (by decide)) (g_need_losses S) (f_need_losses S).choose_spec.kp rfl (pa_cons (pv 5) pa_nil))) (pss_cons (ps_for PassesOwn.never rfl (pi_listK K (pv 5)) (pg_name (i := 8) sc_Task_init.nd rfl (by first | exact Or.inl rfl | exact Or.inr rfl)) (pss_one (ps_for PassesOwn.never rfl (pi_tupK K (pv 8)) (pg_name (i := 9) sc_Task_init.nd rfl (by first | exact Or.inl rfl | exact Or.inr rfl)) (pss_one (ps_expr (pm (ok_Net_need_line (K := K) S) (hr.mono (by decide)) (c_Net (K := K) S) (m_Net_need_line (K := K) S) (pv 1) (pa_cons (pv 9) pa_nil))))))) (pss_cons (ps_fldK K (pv 0) (pe_make (k_Field (K := K) S) (raw_Field_init S FF) (hr.mono (by decide)) rfl (g_Field S) bF rF pass0 (pa_cons (pv 6) pa_nil)) rfl) (pss_cons (ps_fldK K (pv 0) (pm0 (ok_Net_twin (K := K) S) (hr.mono (by decide)) (c_Net (K := K) S) (m_Net_twin (K := K) S) (pv 1)) rfl) (pss_cons (ps_fldK K (pv 0) (pv 2) rfl) (pss_cons (ps_fldK K (pv 0) (pe_callTy (call_list_ofK K) (by rfl) (n_list S) (by decide +kernel) (pa_cons (pv 3) pa_nil)) rfl) (pss_cons (ps_fldK K (pv 0) (pv 4) rfl) (pss_one (ps_fldK K (pv 0) (pe_lc (own := [("lines", 8)]) rfl sc_Task_init.nd (pi_listK K (pv 5)) (blkOk_by (N := ["self", "net", "source", "hearers", "letters", "losses", "size", "name", "lines", "number"]) (sc := d_Task_init.scope) (by decide +kernel)) (fun _ _ _ _ _ => (pg_name (i := 8) sc_Task_init.nd rfl (by first | exact Or.inl rfl | exact Or.inr rfl))) (fun _ _ _ _ _ => pts_nil) (fun _ _ _ _ _ => (pe_tupleOfK K rfl (n_tuple S) (pv 8)))) rfl)))))))))))))), ?_⟩
  repeat tb_rel
  obtain ⟨dxn, dN, dR, zs, no⟩ := id hn
  refine r_Mv no.self rfl ?_
  repeat tb_rel
  refine ⟨rfl, n, T.names, T.rs, rfl, hn, ok.acyc, fun D H1 told hD e1 h1 htold hall => ?_⟩
  repeat tb_rel
  refine r_fldP (e1 _ _ hp) (c_Task S) (a_Task_rank_of S) (by decide) ?_
  repeat tb_rel
  have b1 : SameBut p H (upd H1 p (.ins (He.ga K "Task") dx (putF "rank_of" (.ref D) []))) := (SameBut.of e1).put
  have hDp : D ≠ p := ne_of h1 (e1 _ _ hp) (by intro z; cases z)
  have hG1p : upd H1 p (.ins (He.ga K "Task") dx (putF "rank_of" (.ref D) [])) p = some (.ins (kT K) dx [("rank_of", .ref D)]) := upd_same
  have hG1D : upd H1 p (.ins (He.ga K "Task") dx (putF "rank_of" (.ref D) [])) D = some (.lst (told.map V.str)) := by
    rw [upd_ne hDp]
    exact h1
  generalize hG1 : upd H1 p (.ins (He.ga K "Task") dx (putF "rank_of" (.ref D) [])) = G1 at b1 hG1p hG1D
  have hn1 : NetAt K G1 n T.names T.rs := hn.but hp (fun _ _ z => by cases z) b1
  have hnm := but_ins b1 hp no.self (fun z => by cases z)
  have her1 := but_at b1 hp her (fun _ _ _ z => by cases z)
  have hls1 := but_at b1 hp hls (fun _ _ _ z => by cases z)
  have hgs1 : RowsAt K G1 gs := fun z hz => but_seqT b1 hp (hgs z hz)
  refine r_Mv hnm rfl ?_
  repeat tb_rel
  refine ⟨rfl, n, T.names, T.rs, _, rfl, hn1, ok.src, ?_⟩
  repeat tb_rel
  refine r_len (.inl (.of her1)) ?_
  repeat tb_rel
  rw [List.length_map]
  have hel := ok.earsLen
  refine ite_d (fun _ => ?_) fun h => absurd (by omega) h
  repeat tb_rel
  refine ite_n (fun h => absurd (by omega) h) fun _ => ?_
  repeat tb_rel
  refine ⟨er, T.ears, rfl, .of her1, ok.earsNd, by omega, ?_⟩
  repeat tb_rel
  refine r_len (.inl (.of her1)) ?_
  repeat tb_rel
  rw [List.length_map]
  refine ite_d (fun h => absurd h (by omega)) fun _ => ?_
  repeat tb_rel
  refine r_in (.inl (.of her1)) rfl (flat_str T.ears) ?_
  rw [inV_str]
  repeat tb_rel
  refine ite_d (fun h => absurd h ok.srcEar) fun _ => ?_
  repeat tb_rel
  refine ⟨_, rfl, ⟨_, .of her1⟩, ?_⟩
  refine for_B (walk_list (xs := T.ears.map V.str)) (fun i σ G => ∃ x7, σ = [some (.ref p), some (.ref n), some (.str T.src), some (.ref er), some (.int (T.m : Nat)), some (.ref ls), some (.int T.q), x7, none, none] ∧ G = G1)
    ⟨_, rfl, rfl⟩ (fun i σ G _ ⟨_, _, e⟩ => by rw [e]; exact .of her1) ?_ ?_
  · rintro i v σ G G' hi ⟨x7, rfl, rfl⟩ ⟨rfl, hv⟩
    obtain ⟨y, hy, rfl⟩ := map_get hv
    repeat tb_rel
    refine r_Mv hnm rfl ?_
    repeat tb_rel
    exact ⟨rfl, n, T.names, T.rs, _, rfl, hn1, ok.ears y (List.mem_of_getElem? hy), _, rfl, rfl⟩
  rintro σ Ga ⟨x7, rfl, rfl⟩
  repeat tb_rel
  refine ⟨rfl, _, rfl, by have := ok.m; omega, by have := ok.m; omega, ?_⟩
  repeat tb_rel
  have hlo : LossesOk gs := by
    have := ok.gone
    rw [hgeq] at this
    refine ⟨by have := this.1; rwa [List.length_map] at this, this.2.1, fun z hz => this.2.2 _ (List.mem_map.2 ⟨z, hz, rfl⟩)⟩
  refine ⟨rfl, ls, gs, rfl, .of hls1, hgs1, hlo, fun G2 e2 => ?_⟩
  repeat tb_rel
  have hls2 := e2 _ _ hls1
  have hgs2 := hgs1.same e2
  have hn2 := hn1.same e2
  have hnm2 := e2 _ _ hnm
  refine ⟨_, rfl, ⟨_, .of hls2⟩, ?_⟩
  refine for_B (walk_list (xs := refs gs)) (fun i σ G => ∃ x7 x8 x9, σ = [some (.ref p), some (.ref n), some (.str T.src), some (.ref er), some (.int (T.m : Nat)), some (.ref ls), some (.int T.q), x7, x8, x9] ∧ G = G2)
    ⟨_, _, _, rfl, rfl⟩ (fun i σ G _ ⟨_, _, _, _, e⟩ => by rw [e]; exact .of hls2) ?_ ?_
  · rintro i v σ G G' hi ⟨x7, x8, x9, rfl, rfl⟩ ⟨rfl, hv⟩
    obtain ⟨z, hz, rfl⟩ := map_get hv
    have hzm := List.mem_of_getElem? hz
    repeat tb_rel
    refine ⟨_, rfl, ⟨_, hgs2 z hzm⟩, ?_⟩
    refine for_B (walk_tup (xs := z.2.map V.int)) (fun i σ G => ∃ x9, σ = [some (.ref p), some (.ref n), some (.str T.src), some (.ref er), some (.int (T.m : Nat)), some (.ref ls), some (.int T.q), x7, some (.ref z.1), x9] ∧ G = G')
      ⟨_, rfl, rfl⟩ (fun i σ G _ ⟨_, _, e⟩ => by rw [e]; exact hgs2 z hzm) ?_ ?_
    · rintro j v σ G G3 hj ⟨x9, rfl, rfl⟩ ⟨rfl, hv⟩
      obtain ⟨y, hy, rfl⟩ := map_get hv
      repeat tb_rel
      refine r_Mv hnm2 rfl ?_
      repeat tb_rel
      exact ⟨rfl, n, T.names, T.rs, y, rfl, hn2, ok.goneIn z.2 (by rw [hgeq]; exact List.mem_map.2 ⟨z, hzm, rfl⟩) y (List.mem_of_getElem? hy), _, rfl, rfl⟩
    · rintro σ G ⟨x9, rfl, rfl⟩
      exact ⟨_, _, _, rfl, rfl⟩
  rintro σ Gb ⟨x7, x8, x9, rfl, rfl⟩
  repeat tb_rel
  intro f dxf hf hdxf hne
  refine ⟨rfl, f, dxf, T.q, rfl, upd_same, ok.q, fun G3 e3 hF3 => ⟨rfl, ?_⟩⟩
  repeat tb_rel
  have e3 : Same Gb G3 := SameBut.new hf hdxf e3
  have hp3 := e3 _ _ (e2 _ _ hG1p)
  refine r_fldP hp3 (c_Task S) (a_Task_field_of S) (Nat.le_of_ble_eq_true rfl) ?_
  repeat tb_rel
  have b4 : SameBut p H (upd G3 p (.ins (He.ga K "Task") dx (putF "field_of" (.ref f) [("rank_of", .ref D)]))) := ((b1.trans (SameBut.of e2)).trans (SameBut.of e3)).put
  have hn4 := hn.but hp (fun _ _ z => by cases z) b4
  have hnm4 := but_ins b4 hp no.self (fun z => by cases z)
  refine r_Mv hnm4 rfl ?_
  repeat tb_rel
  refine ⟨rfl, n, T.names, T.rs, rfl, hn4, fun wb G5 e5 hw5 => ?_⟩
  repeat tb_rel
  have hp5 := e5 _ _ (upd_same (H := G3) (a := p) (o := .ins (He.ga K "Task") dx (putF "field_of" (.ref f) [("rank_of", .ref D)])))
  refine r_fldP hp5 (c_Task S) (a_Task_web S) (Nat.le_of_ble_eq_true rfl) ?_
  repeat tb_rel
  refine r_fldP upd_same (c_Task S) (a_Task_start S) (Nat.le_of_ble_eq_true rfl) ?_
  repeat tb_rel
  have b6 : ∀ o o', SameBut p G5 (upd (upd G5 p o) p o') := fun o o' => ((SameBut.of (Same.refl G5)).put).put
  have b56 : SameBut p H G5 := b4.trans (SameBut.of e5)
  have her6 := fun o o' => but_at (b56.trans (b6 o o')) hp her (fun _ _ _ z => by cases z)
  refine ⟨er, _, rfl, .inl (.of (her6 _ _)), fun er2 hE => ?_⟩
  repeat tb_rel
  refine r_fldP (Same.new hE _ _ upd_same) (c_Task S) (a_Task_ears S) (Nat.le_of_ble_eq_true rfl) ?_
  repeat tb_rel
  refine r_fldP upd_same (c_Task S) (a_Task_many S) (Nat.le_of_ble_eq_true rfl) ?_
  repeat tb_rel
  have hEp : er2 ≠ p := fun z => by
    rw [z, upd_same] at hE
    cases hE
  have bX0 := (b6 (.ins (He.ga K "Task") dx (putF "web" (.ref wb) (putF "field_of" (.ref f) [("rank_of", .ref D)]))) (.ins (He.ga K "Task") dx (putF "start" (.str T.src) (putF "web" (.ref wb) (putF "field_of" (.ref f) [("rank_of", .ref D)]))))).trans (SameBut.of (Same.new hE (o := .lst (T.ears.map V.str))))
  have bX := (SameBut.put (o := .ins (He.ga K "Task") dx (putF "ears" (.ref er2) (putF "start" (.str T.src) (putF "web" (.ref wb) (putF "field_of" (.ref f) [("rank_of", .ref D)]))))) bX0).put (o := .ins (He.ga K "Task") dx (putF "many" (.int (T.m : Nat)) (putF "ears" (.ref er2) (putF "start" (.str T.src) (putF "web" (.ref wb) (putF "field_of" (.ref f) [("rank_of", .ref D)]))))))
  generalize hX : upd (upd (upd (upd (upd G5 p (.ins (He.ga K "Task") dx (putF "web" (.ref wb) (putF "field_of" (.ref f) [("rank_of", .ref D)])))) p (.ins (He.ga K "Task") dx (putF "start" (.str T.src) (putF "web" (.ref wb) (putF "field_of" (.ref f) [("rank_of", .ref D)]))))) er2 (.lst (T.ears.map V.str))) p (.ins (He.ga K "Task") dx (putF "ears" (.ref er2) (putF "start" (.str T.src) (putF "web" (.ref wb) (putF "field_of" (.ref f) [("rank_of", .ref D)])))))) p (.ins (He.ga K "Task") dx (putF "many" (.int (T.m : Nat)) (putF "ears" (.ref er2) (putF "start" (.str T.src) (putF "web" (.ref wb) (putF "field_of" (.ref f) [("rank_of", .ref D)])))))) = X at bX
  have hXp : X p = some (.ins (kT K) dx [("rank_of", .ref D), ("field_of", .ref f), ("web", .ref wb), ("start", .str T.src), ("ears", .ref er2), ("many", .int (T.m : Nat))]) := by
    rw [← hX]
    exact upd_same
  have hXe : X er2 = some (.lst (T.ears.map V.str)) := by
    rw [← hX, upd_ne hEp, upd_ne hEp]
    exact upd_same
  have bHX : SameBut p H X := b56.trans bX
  have hlsX := but_at bHX hp hls (fun _ _ _ z => by cases z)
  have hgsX : RowsAt K X gs := fun z hz => but_seqT bHX hp (hgs z hz)
  refine ⟨_, rfl, ⟨_, .of (by first | exact hlsX | (rw [← hX] at hlsX; exact hlsX))⟩, ?_⟩
  have hl3 := hlo.1
  refine lc_M (walk_list (xs := refs gs)) gs (by simp [refs]) (by unfold refs; rw [List.length_map]; exact Nat.lt_of_le_of_lt hl3 (by decide)) (fun z => .ref z.1) (fun G e => .of (e _ _ (by first | exact hlsX | (rw [← hX] at hlsX; exact hlsX)))) ?_ ?_
  · rintro i z G x G' R hz e ⟨rfl, hx⟩ hR
    obtain ⟨z2, hz2, rfl⟩ := map_get hx
    obtain rfl := Option.some.inj (hz.symm.trans hz2)
    repeat tb_rel
    refine ⟨rfl, ?_⟩
    repeat tb_rel
    exact .inr ⟨z.1, _, rfl, e.seqT (by first | exact hgsX z (List.mem_of_getElem? hz) | (rw [← hX] at hgsX; exact hgsX z (List.mem_of_getElem? hz))), hR _ (Same.refl _)⟩
  · intro gn H9 hgn e9 h9
    have e9 : Same X H9 := by first | exact e9 | (rw [← hX]; exact e9)
    have hp9 := e9 _ _ hXp
    repeat tb_rel
    refine r_fldP hp9 (c_Task S) (a_Task_gone S) (Nat.le_of_ble_eq_true rfl) ?_
    repeat tb_rel
    have b9 : ∀ o, SameBut p H (upd H9 p o) := fun o => (bHX.trans (SameBut.of e9)).put
    have b59 : ∀ o, SameBut p G5 (upd H9 p o) := fun o => (bX.trans (SameBut.of e9)).put
    have b19 : ∀ o, SameBut p Ga (upd H9 p o) := fun o => (((SameBut.of e2).trans (SameBut.of e3)).trans ((SameBut.put (SameBut.of (Same.refl G3))).trans (SameBut.of e5))).trans (b59 o)
    refine k _ (b9 _) ⟨dx, D, f, wb, er2, gn, told, gs, upd_same, ?_, htold, hall, ?_, ?_, ?_, ?_, ?_, hgeq, ok⟩
    · exact but_at (b19 _) hG1p hG1D (fun _ _ _ z => by cases z)
    · obtain ⟨d3, hf3, hq3⟩ := hF3
      have hG3p : G3 p = some (.ins (kT K) dx [("rank_of", .ref D)]) := hp3
      exact ⟨d3, but_ins (((SameBut.put (SameBut.of (Same.refl G3))).trans (SameBut.of e5)).trans (b59 _)) hG3p hf3 (fun z => by have := congrArg List.length z; simp [fF] at this), hq3⟩
    · exact hw5.but hp5 (fun _ _ z => absurd (show some ("named" : Str) = some ("rank_of" : Str) from congrArg (fun l => l.head?.map (·.1)) z) (by decide)) (b59 _)
    · rw [upd_ne hEp]
      exact e9 _ _ hXe
    · rw [upd_ne (ne_of h9 hp9 (by intro z; cases z)), h9]
      rfl
    · exact fun z hz => but_seqT (b9 _) hp (hgs z hz)
end
end Mg
/-! T3 -/
namespace L2
open PySem PySem.Spec PyProof.Rows
def Acc {β : Type} (E : β → Hp → V → Prop) (cs : List β) (acc : List V) (H : Hp) : Prop := acc.length = cs.length ∧ ∀ (j : Nat) (c : β) (v : V), cs[j]? = some c → acc[j]? = some v → E c H v
theorem Acc.snoc {β : Type} {E : β → Hp → V → Prop} {cs : List β} {acc : List V} {H : Hp} {c : β} {v : V} (a : Acc E cs acc H) (h : E c H v) : Acc E (cs ++ [c]) (acc ++ [v]) H := by
  refine ⟨by rw [List.length_append, List.length_append, a.1]; rfl, fun j c' v' h1 h2 => ?_⟩
  by_cases hj : j < acc.length
  · rw [List.getElem?_append_left hj] at h2
    rw [List.getElem?_append_left (by rw [← a.1]; exact hj)] at h1
    exact a.2 j c' v' h1 h2
  · rw [List.getElem?_append_right (by omega)] at h2
    rw [List.getElem?_append_right (by rw [← a.1]; omega), ← a.1] at h1
    cases hk : j - acc.length with
    | zero =>
      rw [hk] at h1 h2
      cases h1
      cases h2
      exact h
    | succ k =>
      rw [hk] at h1
      cases h1
theorem Acc.imp {β : Type} {E : β → Hp → V → Prop} {cs : List β} {acc : List V} {H H' : Hp} (a : Acc E cs acc H) (h : ∀ c v, E c H v → E c H' v) : Acc E cs acc H' := ⟨a.1, fun j c v h1 h2 => h c v (a.2 j c v h1 h2)⟩
def InB (J1 : It) (g1 : TG) (tt1 : TT) (te : TE) (vs1 : List Nat) (D : Addr) (σ2 : St) (H4 : Hp) (Nx : Hp → Prop) : Prop := ∃ W1 : Nat → Nat → Hp → Prop, (∃ m, W1 0 m H4) ∧ ∀ j k H, W1 j k H →
  (J1.stop j H ∧ Nx H) ∨ (J1.go j H ∧ ∃ Nx1 : Hp → Prop, (∀ H', Nx1 H' → ∃ k', k' < k ∧ W1 (j + 1) k' H') ∧ ∀ x H', J1.yld j H x H' → g1 x (wipe σ2 vs1) H' fun σ3 H5 => wipe σ3 vs1 = wipe σ2 vs1 ∧ tt1 σ3 H5 fun b H6 =>
    if b = true then te σ3 H6 fun y H7 => ∃ acc, H7 D = some (.lst acc) ∧ acc.length < sizeLine ∧ Nx1 (upd H7 D (.lst (acc ++ [y]))) else Nx1 H6)
def Lc2B (J : It) (g : TG) (tt : TT) (wi1 : TI) (g1 : TG) (tt1 : TT) (te : TE) (vs vs1 : List Nat) (σ : St) (H1 : Hp) (Q : VK) : Prop := ∀ D, H1 D = none → ∃ W : Nat → Nat → Hp → Prop, (∃ m, W 0 m (upd H1 D (.lst []))) ∧ ∀ i m H, W i m H →
  (J.stop i H ∧ Q (.ref D) H) ∨ (J.go i H ∧ ∃ Nx : Hp → Prop, (∀ H', Nx H' → ∃ m', m' < m ∧ W (i + 1) m' H') ∧ ∀ x H', J.yld i H x H' → g x (wipe σ vs) H' fun σ2 H2 => wipe σ2 vs = wipe σ vs ∧ tt σ2 H2 fun b H3 =>
    if b = true then wi1 σ2 H3 fun J1 H4 => InB J1 g1 tt1 te vs1 D σ2 H4 Nx else Nx H3)
theorem r_lc2 {wi : TI} {g : TG} {tt : TT} {wi1 : TI} {g1 : TG} {tt1 : TT} {te : TE} {vs vs1 : List Nat} {σ : St} {H : Hp} {Q : VK} (h : wi σ H fun J H1 => Lc2B J g tt wi1 g1 tt1 te vs vs1 σ H1 Q) : tLc2 wi g tt wi1 g1 tt1 te vs vs1 σ H Q := h
end L2
local macro_rules | `(tactic| tb_rel) => `(tactic| with_reducible refine L2.r_lc2 ?_)
namespace L2
open PySem PySem.Spec PyProof.Rows
theorem SameBut.same {D : Addr} {H1 H : Hp} (h : H1 D = none) (e : SameBut D H1 H) : Same H1 H := fun b o q => e b o (ne_of_none q h) q
section
variable {α β : Type} {E : β → Hp → V → Prop}
theorem in_E {J1 : It} {n1 : Nat} {G1 : Hp → Prop} {Y1 : Nat → Hp → V → Hp → Prop} (w : Walk J1 n1 G1 Y1) {g1 : TG} {te : TE} {vs1 : List Nat} {D : Addr} {σ2 : St} {H4 : Hp} {Nx : Hp → Prop}
    (mono : ∀ c S S' v, Same S S' → E c S v → E c S' v) (hput : ∀ c S v D l l', S D = some (.lst l) → E c S v → E c (upd S D (.lst l')) v) (pre ys : List β) (hn : ys.length = n1) (hz : pre.length + n1 < sizeLine) {acc0 : List V}
    (hD : H4 D = some (.lst acc0)) (hA : Acc E pre acc0 H4) (hG : ∀ H, SameBut D H4 H → G1 H)
    (hs : ∀ j b H x H' (R : V → Hp → Prop), ys[j]? = some b → SameBut D H4 H → Y1 j H x H' → (∀ v H5, Same H H5 → E b H5 v → R v H5) → g1 x (wipe σ2 vs1) H' fun σ3 H5 => wipe σ3 vs1 = wipe σ2 vs1 ∧ te σ3 H5 R)
    (hd : ∀ H acc, SameBut D H4 H → H D = some (.lst acc) → Acc E (pre ++ ys) acc H → Nx H) : InB J1 g1 tYes te vs1 D σ2 H4 Nx := by
  refine ⟨fun j k H => k = n1 - j ∧ j ≤ n1 ∧ ∃ acc, SameBut D H4 H ∧ H D = some (.lst acc) ∧ Acc E (pre ++ ys.take j) acc H, ⟨n1, by simp, Nat.zero_le _, acc0, SameBut.of (Same.refl _), hD, by simpa using hA⟩, ?_⟩
  rintro j k H ⟨rfl, hj, acc, e, hl, ha⟩
  by_cases hlt : j < n1
  · refine .inr ⟨w.goes j H hlt (hG H e), fun H' => j + 1 ≤ n1 ∧ ∃ acc, SameBut D H4 H' ∧ H' D = some (.lst acc) ∧ Acc E (pre ++ ys.take (j + 1)) acc H', fun H' h => ⟨n1 - (j + 1), by omega, rfl, h.1, h.2⟩, fun x H' y => ?_⟩
    have hb : ys[j]? = some (ys[j]'(by omega)) := by simp [show j < ys.length by omega]
    have q := hs j _ H x H' (fun y H7 => ∃ acc, H7 D = some (.lst acc) ∧ acc.length < sizeLine ∧ (j + 1 ≤ n1 ∧ ∃ acc', SameBut D H4 (upd H7 D (.lst (acc ++ [y]))) ∧ (upd H7 D (.lst (acc ++ [y]))) D = some (.lst acc') ∧ Acc E (pre ++ ys.take (j + 1)) acc' (upd H7 D (.lst (acc ++ [y]))))) hb e (w.yields j H x H' hlt (hG H e) y) (fun v H5 e5 hE => ?_)
    · exact q
    · have hl5 := e5 _ _ hl
      have hal : acc.length = pre.length + j := by
        rw [ha.1, List.length_append, List.length_take]
        omega
      refine ⟨acc, hl5, by omega, hlt, _, (e.trans (SameBut.of e5)).put, upd_same, ?_⟩
      rw [take_snoc hb, ← List.append_assoc]
      exact (ha.imp fun c v h => hput c _ v D acc _ hl5 (mono c _ _ v e5 h)).snoc (hput _ _ _ _ _ _ hl5 hE)
  · refine .inl ⟨?_, hd H acc e hl (by rwa [List.take_of_length_le (by omega)] at ha)⟩
    rw [show j = n1 by omega]
    exact w.stops H (hG H e)
theorem lc2_E {It0 : It} {n : Nat} {G : Hp → Prop} {Y : Nat → Hp → V → Hp → Prop} (w : Walk It0 n G Y) {H1 : Hp} {g : TG} {wi1 : TI} {g1 : TG} {te : TE} {vs vs1 : List Nat} {σ : St} {Q : VK}
    (xs : List α) (hn : xs.length = n) (ys : α → List β) (mono : ∀ c S S' v, Same S S' → E c S v → E c S' v) (hput : ∀ c S v D l l', S D = some (.lst l) → E c S v → E c (upd S D (.lst l')) v)
    (hG : ∀ H, Same H1 H → G H)
    (hs : ∀ i a H x H' D acc (Nx : Hp → Prop), xs[i]? = some a → H1 D = none → Same H1 H → H D = some (.lst acc) → Acc E ((xs.take i).flatMap ys) acc H → Y i H x H' →
      (∀ H5 acc5, SameBut D H H5 → H5 D = some (.lst acc5) → Acc E ((xs.take i).flatMap ys ++ ys a) acc5 H5 → Nx H5) →
      g x (wipe σ vs) H' fun σ2 H2 => wipe σ2 vs = wipe σ vs ∧ wi1 σ2 H2 fun J1 H4 => InB J1 g1 tYes te vs1 D σ2 H4 Nx)
    (hd : ∀ (D : Addr) (H' : Hp) (acc : List V), H1 D = none → Same H1 H' → H' D = some (.lst acc) → Acc E (xs.flatMap ys) acc H' → Q (.ref D) H') : Lc2B It0 g tYes wi1 g1 tYes te vs vs1 σ H1 Q := by
  intro D hD
  refine ⟨fun i m H => m = n - i ∧ i ≤ n ∧ ∃ acc, Same H1 H ∧ H D = some (.lst acc) ∧ Acc E ((xs.take i).flatMap ys) acc H, ⟨n, by simp, Nat.zero_le _, [], Same.new hD, upd_same, ⟨rfl, fun j c v h => by rw [List.take_zero] at h; cases h⟩⟩, ?_⟩
  rintro i m H ⟨rfl, hi, acc, e, hl, ha⟩
  by_cases hlt : i < n
  · refine .inr ⟨w.goes i H hlt (hG H e), fun H' => i + 1 ≤ n ∧ ∃ acc, Same H1 H' ∧ H' D = some (.lst acc) ∧ Acc E ((xs.take (i + 1)).flatMap ys) acc H', fun H' h => ⟨n - (i + 1), by omega, rfl, h.1, h.2⟩, fun x H' y => ?_⟩
    have hb : xs[i]? = some (xs[i]'(by omega)) := by simp [show i < xs.length by omega]
    refine hs i _ H x H' D acc _ hb hD e hl ha (w.yields i H x H' hlt (hG H e) y) fun H5 acc5 e5 h5 a5 => ?_
    refine ⟨hlt, acc5, SameBut.same hD ((SameBut.of e).trans e5), h5, ?_⟩
    rw [take_snoc hb, List.flatMap_append]
    simpa using a5
  · refine .inl ⟨?_, hd D H acc hD e hl (by rwa [List.take_of_length_le (by omega)] at ha)⟩
    rw [show i = n by omega]
    exact w.stops H (hG H e)
end
end L2
namespace Mg
open PySem PySem.Spec PyProof.Rows L2
section
variable {P : Program} {w : World} {K : PySem.W.Frag} {mg : Str → Option Value} {base : Heap}
theorem sc_Task_net : FnScope ["self"] ["self"] d_Task_net.scope := ⟨rfl, rfl, rfl, by decide +kernel, rfl, by decide +kernel, by decide +kernel⟩
def sp_Task_net (K : PySem.W.Frag) : Sp := SpN 1 fun vs H Q => ∃ p T, vs = [.ref p] ∧ TaskAt K H p T ∧ ∀ (u : Addr) (H' : Hp), Same H H' → NetAt K H' u T.names T.rs → Q (.ref u) H'
theorem ok_Task_net (S : Says K mg) : Fn P w K mg base 4 (He.fAd K d_Task_net.at_) (sp_Task_net K) := by
  refine fn_body (f_Task_net S) sc_Task_net rfl (fun _ _ _ _ _ _ us hl => match us, hl with | [_], _ => rfl) fun cdv A outer s H vs Q E hr h => ?_
  obtain ⟨p, T, rfl, ⟨dx, rk, f, wb, er, gn, told, gs, t⟩, k⟩ := h
  refine ⟨_, (pss_one (ps_ret (pm0 (ok_Net_twin (K := K) S) (hr.mono (by decide)) (c_Net (K := K) S) (m_Net_twin (K := K) S) (pe_fldK K (pv 0) rfl)))), ?_⟩
  repeat tb_rel
  refine r_fld t.self (c_Task S) (a_Task_web S) rfl ?_
  obtain ⟨dxn, dN, dR, zs, no⟩ := id t.web
  refine r_Mv no.self rfl ?_
  repeat tb_rel
  exact ⟨rfl, wb, _, _, rfl, t.web, k⟩
theorem sc_Task_letters : FnScope ["self"] ["self"] d_Task_letters.scope := ⟨rfl, rfl, rfl, by decide +kernel, rfl, by decide +kernel, by decide +kernel⟩
def sp_Task_letters (K : PySem.W.Frag) : Sp := SpN 1 fun vs H Q => ∃ p T, vs = [.ref p] ∧ TaskAt K H p T ∧ Q (.int (T.m : Nat)) H
theorem ok_Task_letters (S : Says K mg) : Fn P w K mg base 1 (He.fAd K d_Task_letters.at_) (sp_Task_letters K) := by
  refine fn_body (f_Task_letters S) sc_Task_letters rfl (fun _ _ _ _ _ _ us hl => match us, hl with | [_], _ => rfl) fun cdv A outer s H vs Q E hr h => ?_
  obtain ⟨p, T, rfl, ⟨dx, rk, f, wb, er, gn, told, gs, t⟩, k⟩ := h
  refine ⟨_, (pss_one (ps_ret (pe_fldK K (pv 0) rfl))), ?_⟩
  repeat tb_rel
  refine r_fld t.self (c_Task S) (a_Task_many S) rfl ?_
  exact k
theorem sc_Task_field : FnScope ["self"] ["self"] d_Task_field.scope := ⟨rfl, rfl, rfl, by decide +kernel, rfl, by decide +kernel, by decide +kernel⟩
def sp_Task_field (K : PySem.W.Frag) : Sp := SpN 1 fun vs H Q => ∃ p T, vs = [.ref p] ∧ TaskAt K H p T ∧ ∀ f, FieldAt K H f T.q → Q (.ref f) H
theorem ok_Task_field (S : Says K mg) : Fn P w K mg base 1 (He.fAd K d_Task_field.at_) (sp_Task_field K) := by
  refine fn_body (f_Task_field S) sc_Task_field rfl (fun _ _ _ _ _ _ us hl => match us, hl with | [_], _ => rfl) fun cdv A outer s H vs Q E hr h => ?_
  obtain ⟨p, T, rfl, ⟨dx, rk, f, wb, er, gn, told, gs, t⟩, k⟩ := h
  refine ⟨_, (pss_one (ps_ret (pe_fldK K (pv 0) rfl))), ?_⟩
  repeat tb_rel
  refine r_fld t.self (c_Task S) (a_Task_field_of S) rfl ?_
  exact k f t.fld
theorem sc_Task_fed_by : FnScope ["self", "number", "one"] ["self", "number"] d_Task_fed_by.scope := ⟨rfl, rfl, rfl, by decide +kernel, rfl, by decide +kernel, by decide +kernel⟩
/-- the lines into a house -/
def intoM (rs : List Road) (s : Str) : List Int := marks (rs.filter fun r => decide (r.other = s))
def outM (rs : List Road) (s : Str) : List Int := marks (rs.filter fun r => decide (r.one = s))
def sp_fed_by (K : PySem.W.Frag) : Sp := SpN 2 fun vs H Q => ∃ p T r, vs = [.ref p, .int r.mark] ∧ TaskAt K H p T ∧ r ∈ T.rs ∧
  (r.one = T.src → ∀ H', Same H H' → Q .non H') ∧ (¬ r.one = T.src → ∀ (D : Addr) (H' : Hp), H D = none → Same H H' → H' D = some (.lst ((intoM T.rs r.one).map V.int)) → Q (.ref D) H')
theorem ok_Task_fed_by (S : Says K mg) : Fn P w K mg base 4 (He.fAd K d_Task_fed_by.at_) (sp_fed_by K) := by
  refine fn_body (f_Task_fed_by S) sc_Task_fed_by rfl (fun _ _ _ _ _ _ us hl => match us, hl with | [_, _], _ => rfl) fun cdv A outer s H vs Q E hr h => ?_
  obtain ⟨p, T, r, rfl, ⟨dx, rk, f, wb, er, gn, told, gs, t⟩, hrm, k1, k2⟩ := h
  obtain ⟨dxn, dN, dR, zs, no⟩ := id t.web
  refine ⟨_, (pss_cons (ps_set (i := 2) sc_Task_fed_by.nd rfl (by first | exact Or.inl rfl | exact Or.inr rfl) (pe_ix (ix_tupK K) (pm (ok_Net_ends (K := K) S) (hr.mono (by decide)) (c_Net (K := K) S) (m_Net_ends (K := K) S) (pe_fldK K (pv 0) rfl) (pa_cons (pv 1) pa_nil)) pe_int (fun _ _ => rfl))) (pss_one (ps_ret (pe_ifExp (pt_cmpR op_eq (pv 2) (pe_fldK K (pv 0) rfl) (nomark _)) pe_non (pm (ok_Net_into (K := K) S) (hr.mono (by decide)) (c_Net (K := K) S) (m_Net_into (K := K) S) (pe_fldK K (pv 0) rfl) (pa_cons (pv 2) pa_nil)))))), ?_⟩
  repeat tb_rel
  refine r_fld t.self (c_Task S) (a_Task_web S) rfl ?_
  refine r_Mv no.self rfl ?_
  repeat tb_rel
  refine ⟨rfl, wb, _, _, r, rfl, t.web, hrm, fun u hu => ?_⟩
  repeat tb_rel
  refine r_ixT hu (j := 0) rfl rfl ?_
  repeat tb_rel
  refine r_fld t.self (c_Task S) (a_Task_start S) rfl ?_
  repeat tb_rel
  refine ite_d (fun h1 => ?_) fun h1 => ?_
  · repeat tb_rel
    exact k1 h1 H (Same.refl _)
  · repeat tb_rel
    refine r_fld t.self (c_Task S) (a_Task_web S) rfl ?_
    refine r_Mv no.self rfl ?_
    repeat tb_rel
    exact ⟨rfl, wb, _, _, r.one, rfl, t.web, t.ok.acyc.1 r hrm, fun D H' hD e h => k2 h1 D H' hD e h⟩
theorem sc_Task_inputs : FnScope ["self", "number", "fed"] ["self", "number"] d_Task_inputs.scope := ⟨rfl, rfl, rfl, by decide +kernel, rfl, by decide +kernel, by decide +kernel⟩
def inputsN (T : TSpec) (r : Road) : Nat := if r.one = T.src then T.m else (intoM T.rs r.one).length
def sp_inputs (K : PySem.W.Frag) : Sp := SpN 2 fun vs H Q => ∃ p T r, vs = [.ref p, .int r.mark] ∧ TaskAt K H p T ∧ r ∈ T.rs ∧ ∀ H', Same H H' → Q (.int (inputsN T r : Nat)) H'
theorem ok_Task_inputs (S : Says K mg) : Fn P w K mg base 5 (He.fAd K d_Task_inputs.at_) (sp_inputs K) := by
  refine fn_body (f_Task_inputs S) sc_Task_inputs rfl (fun _ _ _ _ _ _ us hl => match us, hl with | [_, _], _ => rfl) fun cdv A outer s H vs Q E hr h => ?_
  obtain ⟨p, T, r, rfl, t0, hrm, k⟩ := h
  obtain ⟨dx, rk, f, wb, er, gn, told, gs, t⟩ := id t0
  refine ⟨_, (pss_cons (ps_set (i := 2) sc_Task_inputs.nd rfl (by first | exact Or.inl rfl | exact Or.inr rfl) (pm (ok_Task_fed_by (K := K) S) (hr.mono (by decide)) (c_Task (K := K) S) (m_Task_fed_by (K := K) S) (pv 0) (pa_cons (pv 1) pa_nil))) (pss_one (ps_ret (pe_ifExp (pt_cmpR op_isN (pv 2) pe_non (nomark _)) (pe_fldK K (pv 0) rfl) (pe_callB (call_len_seqK K) (by rfl) (n_len S) PySem.boot_len (pa_cons (pv 2) pa_nil)))))), ?_⟩
  repeat tb_rel
  refine r_Mv t.self rfl ?_
  repeat tb_rel
  refine ⟨rfl, p, T, r, rfl, t0, hrm, fun h1 H' e => ?_, fun h1 D H' hD e hl => ?_⟩
  · repeat tb_rel
    refine ⟨rfl, ?_⟩
    repeat tb_rel
    refine iteT ?_
    repeat tb_rel
    refine r_fld (e _ _ t.self) (c_Task S) (a_Task_many S) rfl ?_
    have k2 := k H' e
    unfold inputsN at k2
    rw [if_pos h1] at k2
    exact k2
  · repeat tb_rel
    refine ⟨rfl, ?_⟩
    repeat tb_rel
    refine iteF ?_
    repeat tb_rel
    refine r_len (.inl (.of hl)) ?_
    have k2 := k H' e
    unfold inputsN at k2
    rw [if_neg h1] at k2
    rw [List.length_map]
    exact k2
end
end Mg
/-! T4 -/
namespace Mg
open PySem PySem.Spec PyProof.Rows L2
/-- a case at a value -/
def CaseAt (K : PySem.W.Frag) (c : Str × List Int) (H : Hp) (v : V) : Prop := ∃ t l, v = .ref t ∧ SqT K H t [.str c.1, .ref l] ∧ SqT K H l (c.2.map V.int)
def casesF (T : TSpec) : List (Str × List Int) := T.ears.flatMap fun e => ([] :: T.gone).map fun l => (e, l)
section
variable {P : Program} {w : World} {K : PySem.W.Frag} {mg : Str → Option Value} {base : Heap}
theorem CaseAt.mono (c : Str × List Int) (S S' : Hp) (v : V) (e : Same S S') (h : CaseAt K c S v) : CaseAt K c S' v := let ⟨t, l, h1, h2, h3⟩ := h; ⟨t, l, h1, e.seqT h2, e.seqT h3⟩
theorem CaseAt.put (c : Str × List Int) (S : Hp) (v : V) (D : Addr) (l l' : List V) (hl : S D = some (.lst l)) (h : CaseAt K c S v) : CaseAt K c (upd S D (.lst l')) v := let ⟨t, u, h1, h2, h3⟩ := h; ⟨t, u, h1, seqT_putL h2 hl, seqT_putL h3 hl⟩
theorem sc_Task_cases : FnScope ["self", "hearer", "loss"] ["self"] d_Task_cases.scope := ⟨rfl, rfl, rfl, by decide +kernel, rfl, by decide +kernel, by decide +kernel⟩
def sp_cases (K : PySem.W.Frag) : Sp := SpN 1 fun vs H Q => ∃ p T, vs = [.ref p] ∧ TaskAt K H p T ∧ ∀ (D : Addr) (H' : Hp) (us : List V), H D = none → Same H H' → H' D = some (.lst us) → Acc (CaseAt K) (casesF T) us H' → Q (.ref D) H'
theorem ok_Task_cases (S : Says K mg) : Fn P w K mg base 1 (He.fAd K d_Task_cases.at_) (sp_cases K) := by
  refine fn_body (f_Task_cases S) sc_Task_cases rfl (fun _ _ _ _ _ _ us hl => match us, hl with | [_], _ => rfl) fun cdv A outer s H vs Q E hr h => ?_
  obtain ⟨p, T, rfl, ⟨dx, rk, f, wb, er, gn, told, gs, t⟩, k⟩ := h
  refine ⟨_, (pss_one (ps_ret (pe_lc2 (own := [("hearer", 1), ("loss", 2)]) (vs1 := [2]) rfl sc_Task_cases.nd (pi_listK K (pe_fldK K (pv 0) rfl)) (blkOk_by (N := ["self", "hearer", "loss"]) (sc := d_Task_cases.scope) (by decide +kernel)) (by decide) (fun _ _ _ _ _ => (pg_name (i := 1) sc_Task_cases.nd rfl (by first | exact Or.inl rfl | exact Or.inr rfl))) (fun _ _ _ _ _ => pts_nil) (fun _ _ _ _ _ => (pi_listK K (pe_op op_cat (pe_lst (pa_cons (pe_tup pa_nil) pa_nil)) (pe_fldK K (pv 0) rfl)))) (fun _ _ _ _ _ => (pg_name (i := 2) sc_Task_cases.nd rfl (by first | exact Or.inl rfl | exact Or.inr rfl))) (fun _ _ _ _ _ => pts_nil) (fun _ _ _ _ _ => (pe_tup (pa_cons (pv 1) (pa_cons (pv 2) pa_nil))))))), ?_⟩
  repeat tb_rel
  refine r_fld t.self (c_Task S) (a_Task_ears S) rfl ?_
  refine ⟨_, rfl, ⟨_, .of t.ear⟩, ?_⟩
  refine lc2_E (E := CaseAt K) walk_list T.ears (by simp) (fun e => ([] :: T.gone).map fun l => (e, l)) CaseAt.mono CaseAt.put (fun G e => .of (e _ _ t.ear)) ?_ ?_
  · rintro i a G x G' D acc Nx ha hD e hl hacc ⟨rfl, hx⟩ hN
    obtain ⟨z, hz, rfl⟩ := map_get hx
    obtain rfl := Option.some.inj (ha.symm.trans hz)
    have t1 := t.same e
    repeat tb_rel
    refine ⟨rfl, ?_⟩
    repeat tb_rel
    refine r_tupN (K := K) fun u0 G1 e1 n1 => ?_
    repeat tb_rel
    refine r_lstN fun u1 G2 hu1 e2 h2 => ?_
    repeat tb_rel
    have t2 := (t1.same e1).same e2
    refine r_fld t2.self (c_Task S) (a_Task_gone S) rfl ?_
    have hg2 := t2.gon
    have hlen := t.ok.gone.1
    have hgl : gs.length ≤ 3 := by
      have := t.geq
      rw [this, List.length_map] at hlen
      exact hlen
    refine ⟨u1, gn, _, _, rfl, rfl, h2, hg2, Nat.le_trans (m := 4) (by simp [refs]; omega) (by decide), fun u2 hu2 => ?_⟩
    have e3 := Same.new hu2 (o := .lst ([V.ref u0] ++ refs gs))
    have e13 := (e1.trans e2).trans e3
    refine ⟨_, rfl, ⟨_, .of upd_same⟩, ?_⟩
    have hsq : ∀ z ∈ (u0, ([] : List Int)) :: gs, SqT K (upd G2 u2 (.lst ([V.ref u0] ++ refs gs))) z.1 (z.2.map V.int) := fun z hz => by
      rcases List.mem_cons.1 hz with rfl | hz
      · exact e3.seqT (e2.seqT n1.sq)
      · exact e13.seqT (t1.rows z hz)
    have hDu : D ≠ u2 := ne_of_none ((e1.trans e2) _ _ hl) hu2
    have e13b : SameBut D G' (upd G2 u2 (.lst ([V.ref u0] ++ refs gs))) := SameBut.of e13
    refine in_E (E := CaseAt K) (walk_list (xs := refs ((u0, ([] : List Int)) :: gs))) CaseAt.mono CaseAt.put _ (([] :: T.gone).map fun l => (a, l)) (by rw [t.geq]; simp [refs]) ?_ (e13 _ _ hl) (hacc.imp fun c v h => CaseAt.mono c _ _ v e13 h) (fun G3 e3 => .of (by
      rw [e3 u2 _ hDu.symm upd_same]
      rfl)) ?_ ?_
    · have h1 : ((T.ears.take i).flatMap fun e => ([] :: T.gone).map fun l => (e, l)).length ≤ 16 := by
        rw [List.length_flatMap]
        have : ((T.ears.take i).map fun e => (([] :: T.gone).map fun l => (e, l)).length) = (T.ears.take i).map fun _ => T.gone.length + 1 := by
          refine List.map_congr_left fun e _ => ?_
          simp
        rw [this, List.map_const', List.sum_replicate_nat]
        have h5 := t.ok.earsLen
        have h6 : (T.ears.take i).length ≤ 4 := by rw [List.length_take]; omega
        calc (T.ears.take i).length * (T.gone.length + 1) ≤ 4 * 4 := Nat.mul_le_mul h6 (by omega)
          _ ≤ 16 := by decide
      have h2 : (refs ((u0, ([] : List Int)) :: gs)).length ≤ 4 := by simp [refs]; omega
      exact Nat.lt_of_le_of_lt (m := 20) (by omega) (by decide)
    · rintro j b G3 y G3' R hb e3 ⟨rfl, hy⟩ hR
      obtain ⟨z, hz2, rfl⟩ := map_get hy
      have hbz : b = (a, z.2) := by
        rw [t.geq, List.getElem?_map] at hb
        have : ([] :: gs.map (·.2))[j]? = some z.2 := by
          have h7 : (((u0, ([] : List Int)) :: gs).map (·.2))[j]? = some z.2 := by rw [List.getElem?_map, hz2]; rfl
          exact h7
        rw [this] at hb
        exact (Option.some.inj hb).symm
      subst hbz
      have hzT : SqT K G3' z.1 (z.2.map V.int) := by
        have h8 := hsq z (List.mem_of_getElem? hz2)
        rcases h8 with (h8 | ⟨o, h8⟩) | h8
        · exact .inl (.inl (e3 _ _ (fun q => by rw [q, e13 _ _ hl] at h8; cases h8) h8))
        · exact .inl (.inr ⟨o, e3 _ _ (fun q => by rw [q, e13 _ _ hl] at h8; cases h8) h8⟩)
        · exact .inr h8
      repeat tb_rel
      refine ⟨rfl, ?_⟩
      repeat tb_rel
      refine r_tupN (K := K) fun u3 G4 e4 n4 => ?_
      exact hR _ G4 e4 ⟨u3, z.1, rfl, n4.sq, e4.seqT hzT⟩
    · intro G3 acc3 e3 h3 a3
      exact hN G3 acc3 (e13b.trans e3) h3 a3
  · intro D H4 acc hD e4 h4 a4
    exact k D H4 acc hD e4 h4 a4
theorem sc_Task_line_order : FnScope ["self", "name", "number"] ["self"] d_Task_line_order.scope := ⟨rfl, rfl, rfl, by decide +kernel, rfl, by decide +kernel, by decide +kernel⟩
def orderM (rs : List Road) (told : List Str) : List Int := told.flatMap (outM rs)
def sp_line_order (K : PySem.W.Frag) : Sp := SpN 1 fun vs H Q => ∃ p T, vs = [.ref p] ∧ TaskAt K H p T ∧ ∀ (D : Addr) (H' : Hp) (told : List Str), H D = none → Same H H' → H' D = some (.lst ((orderM T.rs told).map V.int)) → Told T.names T.rs told → (∀ n ∈ T.names, n ∈ told) → Q (.ref D) H'
theorem acc_ints {us : List V} {ns : List Int} {H : Hp} (h : Acc (fun (c : Int) _ v => v = V.int c) ns us H) : us = ns.map V.int := by
  refine List.ext_getElem? fun j => ?_
  rw [List.getElem?_map]
  cases hn : ns[j]? with
  | none =>
    rw [List.getElem?_eq_none_iff] at hn
    exact List.getElem?_eq_none (by rw [h.1]; exact hn)
  | some c =>
    have hj : j < us.length := by
      rw [h.1]
      exact (List.getElem?_eq_some_iff.1 hn).1
    have e : us[j]? = some us[j] := by simp [hj]
    rw [e, h.2 j c _ hn e]
    rfl
theorem ok_Task_line_order (S : Says K mg) : Fn P w K mg base 4 (He.fAd K d_Task_line_order.at_) (sp_line_order K) := by
  refine fn_body (f_Task_line_order S) sc_Task_line_order rfl (fun _ _ _ _ _ _ us hl => match us, hl with | [_], _ => rfl) fun cdv A outer s H vs Q E hr h => ?_
  obtain ⟨p, T, rfl, ⟨dx, rk, f, wb, er, gn, told, gs, t⟩, k⟩ := h
  obtain ⟨dxn, dN, dR, zs, no⟩ := id t.web
  refine ⟨_, (pss_one (ps_ret (pe_lc2 (own := [("name", 1), ("number", 2)]) (vs1 := [2]) rfl sc_Task_line_order.nd (pi_listK K (pe_fldK K (pv 0) rfl)) (blkOk_by (N := ["self", "name", "number"]) (sc := d_Task_line_order.scope) (by decide +kernel)) (by decide) (fun _ _ _ _ _ => (pg_name (i := 1) sc_Task_line_order.nd rfl (by first | exact Or.inl rfl | exact Or.inr rfl))) (fun _ _ _ _ _ => pts_nil) (fun _ _ _ _ _ => (pi_listK K (pm (ok_Net_out_of (K := K) S) (hr.mono (by decide)) (c_Net (K := K) S) (m_Net_out_of (K := K) S) (pe_fldK K (pv 0) rfl) (pa_cons (pv 1) pa_nil)))) (fun _ _ _ _ _ => (pg_name (i := 2) sc_Task_line_order.nd rfl (by first | exact Or.inl rfl | exact Or.inr rfl))) (fun _ _ _ _ _ => pts_nil) (fun _ _ _ _ _ => (pv 2))))), ?_⟩
  repeat tb_rel
  refine r_fld t.self (c_Task S) (a_Task_rank_of S) rfl ?_
  refine ⟨_, rfl, ⟨_, .of t.rk⟩, ?_⟩
  refine lc2_E (E := fun (c : Int) _ v => v = V.int c) walk_list told (by simp) (outM T.rs) (fun c S S' v e h => h) (fun c S v D l l' hl h => h) (fun G e => .of (e _ _ t.rk)) ?_ ?_
  · rintro i a G x G' D acc Nx ha hD e hl hacc ⟨rfl, hx⟩ hN
    obtain ⟨z, hz, rfl⟩ := map_get hx
    obtain rfl := Option.some.inj (ha.symm.trans hz)
    have t1 := t.same e
    repeat tb_rel
    refine ⟨rfl, ?_⟩
    repeat tb_rel
    refine r_fld t1.self (c_Task S) (a_Task_web S) rfl ?_
    refine r_Mv (e _ _ no.self) rfl ?_
    repeat tb_rel
    refine ⟨rfl, wb, _, _, a, rfl, t1.web, t.tok.sub a (List.mem_of_getElem? ha), fun u G2 hu e2 h2 => ?_⟩
    have hDu : D ≠ u := ne_of_none hl hu
    refine ⟨_, rfl, ⟨_, .of h2⟩, ?_⟩
    refine in_E (E := fun (c : Int) _ v => v = V.int c) (walk_list (xs := (outM T.rs a).map V.int)) (fun c S S' v e h => h) (fun c S v D l l' hl h => h) _ (outM T.rs a) (by simp) ?_ (e2 _ _ hl) (hacc.imp fun c v h => h) (fun G3 e3 => .of (e3 u _ hDu.symm h2)) ?_ ?_
    · have hf := no.few
      have ho : ∀ s, (outM T.rs s).length ≤ 30 := fun s => by
        unfold outM marks
        rw [List.length_map]
        exact Nat.le_trans (List.length_filter_le _ _) hf.2
      have h1 : ((told.take i).flatMap (outM T.rs)).length ≤ 20 * 30 := by
        rw [List.length_flatMap]
        have h2 : ∀ (l : List Str), (l.map fun s => (outM T.rs s).length).sum ≤ l.length * 30 := by
          intro l
          induction l with
          | nil => simp
          | cons x l ih =>
            rw [List.map_cons, List.sum_cons, List.length_cons, Nat.succ_mul]
            have := ho x
            omega
        refine Nat.le_trans (h2 _) (Nat.mul_le_mul ?_ (Nat.le_refl _))
        rw [List.length_take]
        have := nodup_len t.tok.nd t.tok.sub
        omega
      have h3 := ho a
      rw [List.length_map]
      exact Nat.lt_of_le_of_lt (m := 630) (by omega) (by decide)
    · rintro j b G3 y G3' R hb e3 ⟨rfl, hy⟩ hR
      obtain ⟨z, hz2, rfl⟩ := map_get hy
      obtain rfl := Option.some.inj (hb.symm.trans hz2)
      repeat tb_rel
      refine ⟨rfl, ?_⟩
      repeat tb_rel
      exact hR _ _ (Same.refl _) rfl
    · intro G3 acc3 e3 h3 a3
      exact hN G3 acc3 ((SameBut.of e2).trans e3) h3 a3
  · intro D H4 acc hD e4 h4 a4
    refine k D H4 told hD e4 ?_ t.tok t.all
    rw [h4, acc_ints a4]
    rfl
end
end Mg
/-! P1 -/
namespace Mg
open PySem PySem.Spec PyProof.Rows L2 LamX
/-! ### dicts of rows -/
def entD (ks : List Int) (ts : List Addr) : List (Key × V) := (ks.zip ts).map fun z => (Sum.inl z.1, .ref z.2)
structure RowD0 (K : PySem.W.Frag) (H : Hp) (d : Addr) (ks : List Int) (f : Int → List Int) (ts : List Addr) : Prop where
  len : ts.length = ks.length
  at_ : H d = some (.dK (entD ks ts))
  row : ∀ z ∈ ks.zip ts, SqT K H z.2 ((f z.1).map V.int)
def RowD (K : PySem.W.Frag) (H : Hp) (d : Addr) (ks : List Int) (f : Int → List Int) : Prop := ∃ ts, RowD0 K H d ks f ts
section
variable {K : PySem.W.Frag} {H H' : Hp} {d : Addr} {ks : List Int} {f : Int → List Int} {ts : List Addr}
theorem RowD0.same (r : RowD0 K H d ks f ts) (e : Same H H') : RowD0 K H' d ks f ts := ⟨r.len, e _ _ r.at_, fun z hz => e.seqT (r.row z hz)⟩
theorem RowD.same (r : RowD K H d ks f) (e : Same H H') : RowD K H' d ks f := let ⟨ts, h⟩ := r; ⟨ts, h.same e⟩
theorem valV_entD : ∀ {ks : List Int} {ts : List Addr} {m : Int} {t : Addr}, ks.Nodup → (m, t) ∈ ks.zip ts → valV (entD ks ts) (Sum.inl m) = some (.ref t)
  | [], _, m, t, _, h => by cases h
  | k :: ks, [], m, t, _, h => by cases h
  | k :: ks, u :: ts, m, t, hn, h => by
    have h1 := List.nodup_cons.1 hn
    show valV ((Sum.inl k, V.ref u) :: entD ks ts) (Sum.inl m) = _
    rcases List.mem_cons.1 h with h | h
    · obtain ⟨rfl, rfl⟩ := Prod.mk.inj h
      exact valV_pos rfl
    · have hm : m ∈ ks := (List.of_mem_zip h).1
      rw [valV_neg (fun e => h1.1 (by rw [Sum.inl.inj e]; exact hm))]
      exact valV_entD h1.2 h
theorem valV_entD_none {m : Int} : ∀ {ks : List Int} {ts : List Addr}, ¬ m ∈ ks → valV (entD ks ts) (Sum.inl m) = none
  | [], _, _ => rfl
  | k :: ks, [], _ => rfl
  | k :: ks, u :: ts, h => by
    show valV ((Sum.inl k, V.ref u) :: entD ks ts) (Sum.inl m) = _
    rw [valV_neg (fun e => h (by rw [← Sum.inl.inj e]; exact List.mem_cons_self ..))]
    exact valV_entD_none fun z => h (List.mem_cons_of_mem _ z)
theorem zip_mem {ks : List Int} {ts : List Addr} (hl : ts.length = ks.length) {m : Int} (h : m ∈ ks) : ∃ t, (m, t) ∈ ks.zip ts := by
  obtain ⟨i, hi⟩ := List.getElem?_of_mem h
  have h1 := (List.getElem?_eq_some_iff.1 hi).1
  refine ⟨ts[i]'(by omega), ?_⟩
  refine List.mem_of_getElem? (i := i) ?_
  rw [List.getElem?_zip_eq_some]
  exact ⟨hi, by simp [show i < ts.length by omega]⟩
theorem RowD0.get (r : RowD0 K H d ks f ts) (hn : ks.Nodup) {m : Int} (h : m ∈ ks) : ∃ t, DGet H d (.int m) (some (.ref t)) ∧ SqT K H t ((f m).map V.int) := by
  obtain ⟨t, ht⟩ := zip_mem r.len h
  refine ⟨t, ?_, r.row _ ht⟩
  rw [← valV_entD hn ht]
  exact DGet.k (k := Sum.inl m) r.at_
theorem RowD.get (r : RowD K H d ks f) (hn : ks.Nodup) {m : Int} (h : m ∈ ks) : ∃ t, DGet H d (.int m) (some (.ref t)) ∧ SqT K H t ((f m).map V.int) := let ⟨_, r⟩ := r; r.get hn h
theorem RowD0.put (r : RowD0 K H d ks f ts) {m : Int} {t : Addr} {g : Int → List Int} (hm : ¬ m ∈ ks) (hg : ∀ k ∈ ks, g k = f k) (ht : SqT K H t ((g m).map V.int)) :
    RowD0 K (upd H d (.dK (putK (entD ks ts) (Sum.inl m) (.ref t)))) d (ks ++ [m]) g (ts ++ [t]) := by
  refine ⟨by rw [List.length_append, List.length_append, r.len]; rfl, ?_, fun z hz => ?_⟩
  · rw [upd_same, putK_new _ (valV_entD_none hm)]
    unfold entD
    rw [List.zip_append r.len.symm]
    simp
  · rw [List.zip_append r.len.symm] at hz
    rcases List.mem_append.1 hz with hz | hz
    · rw [hg _ (List.of_mem_zip hz).1]
      exact seqT_putD (r.row z hz) r.at_
    · rw [List.mem_singleton.1 hz]
      exact seqT_putD ht r.at_
end
/-- items that are refs of rows -/
theorem acc_refs {K : PySem.W.Frag} {H : Hp} {f : Int → List Int} : ∀ {us : List V} {ns : List Int}, us.length = ns.length → (∀ (i : Nat) (a : Int) (v : V), ns[i]? = some a → us[i]? = some v → ∃ t, v = .ref t ∧ SqT K H t ((f a).map V.int)) →
    ∃ rs : List (Addr × List Int), us = refs rs ∧ rs.map (·.2) = ns.map f ∧ RowsAt K H rs
  | [], [], _, _ => ⟨[], rfl, rfl, fun z hz => by cases hz⟩
  | u :: us, n :: ns, hl, h => by
    obtain ⟨t, rfl, ht⟩ := h 0 n u rfl rfl
    obtain ⟨rs, e1, e2, e3⟩ := acc_refs (us := us) (ns := ns) (by simpa using hl) fun i a v h1 h2 => h (i + 1) a v h1 h2
    refine ⟨(t, f n) :: rs, by rw [e1]; rfl, by rw [List.map_cons, List.map_cons, e2], fun z hz => ?_⟩
    rcases List.mem_cons.1 hz with rfl | hz
    · exact ht
    · exact e3 z hz
/-! ### heads: what they are -/
def unitF (at_ n : Nat) : List Int := List.replicate at_ 0 ++ [1] ++ List.replicate (n - at_ - 1) 0
def unitsF (n : Nat) : List (List Int) := (List.range n).map fun i => unitF i n
def rowsOf (T : TSpec) (f : Int → List Int) (r : Road) : List (List Int) := if r.one = T.src then unitsF T.m else (intoM T.rs r.one).map f
def Eqn (T : TSpec) (mx : Int → List Int) (lost : List Int) (f : Int → List Int) (r : Road) : Prop := f r.mark = if r.mark ∈ lost then List.replicate T.m 0 else fblend T.q T.m ((rowsOf T f r).zip (mx r.mark))
def HeadsOk (T : TSpec) (mx : Int → List Int) (lost : List Int) (f : Int → List Int) : Prop := ∀ r ∈ T.rs, Eqn T mx lost f r
def MixOk (T : TSpec) (mx : Int → List Int) : Prop := ∀ r ∈ T.rs, (mx r.mark).length = inputsN T r ∧ InR T.q (mx r.mark)
theorem unitF_length {i n : Nat} (h : i < n) : (unitF i n).length = n := by
  simp [unitF]
  omega
theorem inR_rep {q : Int} (hq : Fq q) (n : Nat) : InR q (List.replicate n 0) := fun x hx => by
  have := hq.le
  rw [List.eq_of_mem_replicate hx]
  omega
theorem inR_unit {q : Int} (hq : Fq q) (i n : Nat) : InR q (unitF i n) := fun x hx => by
  have := hq.le
  rcases List.mem_append.1 hx with h | h
  · rcases List.mem_append.1 h with h | h
    · rw [List.eq_of_mem_replicate h]
      omega
    · rw [List.mem_singleton.1 h]
      omega
  · rw [List.eq_of_mem_replicate h]
    omega
theorem inR_blend {q : Int} (hq : Fq q) (n : Nat) : ∀ {l : List (List Int × Int)}, (∀ z ∈ l, InR q z.1 ∧ (0 ≤ z.2 ∧ z.2 < q)) → InR q (fblend q n l) := by
  have h : ∀ (l : List (List Int × Int)) (f : List Int), InR q f → (∀ z ∈ l, InR q z.1 ∧ (0 ≤ z.2 ∧ z.2 < q)) → InR q (l.foldl (fun f z => if z.2 ≠ 0 then rjoin q f (rscale q z.1 z.2) 1 else f) f) := by
    intro l
    induction l with
    | nil => exact fun f hf _ => hf
    | cons z l ih =>
      intro f hf hl
      refine ih _ ?_ fun y hy => hl y (List.mem_cons_of_mem _ hy)
      have hz := hl z (List.mem_cons_self ..)
      show InR q (if z.2 ≠ 0 then rjoin q f (rscale q z.1 z.2) 1 else f)
      split
      · exact inR_join hq hf (inR_scale hq hz.1 hz.2) (.inl rfl)
      · exact hf
  exact fun {l} hl => h l _ (inR_rep hq n) hl
section
variable {rs : List Road} {names told : List Str}
theorem order_mem {r : Road} (hr : r ∈ rs) (h : r.one ∈ told) : r.mark ∈ orderM rs told := by
  unfold orderM
  refine List.mem_flatMap.2 ⟨r.one, h, ?_⟩
  unfold outM marks
  exact List.mem_map.2 ⟨r, List.mem_filter.2 ⟨hr, decide_eq_true rfl⟩, rfl⟩
theorem order_of {m : Int} (h : m ∈ orderM rs told) : ∃ r ∈ rs, r.mark = m ∧ r.one ∈ told := by
  unfold orderM at h
  obtain ⟨s, hs, h2⟩ := List.mem_flatMap.1 h
  unfold outM marks at h2
  obtain ⟨r, hr, rfl⟩ := List.mem_map.1 h2
  obtain ⟨h3, h4⟩ := List.mem_filter.1 hr
  exact ⟨r, h3, rfl, by rw [of_decide_eq_true h4]; exact hs⟩
theorem mark_inj (ha : rs.Pairwise fun a b => a.mark < b.mark) {r r' : Road} (h : r ∈ rs) (h' : r' ∈ rs) (e : r.mark = r'.mark) : r = r' := by
  obtain ⟨i, hi, rfl⟩ := List.getElem_of_mem h
  obtain ⟨j, hj, rfl⟩ := List.getElem_of_mem h'
  have h1 := List.pairwise_iff_getElem.1 ha
  rcases Nat.lt_trichotomy i j with z | z | z
  · have := h1 i j hi hj z
    omega
  · subst z
    rfl
  · have := h1 j i hj hi z
    omega
theorem order_nodup (ha : rs.Pairwise fun a b => a.mark < b.mark) : ∀ {told : List Str}, told.Nodup → (orderM rs told).Nodup
  | [], _ => .nil
  | s :: told, hn => by
    have h1 := List.nodup_cons.1 hn
    show (outM rs s ++ orderM rs told).Nodup
    refine List.nodup_append.2 ⟨?_, order_nodup ha h1.2, fun a h2 b h3 e => ?_⟩
    · unfold outM marks
      have h4 : (rs.filter fun r => decide (r.one = s)).Pairwise fun a b => a.mark < b.mark := ha.filter _
      exact List.pairwise_map.2 (h4.imp fun h => Int.ne_of_lt h)
    · subst e
      obtain ⟨r, hr, e, hone⟩ := order_of h3
      unfold outM marks at h2
      obtain ⟨r', hr', e'⟩ := List.mem_map.1 h2
      obtain ⟨h5, h6⟩ := List.mem_filter.1 hr'
      have := mark_inj ha hr h5 (e.trans e'.symm)
      subst this
      exact h1.1 (by rw [← of_decide_eq_true h6]; exact hone)
/-- what feeds a line stands before it -/
theorem order_dep (ha : rs.Pairwise fun a b => a.mark < b.mark) (ht : TopP rs told) (hn : told.Nodup) {i : Nat} {r : Road} (hr : r ∈ rs) (h : (orderM rs told)[i]? = some r.mark) : ∀ m ∈ intoM rs r.one, m ∈ (orderM rs told).take i := by
  intro m hm
  unfold intoM marks at hm
  obtain ⟨r', hr', rfl⟩ := List.mem_map.1 hm
  obtain ⟨h1, h2⟩ := List.mem_filter.1 hr'
  have h2 := of_decide_eq_true h2
  obtain ⟨r2, hr2, e2, hone⟩ := order_of (List.mem_of_getElem? h)
  obtain rfl := mark_inj ha hr2 hr e2
  obtain ⟨pre, post, e⟩ := List.append_of_mem hone
  have h3 := ht pre r2.one post e r' h1 h2
  have h4 : r'.mark ∈ orderM rs pre := order_mem h1 h3
  have e3 : orderM rs told = orderM rs pre ++ (outM rs r2.one ++ orderM rs post) := by
    rw [e]
    unfold orderM
    rw [List.flatMap_append]
    rfl
  have hno : ¬ r2.mark ∈ orderM rs pre := fun z => by
    obtain ⟨r3, hr3, e4, h5⟩ := order_of z
    obtain rfl := mark_inj ha hr3 hr e4
    rw [e] at hn
    exact (List.nodup_append.1 hn).2.2 _ h5 _ (List.mem_cons_self ..) rfl
  have hlen : (orderM rs pre).length ≤ i := by
    refine Decidable.byContradiction fun z => hno ?_
    rw [e3, List.getElem?_append_left (by omega)] at h
    exact List.mem_of_getElem? h
  rw [e3, List.take_append]
  rw [List.take_of_length_le hlen]
  exact List.mem_append_left _ h4
end
section
variable {P : Program} {w : World} {K : PySem.W.Frag} {mg : Str → Option Value} {base : Heap}
theorem sc_need_lost : FnScope ["net", "lost", "number"] ["net", "lost"] d_need_lost.scope := ⟨rfl, rfl, rfl, by decide +kernel, rfl, by decide +kernel, by decide +kernel⟩
def sp_need_lost (K : PySem.W.Frag) : Sp := SpN 2 fun vs H Q => ∃ (n l : Addr) (names : List Str) (rs : List Road) (ns : List Int), vs = [.ref n, .ref l] ∧ NetAt K H n names rs ∧ SqT K H l (ns.map V.int) ∧ (∀ x ∈ ns, MarkIn x rs) ∧ Q .non H
theorem ok_need_lost (S : Says K mg) : Fn P w K mg base 2 (He.fAd K d_need_lost.at_) (sp_need_lost K) := by
  refine fn_body (f_need_lost S) sc_need_lost rfl (fun _ _ _ _ _ _ us hl => match us, hl with | [_, _], _ => rfl) fun cdv A outer s H vs Q E hr h => ?_
  obtain ⟨n, l, names, rs, ns, rfl, hn, hl, hin, k⟩ := h
  obtain ⟨dxn, dN, dR, zs, no⟩ := id hn
  refine ⟨_, (pss_one (ps_for PassesOwn.never rfl (pi_tupK K (pv 1)) (pg_name (i := 2) sc_need_lost.nd rfl (by first | exact Or.inl rfl | exact Or.inr rfl)) (pss_one (ps_expr (pm (ok_Net_need_line (K := K) S) (hr.mono (by decide)) (c_Net (K := K) S) (m_Net_need_line (K := K) S) (pv 0) (pa_cons (pv 2) pa_nil)))))), ?_⟩
  repeat tb_rel
  refine ⟨_, rfl, ⟨_, hl⟩, ?_⟩
  refine for_B (walk_tup (xs := ns.map V.int)) (fun i σ G => ∃ x, σ = [some (.ref n), some (.ref l), x] ∧ G = H) ⟨_, rfl, rfl⟩ (fun i σ G _ ⟨_, _, e⟩ => by rw [e]; exact hl) ?_ ?_
  · rintro i v σ G G' hi ⟨x, rfl, rfl⟩ ⟨rfl, hv⟩
    obtain ⟨y, hy, rfl⟩ := map_get hv
    repeat tb_rel
    refine r_Mv no.self rfl ?_
    repeat tb_rel
    exact ⟨rfl, n, names, rs, y, rfl, hn, hin y (List.mem_of_getElem? hy), _, rfl, rfl⟩
  · rintro σ G ⟨x, rfl, rfl⟩
    repeat tb_rel
    exact k
theorem sc_unit : FnScope ["at", "width"] ["at", "width"] d_unit.scope := ⟨rfl, rfl, rfl, by decide +kernel, rfl, by decide +kernel, by decide +kernel⟩
def sp_unit (K : PySem.W.Frag) : Sp := SpN 2 fun vs H Q => ∃ (i n : Nat), vs = [.int (i : Nat), .int (n : Nat)] ∧ i < n ∧ n ≤ 900 ∧ ∀ u H', Same H H' → NewT K H H' u ((unitF i n).map V.int) → Q (.ref u) H'
theorem ok_unit (S : Says K mg) : Fn P w K mg base 1 (He.fAd K d_unit.at_) (sp_unit K) := by
  refine fn_body (f_unit S) sc_unit rfl (fun _ _ _ _ _ _ us hl => match us, hl with | [_, _], _ => rfl) fun cdv A outer s H vs Q E hr h => ?_
  obtain ⟨i, n, rfl, hi, hn, k⟩ := h
  refine ⟨_, (pss_one (ps_ret (pe_op (op_catB K) (pe_op (op_catB K) (pe_op (op_repAK K) (pe_tup (pa_cons pe_int pa_nil)) (pv 0)) (pe_tup (pa_cons pe_int pa_nil))) (pe_op (op_repAK K) (pe_tup (pa_cons pe_int pa_nil)) (pe_op op_sub (pe_op op_sub (pv 1) (pv 0)) pe_int))))), ?_⟩
  repeat tb_rel
  refine r_tupN (K := K) fun u0 H0 e0 n0 => ?_
  repeat tb_rel
  refine r_rep n0 e0 (by simp) (by simp) (by omega) (by omega) fun u1 H1 e1 n1 => ?_
  repeat tb_rel
  have e01 := e0.trans e1
  refine r_tupN (K := K) fun u2 H2 e2 n2 => ?_
  repeat tb_rel
  have e02 := e01.trans e2
  refine r_catN (n1.fwd e2) (n2.back e01) e02 (by simp; omega) fun u3 H3 e3 n3 => ?_
  repeat tb_rel
  have e03 := e02.trans e3
  refine r_tupN (K := K) fun u4 H4 e4 n4 => ?_
  repeat tb_rel
  have e04 := e03.trans e4
  refine r_rep (n4.back e03) e04 (by simp) (by simp) (by omega) (by omega) fun u5 H5 e5 n5 => ?_
  have e05 := e04.trans e5
  refine r_catN (n3.fwd (e4.trans e5)) n5 e05 (by simp; omega) fun u6 H6 e6 n6 => ?_
  refine k u6 H6 (e05.trans e6) ?_
  have e : (List.replicate (Int.toNat (i : Nat)) [V.int 0]).flatten ++ [V.int 1] ++ (List.replicate (Int.toNat ((n : Int) - (i : Nat) - 1)) [V.int 0]).flatten = (unitF i n).map V.int := by
    rw [show ((n : Int) - (i : Nat) - 1).toNat = n - i - 1 by omega]
    simp [unitF]
  rw [e] at n6
  exact n6
end
end Mg
/-! P2 -/
namespace Mg
open PySem PySem.Spec PyProof.Rows L2 LamX
section
variable {P : Program} {w : World} {K : PySem.W.Frag} {mg : Str → Option Value} {base : Heap}
theorem marks_nodup {rs : List Road} (h : rs.Pairwise fun a b => a.mark < b.mark) : (marks rs).Nodup := List.pairwise_map.2 (h.imp fun h => Int.ne_of_lt h)
theorem units_len (T : TSpec) : (unitsF T.m).length = T.m := by simp [unitsF]
theorem sc_run_through : FnScope ["task", "mixers", "basis", "width", "lost", "field", "found", "number", "fed", "rows", "blend", "line"] ["task", "mixers", "basis", "width", "lost"] d_run_through.scope := ⟨rfl, rfl, rfl, by decide +kernel, rfl, by decide +kernel, by decide +kernel⟩
def sp_run (K : PySem.W.Frag) : Sp := SpN 5 fun vs H Q => ∃ p d b lo T mx bs lost, vs = [.ref p, .ref d, .ref b, .int (T.m : Nat), .ref lo] ∧ TaskAt K H p T ∧ RowD K H d (marks T.rs) mx ∧ MixOk T mx ∧ SqL K H b (refs bs) ∧ RowsAt K H bs ∧ bs.map (·.2) = unitsF T.m ∧ SqT K H lo (lost.map V.int) ∧
  ∀ (D : Addr) (H' : Hp) (told : List Str) (f : Int → List Int), H D = none → Same H H' → RowD K H' D (orderM T.rs told) f → HeadsOk T mx lost f → Told T.names T.rs told → (∀ n ∈ T.names, n ∈ told) → (∀ r ∈ T.rs, (f r.mark).length = T.m ∧ InR T.q (f r.mark)) → Q (.ref D) H'
theorem ok_run_through (S : Says K mg) : Fn P w K mg base 5 (He.fAd K d_run_through.at_) (sp_run K) := by
  refine fn_body (f_run_through S) sc_run_through rfl (fun _ _ _ _ _ _ us hl => match us, hl with | [_, _, _, _, _], _ => rfl) fun cdv A outer s H vs Q E hr h => ?_
  obtain ⟨p, d, b, lo, T, mx, bs, lost, rfl, t0, hmx, hmo, hb, hbs, hbe, hlo, k⟩ := h
  obtain ⟨dx, rk, f0, wb, er, gn, told0, gs, t⟩ := id t0
  obtain ⟨dxn, dN, dR, zs, no⟩ := id t.web
  have hq := t.ok.q
  have hm4 := t.ok.m
  have hasc := no.asc
  have hfew := no.few
  refine ⟨_, (pss_cons (ps_set (i := 5) sc_run_through.nd rfl (by first | exact Or.inl rfl | exact Or.inr rfl) (pm0 (ok_Task_field (K := K) S) (hr.mono (by decide)) (c_Task (K := K) S) (m_Task_field (K := K) S) (pv 0))) (pss_cons (ps_set (i := 6) sc_run_through.nd rfl (by first | exact Or.inl rfl | exact Or.inr rfl) pe_dnewK) (pss_cons (ps_for PassesOwn.never rfl (pi_listK K (pm0 (ok_Task_line_order (K := K) S) (hr.mono (by decide)) (c_Task (K := K) S) (m_Task_line_order (K := K) S) (pv 0))) (pg_name (i := 7) sc_run_through.nd rfl (by first | exact Or.inl rfl | exact Or.inr rfl)) (pss_cons (ps_set (i := 8) sc_run_through.nd rfl (by first | exact Or.inl rfl | exact Or.inr rfl) (pm (ok_Task_fed_by (K := K) S) (hr.mono (by decide)) (c_Task (K := K) S) (m_Task_fed_by (K := K) S) (pv 0) (pa_cons (pv 7) pa_nil))) (pss_cons (ps_set (i := 9) sc_run_through.nd rfl (by first | exact Or.inl rfl | exact Or.inr rfl) (pe_ifExp (pt_cmpR op_isN (pv 8) pe_non (nomark _)) (pv 2) (pe_lc (own := [("line", 11)]) rfl sc_run_through.nd (pi_listK K (pv 8)) (blkOk_by (N := ["task", "mixers", "basis", "width", "lost", "field", "found", "number", "fed", "rows", "blend", "line"]) (sc := d_run_through.scope) (by decide +kernel)) (fun _ _ _ _ _ => (pg_name (i := 11) sc_run_through.nd rfl (by first | exact Or.inl rfl | exact Or.inr rfl))) (fun _ _ _ _ _ => pts_nil) (fun _ _ _ _ _ => (pe_dget (hu_of hr) (pv 6) (pv 11) (fun _ _ => rfl)))))) (pss_cons (ps_set (i := 10) sc_run_through.nd rfl (by first | exact Or.inl rfl | exact Or.inr rfl) (pm (ok_Field_blend (K := K) S) (hr.mono (by decide)) (c_Field (K := K) S) (m_Field_blend (K := K) S) (pv 5) (pa_cons (pv 9) (pa_cons (pe_dget (hu_of hr) (pv 1) (pv 7) (fun _ _ => rfl)) (pa_cons (pv 3) pa_nil))))) (pss_one (ps_dput (hu_of hr) (pv 6) (pv 7) (pe_ifExp (pt_cmpR (op_in_seqK K) (pv 7) (pv 4) rfl) (pe_op (op_repAK K) (pe_tup (pa_cons pe_int pa_nil)) (pv 3)) (pv 10)) rfl)))))) (pss_one (ps_ret (pv 6)))))), ?_⟩
  repeat tb_rel
  refine r_Mv t.self rfl ?_
  repeat tb_rel
  refine ⟨rfl, p, T, rfl, t0, fun fl hfl => ?_⟩
  repeat tb_rel
  refine r_dnewK fun D H1 hD e1 h1 => ?_
  repeat tb_rel
  have t1 := t.same e1
  refine r_Mv t1.self rfl ?_
  repeat tb_rel
  refine ⟨rfl, p, T, rfl, t0.same e1, fun L H2 told hL e2 h2 htold hall => ?_⟩
  repeat tb_rel
  have e12 := e1.trans e2
  refine ⟨_, rfl, ⟨_, .of h2⟩, ?_⟩
  have hond := order_nodup hasc htold.nd
  refine for_B (walk_list (xs := (orderM T.rs told).map V.int)) (fun i σ G => ∃ f ts x7 x8 x9 x10 x11, σ = [some (.ref p), some (.ref d), some (.ref b), some (.int (T.m : Nat)), some (.ref lo), some (.ref fl), some (.ref D), x7, x8, x9, x10, x11] ∧ Same H G ∧ G L = some (.lst ((orderM T.rs told).map V.int)) ∧
      RowD0 K G D ((orderM T.rs told).take i) f ts ∧ (∀ r ∈ T.rs, r.mark ∈ (orderM T.rs told).take i → Eqn T mx lost f r ∧ (f r.mark).length = T.m ∧ InR T.q (f r.mark)))
    ⟨fun _ => [], [], _, _, _, _, _, rfl, e12, h2, ⟨rfl, e2 _ _ h1, fun z hz => (by cases hz)⟩, fun r hr h => (by cases h)⟩ (fun i σ G _ ⟨_, _, _, _, _, _, _, _, _, h, _⟩ => .of h) ?_ ?_
  · rintro i v σ G0 G hi ⟨f, ts, x7, x8, x9, x10, x11, rfl, e, hGL, hrd, heq⟩ ⟨rfl, hv⟩
    obtain ⟨m, hm, rfl⟩ := map_get hv
    obtain ⟨r, hr2, rfl, hrone⟩ := order_of (List.mem_of_getElem? hm)
    have tG := t0.same e
    have tg := t.same e
    have hdep := order_dep hasc htold.top htold.nd hr2 hm
    have hnot : ¬ r.mark ∈ (orderM T.rs told).take i := fun z => by
      obtain ⟨j, hj⟩ := List.getElem?_of_mem z
      have hji : j < i := by
        refine Decidable.byContradiction fun z => ?_
        rw [List.getElem?_eq_none (by rw [List.length_take]; omega)] at hj
        cases hj
      rw [List.getElem?_take_of_lt hji] at hj
      obtain ⟨h1, e1⟩ := List.getElem?_eq_some_iff.1 hj
      obtain ⟨h2, e2⟩ := List.getElem?_eq_some_iff.1 hm
      exact absurd (e1.trans e2.symm) (List.pairwise_iff_getElem.1 hond j i h1 h2 hji)
    have htk : ((orderM T.rs told).take i).Nodup := hond.sublist (List.take_sublist _ _)
    have hDL : D ≠ L := ne_of hrd.at_ hGL (by intro z; cases z)
    have hDH : H D = none := hD
    have hdep2 : ∀ r' ∈ T.rs, r'.mark ∈ (orderM T.rs told).take i → ∀ m ∈ intoM T.rs r'.one, m ∈ (orderM T.rs told).take i := fun r' hr' hin m hm => by
      obtain ⟨j, hj⟩ := List.getElem?_of_mem hin
      have hji : j < i := by
        refine Decidable.byContradiction fun z => ?_
        rw [List.getElem?_eq_none (by rw [List.length_take]; omega)] at hj
        cases hj
      rw [List.getElem?_take_of_lt hji] at hj
      have h := order_dep hasc htold.top htold.nd hr' hj m hm
      exact (List.take_subset_take_left (l := orderM T.rs told) (Nat.le_of_lt hji)) h
    have hrows : ∀ g : Int → List Int, (∀ m ∈ (orderM T.rs told).take i, g m = f m) → ∀ r' ∈ T.rs, (∀ m ∈ intoM T.rs r'.one, m ∈ (orderM T.rs told).take i) → rowsOf T g r' = rowsOf T f r' := fun g hg r' _ hd => by
      unfold rowsOf
      by_cases hs : r'.one = T.src
      · rw [if_pos hs, if_pos hs]
      · rw [if_neg hs, if_neg hs]
        exact List.map_congr_left fun m hm => hg m (hd m hm)
    have key : ∀ (Dn : Ends) (v8 : V) (x10 x11 : Option V) (u : Addr) (G2 : Hp) (rl : List (Addr × List Int)), Same G G2 → SqL K G2 u (refs rl) → RowsAt K G2 rl → rl.map (·.2) = rowsOf T f r →
        (∀ (f : Int → List Int) (ts : List Addr) (x7 x8 x9 x10 x11 : Option V) (G' : Hp), Same H G' → G' L = some (.lst ((orderM T.rs told).map V.int)) → RowD0 K G' D ((orderM T.rs told).take (i + 1)) f ts →
          (∀ r ∈ T.rs, r.mark ∈ (orderM T.rs told).take (i + 1) → Eqn T mx lost f r ∧ (f r.mark).length = T.m ∧ InR T.q (f r.mark)) → Dn.nx [some (.ref p), some (.ref d), some (.ref b), some (.int (T.m : Nat)), some (.ref lo), some (.ref fl), some (.ref D), x7, x8, x9, x10, x11] G') →
        tSeq (tAsg (tM (He.ga K "Field") "blend" (sp_blend K) (tVar 5) (tCons (tVar 9) (tCons (tDGet (tVar 1) (tVar 7)) (tCons (tVar 3) tNil)))) (gName 10))
          (sDPut (tVar 6) (tVar 7) (tIf (tTest (tOp (rIn K false) (tVar 7) (tVar 4))) (tOp (rRepA K) (tTup (tCons (tC (V.int 0)) tNil)) (tVar 3)) (tVar 10))) Dn
          [some (.ref p), some (.ref d), some (.ref b), some (.int (T.m : Nat)), some (.ref lo), some (.ref fl), some (.ref D), some (.int r.mark), some v8, some (.ref u), x10, x11] G2 := by
      intro Dn v8 x10 x11 u G2 rl e2 hu hrl hre hN
      have eG2 := e.trans e2
      obtain ⟨dxf, hf1, _⟩ := hfl
      have hrin : ∀ z ∈ rl, InR T.q z.2 ∧ z.2.length = T.m := fun z hz => by
        have : z.2 ∈ rowsOf T f r := by
          rw [← hre]
          exact List.mem_map.2 ⟨z, hz, rfl⟩
        unfold rowsOf at this
        by_cases hs : r.one = T.src
        · rw [if_pos hs] at this
          unfold unitsF at this
          obtain ⟨i, hi, e⟩ := List.mem_map.1 this
          rw [← e]
          exact ⟨inR_unit hq _ _, unitF_length (List.mem_range.1 hi)⟩
        · rw [if_neg hs] at this
          obtain ⟨m, hm, e⟩ := List.mem_map.1 this
          obtain ⟨r', hr', rfl, _⟩ := order_of (List.mem_of_mem_take (hdep m hm))
          have := (heq r' hr' (hdep _ hm)).2
          rw [← e]
          exact ⟨this.2, this.1⟩
      have hml := hmo r hr2
      have hrll : rl.length = (mx r.mark).length := by
        rw [hml.1, ← List.length_map (as := rl) (·.2), hre]
        unfold rowsOf inputsN
        split
        · exact units_len T
        · rw [List.length_map]
      have hrl30 : rl.length ≤ 30 := by
        rw [hrll, hml.1]
        unfold inputsN
        split
        · omega
        · unfold intoM marks
          rw [List.length_map]
          exact Nat.le_trans (List.length_filter_le _ _) hfew.2
      obtain ⟨tm, hdg, htm⟩ := (hmx.same eG2).get (marks_nodup hasc) (List.mem_map.2 ⟨r, hr2, rfl⟩)
      repeat tb_rel
      refine r_Mv (eG2 _ _ hf1) rfl ?_
      repeat tb_rel
      refine ⟨d, _, rfl, hdg, ?_⟩
      repeat tb_rel
      refine ⟨rfl, fl, T.q, u, rl, tm, mx r.mark, T.m, rfl, ⟨dxf, eG2 _ _ hf1, hq⟩, hu, hrl, htm, hrll, by omega, hrin, hml.2, by omega, fun u2 G3 e3 n3 => ?_⟩
      repeat tb_rel
      rw [hre] at n3
      have eG3 := eG2.trans e3
      -- the row that is stored
      have fin : ∀ (u4 : Addr) (G4 : Hp) (row : List Int), Same G3 G4 → SqT K G4 u4 (row.map V.int) → row = (if r.mark ∈ lost then List.replicate T.m 0 else fblend T.q T.m ((rowsOf T f r).zip (mx r.mark))) →
          Dn.nx [some (.ref p), some (.ref d), some (.ref b), some (.int (T.m : Nat)), some (.ref lo), some (.ref fl), some (.ref D), some (.int r.mark), some v8, some (.ref u), some (.ref u2), x11] (upd G4 D (.dK (putK (entD ((orderM T.rs told).take i) ts) (Sum.inl r.mark) (.ref u4)))) := by
        intro u4 G4 row e4 h4 hrow
        have eG4 := e2.trans (e3.trans e4)
        have hrd4 := hrd.same eG4
        have hfe : ∀ k ∈ (orderM T.rs told).take i, (fun x => if x = r.mark then row else f x) k = f k := fun k hk => if_neg fun z => hnot (by rw [← z]; exact hk)
        have hp := hrd4.put hnot hfe (t := u4) (by
          show SqT K G4 u4 ((if r.mark = r.mark then row else f r.mark).map V.int)
          rw [if_pos rfl]
          exact h4)
        rw [← take_snoc hm] at hp
        have hrw : row.length = T.m ∧ InR T.q row := by
          rw [hrow]
          split
          · exact ⟨by simp, inR_rep hq _⟩
          · refine ⟨fblend_length _ _ _ fun z hz => ?_, inR_blend hq _ fun z hz => ⟨?_, hml.2 _ (List.of_mem_zip hz).2⟩⟩
            · rw [← hre] at hz
              obtain ⟨y, hy, e⟩ := List.mem_map.1 (List.of_mem_zip hz).1
              rw [← e]
              exact (hrin y hy).2
            · rw [← hre] at hz
              obtain ⟨y, hy, e⟩ := List.mem_map.1 (List.of_mem_zip hz).1
              rw [← e]
              exact (hrin y hy).1
        refine hN _ _ _ _ _ _ _ _ ((e.trans eG4).put hDH) ?_ hp fun r' hr' hin => ?_
        · rw [upd_ne hDL.symm]
          exact eG4 _ _ hGL
        · rw [take_snoc hm] at hin
          have hrr : r'.mark ∈ (orderM T.rs told).take i ∨ r' = r := by
            rcases List.mem_append.1 hin with h | h
            · exact .inl h
            · exact .inr (mark_inj hasc hr' hr2 (List.mem_singleton.1 h))
          rcases hrr with h | rfl
          · have hq2 := heq r' hr' h
            have hne : ¬ r'.mark = r.mark := fun z => hnot (by rw [← z]; exact h)
            refine ⟨?_, ?_⟩
            · unfold Eqn
              rw [hrows _ hfe r' hr' (hdep2 r' hr' h)]
              show (if r'.mark = r.mark then row else f r'.mark) = _
              rw [if_neg hne]
              exact hq2.1
            · show (if r'.mark = r.mark then row else f r'.mark).length = T.m ∧ InR T.q (if r'.mark = r.mark then row else f r'.mark)
              rw [if_neg hne]
              exact hq2.2
          · refine ⟨?_, ?_⟩
            · unfold Eqn
              rw [hrows _ hfe r' hr' hdep]
              show (if r'.mark = r'.mark then row else f r'.mark) = _
              rw [if_pos rfl]
              exact hrow
            · show (if r'.mark = r'.mark then row else f r'.mark).length = T.m ∧ InR T.q (if r'.mark = r'.mark then row else f r'.mark)
              rw [if_pos rfl]
              exact hrw
      have hlen : (entD ((orderM T.rs told).take i) ts).length < sizeLine := by
        unfold entD
        rw [List.length_map, List.length_zip, hrd.len, Nat.min_self]
        have h5 : ((orderM T.rs told).take i).length ≤ T.rs.length := by
          have h6 := nodup_lenI htk (names := marks T.rs) fun x hx => by
            obtain ⟨r', hr', rfl, _⟩ := order_of (List.mem_of_mem_take hx)
            exact List.mem_map.2 ⟨r', hr', rfl⟩
          unfold marks at h6
          rwa [List.length_map] at h6
        exact Nat.lt_of_le_of_lt (m := 30) (by omega) (by decide)
      refine r_in (.inr (eG3.seqT hlo)) rfl (flat_int lost) ?_
      rw [inV_int]
      repeat tb_rel
      refine ite_d (fun h1 => ?_) fun h1 => ?_
      · repeat tb_rel
        refine r_tupN (K := K) fun u5 G5 e5 n5 => ?_
        repeat tb_rel
        refine r_rep n5 e5 (by simp) (by simp) (by omega) (by omega) fun u6 G6 e6 n6 => ?_
        repeat tb_rel
        have hrep : (List.replicate (Int.toNat (T.m : Nat)) [V.int 0]).flatten = (List.replicate T.m (0 : Int)).map V.int := by simp
        rw [hrep] at n6
        refine ⟨D, _, rfl, DPut.k (k := Sum.inl r.mark) ((e2.trans (e3.trans (e5.trans e6))) _ _ hrd.at_) hlen, ?_⟩
        exact fin u6 G6 _ (e5.trans e6) n6.sq (if_pos h1).symm
      · repeat tb_rel
        refine ⟨D, _, rfl, DPut.k (k := Sum.inl r.mark) ((e2.trans e3) _ _ hrd.at_) hlen, ?_⟩
        exact fin u2 G3 _ (Same.refl _) n3.sq (if_neg h1).symm
    repeat tb_rel
    refine r_Mv tg.self rfl ?_
    repeat tb_rel
    refine ⟨rfl, p, T, r, rfl, tG, hr2, fun h1 G2 e2 => ?_, fun h1 F G2 hF e2 h2 => ?_⟩
    · repeat tb_rel
      refine ⟨rfl, ?_⟩
      repeat tb_rel
      refine iteT ?_
      refine r_var rfl (r_gn ?_)
      refine key _ _ _ _ b G2 bs e2 ((e.trans e2).seqL hb) (hbs.same (e.trans e2)) (by rw [hbe]; unfold rowsOf; rw [if_pos h1]) fun f ts x7 x8 x9 x10 x11 G' a1 a2 a3 a4 => ?_
      exact ⟨f, ts, x7, x8, x9, x10, x11, rfl, a1, a2, a3, a4⟩
    · repeat tb_rel
      refine ⟨rfl, ?_⟩
      repeat tb_rel
      refine iteF ?_
      repeat tb_rel
      refine ⟨_, rfl, ⟨_, .of h2⟩, ?_⟩
      have hrd2 := hrd.same e2
      refine lc_E (walk_list (xs := (intoM T.rs r.one).map V.int)) (intoM T.rs r.one) (by simp) ?_ (fun a S v => ∃ t, v = .ref t ∧ SqT K S t ((f a).map V.int)) (fun a S S' v e ⟨t, h1, h2⟩ => ⟨t, h1, e.seqT h2⟩) (fun a S v D l l' hl ⟨t, h1, h2⟩ => ⟨t, h1, seqT_putL h2 hl⟩) (fun G e => .of (e _ _ h2)) ?_ ?_
      · rw [List.length_map]
        unfold intoM marks
        rw [List.length_map]
        exact Nat.lt_of_le_of_lt (Nat.le_trans (List.length_filter_le _ _) hfew.2) (by decide)
      · rintro j m G3 y G3' R hm2 e3 ⟨rfl, hy⟩ hR
        obtain ⟨z, hz2, rfl⟩ := map_get hy
        obtain rfl := Option.some.inj (hm2.symm.trans hz2)
        obtain ⟨tt, hg, hs⟩ := (hrd2.same e3).get htk (hdep m (List.mem_of_getElem? hm2))
        repeat tb_rel
        refine ⟨rfl, ?_⟩
        repeat tb_rel
        exact ⟨D, _, rfl, hg, hR _ _ (Same.refl _) ⟨tt, rfl, hs⟩⟩
      · intro E1 G4 us hE e4 h4 hl hE2
        obtain ⟨rl, rfl, hr3, hr4⟩ := acc_refs hl hE2
        refine r_gn ?_
        refine key _ _ _ _ E1 G4 rl (e2.trans e4) (.of h4) hr4 (by rw [hr3]; unfold rowsOf; rw [if_neg h1]) fun f ts x7 x8 x9 x10 x11 G' a1 a2 a3 a4 => ?_
        exact ⟨f, ts, x7, x8, x9, x10, x11, rfl, a1, a2, a3, a4⟩
  · rintro σ G ⟨f, ts, x7, x8, x9, x10, x11, rfl, e, hGL, hrd, heq⟩
    repeat tb_rel
    rw [List.length_map, List.take_length] at hrd heq
    have hin : ∀ r ∈ T.rs, r.mark ∈ orderM T.rs told := fun r hr => order_mem hr (hall _ (t.ok.acyc.1 r hr))
    exact k D G told f hD e ⟨ts, hrd⟩ (fun r hr => (heq r hr (hin r hr)).1) htold hall fun r hr => (heq r hr (hin r hr)).2
end
end Mg
/-! P3 -/
namespace L2
open PySem PySem.Spec PyProof.Rows
def DcB (J : It) (g : TG) (tt : TT) (tk tv : TE) (vs : List Nat) (σ : St) (H1 : Hp) (Q : VK) : Prop := ∀ D, H1 D = none → ∃ W : Nat → Nat → Hp → Prop, (∃ m, W 0 m (upd H1 D (.dK []))) ∧ ∀ i m H, W i m H →
  (J.stop i H ∧ Q (.ref D) H) ∨ (J.go i H ∧ ∃ Nx : Hp → Prop, (∀ H', Nx H' → ∃ m', m' < m ∧ W (i + 1) m' H') ∧ ∀ x H', J.yld i H x H' → g x (wipe σ vs) H' fun σ2 H2 => wipe σ2 vs = wipe σ vs ∧ tt σ2 H2 fun b H3 =>
    if b = true then tk σ2 H3 fun y H4 => tv σ2 H4 fun z H5 => ∃ kvs k, y = kV k ∧ H5 D = some (.dK kvs) ∧ kvs.length < sizeLine ∧ Nx (upd H5 D (.dK (putK kvs k z))) else Nx H3)
theorem r_dc {wi : TI} {g : TG} {tt : TT} {tk tv : TE} {vs : List Nat} {σ : St} {H : Hp} {Q : VK} (h : wi σ H fun J H1 => DcB J g tt tk tv vs σ H1 Q) : tDc wi g tt tk tv vs σ H Q := h
end L2
local macro_rules | `(tactic| tb_rel) => `(tactic| with_reducible refine L2.r_dc ?_)
namespace L2
open PySem PySem.Spec PyProof.Rows
end L2
namespace Mg
open PySem PySem.Spec PyProof.Rows L2 LamX
theorem dc_R {K : PySem.W.Frag} {It0 : It} {n : Nat} {G : Hp → Prop} {Y : Nat → Hp → V → Hp → Prop} (w : Walk It0 n G Y) {H1 : Hp} {g : TG} {tk tv : TE} {vs : List Nat} {σ : L2.St} {Q : VK}
    (ks : List Int) (hn : ks.length = n) (hz : n < sizeLine) (hnd : ks.Nodup) (f : Int → List Int) (hG : ∀ H, Same H1 H → G H)
    (hs : ∀ i k H x H' (R : V → V → Hp → Prop), ks[i]? = some k → Same H1 H → Y i H x H' → (∀ t H5, Same H H5 → SqT K H5 t ((f k).map V.int) → R (.int k) (.ref t) H5) →
      g x (wipe σ vs) H' fun σ2 H2 => wipe σ2 vs = wipe σ vs ∧ tk σ2 H2 fun y H4 => tv σ2 H4 fun z H5 => R y z H5)
    (hd : ∀ D H', H1 D = none → Same H1 H' → RowD K H' D ks f → Q (.ref D) H') : DcB It0 g tYes tk tv vs σ H1 Q := by
  intro D hD
  refine ⟨fun i m H => m = n - i ∧ i ≤ n ∧ Same H1 H ∧ ∃ ts, RowD0 K H D (ks.take i) f ts, ⟨n, by simp, Nat.zero_le _, Same.new hD, [], ⟨rfl, upd_same, fun z hz => (by cases hz)⟩⟩, ?_⟩
  rintro i m H ⟨rfl, hi, e, ts, hr⟩
  by_cases hlt : i < n
  · refine .inr ⟨w.goes i H hlt (hG H e), fun H' => i + 1 ≤ n ∧ Same H1 H' ∧ ∃ ts, RowD0 K H' D (ks.take (i + 1)) f ts, fun H' h => ⟨n - (i + 1), by omega, rfl, h.1, h.2⟩, fun x H' y => ?_⟩
    have hb : ks[i]? = some (ks[i]'(by omega)) := by simp [show i < ks.length by omega]
    have q := hs i _ H x H' (fun y z H5 => ∃ kvs k, y = kV k ∧ H5 D = some (.dK kvs) ∧ kvs.length < sizeLine ∧ (i + 1 ≤ n ∧ Same H1 (upd H5 D (.dK (putK kvs k z))) ∧ ∃ ts, RowD0 K (upd H5 D (.dK (putK kvs k z))) D (ks.take (i + 1)) f ts)) hb e (w.yields i H x H' hlt (hG H e) y) fun t H5 e5 ht => ?_
    · exact q
    · have hr5 := hr.same e5
      have hno : ¬ ks[i]'(by omega) ∈ ks.take i := fun z => by
        obtain ⟨j, hj⟩ := List.getElem?_of_mem z
        have hji : j < i := by
          refine Decidable.byContradiction fun z => ?_
          rw [List.getElem?_eq_none (by rw [List.length_take]; omega)] at hj
          cases hj
        rw [List.getElem?_take_of_lt hji] at hj
        obtain ⟨h1, e1⟩ := List.getElem?_eq_some_iff.1 hj
        exact absurd e1 (List.pairwise_iff_getElem.1 hnd j i h1 (by omega) hji)
      refine ⟨_, Sum.inl (ks[i]'(by omega)), rfl, hr5.at_, ?_, hlt, (e.trans e5).put hD, ts ++ [t], ?_⟩
      · unfold entD
        rw [List.length_map, List.length_zip, hr.len, Nat.min_self, List.length_take]
        omega
      · rw [take_snoc hb]
        exact hr5.put hno (fun _ _ => rfl) ht
  · refine .inl ⟨?_, hd D H hD e ⟨ts, by rwa [List.take_of_length_le (by omega)] at hr⟩⟩
    rw [show i = n by omega]
    exact w.stops H (hG H e)
abbrev kP (K : PySem.W.Frag) : Addr := He.ga K "Plan"
def fP (a d : Addr) : List (Str × V) := [("asked", .ref a), ("own_mixers", .ref d)]
structure PlanOk (K : PySem.W.Frag) (H : Hp) (p : Addr) (T : TSpec) (mx : Int → List Int) (dx a d : Addr) : Prop where
  self : H p = some (.ins (kP K) dx (fP a d))
  task : TaskAt K H a T
  mix : RowD K H d (marks T.rs) mx
  ok : MixOk T mx
def PlanAt (K : PySem.W.Frag) (H : Hp) (p : Addr) (T : TSpec) (mx : Int → List Int) : Prop := ∃ dx a d, PlanOk K H p T mx dx a d
theorem PlanAt.same {K : PySem.W.Frag} {H H' : Hp} {p : Addr} {T : TSpec} {mx : Int → List Int} (h : PlanAt K H p T mx) (e : Same H H') : PlanAt K H' p T mx := let ⟨dx, a, d, h⟩ := h; ⟨dx, a, d, e _ _ h.self, h.task.same e, h.mix.same e, h.ok⟩
theorem TaskAt.but {K : PySem.W.Frag} {H G : Hp} {p a : Addr} {T : TSpec} {C dx : Addr} (h : TaskAt K H a T) (hp : H p = some (.ins C dx [])) (_ : ∀ l : Nat, True) (e : SameBut p H G) : TaskAt K G a T := by
  obtain ⟨dxt, rk, f, wb, er, gn, told, gs, t⟩ := h
  obtain ⟨dxf, hf, hq⟩ := t.fld
  exact ⟨dxt, rk, f, wb, er, gn, told, gs, but_ins e hp t.self (fun z => by cases z), but_at e hp t.rk (fun _ _ _ z => by cases z), t.tok, t.all, ⟨dxf, but_ins e hp hf (fun z => by cases z), hq⟩, t.web.but hp (fun _ _ z => by cases z) e,
    but_at e hp t.ear (fun _ _ _ z => by cases z), but_at e hp t.gon (fun _ _ _ z => by cases z), fun z hz => but_seqT e hp (t.rows z hz), t.geq, t.ok⟩
section
variable {P : Program} {w : World} {K : PySem.W.Frag} {mg : Str → Option Value} {base : Heap}
theorem r_neInts {a b : Addr} {xs ys : List Int} {H : Hp} {Q : VK} (h1 : SqL K H a (xs.map V.int)) (h2 : SqL K H b (ys.map V.int)) (q : Q (.bl (!decide (xs = ys))) H) : rNeD K (.ref a) (.ref b) H Q :=
  ⟨_, _, .lst h1 (dp_ints xs), .lst h2 (dp_ints ys), (lay_list (lay_ints 0 xs)).shaped (by omega), (lay_list (lay_ints 0 ys)).shaped (by omega), by rw [show PyData.eqv (.list (xs.map PyData.int)) (.list (ys.map PyData.int)) = PyData.eqvAll (xs.map PyData.int) (ys.map PyData.int) by simp only [PyData.eqv], eqvAll_ints]; exact q⟩
theorem sc_Plan_init : FnScope ["self", "task", "mixers", "field", "numbers", "number", "row", "one"] ["self", "task", "mixers"] d_Plan_init.scope := ⟨rfl, rfl, rfl, by decide +kernel, rfl, by decide +kernel, by decide +kernel⟩
def sp_Plan_init (K : PySem.W.Frag) : Sp := SpN 3 fun vs H Q => ∃ p dx a d T mx, vs = [.ref p, .ref a, .ref d] ∧ H p = some (.ins (kP K) dx []) ∧ TaskAt K H a T ∧ RowD K H d (marks T.rs) mx ∧ MixOk T mx ∧ ∀ H', SameBut p H H' → PlanAt K H' p T mx → Q .non H'
theorem raw_Plan_init (S : Says K mg) {fd : FuncData} (F : FunD K d_Plan_init.name d_Plan_init.qual d_Plan_init.params d_Plan_init.body d_Plan_init.scope [] [] (He.fAd K d_Plan_init.at_) fd) :
    FnOk P w K mg base CX0 6 (He.fAd K d_Plan_init.at_) fd ["self", "task", "mixers"] (sp_Plan_init K) := by
  refine fn_ok F sc_Plan_init rfl fun cdv A outer s H vs Q E hr h => ?_
  obtain ⟨p, dx, a, d, T, mx, rfl, hp, t0, hmx, hmo, k⟩ := h
  obtain ⟨dxt, rk, f0, wb, er, gn, told0, gs, t⟩ := id t0
  obtain ⟨dxn, dN, dR, zs, no⟩ := id t.web
  have hasc := no.asc
  have hfew := no.few
  have hmnd := marks_nodup hasc
  have hml : (marks T.rs).length ≤ 30 := by unfold marks; rw [List.length_map]; exact hfew.2
  refine ⟨_, (pss_cons (ps_set (i := 3) sc_Plan_init.nd rfl (by first | exact Or.inl rfl | exact Or.inr rfl) (pm0 (ok_Task_field (K := K) S) (hr.mono (by decide)) (c_Task (K := K) S) (m_Task_field (K := K) S) (pv 1))) (pss_cons (ps_set (i := 4) sc_Plan_init.nd rfl (by first | exact Or.inl rfl | exact Or.inr rfl) (pm0 (ok_Net_numbers (K := K) S) (hr.mono (by decide)) (c_Net (K := K) S) (m_Net_numbers (K := K) S) (pm0 (ok_Task_net (K := K) S) (hr.mono (by decide)) (c_Task (K := K) S) (m_Task_net (K := K) S) (pv 1)))) (pss_cons (ps_if (pt_cmpR (op_neDK K (hu64 hr)) (pe_callB (cr_sortedK K) (by rfl) (n_sorted S) (by decide +kernel) (pa_cons (pe_callTy (call_list_dK rfl) (by rfl) (n_list S) (by decide +kernel) (pa_cons (pv 2) pa_nil)) pa_nil)) (pv 4) (nomark _)) (pss_one ps_never) pss_nil) (pss_cons (ps_for PassesOwn.never rfl (pi_listK K (pv 4)) (pg_name (i := 5) sc_Plan_init.nd rfl (by first | exact Or.inl rfl | exact Or.inr rfl)) (pss_cons (ps_set (i := 6) sc_Plan_init.nd rfl (by first | exact Or.inl rfl | exact Or.inr rfl) (pe_dget (hu_of hr) (pv 2) (pv 5) (fun _ _ => rfl))) (pss_one (ps_if (PW.pt (pw_or (pt_cmpR op_ne (pe_callB (call_len_seqK K) (by rfl) (n_len S) PySem.boot_len (pa_cons (pv 6) pa_nil)) (pm (ok_Task_inputs (K := K) S) (hr.mono (by decide)) (c_Task (K := K) S) (m_Task_inputs (K := K) S) (pv 1) (pa_cons (pv 5) pa_nil)) (nomark _)) (pw_or1 (pt_not (pt_val (pe_callB (cr_allK K rfl) (by rfl) (n_all S) (by decide +kernel) (pa_cons (pe_lc (own := [("one", 7)]) rfl sc_Plan_init.nd (pi_tupK K (pv 6)) (blkOk_by (N := ["self", "task", "mixers", "field", "numbers", "number", "row", "one"]) (sc := d_Plan_init.scope) (by decide +kernel)) (fun _ _ _ _ _ => (pg_name (i := 7) sc_Plan_init.nd rfl (by first | exact Or.inl rfl | exact Or.inr rfl))) (fun _ _ _ _ _ => pts_nil) (fun _ _ _ _ _ => (pm (ok_Field_has (K := K) S) (hr.mono (by decide)) (c_Field (K := K) S) (m_Field_has (K := K) S) (pv 3) (pa_cons (pv 7) pa_nil)))) pa_nil))))))) (pss_one ps_never) pss_nil)))) (pss_cons (ps_fldK K (pv 0) (pv 1) rfl) (pss_one (ps_fldK K (pv 0) (pe_dc (own := [("number", 5)]) rfl sc_Plan_init.nd (pi_listK K (pv 4)) (blkOk_by (N := ["self", "task", "mixers", "field", "numbers", "number", "row", "one"]) (sc := d_Plan_init.scope) (by decide +kernel)) (fun _ _ _ _ _ => (pg_name (i := 5) sc_Plan_init.nd rfl (by first | exact Or.inl rfl | exact Or.inr rfl))) (fun _ _ _ _ _ => pts_nil) (fun _ _ _ _ _ => (pv 5)) (fun _ _ _ _ _ => (pe_tupleOfK K rfl (n_tuple S) (pe_dget (hu_of hr) (pv 2) (pv 5) (fun _ _ => rfl))))) rfl))))))), ?_⟩
  repeat tb_rel
  refine r_Mv t.self rfl ?_
  repeat tb_rel
  refine ⟨rfl, a, T, rfl, t0, fun fl hfl => ?_⟩
  obtain ⟨dxf, hf1, hq⟩ := id hfl
  repeat tb_rel
  refine r_Mv t.self rfl ?_
  repeat tb_rel
  refine ⟨rfl, a, T, rfl, t0, fun u H1 e1 hu => ?_⟩
  obtain ⟨dxu, uN, uR, uz, uo⟩ := id hu
  repeat tb_rel
  refine r_Mv uo.self rfl ?_
  repeat tb_rel
  refine ⟨rfl, u, _, _, rfl, hu, fun N H2 hN e2 h2 => ?_⟩
  repeat tb_rel
  have e12 := e1.trans e2
  obtain ⟨ts, hrd⟩ := id (hmx.same e12)
  refine ⟨d, _, rfl, hrd.at_, fun L1 hL1 => ?_⟩
  repeat tb_rel
  have eL := Same.new hL1 (o := .lst ((entD (marks T.rs) ts).map fun kv => kV kv.1))
  have hkeys : (entD (marks T.rs) ts).map (fun kv => kV kv.1) = (marks T.rs).map V.int := by
    unfold entD
    rw [List.map_map]
    have : ((fun kv : Key × V => kV kv.1) ∘ fun z : Int × Addr => ((Sum.inl z.1 : Key), V.ref z.2)) = V.int ∘ Prod.fst := rfl
    rw [this, ← List.map_map, List.map_fst_zip (by rw [hrd.len]; exact Nat.le_refl _)]
  refine ⟨L1, marks T.rs, rfl, .of (by rw [upd_same, hkeys]), by omega, fun ys L2' hp2 hs2 hL2 => ?_⟩
  repeat tb_rel
  have hys : ys = marks T.rs := List.Perm.eq_of_pairwise (le := (· ≤ ·)) (fun a b _ _ h1 h2 => Int.le_antisymm h1 h2) hs2 (List.pairwise_map.2 (hasc.imp fun h => Int.le_of_lt h)) hp2
  have eL2 := Same.new hL2 (o := .lst (ys.map V.int))
  refine r_neInts (.of upd_same) (.of (eL2 _ _ (eL _ _ h2))) ?_
  rw [hys, decide_eq_true rfl]
  repeat tb_rel
  refine iteF ?_
  repeat tb_rel
  rw [hys] at eL2
  have e3 := (e12.trans eL).trans eL2
  have hG : SqL K (upd (upd H2 L1 (.lst ((entD (marks T.rs) ts).map fun kv => kV kv.1))) L2' (.lst ((marks T.rs).map V.int))) N ((marks T.rs).map V.int) := .of (eL2 _ _ (eL _ _ h2))
  refine ⟨_, rfl, ⟨_, hG⟩, ?_⟩
  refine for_B (walk_list (xs := (marks T.rs).map V.int)) (fun i σ G => ∃ x6 x7 x8, σ = [some (.ref p), some (.ref a), some (.ref d), some (.ref fl), some (.ref N), x6, x7, x8] ∧ Same H G ∧ SqL K G N ((marks T.rs).map V.int))
    ⟨_, _, _, rfl, e3, hG⟩ (fun i σ G _ ⟨_, _, _, _, _, h⟩ => h) ?_ ?_
  · rintro i v σ G0 G hi ⟨x6, x7, x8, rfl, e, hGN⟩ ⟨rfl, hv⟩
    obtain ⟨m, hm, rfl⟩ := map_get hv
    have hmem := List.mem_of_getElem? hm
    obtain ⟨r, hr2, rfl⟩ := List.mem_map.1 hmem
    obtain ⟨tm, hdg, htm⟩ := (hmx.same e).get hmnd hmem
    repeat tb_rel
    refine ⟨d, _, rfl, hdg, ?_⟩
    repeat tb_rel
    refine r_len (.inr htm) ?_
    repeat tb_rel
    refine r_Mv (e _ _ t.self) rfl ?_
    repeat tb_rel
    refine ⟨rfl, a, T, r, rfl, t0.same e, hr2, fun G1 e4 => ?_⟩
    repeat tb_rel
    rw [List.length_map, (hmo r hr2).1]
    refine ite_n (fun h => absurd rfl h) fun _ => ?_
    repeat tb_rel
    refine ⟨_, rfl, ⟨_, e4.seqT htm⟩, ?_⟩
    have hm30 : (mx r.mark).length ≤ 30 := by
      rw [(hmo r hr2).1]
      unfold inputsN
      split
      · have := t.ok.m
        omega
      · unfold intoM marks
        rw [List.length_map]
        exact Nat.le_trans (List.length_filter_le _ _) hfew.2
    refine lc_M (walk_tup (xs := (mx r.mark).map V.int)) (mx r.mark) (by simp) (by rw [List.length_map]; exact Nat.lt_of_le_of_lt hm30 (by decide)) (fun x => .bl (decide (0 ≤ x ∧ x < T.q))) (fun G e => e.seqT (e4.seqT htm)) ?_ ?_
    · rintro j x G2 y G2' R hx e5 ⟨rfl, hy⟩ hR
      obtain ⟨z, hz2, rfl⟩ := map_get hy
      obtain rfl := Option.some.inj (hx.symm.trans hz2)
      repeat tb_rel
      refine ⟨rfl, ?_⟩
      repeat tb_rel
      refine r_Mv (e5 _ _ (e4 _ _ (e _ _ hf1))) rfl ?_
      repeat tb_rel
      exact ⟨rfl, fl, T.q, x, rfl, ⟨dxf, e5 _ _ (e4 _ _ (e _ _ hf1)), hq⟩, hR _ (Same.refl _)⟩
    · intro D H4 hD e5 h4
      repeat tb_rel
      refine ⟨D, (mx r.mark).map fun x => decide (0 ≤ x ∧ x < T.q), rfl, .of (by rw [h4, List.map_map]; rfl), ?_⟩
      rw [show (((mx r.mark).map fun x => decide (0 ≤ x ∧ x < T.q)).all id) = true by
        rw [List.all_eq_true]
        intro b hb
        obtain ⟨x, hx, rfl⟩ := List.mem_map.1 hb
        exact decide_eq_true ((hmo r hr2).2 x hx)]
      repeat tb_rel
      refine iteF ?_
      repeat tb_rel
      exact ⟨_, _, _, rfl, e.trans (e4.trans e5), (e4.trans e5).seqL hGN⟩
  · rintro σ G ⟨x6, x7, x8, rfl, e, hGN⟩
    repeat tb_rel
    refine r_fldP (e _ _ hp) (c_Plan S) (a_Plan_asked S) (by decide) ?_
    repeat tb_rel
    have b1 : SameBut p H (upd G p (.ins (He.ga K "Plan") dx (putF "asked" (.ref a) []))) := (SameBut.of e).put
    have hGN2 : SqL K (upd G p (.ins (He.ga K "Plan") dx (putF "asked" (.ref a) []))) N ((marks T.rs).map V.int) := but_seqL (SameBut.put (SameBut.of (Same.refl G))) (e _ _ hp) hGN
    have hmxb : RowD K (upd G p (.ins (He.ga K "Plan") dx (putF "asked" (.ref a) []))) d (marks T.rs) mx := by
      obtain ⟨ts, hrd⟩ := id hmx
      exact ⟨ts, hrd.len, but_at b1 hp hrd.at_ (fun _ _ _ z => by cases z), fun z hz => but_seqT b1 hp (hrd.row z hz)⟩
    have hpa : upd G p (.ins (He.ga K "Plan") dx (putF "asked" (.ref a) [])) p = some (.ins (He.ga K "Plan") dx (putF "asked" (.ref a) [])) := upd_same
    generalize hX : upd G p (.ins (He.ga K "Plan") dx (putF "asked" (.ref a) [])) = X at b1 hGN2 hmxb hpa
    have hX2 : upd G p (.ins (kP K) dx (putF "asked" (.ref a) [])) = X := hX
    refine ⟨_, rfl, ⟨_, by first | exact hGN2 | (rw [← hX] at hGN2; exact hGN2)⟩, ?_⟩
    have hGN2 : SqL K X N ((marks T.rs).map V.int) := by first | exact hGN2 | (rw [← hX] at hGN2; exact hGN2)
    refine dc_R (K := K) (walk_list (xs := (marks T.rs).map V.int)) (marks T.rs) (by simp) (by rw [List.length_map]; exact Nat.lt_of_le_of_lt hml (by decide)) hmnd mx (fun G e => by first | exact e.seqL hGN2 | (rw [hX] at e; exact e.seqL hGN2)) ?_ ?_
    · rintro i m G2 x G2' R hm e5 ⟨rfl, hx⟩ hR
      obtain ⟨z, hz, rfl⟩ := map_get hx
      obtain rfl := Option.some.inj (hm.symm.trans hz)
      have e5 : Same X G2' := by first | exact e5 | (rw [hX] at e5; exact e5)
      obtain ⟨tm, hdg, htm⟩ := (hmxb.same e5).get hmnd (List.mem_of_getElem? hm)
      repeat tb_rel
      refine ⟨rfl, ?_⟩
      repeat tb_rel
      refine ⟨d, _, rfl, hdg, ?_⟩
      exact .inr ⟨tm, _, rfl, htm, hR tm _ (Same.refl _) htm⟩
    · intro D H4 hD e4 hrd
      have e4 : Same X H4 := by first | exact e4 | (rw [hX] at e4; exact e4)
      repeat tb_rel
      refine r_fldP (e4 _ _ hpa) (c_Plan S) (a_Plan_own_mixers S) (Nat.le_of_ble_eq_true rfl) ?_
      repeat tb_rel
      have b9 : ∀ o, SameBut p H (upd H4 p o) := fun o => (b1.trans (SameBut.of e4)).put
      refine k _ (b9 _) ⟨dx, a, D, upd_same, ?_, ?_, hmo⟩
      · exact t0.but hp (fun _ => trivial) (b9 _)
      · obtain ⟨ts, hrd⟩ := hrd
        have hp4 := e4 _ _ hpa
        exact ⟨ts, hrd.len, but_at (SameBut.put (SameBut.of (Same.refl H4))) hp4 hrd.at_ (fun _ _ _ z => by cases z), fun z hz => but_seqT (SameBut.put (SameBut.of (Same.refl H4))) hp4 (hrd.row z hz)⟩
end
end Mg
/-! P4 -/
namespace L2
open PySem PySem.Spec PyProof.Rows
theorem r_lenI {C a dx : Addr} {fs : List (Str × V)} {sp : Sp} {H : Hp} {Q : VK} (h1 : H a = some (.ins C dx fs)) (h : sp [.ref a] H (fun v H' => ∃ n : Int, v = .int n ∧ 0 ≤ n ∧ n < 2 ^ 63 ∧ Q (.int n) H') E0) : rLenI C sp [.ref a] H Q := ⟨a, dx, fs, rfl, h1, h⟩
/-- all but tables and told things stays -/
def ExtT (H H' : Hp) : Prop := ∀ b o, H b = some o → NT o → H' b = some o
theorem ExtT.of {H H' : Hp} (e : Same H H') : ExtT H H' := fun b o h _ => e b o h
theorem ExtT.trans {H H1 H2 : Hp} (x : ExtT H H1) (y : ExtT H1 H2) : ExtT H H2 := fun b o h n => y b o (x b o h n) n
/-- the heap without them -/
def cleanH (H : Hp) : Hp := fun a => match H a with
  | some (.tbl _) => none
  | some (.ext _) => none
  | o => o
theorem cleanH_same (H : Hp) : Same (cleanH H) H := fun a o h => by
  unfold cleanH at h
  split at h
  · cases h
  · cases h
  · exact h
theorem cleanH_nt (H : Hp) : ∀ a o, cleanH H a = some o → NT o := fun a o h => by
  unfold cleanH at h
  split at h
  · cases h
  · cases h
  · rename_i h1 h2
    exact ⟨fun ps z => h1 ps (by rw [h, z]), fun φ z => h2 φ (by rw [h, z])⟩
theorem cleanH_of {H : Hp} {a : Addr} {o : HO} (h : H a = some o) (n : NT o) : cleanH H a = some o := by
  unfold cleanH
  split
  · rename_i ps e
    rw [e] at h
    cases h
    exact absurd rfl (n.1 ps)
  · rename_i φ e
    rw [e] at h
    cases h
    exact absurd rfl (n.2 φ)
  · exact h
open LamX in
theorem jT0 {P : Addr} {q : Str} {H : Hp} (t : TabS H P q) : JT P q (cleanH H) H := ⟨cleanH_same H, t, cleanH_nt H⟩
theorem ExtT.clean {H H' : Hp} (e : Same (cleanH H) H') : ExtT H H' := fun b o h n => e b o (cleanH_of h n)
theorem ExtT.at {S H H' : Hp} (e : ExtT H H') (s : Same S H) (n : ∀ a o, S a = some o → NT o) : Same S H' := fun b o h => e b o (s b o h) (n b o h)
theorem extT_T {K : PySem.W.Frag} {H H' : Hp} {a : Addr} {xs : List V} (e : ExtT H H') (h : SqT K H a xs) : SqT K H' a xs := by
  rcases h with (h | ⟨o, h⟩) | h
  · exact .inl (.inl (e _ _ h nt_tup))
  · exact .inl (.inr ⟨o, e _ _ h ⟨fun ps z => (by cases z), fun φ z => (by cases z)⟩⟩)
  · exact .inr h
end L2
namespace Mg
open PySem PySem.Spec PyProof.Rows L2 LamX
theorem acc_refsG {α : Type} {K : PySem.W.Frag} {H : Hp} {f : α → List Int} : ∀ {us : List V} {ns : List α}, us.length = ns.length → (∀ (i : Nat) (a : α) (v : V), ns[i]? = some a → us[i]? = some v → ∃ t, v = .ref t ∧ SqT K H t ((f a).map V.int)) →
    ∃ rs : List (Addr × List Int), us = refs rs ∧ rs.map (·.2) = ns.map f ∧ RowsAt K H rs
  | [], [], _, _ => ⟨[], rfl, rfl, fun z hz => by cases hz⟩
  | u :: us, n :: ns, hl, h => by
    obtain ⟨t, rfl, ht⟩ := h 0 n u rfl rfl
    obtain ⟨rs, e1, e2, e3⟩ := acc_refsG (us := us) (ns := ns) (by simpa using hl) fun i a v h1 h2 => h (i + 1) a v h1 h2
    refine ⟨(t, f n) :: rs, by rw [e1]; rfl, by rw [List.map_cons, List.map_cons, e2], fun z hz => ?_⟩
    rcases List.mem_cons.1 hz with rfl | hz
    · exact ht
    · exact e3 z hz
/-- heads that were made -/
structure HeadsD (K : PySem.W.Frag) (H : Hp) (D : Addr) (T : TSpec) (mx : Int → List Int) (lost : List Int) (told : List Str) (f : Int → List Int) : Prop where
  row : RowD K H D (orderM T.rs told) f
  ok : HeadsOk T mx lost f
  tok : Told T.names T.rs told
  all : ∀ n ∈ T.names, n ∈ told
  len : ∀ r ∈ T.rs, (f r.mark).length = T.m ∧ InR T.q (f r.mark)
section
variable {P : Program} {w : World} {K : PySem.W.Frag} {mg : Str → Option Value} {base : Heap}
theorem sc_Plan_heads_under : FnScope ["self", "lost", "many", "at"] ["self", "lost"] d_Plan_heads_under.scope := ⟨rfl, rfl, rfl, by decide +kernel, rfl, by decide +kernel, by decide +kernel⟩
def sp_heads_under (K : PySem.W.Frag) : Sp := SpN 2 fun vs H Q => ∃ p lo T mx lost, vs = [.ref p, .ref lo] ∧ PlanAt K H p T mx ∧ SqT K H lo (lost.map V.int) ∧
  ∀ (D : Addr) (H' : Hp) (told : List Str) (f : Int → List Int), H D = none → Same H H' → HeadsD K H' D T mx lost told f → Q (.ref D) H'
theorem ok_Plan_heads_under (S : Says K mg) : Fn P w K mg base 6 (He.fAd K d_Plan_heads_under.at_) (sp_heads_under K) := by
  refine fn_body (f_Plan_heads_under S) sc_Plan_heads_under rfl (fun _ _ _ _ _ _ us hl => match us, hl with | [_, _], _ => rfl) fun cdv A outer s H vs Q E hr h => ?_
  obtain ⟨p, lo, T, mx, lost, rfl, ⟨dx, a, d, po⟩, hlo, k⟩ := h
  obtain ⟨dxt, rk, f0, wb, er, gn, told0, gs, t⟩ := id po.task
  have hm := t.ok.m
  refine ⟨_, (pss_cons (ps_set (i := 2) sc_Plan_heads_under.nd rfl (by first | exact Or.inl rfl | exact Or.inr rfl) (pm0 (ok_Task_letters (K := K) S) (hr.mono (by decide)) (c_Task (K := K) S) (m_Task_letters (K := K) S) (pe_fldK K (pv 0) rfl))) (pss_one (ps_ret (pc (ok_run_through (K := K) S) (hr.mono (by decide)) (g_run_through S) (f_run_through S).choose_spec.kp rfl (pa_cons (pe_fldK K (pv 0) rfl) (pa_cons (pe_fldK K (pv 0) rfl) (pa_cons (pe_lc (own := [("at", 3)]) rfl sc_Plan_heads_under.nd (pi_range1 rfl (n_range S) (pa_cons (pv 2) pa_nil)) (blkOk_by (N := ["self", "lost", "many", "at"]) (sc := d_Plan_heads_under.scope) (by decide +kernel)) (fun _ _ _ _ _ => (pg_name (i := 3) sc_Plan_heads_under.nd rfl (by first | exact Or.inl rfl | exact Or.inr rfl))) (fun _ _ _ _ _ => pts_nil) (fun _ _ _ _ _ => (pc (ok_unit (K := K) S) (hr.mono (by decide)) (g_unit S) (f_unit S).choose_spec.kp rfl (pa_cons (pv 3) (pa_cons (pv 2) pa_nil))))) (pa_cons (pv 2) (pa_cons (pv 1) pa_nil))))))))), ?_⟩
  repeat tb_rel
  refine r_fld po.self (c_Plan S) (a_Plan_asked S) rfl ?_
  refine r_Mv t.self rfl ?_
  repeat tb_rel
  refine ⟨rfl, a, T, rfl, po.task, ?_⟩
  repeat tb_rel
  refine r_fld po.self (c_Plan S) (a_Plan_asked S) rfl ?_
  repeat tb_rel
  refine r_fld po.self (c_Plan S) (a_Plan_own_mixers S) rfl ?_
  repeat tb_rel
  refine ⟨_, rfl, by omega, by omega, ?_⟩
  refine lc_E (walk_range (n := T.m)) (List.range T.m) (by simp) (Nat.lt_of_le_of_lt hm.2 (by decide)) (fun (i : Nat) S v => ∃ t, v = .ref t ∧ SqT K S t ((unitF i T.m).map V.int)) (fun a S S' v e ⟨t, h1, h2⟩ => ⟨t, h1, e.seqT h2⟩) (fun a S v D l l' hl ⟨t, h1, h2⟩ => ⟨t, h1, seqT_putL h2 hl⟩) (fun _ _ => trivial) ?_ ?_
  · rintro i j G x G' R hj e ⟨rfl, rfl⟩ hR
    obtain ⟨hlt, rfl⟩ := range_get hj
    repeat tb_rel
    refine ⟨rfl, ?_⟩
    repeat tb_rel
    refine ⟨rfl, j, T.m, by simp, hlt, by omega, fun u H5 e5 n5 => hR _ H5 e5 ⟨u, rfl, n5.sq⟩⟩
  · intro B H1 us hB e1 h1 hl hE
    obtain ⟨bs, rfl, hb2, hb3⟩ := acc_refsG hl hE
    repeat tb_rel
    exact ⟨rfl, a, d, B, lo, T, mx, bs, lost, rfl, po.task.same e1, po.mix.same e1, po.ok, .of h1, hb3, hb2, e1.seqT hlo, fun D H' told f hD e2 hr hh ht ha hl => k D H' told f (e1.free hD) (e1.trans e2) ⟨hr, hh, ht, ha, hl⟩⟩
theorem sc_Plan_heads : FnScope ["self", "loss"] ["self", "loss"] d_Plan_heads.scope := ⟨rfl, rfl, rfl, by decide +kernel, rfl, by decide +kernel, by decide +kernel⟩
def sp_heads (K : PySem.W.Frag) : Sp := SpN 2 fun vs H Q => ∃ p lo T mx lost, vs = [.ref p, .ref lo] ∧ PlanAt K H p T mx ∧ SqT K H lo (lost.map V.int) ∧ (∀ x ∈ lost, MarkIn x T.rs) ∧
  ∀ (D : Addr) (H' : Hp) (told : List Str) (f : Int → List Int), H D = none → Same H H' → HeadsD K H' D T mx lost told f → Q (.ref D) H'
theorem raw_Plan_heads (S : Says K mg) {fd : FuncData} (F : FunD K d_Plan_heads.name d_Plan_heads.qual d_Plan_heads.params d_Plan_heads.body d_Plan_heads.scope (d_Plan_heads.dvs K) (d_Plan_heads.kws K) (He.fAd K d_Plan_heads.at_) fd) :
    FnOk P w K mg base CX0 7 (He.fAd K d_Plan_heads.at_) fd ["self", "loss"] (sp_heads K) := by
  refine fn_ok F sc_Plan_heads rfl fun cdv A outer s H vs Q E hr h => ?_
  obtain ⟨p, lo, T, mx, lost, rfl, hp, hlo, hin, k⟩ := h
  obtain ⟨dx, a, d, po⟩ := id hp
  obtain ⟨dxt, rk, f0, wb, er, gn, told0, gs, t⟩ := id po.task
  refine ⟨_, (pss_cons (ps_expr (pc (ok_need_lost (K := K) S) (hr.mono (by decide)) (g_need_lost S) (f_need_lost S).choose_spec.kp rfl (pa_cons (pm0 (ok_Task_net (K := K) S) (hr.mono (by decide)) (c_Task (K := K) S) (m_Task_net (K := K) S) (pe_fldK K (pv 0) rfl)) (pa_cons (pv 1) pa_nil)))) (pss_one (ps_ret (pm (ok_Plan_heads_under (K := K) S) (hr.mono (by decide)) (c_Plan (K := K) S) (m_Plan_heads_under (K := K) S) (pv 0) (pa_cons (pv 1) pa_nil))))), ?_⟩
  repeat tb_rel
  refine r_fld po.self (c_Plan S) (a_Plan_asked S) rfl ?_
  refine r_Mv t.self rfl ?_
  repeat tb_rel
  refine ⟨rfl, a, T, rfl, po.task, fun u H1 e1 hu => ?_⟩
  repeat tb_rel
  refine ⟨rfl, u, lo, _, _, lost, rfl, hu, e1.seqT hlo, hin, ?_⟩
  repeat tb_rel
  refine r_Mv (e1 _ _ po.self) rfl ?_
  repeat tb_rel
  exact ⟨rfl, p, lo, T, mx, lost, rfl, hp.same e1, e1.seqT hlo, fun D H' told f hD e2 hh => k D H' told f (e1.free hD) (e1.trans e2) hh⟩
theorem ok_Plan_heads0 (S : Says K mg) : Fn P w K mg base 7 (He.fAd K d_Plan_heads.at_) (fun vs H Q E => sp_heads K (vs ++ [.ref (He.dflAt ("Plan", some "heads") 0 K)]) H Q E) := by
  obtain ⟨fd, F⟩ := f_Plan_heads S
  obtain ⟨ds, hd, hb⟩ := F.binds1 (ps := ["self", "loss"]) 1 0 (fun z => by cases z) rfl (fun T kV doc pm an cdv ct us its hu hi => match us, hu, its, hi with | [_], _, [_], _ => ⟨_, rfl, rfl⟩)
  exact (raw_Plan_heads (P := P) (w := w) (base := base) S F).raw hb hd
theorem dfl_at (S : Says K mg) (H : Hp) : SqT K H (He.dflAt ("Plan", some "heads") 0 K) (([] : List Int).map V.int) := tupAtB_ok (He.ba (He.ba (He.ba S.more).2).2).2 H
theorem sc_Plan_heard : FnScope ["self", "hearer", "loss", "heads", "rows", "number"] ["self", "hearer", "loss"] d_Plan_heard.scope := ⟨rfl, rfl, rfl, by decide +kernel, rfl, by decide +kernel, by decide +kernel⟩
def sp_heard (K : PySem.W.Frag) : Sp := SpN 3 fun vs H Q => ∃ p h lo T mx lost, vs = [.ref p, .str h, .ref lo] ∧ PlanAt K H p T mx ∧ h ∈ T.names ∧ SqT K H lo (lost.map V.int) ∧ TabS H (pTab K) qPut ∧ (intoM T.rs h).length ≤ 40 ∧
  ∀ (u : Addr) (H' : Hp) (f : Int → List Int) (ls : Lead), ExtT H H' → TabS H' (pTab K) qPut → SpanAt K H' u T.q T.m ls → HeadsOk T mx lost f → (∀ r ∈ T.rs, (f r.mark).length = T.m ∧ InR T.q (f r.mark)) → SpanRun T.q ((intoM T.rs h).map f) ls → Q (.ref u) H'
theorem ok_Plan_heard (S : Says K mg) (TB : TabB base mg (cPut K) (pTab K)) : Fn P w K mg base 8 (He.fAd K d_Plan_heard.at_) (sp_heard K) := by
  refine fn_body (f_Plan_heard S) sc_Plan_heard rfl (fun _ _ _ _ _ _ us hl => match us, hl with | [_, _, _], _ => rfl) fun cdv A outer s H vs Q E hr h => ?_
  obtain ⟨p, h, lo, T, mx, lost, rfl, hp, hh, hlo, htab, hfew2, k⟩ := h
  obtain ⟨dx, a, d, po⟩ := id hp
  obtain ⟨dxt, rk, f0, wb, er, gn, told0, gs, t⟩ := id po.task
  obtain ⟨fdS, FS⟩ := f_Span_init S
  obtain ⟨mv, kbS⟩ := FS.kbinds0 (ps := ["self", "field", "width", "rows"]) 3 ["rows"] [] (fun us _ ws => us ++ ws) (fun z => by cases z) (fun q hq => by cases hq) (fun h1 _ h2 => h1.append h2)
    (fun D doc pm an cdv ct us mv ws hu hm hw => match us, hu, mv, hm, ws, hw with | [_, _, _], _, [], _, [_], _ => rfl)
  have hm4 := t.ok.m
  refine ⟨_, (pss_cons (ps_set (i := 3) sc_Plan_heard.nd rfl (by first | exact Or.inl rfl | exact Or.inr rfl) (pm (ok_Plan_heads_under (K := K) S) (hr.mono (by decide)) (c_Plan (K := K) S) (m_Plan_heads_under (K := K) S) (pv 0) (pa_cons (pv 2) pa_nil))) (pss_cons (ps_setLc (i := 4) (own := [("number", 5)]) rfl sc_Plan_heard.nd rfl rfl (sw_true rfl rfl rfl (by decide +kernel)) (pi_listK K (pm (ok_Net_into (K := K) S) (hr.mono (by decide)) (c_Net (K := K) S) (m_Net_into (K := K) S) (pm0 (ok_Task_net (K := K) S) (hr.mono (by decide)) (c_Task (K := K) S) (m_Task_net (K := K) S) (pe_fldK K (pv 0) rfl)) (pa_cons (pv 1) pa_nil))) (blkOk_by (N := ["self", "hearer", "loss", "heads", "rows", "number"]) (sc := d_Plan_heard.scope) (by decide +kernel)) (fun _ _ _ _ _ => (pg_name (i := 5) sc_Plan_heard.nd rfl (by first | exact Or.inl rfl | exact Or.inr rfl))) (fun _ _ _ _ _ => pts_nil) (fun _ _ _ _ _ => (pe_dget (hu_of hr) (pv 3) (pv 5) (fun _ _ => rfl)))) (pss_one (ps_ret (pe_makeK (k_Span (K := K) S) (raw_Span_init S TB FS) (hr.mono (by decide)) rfl (g_Span S) kbS pass0 (pa_cons (pm0 (ok_Task_field (K := K) S) (hr.mono (by decide)) (c_Task (K := K) S) (m_Task_field (K := K) S) (pe_fldK K (pv 0) rfl)) (pa_cons (pm0 (ok_Task_letters (K := K) S) (hr.mono (by decide)) (c_Task (K := K) S) (m_Task_letters (K := K) S) (pe_fldK K (pv 0) rfl)) pa_nil)) (pk_cons (pv 4) pk_nil)))))), ?_⟩
  repeat tb_rel
  refine r_Mv po.self rfl ?_
  repeat tb_rel
  refine ⟨rfl, p, lo, T, mx, lost, rfl, hp, hlo, fun D H1 told f hD e1 hd => ?_⟩
  repeat tb_rel
  have po1 : PlanOk K H1 p T mx dx a d := ⟨e1 _ _ po.self, po.task.same e1, po.mix.same e1, po.ok⟩
  refine r_fld po1.self (c_Plan S) (a_Plan_asked S) rfl ?_
  refine r_Mv (e1 _ _ t.self) rfl ?_
  repeat tb_rel
  refine ⟨rfl, a, T, rfl, po1.task, fun u H2 e2 hu => ?_⟩
  obtain ⟨dxu, uN, uR, uz, uo⟩ := id hu
  repeat tb_rel
  refine r_Mv uo.self rfl ?_
  repeat tb_rel
  refine ⟨rfl, u, _, _, h, rfl, hu, hh, fun N H3 hN e3 h3 => ?_⟩
  repeat tb_rel
  have hrd := (hd.row.same e2).same e3
  have hnd := order_nodup uo.asc hd.tok.nd
  refine ⟨_, rfl, ⟨_, .of h3⟩, ?_⟩
  refine lc_E (walk_list (xs := (intoM T.rs h).map V.int)) (intoM T.rs h) (by simp) (by rw [List.length_map]; exact Nat.lt_of_le_of_lt hfew2 (by decide)) (fun m S v => ∃ t, v = .ref t ∧ SqT K S t ((f m).map V.int)) (fun a S S' v e ⟨t, h1, h2⟩ => ⟨t, h1, e.seqT h2⟩) (fun a S v D l l' hl ⟨t, h1, h2⟩ => ⟨t, h1, seqT_putL h2 hl⟩) (fun G e => .of (e _ _ h3)) ?_ ?_
  · rintro j m G3 y G3' R hm2 e4 ⟨rfl, hy⟩ hR
    obtain ⟨z, hz2, rfl⟩ := map_get hy
    obtain rfl := Option.some.inj (hm2.symm.trans hz2)
    have hmem := List.mem_of_getElem? hm2
    unfold intoM marks at hmem
    obtain ⟨r, hr2, rfl⟩ := List.mem_map.1 hmem
    have hr3 := (List.mem_filter.1 hr2).1
    obtain ⟨tt, hg, hs⟩ := (hrd.same e4).get hnd (order_mem hr3 (hd.all _ (t.ok.acyc.1 r hr3)))
    repeat tb_rel
    refine ⟨rfl, ?_⟩
    repeat tb_rel
    exact ⟨D, _, rfl, hg, hR _ _ (Same.refl _) ⟨tt, rfl, hs⟩⟩
  · intro B H4 us hB e4 h4 hl hE
    obtain ⟨bs, rfl, hb2, hb3⟩ := acc_refs hl hE
    have e14 := ((e1.trans e2).trans e3).trans e4
    repeat tb_rel
    refine r_fld (e14 _ _ po.self) (c_Plan S) (a_Plan_asked S) rfl ?_
    refine r_Mv (e14 _ _ t.self) rfl ?_
    repeat tb_rel
    refine ⟨rfl, a, T, rfl, po.task.same e14, fun fl hfl => ?_⟩
    repeat tb_rel
    refine r_fld (e14 _ _ po.self) (c_Plan S) (a_Plan_asked S) rfl ?_
    refine r_Mv (e14 _ _ t.self) rfl ?_
    repeat tb_rel
    refine ⟨rfl, a, T, rfl, po.task.same e14, ?_⟩
    repeat tb_rel
    refine ⟨rfl, rfl, fun x dx2 hx hdx hne => ?_⟩
    have eN : Same H4 (upd (upd H4 dx2 (.own x)) x (.ins (He.ga K "Span") dx2 [])) := (Same.new hdx).put hx
    refine ⟨rfl, x, dx2, fl, T.q, T.m, B, bs, rfl, upd_same, hfl.same eN, eN _ _ h4, hb3.same eN, ?_, ?_, by omega, (htab.ext e14).ext eN, fun ls H5 hrun hext ht hs => ⟨rfl, ?_⟩⟩
    · intro z hz
      have : z.2 ∈ (intoM T.rs h).map f := by
        rw [← hb2]
        exact List.mem_map.2 ⟨z, hz, rfl⟩
      obtain ⟨m, hm, e⟩ := List.mem_map.1 this
      unfold intoM marks at hm
      obtain ⟨r, hr2, rfl⟩ := List.mem_map.1 hm
      have := hd.len r (List.mem_filter.1 hr2).1
      rw [← e]
      exact ⟨this.2, this.1⟩
    · have : bs.length = ((intoM T.rs h).map f).length := by rw [← hb2, List.length_map]
      rw [this, List.length_map]
      exact hfew2
    · have eT : ExtT H H5 := fun b o hb n => hext b o (fun z => by rw [z] at hb; rw [e14 _ _ hb] at hx; cases hx) (eN _ _ (e14 _ _ hb)) n
      rw [hb2] at hrun
      exact k x H5 f ls eT ht hs hd.ok hd.len hrun
end
end Mg
/-! P5 -/
namespace Mg
open PySem PySem.Spec PyProof.Rows L2 LamX
section
variable {K : PySem.W.Frag} {H H' : Hp}
theorem nt_dKv {kvs : List (Key × V)} : NT (.dK kvs) := nt_dK
theorem FieldAt.ext {p : Addr} {q : Int} (f : FieldAt K H p q) (e : ExtT H H') : FieldAt K H' p q := let ⟨dx, h, x⟩ := f; ⟨dx, e _ _ h nt_ins, x⟩
theorem NetAt.ext {p : Addr} {names : List Str} {rs : List Road} (h : NetAt K H p names rs) (e : ExtT H H') : NetAt K H' p names rs := by
  obtain ⟨dx, dN, dR, zs, h⟩ := h
  exact ⟨dx, dN, dR, zs, e _ _ h.self nt_ins, e _ _ h.nam nt_dK, e _ _ h.roa nt_dK, fun z hz => extT_T e (h.tup z hz), h.eq, h.asc, h.nd, h.few, h.dd⟩
theorem RowD.ext {d : Addr} {ks : List Int} {f : Int → List Int} (h : RowD K H d ks f) (e : ExtT H H') : RowD K H' d ks f := by
  obtain ⟨ts, h⟩ := h
  exact ⟨ts, h.len, e _ _ h.at_ nt_dK, fun z hz => extT_T e (h.row z hz)⟩
theorem TaskAt.ext {a : Addr} {T : TSpec} (h : TaskAt K H a T) (e : ExtT H H') : TaskAt K H' a T := by
  obtain ⟨dxt, rk, f, wb, er, gn, told, gs, t⟩ := h
  exact ⟨dxt, rk, f, wb, er, gn, told, gs, e _ _ t.self nt_ins, e _ _ t.rk nt_lst, t.tok, t.all, t.fld.ext e, t.web.ext e, e _ _ t.ear nt_lst, e _ _ t.gon nt_lst, fun z hz => extT_T e (t.rows z hz), t.geq, t.ok⟩
theorem PlanAt.ext {p : Addr} {T : TSpec} {mx : Int → List Int} (h : PlanAt K H p T mx) (e : ExtT H H') : PlanAt K H' p T mx := by
  obtain ⟨dx, a, d, h⟩ := h
  exact ⟨dx, a, d, e _ _ h.self nt_ins, h.task.ext e, h.mix.ext e, h.ok⟩
theorem CaseAt.ext {c : Str × List Int} {v : V} (h : CaseAt K c H v) (e : ExtT H H') : CaseAt K c H' v := let ⟨t, l, h1, h2, h3⟩ := h; ⟨t, l, h1, extT_T e h2, extT_T e h3⟩
theorem ExtT.toClean (H : Hp) : ExtT H (cleanH H) := fun b o h n => cleanH_of h n
end
def BadR (T : TSpec) (mx : Int → List Int) (c : Str × List Int) (b : Bool) : Prop := ∃ (f : Int → List Int) (ls : Lead), HeadsOk T mx c.2 f ∧ (∀ r ∈ T.rs, (f r.mark).length = T.m ∧ InR T.q (f r.mark)) ∧ SpanRun T.q ((intoM T.rs c.1).map f) ls ∧ b = decide (ls.length < T.m)
def selB {α : Type} (cs : List α) (bs : List Bool) : List α := ((cs.zip bs).filter (·.2)).map (·.1)
theorem selB_snoc {α : Type} {cs : List α} {bs : List Bool} (h : bs.length = cs.length) (c : α) (b : Bool) : selB (cs ++ [c]) (bs ++ [b]) = selB cs bs ++ (if b then [c] else []) := by
  unfold selB
  rw [List.zip_append h.symm, List.filter_append, List.map_append]
  cases b <;> rfl
theorem casesF_len (T : TSpec) (h : T.Ok) : (casesF T).length ≤ 16 := by
  unfold casesF
  rw [List.length_flatMap]
  have : (T.ears.map fun e => (([] :: T.gone).map fun l => (e, l)).length) = T.ears.map fun _ => T.gone.length + 1 := by
    refine List.map_congr_left fun e _ => ?_
    simp
  rw [this, List.map_const', List.sum_replicate_nat]
  have h5 := h.earsLen
  have h6 := h.gone.1
  calc T.ears.length * (T.gone.length + 1) ≤ 4 * 4 := Nat.mul_le_mul h5.2 (by omega)
    _ ≤ 16 := by decide
theorem casesF_ear {T : TSpec} {c : Str × List Int} (h : c ∈ casesF T) : c.1 ∈ T.ears ∧ (c.2 = [] ∨ c.2 ∈ T.gone) := by
  unfold casesF at h
  obtain ⟨e, he, h⟩ := List.mem_flatMap.1 h
  obtain ⟨l, hl, rfl⟩ := List.mem_map.1 h
  exact ⟨he, List.mem_cons.1 hl⟩
section
variable {P : Program} {w : World} {K : PySem.W.Frag} {mg : Str → Option Value} {base : Heap}
theorem sc_Plan_bad_cases : FnScope ["self", "many", "hearer", "loss"] ["self"] d_Plan_bad_cases.scope := ⟨rfl, rfl, rfl, by decide +kernel, rfl, by decide +kernel, by decide +kernel⟩
def sp_bad (K : PySem.W.Frag) : Sp := SpN 1 fun vs H Q => ∃ p T mx, vs = [.ref p] ∧ PlanAt K H p T mx ∧ TabS H (pTab K) qPut ∧
  ∀ (D : Addr) (H' : Hp) (bs : List Bool) (us : List V), ExtT H H' → TabS H' (pTab K) qPut → H' D = some (.lst us) → bs.length = (casesF T).length → (∀ z ∈ (casesF T).zip bs, BadR T mx z.1 z.2) → Acc (CaseAt K) (selB (casesF T) bs) us H' → Q (.ref D) H'
theorem ok_Plan_bad_cases (S : Says K mg) (TB : TabB base mg (cPut K) (pTab K)) : Fn P w K mg base 9 (He.fAd K d_Plan_bad_cases.at_) (sp_bad K) := by
  refine fn_body (f_Plan_bad_cases S) sc_Plan_bad_cases rfl (fun _ _ _ _ _ _ us hl => match us, hl with | [_], _ => rfl) fun cdv A outer s H vs Q E hr h => ?_
  obtain ⟨p, T, mx, rfl, hp, htab, k⟩ := h
  obtain ⟨dx, a, d, po⟩ := id hp
  obtain ⟨dxt, rk, f0, wb, er, gn, told0, gs, t⟩ := id po.task
  obtain ⟨dxn, dN, dR, zs, no⟩ := id t.web
  obtain ⟨fdL, FL⟩ := f_Span_len S
  have bL := FL.bindsN (ps := ["self"]) (fun _ _ _ _ _ _ us hl => match us, hl with | [_], _ => rfl)
  refine ⟨_, (pss_cons (ps_set (i := 1) sc_Plan_bad_cases.nd rfl (by first | exact Or.inl rfl | exact Or.inr rfl) (pm0 (ok_Task_letters (K := K) S) (hr.mono (by decide)) (c_Task (K := K) S) (m_Task_letters (K := K) S) (pe_fldK K (pv 0) rfl))) (pss_one (ps_ret (pe_lc (own := [("hearer", 2), ("loss", 3)]) rfl sc_Plan_bad_cases.nd (pi_listK K (pm0 (ok_Task_cases (K := K) S) (hr.mono (by decide)) (c_Task (K := K) S) (m_Task_cases (K := K) S) (pe_fldK K (pv 0) rfl))) (blkOk_by (N := ["self", "many", "hearer", "loss"]) (sc := d_Plan_bad_cases.scope) (by decide +kernel)) (fun _ _ _ _ _ => (pg_tupK K (n := 2) rfl (pgs_cons (pg_name (i := 2) sc_Plan_bad_cases.nd rfl (by first | exact Or.inl rfl | exact Or.inr rfl)) (pgs_cons (pg_name (i := 3) sc_Plan_bad_cases.nd rfl (by first | exact Or.inl rfl | exact Or.inr rfl)) pgs_nil)))) (fun _ _ _ _ _ => (pts_one (pt_cmpR op_lt (pe_callB (call_lenI (m_Span_len (K := K) S) (raw_Span_len S FL) bL (hr.mono (by decide))) (by rfl) (n_len S) PySem.boot_len (pa_cons (pm (ok_Plan_heard (K := K) S TB) (hr.mono (by decide)) (c_Plan (K := K) S) (m_Plan_heard (K := K) S) (pv 0) (pa_cons (pv 2) (pa_cons (pv 3) pa_nil))) pa_nil)) (pv 1) (nomark _)))) (fun _ _ _ _ _ => (pe_tup (pa_cons (pv 2) (pa_cons (pv 3) pa_nil)))))))), ?_⟩
  repeat tb_rel
  refine r_fld po.self (c_Plan S) (a_Plan_asked S) rfl ?_
  refine r_Mv t.self rfl ?_
  repeat tb_rel
  refine ⟨rfl, a, T, rfl, po.task, ?_⟩
  repeat tb_rel
  refine r_fld po.self (c_Plan S) (a_Plan_asked S) rfl ?_
  refine r_Mv t.self rfl ?_
  repeat tb_rel
  refine ⟨rfl, a, T, rfl, po.task, fun L H1 us0 hL e1 h1 hacc => ?_⟩
  refine ⟨_, rfl, ⟨_, .of h1⟩, ?_⟩
  have hclen := casesF_len T t.ok
  have t1 := htab.ext e1
  have hEx : ∀ {S G : Hp}, Same (cleanH H1) S → JT (pTab K) qPut S G → ExtT H1 G := fun e j => ExtT.clean (e.trans j.1)
  refine lc_J (walk_list (xs := us0)) (J := JT (pTab K) qPut) jlT (S0 := cleanH H1) (jT0 t1)
    (fun D i acc S => ∃ bs : List Bool, bs.length = i ∧ (∀ z ∈ ((casesF T).take i).zip bs, BadR T mx z.1 z.2) ∧ Acc (CaseAt K) (selB ((casesF T).take i) bs) acc S)
    (fun D => ⟨[], rfl, fun z hz => (by cases hz), rfl, fun j c v h => (by cases h)⟩)
    (fun D i acc S S' ⟨bs, h1, h2, h3⟩ e => ⟨bs, h1, h2, h3.imp fun c v h => CaseAt.mono c _ _ v e h⟩) (fun D i acc S l l' ⟨bs, h1, h2, h3⟩ hl => ⟨bs, h1, h2, h3.imp fun c v h => CaseAt.put c _ v D l l' hl h⟩) ?_ (fun S G e j => .of (hEx e j _ _ h1 nt_lst)) ?_ ?_
  · rintro D i acc S hi ⟨bs, h1, h2, h3⟩
    have : acc.length ≤ 16 := by
      rw [h3.1]
      unfold selB
      rw [List.length_map]
      refine Nat.le_trans (List.length_filter_le _ _) ?_
      rw [List.length_zip, List.length_take]
      omega
    exact Nat.lt_of_le_of_lt this (by decide)
  · rintro D i S G0 v G acc R R' hi eS j hD ⟨bs, hb1, hb2, hb3⟩ ⟨rfl, hv⟩ hR hR'
    have hil : i < (casesF T).length := by rw [← hacc.1]; exact hi
    have hc : (casesF T)[i]? = some ((casesF T)[i]'hil) := by simp [hil]
    generalize hcc : (casesF T)[i]'hil = c at hc
    have hcm := casesF_ear (List.mem_of_getElem? hc)
    have eG := hEx eS j
    obtain ⟨tc, lc, rfl, hc1, hc2⟩ := hacc.2 i c v hc hv
    have g1 := extT_T eG hc1
    have g2 := extT_T eG hc2
    have s2 := eS.seqT (extT_T (ExtT.toClean H1) hc2)
    have hpG := (hp.same e1).ext eG
    refine r_g2 g1 ?_
    refine ⟨rfl, ?_⟩
    repeat tb_rel
    obtain ⟨dx2, a2, d2, po2⟩ := id hpG
    refine r_Mv po2.self rfl ?_
    repeat tb_rel
    have hinto : (intoM T.rs c.1).length ≤ 40 := by
      unfold intoM marks
      rw [List.length_map]
      have := List.length_filter_le (fun r : Road => decide (r.other = c.1)) T.rs
      have := no.few.2
      omega
    refine ⟨rfl, p, c.1, lc, T, mx, c.2, rfl, hpG, t.ok.ears _ hcm.1, g2, j.2.1, hinto, fun u G2 f ls e2 t2 hs hh hl hrun => ?_⟩
    repeat tb_rel
    obtain ⟨dxs, fl, Ls, zss, so⟩ := id hs
    have hll := hrun.len
    rw [List.length_map] at hll
    refine r_lenI so.self ⟨rfl, u, _, _, ls, rfl, hs, _, rfl, by omega, by omega, ?_⟩
    repeat tb_rel
    have j2 : JT (pTab K) qPut S G2 := ⟨e2.at j.1 j.2.2, t2, j.2.2⟩
    have hbad : BadR T mx c (decide (ls.length < T.m)) := ⟨f, ls, hh, hl, hrun, rfl⟩
    have hb1' : bs.length = ((casesF T).take i).length := by rw [hb1, List.length_take]; omega
    have hbz : ∀ z ∈ ((casesF T).take (i + 1)).zip (bs ++ [decide (ls.length < T.m)]), BadR T mx z.1 z.2 := fun z hz => by
      rw [take_snoc hc, List.zip_append hb1'.symm] at hz
      rcases List.mem_append.1 hz with hz | hz
      · exact hb2 z hz
      · rw [List.mem_singleton.1 hz]
        exact hbad
    rw [show (decide (((ls.length : Nat) : Int) < ((T.m : Nat) : Int))) = decide (ls.length < T.m) by
      by_cases hlt : ls.length < T.m
      · rw [decide_eq_true hlt, decide_eq_true (by omega)]
      · rw [decide_eq_false hlt, decide_eq_false (by omega)]]
    refine ite_d (fun h1 => ?_) fun h1 => ?_
    · repeat tb_rel
      refine ⟨(by show 2 ≤ sizeLine; decide), fun w hw => ?_⟩
      have hws := jlT.fresh j2 hw
      refine hR _ (upd S w (.tup [.str c.1, .ref lc])) _ (Same.new hws) (jlT.add j2 hw nt_tup) ⟨bs ++ [decide (ls.length < T.m)], by rw [List.length_append, hb1]; rfl, hbz, ?_⟩
      rw [take_snoc hc, selB_snoc hb1', decide_eq_true h1]
      exact (hb3.imp fun c v h => CaseAt.mono c _ _ v (Same.new hws) h).snoc ⟨w, lc, rfl, .of upd_same, (Same.new hws).seqT s2⟩
    · refine hR' S _ (Same.refl _) j2 ⟨bs ++ [decide (ls.length < T.m)], by rw [List.length_append, hb1]; rfl, hbz, ?_⟩
      rw [take_snoc hc, selB_snoc hb1', decide_eq_false h1]
      simpa using hb3
  · rintro D acc S' G eS j hDl _ hD1 ⟨bs, hb1, hb2, hb3⟩
    have hlen : us0.length = (casesF T).length := hacc.1
    rw [hlen, List.take_length] at hb2 hb3
    exact k D G bs acc ((ExtT.of e1).trans (hEx eS j)) j.2.1 (j.1 _ _ hDl) (by rw [hb1, hlen]) hb2 (hb3.imp fun c v h => CaseAt.mono c _ _ v j.1 h)
theorem sc_Plan_good : FnScope ["self"] ["self"] d_Plan_good.scope := ⟨rfl, rfl, rfl, by decide +kernel, rfl, by decide +kernel, by decide +kernel⟩
def sp_good (K : PySem.W.Frag) : Sp := SpN 1 fun vs H Q => ∃ p T mx, vs = [.ref p] ∧ PlanAt K H p T mx ∧ TabS H (pTab K) qPut ∧
  ∀ (H' : Hp) (bs : List Bool), ExtT H H' → TabS H' (pTab K) qPut → bs.length = (casesF T).length → (∀ z ∈ (casesF T).zip bs, BadR T mx z.1 z.2) → Q (.bl (selB (casesF T) bs).isEmpty) H'
theorem dpC {H : Hp} {T : TSpec} (ok : T.Ok) : ∀ {cs : List (Str × List Int)} {us : List V}, (∀ c ∈ cs, c.1 ∈ T.names) → Acc (CaseAt K) cs us H → ∃ ds, DpAll K H us ds ∧ ∀ d ∈ ds, Lay 3 d
  | [], [], _, _ => ⟨[], .nil, fun d h => by cases h⟩
  | [], _ :: _, _, h => by cases h.1
  | _ :: _, [], _, h => by cases h.1
  | c :: cs, u :: us, hn, h => by
    obtain ⟨t, l, rfl, h1, h2⟩ := h.2 0 c u rfl rfl
    obtain ⟨ds, d1, d2⟩ := dpC ok (cs := cs) (us := us) (fun c hc => hn c (List.mem_cons_of_mem _ hc)) ⟨by simpa using h.1, fun j c v e1 e2 => h.2 (j + 1) c v e1 e2⟩
    refine ⟨.tuple [.str c.1, .tuple (c.2.map PyData.int)] :: ds, .cons (.tup h1 (.cons (.str _) (.cons (.tup h2 (dp_ints _)) .nil))) d1, fun d hd => ?_⟩
    rcases List.mem_cons.1 hd with rfl | hd
    · refine lay_tup (n := 2) fun d hd => ?_
      rcases List.mem_cons.1 hd with rfl | hd
      · exact ⟨by simp only [PyData.canLay0]; exact ok.txt _ (hn c (List.mem_cons_self ..)), by simp [PyData.depth]⟩
      · rw [List.mem_singleton.1 hd]
        exact lay_tup (n := 1) (lay_ints 1 c.2)
    · exact d2 d hd
theorem ok_Plan_good (S : Says K mg) (TB : TabB base mg (cPut K) (pTab K)) : Fn P w K mg base 10 (He.fAd K d_Plan_good.at_) (sp_good K) := by
  refine fn_body (f_Plan_good S) sc_Plan_good rfl (fun _ _ _ _ _ _ us hl => match us, hl with | [_], _ => rfl) fun cdv A outer s H vs Q E hr h => ?_
  obtain ⟨p, T, mx, rfl, hp, htab, k⟩ := h
  obtain ⟨dx, a, d, po⟩ := id hp
  obtain ⟨dxt, rk, f0, wb, er, gn, told0, gs, t⟩ := id po.task
  refine ⟨_, (pss_one (ps_ret (pe_cmpR (op_eqDK K (hu64 hr)) (pm0 (ok_Plan_bad_cases (K := K) S TB) (hr.mono (by decide)) (c_Plan (K := K) S) (m_Plan_bad_cases (K := K) S) (pv 0)) (pe_lst pa_nil) (nomark _)))), ?_⟩
  repeat tb_rel
  refine r_Mv po.self rfl ?_
  repeat tb_rel
  refine ⟨rfl, p, T, mx, rfl, hp, htab, fun D H1 bs us e1 t1 hD hb hbad hacc => ?_⟩
  repeat tb_rel
  refine r_lstN fun B H2 hB e2 h2 => ?_
  have hacc2 : Acc (CaseAt K) (selB (casesF T) bs) us H2 := hacc.imp fun c v h => CaseAt.mono c _ _ v e2 h
  obtain ⟨ds, d1, d2⟩ := dpC t.ok (fun c hc => by
    unfold selB at hc
    obtain ⟨z, hz, rfl⟩ := List.mem_map.1 hc
    exact t.ok.ears _ (casesF_ear (List.of_mem_zip (List.mem_filter.1 hz).1).1).1) hacc2
  refine r_eqNil (.of (e2 _ _ hD)) (.of h2) d1 d2 (by omega) ?_
  have k2 := k H2 bs (e1.trans (ExtT.of e2)) (t1.ext e2) hb hbad
  have e : us.isEmpty = (selB (casesF T) bs).isEmpty := by
    have := hacc.1
    cases us <;> cases hs : selB (casesF T) bs <;> rw [hs] at this <;> first | rfl | cases this
  rw [e]
  exact k2
end
end Mg
/-! L1 -/
namespace L2
open PySem PySem.Spec PyProof.Rows
section
variable {σ : L2.St} {H : Hp} {Q : VK}
def DispQ (kvs : List (Int × Int)) (H : Hp) (Q : VK) : Prop := ∀ p H', H p = none → Same H H' → H' p = some (.dK (mergeK [] (kvs.map fun z => ((Sum.inl z.1 : Key), V.int z.2)))) → Q (.ref p) H'
theorem disp_pairs : ∀ (kvs : List (Int × Int)) (H : Hp) (R : List (V × V) → Hp → Prop), R (kvs.map fun z => (V.int z.1, V.int z.2)) H → tPairs (kvs.map fun z => (tC (.int z.1), tC (.int z.2))) σ H R
  | [], H, R, h => h
  | z :: kvs, H, R, h => disp_pairs kvs H (fun ps H3 => R ((V.int z.1, V.int z.2) :: ps) H3) h
theorem r_dispI (kvs : List (Int × Int)) (hl : kvs.length ≤ 15) (q : DispQ kvs H Q) : tDisp (kvs.map fun z => (tC (.int z.1), tC (.int z.2))) σ H Q := by
  intro p hp
  refine disp_pairs kvs _ _ ⟨upd_same, kvs.map fun z => ((Sum.inl z.1 : Key), V.int z.2), by rw [List.map_map]; rfl, by rw [List.length_map]; exact hl, ?_⟩
  exact q p _ hp ((Same.new hp).put hp) upd_same
theorem r_dget2 {td ty tx : TE} (h : td σ H fun x H1 => ∃ a, x = .ref a ∧ IsD H1 a ∧ ty σ H1 fun y H2 => tx σ H2 fun z H3 => ∃ o, DGet H3 a y o ∧ Q (o.getD z) H3) : tDGet2 td ty tx σ H Q := h
end
end L2
local macro_rules | `(tactic| tb_rel) => `(tactic| with_reducible refine L2.r_dget2 ?_)
namespace L2
open PySem PySem.Spec PyProof.Rows
end L2
namespace Mg
open PySem PySem.Spec PyProof.Rows L2
/-! ### the law's own sums: the mirror -/
def B4 (q : Int) : Prop := q = 4 ∨ q = 8 ∨ q = 9 ∨ q = 16
def rootF (q : Int) : Int := if q = 9 then 3 else 2
theorem B4.mem {q : Int} (h : B4 q) : q ∈ ([4, 8, 9, 16] : List Int) := by
  rcases h with rfl | rfl | rfl | rfl <;> decide
theorem rootF_pos (q : Int) : 2 ≤ rootF q ∧ rootF q ≤ 3 := by
  unfold rootF
  split <;> omega
abbrev SA := Int × Int × Int × Int
def stepA (r : Int) (s : SA) : SA := (s.1 + (s.2.1 + s.2.2.1) % r * s.2.2.2, s.2.1 / r, s.2.2.1 / r, s.2.2.2 * r)
def stepsA (r : Int) : Nat → SA → SA
  | 0, s => s
  | n + 1, s => stepA r (stepsA r n s)
def addL (q a b : Int) : Int := (stepsA (rootF q) 4 (0, a, b, 1)).1
def iter {α : Type} (f : α → α) : Nat → α → α
  | 0, a => a
  | n + 1, a => f (iter f n a)
def tailF (q : Int) : Int := if q = 9 then 2 else 3
def raiseL (q a : Int) : Int := iter (fun f => addL q f (tailF q)) (a * rootF q / q).toNat (a * rootF q % q)
abbrev ST := Int × Int × Int
def stepT (q : Int) (s : ST) : ST := (iter (fun f => addL q f s.2.1) (s.2.2 % rootF q).toNat s.1, raiseL q s.2.1, s.2.2 / rootF q)
def stepsT (q : Int) : Nat → ST → ST
  | 0, s => s
  | n + 1, s => stepT q (stepsT q n s)
def timesL (q a b : Int) : Int := (stepsT q 4 (0, a, b)).1
theorem raise_range : ∀ q ∈ ([4, 8, 9, 16] : List Int), ∀ a ∈ List.range 16, ((a : Nat) : Int) < q → 0 ≤ raiseL q (a : Nat) ∧ raiseL q (a : Nat) < q := by decide +kernel
theorem raise_in {q a : Int} (hq : B4 q) (ha : 0 ≤ a ∧ a < q) : 0 ≤ raiseL q a ∧ raiseL q a < q := by
  have z := raise_range q hq.mem a.toNat (List.mem_range.2 (by rcases hq with rfl | rfl | rfl | rfl <;> omega)) (by omega)
  rw [Int.toNat_of_nonneg ha.1] at z
  exact z
section
variable {P : Program} {w : World} {K : PySem.W.Frag} {mg : Str → Option Value} {base : Heap}
theorem sc_L_root : FnScope ["_law_big"] ["_law_big"] d_L_root.scope := ⟨rfl, rfl, rfl, by decide +kernel, rfl, by decide +kernel, by decide +kernel⟩
def sp_L_root : Sp := SpN 1 fun vs H Q => ∃ q, vs = [.int q] ∧ B4 q ∧ ∀ H', Same H H' → Q (.int (rootF q)) H'
theorem ok_L_root (S : Says K mg) : Fn P w K mg base 1 (He.fAd K d_L_root.at_) sp_L_root := by
  refine fn_body (f_L_root S) sc_L_root rfl (fun _ _ _ _ _ _ us hl => match us, hl with | [_], _ => rfl) fun cdv A outer s H vs Q E hr h => ?_
  obtain ⟨q, rfl, hq, k⟩ := h
  refine ⟨_, (pss_one (ps_ret (pe_dget2 (hu_of hr) (pe_disp (pps_cons pe_int pe_int (pps_cons pe_int pe_int (pps_cons pe_int pe_int (pps_cons pe_int pe_int pps_nil)))) (by rfl) (by rfl) (fun z => by cases z) (by decide)) (pv 0) (pv 0) ⟨rfl, rfl, rfl, rfl⟩))), ?_⟩
  repeat tb_rel
  refine r_dispI [(4, 2), (8, 2), (9, 3), (16, 2)] (by decide) fun p H' hp e h => ?_
  refine ⟨p, rfl, .inl ⟨_, .inl h⟩, ?_⟩
  repeat tb_rel
  refine ⟨_, DGet.k (k := Sum.inl q) h, ?_⟩
  have k2 := k H' e
  rcases hq with rfl | rfl | rfl | rfl <;> exact k2
theorem sc_L_added : FnScope ["_law_big", "_law_one", "_law_other", "_law_root_here", "_law_found", "_law_worth", "_law_place"] ["_law_big", "_law_one", "_law_other"] d_L_added.scope := ⟨rfl, rfl, rfl, by decide +kernel, rfl, by decide +kernel, by decide +kernel⟩
def sp_L_added : Sp := SpN 3 fun vs H Q => ∃ q a b, vs = [.int q, .int a, .int b] ∧ B4 q ∧ ∀ H', Same H H' → Q (.int (addL q a b)) H'
theorem ok_L_added (S : Says K mg) : Fn P w K mg base 2 (He.fAd K d_L_added.at_) sp_L_added := by
  refine fn_body (f_L_added S) sc_L_added rfl (fun _ _ _ _ _ _ us hl => match us, hl with | [_, _, _], _ => rfl) fun cdv A outer s H vs Q E hr h => ?_
  obtain ⟨q, a, b, rfl, hq, k⟩ := h
  have hr2 := rootF_pos q
  refine ⟨_, (pss_cons (ps_set (i := 3) sc_L_added.nd rfl (by first | exact Or.inl rfl | exact Or.inr rfl) (pc (ok_L_root (K := K) S) (hr.mono (by decide)) (g_L_root S) (f_L_root S).choose_spec.kp rfl (pa_cons (pv 0) pa_nil))) (pss_cons (ps_set (i := 4) sc_L_added.nd rfl (by first | exact Or.inl rfl | exact Or.inr rfl) pe_int) (pss_cons (ps_set (i := 5) sc_L_added.nd rfl (by first | exact Or.inl rfl | exact Or.inr rfl) pe_int) (pss_cons (ps_for PassesOwn.never rfl (pi_range1 rfl (n_range S) (pa_cons pe_int pa_nil)) (pg_name (i := 6) sc_L_added.nd rfl (by first | exact Or.inl rfl | exact Or.inr rfl)) (pss_cons (ps_set (i := 4) sc_L_added.nd rfl (by first | exact Or.inl rfl | exact Or.inr rfl) (pe_op op_add (pv 4) (pe_op op_mul (pe_op op_mod (pe_op op_add (pv 1) (pv 2)) (pv 3)) (pv 5)))) (pss_cons (ps_set (i := 1) sc_L_added.nd rfl (by first | exact Or.inl rfl | exact Or.inr rfl) (pe_op op_fdiv (pv 1) (pv 3))) (pss_cons (ps_set (i := 2) sc_L_added.nd rfl (by first | exact Or.inl rfl | exact Or.inr rfl) (pe_op op_fdiv (pv 2) (pv 3))) (pss_one (ps_set (i := 5) sc_L_added.nd rfl (by first | exact Or.inl rfl | exact Or.inr rfl) (pe_op op_mul (pv 5) (pv 3)))))))) (pss_one (ps_ret (pv 4))))))), ?_⟩
  repeat tb_rel
  refine ⟨rfl, q, rfl, hq, fun H1 e1 => ?_⟩
  repeat tb_rel
  refine ⟨_, rfl, by omega, by omega, ?_⟩
  refine for_B (walk_range (n := 4)) (fun i σ G => ∃ x, σ = [some (.int q), some (.int (stepsA (rootF q) i (0, a, b, 1)).2.1), some (.int (stepsA (rootF q) i (0, a, b, 1)).2.2.1), some (.int (rootF q)), some (.int (stepsA (rootF q) i (0, a, b, 1)).1), some (.int (stepsA (rootF q) i (0, a, b, 1)).2.2.2), x] ∧ Same H G)
    ⟨_, rfl, e1⟩ (fun _ _ _ _ _ => trivial) ?_ ?_
  · rintro i v σ G G' hi ⟨x, rfl, e⟩ ⟨rfl, rfl⟩
    generalize hs : stepsA (rootF q) i (0, a, b, 1) = s
    repeat tb_rel
    refine r_mod (by omega) ?_
    repeat tb_rel
    refine r_mul ⟨?_, ?_⟩ ?_
    · have := Int.emod_nonneg (s.2.1 + s.2.2.1) (show rootF q ≠ 0 by omega)
      omega
    · have := Int.emod_lt_of_pos (s.2.1 + s.2.2.1) (show 0 < rootF q by omega)
      omega
    repeat tb_rel
    refine r_div ⟨by omega, by omega⟩ ?_
    repeat tb_rel
    refine r_div ⟨by omega, by omega⟩ ?_
    repeat tb_rel
    refine r_mulR ⟨by omega, by omega⟩ ?_
    repeat tb_rel
    have e2 : stepsA (rootF q) (i + 1) (0, a, b, 1) = stepA (rootF q) s := by
      show stepA (rootF q) (stepsA (rootF q) i (0, a, b, 1)) = _
      rw [hs]
    rw [e2]
    exact ⟨_, rfl, e⟩
  · rintro σ G ⟨x, rfl, e⟩
    repeat tb_rel
    exact k G e
theorem sc_L_raised : FnScope ["_law_big", "_law_one", "_law_root_here", "_law_found", "_law_turn"] ["_law_big", "_law_one"] d_L_raised.scope := ⟨rfl, rfl, rfl, by decide +kernel, rfl, by decide +kernel, by decide +kernel⟩
def sp_L_raised : Sp := SpN 2 fun vs H Q => ∃ q a, vs = [.int q, .int a] ∧ B4 q ∧ (0 ≤ a ∧ a < q) ∧ ∀ H', Same H H' → Q (.int (raiseL q a)) H'
theorem ok_L_raised (S : Says K mg) : Fn P w K mg base 3 (He.fAd K d_L_raised.at_) sp_L_raised := by
  refine fn_body (f_L_raised S) sc_L_raised rfl (fun _ _ _ _ _ _ us hl => match us, hl with | [_, _], _ => rfl) fun cdv A outer s H vs Q E hr h => ?_
  obtain ⟨q, a, rfl, hq, ha, k⟩ := h
  have hr2 := rootF_pos q
  have hq16 : 4 ≤ q ∧ q ≤ 16 := by rcases hq with rfl | rfl | rfl | rfl <;> omega
  refine ⟨_, (pss_cons (ps_set (i := 2) sc_L_raised.nd rfl (by first | exact Or.inl rfl | exact Or.inr rfl) (pc (ok_L_root (K := K) S) (hr.mono (by decide)) (g_L_root S) (f_L_root S).choose_spec.kp rfl (pa_cons (pv 0) pa_nil))) (pss_cons (ps_set (i := 3) sc_L_raised.nd rfl (by first | exact Or.inl rfl | exact Or.inr rfl) (pe_op op_mod (pe_op op_mul (pv 1) (pv 2)) (pv 0))) (pss_cons (ps_for PassesOwn.never rfl (pi_range1 rfl (n_range S) (pa_cons (pe_op op_fdiv (pe_op op_mul (pv 1) (pv 2)) (pv 0)) pa_nil)) (pg_name (i := 4) sc_L_raised.nd rfl (by first | exact Or.inl rfl | exact Or.inr rfl)) (pss_one (ps_set (i := 3) sc_L_raised.nd rfl (by first | exact Or.inl rfl | exact Or.inr rfl) (pc (ok_L_added (K := K) S) (hr.mono (by decide)) (g_L_added S) (f_L_added S).choose_spec.kp rfl (pa_cons (pv 0) (pa_cons (pv 3) (pa_cons (pe_dget (hu_of hr) (pe_disp (pps_cons pe_int pe_int (pps_cons pe_int pe_int (pps_cons pe_int pe_int (pps_cons pe_int pe_int pps_nil)))) (by rfl) (by rfl) (fun z => by cases z) (by decide)) (pv 0) (fun _ _ => rfl)) pa_nil))))))) (pss_one (ps_ret (pv 3)))))), ?_⟩
  repeat tb_rel
  refine ⟨rfl, q, rfl, hq, fun H1 e1 => ?_⟩
  repeat tb_rel
  refine r_mul ⟨by omega, by omega⟩ ?_
  repeat tb_rel
  refine r_mod (by omega) ?_
  repeat tb_rel
  refine r_mul ⟨by omega, by omega⟩ ?_
  repeat tb_rel
  refine r_div ⟨by omega, by omega⟩ ?_
  repeat tb_rel
  have hn0 : 0 ≤ a * rootF q / q := Int.ediv_nonneg (Int.mul_nonneg ha.1 (by omega)) (by omega)
  have hn1 : a * rootF q / q ≤ 48 := by
    have h1 : a * rootF q ≤ 16 * 3 := Int.mul_le_mul (by omega) hr2.2 (by omega) (by omega)
    exact Int.le_trans (Int.ediv_le_self _ (Int.mul_nonneg ha.1 (by omega))) h1
  refine ⟨_, rfl, by omega, by omega, ?_⟩
  refine for_B walk_range (fun i σ G => ∃ x, σ = [some (.int q), some (.int a), some (.int (rootF q)), some (.int (iter (fun f => addL q f (tailF q)) i (a * rootF q % q))), x] ∧ Same H G)
    ⟨_, rfl, e1⟩ (fun _ _ _ _ _ => trivial) ?_ ?_
  · rintro i v σ G G' hi ⟨x, rfl, e⟩ ⟨rfl, rfl⟩
    repeat tb_rel
    refine r_dispI [(4, 3), (8, 3), (9, 2), (16, 3)] (by decide) fun p H' hp e2 h => ?_
    repeat tb_rel
    refine ⟨p, .int (tailF q), rfl, ?_, ?_⟩
    · have z := DGet.k (k := Sum.inl q) h
      rcases hq with rfl | rfl | rfl | rfl <;> exact z
    repeat tb_rel
    refine ⟨rfl, q, _, tailF q, rfl, hq, fun H5 e5 => ?_⟩
    repeat tb_rel
    exact ⟨_, rfl, e.trans (e2.trans e5)⟩
  · rintro σ G ⟨x, rfl, e⟩
    repeat tb_rel
    exact k G e
theorem sc_L_times : FnScope ["_law_big", "_law_one", "_law_other", "_law_root_here", "_law_found", "_law_place", "_law_turn"] ["_law_big", "_law_one", "_law_other"] d_L_times.scope := ⟨rfl, rfl, rfl, by decide +kernel, rfl, by decide +kernel, by decide +kernel⟩
def sp_L_times : Sp := SpN 3 fun vs H Q => ∃ q a b, vs = [.int q, .int a, .int b] ∧ B4 q ∧ (0 ≤ a ∧ a < q) ∧ (0 ≤ b ∧ b < q) ∧ ∀ H', Same H H' → Q (.int (timesL q a b)) H'
theorem ok_L_times (S : Says K mg) : Fn P w K mg base 4 (He.fAd K d_L_times.at_) sp_L_times := by
  refine fn_body (f_L_times S) sc_L_times rfl (fun _ _ _ _ _ _ us hl => match us, hl with | [_, _, _], _ => rfl) fun cdv A outer s H vs Q E hr h => ?_
  obtain ⟨q, a, b, rfl, hq, ha, hb, k⟩ := h
  have hr2 := rootF_pos q
  have hne : ¬ rootF q = q := by rcases hq with rfl | rfl | rfl | rfl <;> decide
  refine ⟨_, (pss_cons (ps_set (i := 3) sc_L_times.nd rfl (by first | exact Or.inl rfl | exact Or.inr rfl) (pc (ok_L_root (K := K) S) (hr.mono (by decide)) (g_L_root S) (f_L_root S).choose_spec.kp rfl (pa_cons (pv 0) pa_nil))) (pss_cons (ps_if (pt_cmpR op_eq (pv 3) (pv 0) (nomark _)) (pss_one (ps_ret (pe_op op_mod (pe_op op_mul (pv 1) (pv 2)) (pv 0)))) pss_nil) (pss_cons (ps_set (i := 4) sc_L_times.nd rfl (by first | exact Or.inl rfl | exact Or.inr rfl) pe_int) (pss_cons (ps_for PassesOwn.never rfl (pi_range1 rfl (n_range S) (pa_cons pe_int pa_nil)) (pg_name (i := 5) sc_L_times.nd rfl (by first | exact Or.inl rfl | exact Or.inr rfl)) (pss_cons (ps_for PassesOwn.never rfl (pi_range1 rfl (n_range S) (pa_cons (pe_op op_mod (pv 2) (pv 3)) pa_nil)) (pg_name (i := 6) sc_L_times.nd rfl (by first | exact Or.inl rfl | exact Or.inr rfl)) (pss_one (ps_set (i := 4) sc_L_times.nd rfl (by first | exact Or.inl rfl | exact Or.inr rfl) (pc (ok_L_added (K := K) S) (hr.mono (by decide)) (g_L_added S) (f_L_added S).choose_spec.kp rfl (pa_cons (pv 0) (pa_cons (pv 4) (pa_cons (pv 1) pa_nil))))))) (pss_cons (ps_set (i := 2) sc_L_times.nd rfl (by first | exact Or.inl rfl | exact Or.inr rfl) (pe_op op_fdiv (pv 2) (pv 3))) (pss_one (ps_set (i := 1) sc_L_times.nd rfl (by first | exact Or.inl rfl | exact Or.inr rfl) (pc (ok_L_raised (K := K) S) (hr.mono (by decide)) (g_L_raised S) (f_L_raised S).choose_spec.kp rfl (pa_cons (pv 0) (pa_cons (pv 1) pa_nil)))))))) (pss_one (ps_ret (pv 4))))))), ?_⟩
  repeat tb_rel
  refine ⟨rfl, q, rfl, hq, fun H1 e1 => ?_⟩
  repeat tb_rel
  refine ite_d (fun h => absurd h hne) fun _ => ?_
  repeat tb_rel
  refine ⟨_, rfl, by omega, by omega, ?_⟩
  refine for_B (walk_range (n := 4)) (fun i σ G => ∃ x y, σ = [some (.int q), some (.int (stepsT q i (0, a, b)).2.1), some (.int (stepsT q i (0, a, b)).2.2), some (.int (rootF q)), some (.int (stepsT q i (0, a, b)).1), x, y] ∧ Same H G ∧ (0 ≤ (stepsT q i (0, a, b)).2.1 ∧ (stepsT q i (0, a, b)).2.1 < q))
    ⟨_, _, rfl, e1, ha⟩ (fun _ _ _ _ _ => trivial) ?_ ?_
  · rintro i v σ G G' hi ⟨x, y, rfl, e, hin⟩ ⟨rfl, rfl⟩
    have e2 : stepsT q (i + 1) (0, a, b) = stepT q (stepsT q i (0, a, b)) := rfl
    rw [e2]
    generalize hs : stepsT q i (0, a, b) = s at hin
    repeat tb_rel
    refine r_mod (by omega) ?_
    repeat tb_rel
    have hm0 := Int.emod_nonneg s.2.2 (show rootF q ≠ 0 by omega)
    have hm1 := Int.emod_lt_of_pos s.2.2 (show 0 < rootF q by omega)
    refine ⟨_, rfl, by omega, by omega, ?_⟩
    refine for_B walk_range (fun j σ G => ∃ x, σ = [some (.int q), some (.int s.2.1), some (.int s.2.2), some (.int (rootF q)), some (.int (iter (fun f => addL q f s.2.1) j s.1)), some (.int (0 + (i : Nat))), x] ∧ Same H G)
      ⟨_, rfl, e⟩ (fun _ _ _ _ _ => trivial) ?_ ?_
    · rintro j v σ G2 G2' hj ⟨x, rfl, e⟩ ⟨rfl, rfl⟩
      repeat tb_rel
      refine ⟨rfl, q, _, s.2.1, rfl, hq, fun H5 e5 => ?_⟩
      repeat tb_rel
      exact ⟨_, rfl, e.trans e5⟩
    · rintro σ G2 ⟨x, rfl, e⟩
      repeat tb_rel
      refine r_div ⟨by omega, by omega⟩ ?_
      repeat tb_rel
      refine ⟨rfl, q, s.2.1, rfl, hq, hin, fun H5 e5 => ?_⟩
      repeat tb_rel
      exact ⟨_, _, rfl, e.trans e5, raise_in hq hin⟩
  · rintro σ G ⟨x, y, rfl, e, hin⟩
    repeat tb_rel
    exact k G e
theorem sc_L_scaled : FnScope ["_law_big", "_law_row", "_law_share", "_law_one"] ["_law_big", "_law_row", "_law_share"] d_L_scaled.scope := ⟨rfl, rfl, rfl, by decide +kernel, rfl, by decide +kernel, by decide +kernel⟩
def sp_L_scaled (K : PySem.W.Frag) : Sp := SpN 3 fun vs H Q => ∃ q r xs c, vs = [.int q, .ref r, .int c] ∧ B4 q ∧ SqT K H r (xs.map V.int) ∧ InR q xs ∧ (0 ≤ c ∧ c < q) ∧ xs.length ≤ 1000 ∧ ∀ u H', Same H H' → NewT K H H' u ((xs.map fun x => timesL q x c).map V.int) → Q (.ref u) H'
theorem ok_L_scaled (S : Says K mg) : Fn P w K mg base 5 (He.fAd K d_L_scaled.at_) (sp_L_scaled K) := by
  refine fn_body (f_L_scaled S) sc_L_scaled rfl (fun _ _ _ _ _ _ us hl => match us, hl with | [_, _, _], _ => rfl) fun cdv A outer s H vs Q E hr h => ?_
  obtain ⟨q, r, xs, c, rfl, hq, hr2, hin, hc, hz, k⟩ := h
  refine ⟨_, (pss_one (ps_ret (pe_tupleOfK K rfl (n_tuple S) (pe_lc (own := [("_law_one", 3)]) rfl sc_L_scaled.nd (pi_tupK K (pv 1)) (blkOk_by (N := ["_law_big", "_law_row", "_law_share", "_law_one"]) (sc := d_L_scaled.scope) (by decide +kernel)) (fun _ _ _ _ _ => (pg_name (i := 3) sc_L_scaled.nd rfl (by first | exact Or.inl rfl | exact Or.inr rfl))) (fun _ _ _ _ _ => pts_nil) (fun _ _ _ _ _ => (pc (ok_L_times (K := K) S) (hr.mono (by decide)) (g_L_times S) (f_L_times S).choose_spec.kp rfl (pa_cons (pv 0) (pa_cons (pv 3) (pa_cons (pv 2) pa_nil))))))))), ?_⟩
  repeat tb_rel
  refine ⟨_, rfl, ⟨_, hr2⟩, ?_⟩
  refine lc_M walk_tup xs (by simp) (by rw [List.length_map]; exact Nat.lt_of_le_of_lt hz (by decide)) (fun x => .int (timesL q x c)) (fun G e => e.seqT hr2) ?_ ?_
  · rintro i x G y G' R hx e ⟨rfl, hy⟩ hR
    obtain ⟨z, hz2, rfl⟩ := map_get hy
    obtain rfl := Option.some.inj (hx.symm.trans hz2)
    repeat tb_rel
    refine ⟨rfl, ?_⟩
    repeat tb_rel
    exact ⟨rfl, q, x, c, rfl, hq, hin x (List.mem_of_getElem? hx), hc, hR⟩
  · intro D H4 hD e4 h4
    refine .inl ⟨D, _, rfl, .of h4, fun u hu => ?_⟩
    refine k u _ (e4.trans (Same.new hu)) (.inl ⟨e4.free hu, ?_⟩)
    rw [upd_same, List.map_map]
    rfl
theorem sc_L_unit : FnScope ["_law_at", "_law_broad"] ["_law_at", "_law_broad"] d_L_unit.scope := ⟨rfl, rfl, rfl, by decide +kernel, rfl, by decide +kernel, by decide +kernel⟩
theorem ok_L_unit (S : Says K mg) : Fn P w K mg base 1 (He.fAd K d_L_unit.at_) (sp_unit K) := by
  refine fn_body (f_L_unit S) sc_L_unit rfl (fun _ _ _ _ _ _ us hl => match us, hl with | [_, _], _ => rfl) fun cdv A outer s H vs Q E hr h => ?_
  obtain ⟨i, n, rfl, hi, hn, k⟩ := h
  refine ⟨_, (pss_one (ps_ret (pe_op (op_catB K) (pe_op (op_catB K) (pe_op (op_repAK K) (pe_tup (pa_cons pe_int pa_nil)) (pv 0)) (pe_tup (pa_cons pe_int pa_nil))) (pe_op (op_repAK K) (pe_tup (pa_cons pe_int pa_nil)) (pe_op op_sub (pe_op op_sub (pv 1) (pv 0)) pe_int))))), ?_⟩
  repeat tb_rel
  refine r_tupN (K := K) fun u0 H0 e0 n0 => ?_
  repeat tb_rel
  refine r_rep n0 e0 (by simp) (by simp) (by omega) (by omega) fun u1 H1 e1 n1 => ?_
  repeat tb_rel
  have e01 := e0.trans e1
  refine r_tupN (K := K) fun u2 H2 e2 n2 => ?_
  repeat tb_rel
  have e02 := e01.trans e2
  refine r_catN (n1.fwd e2) (n2.back e01) e02 (by simp; omega) fun u3 H3 e3 n3 => ?_
  repeat tb_rel
  have e03 := e02.trans e3
  refine r_tupN (K := K) fun u4 H4 e4 n4 => ?_
  repeat tb_rel
  have e04 := e03.trans e4
  refine r_rep (n4.back e03) e04 (by simp) (by simp) (by omega) (by omega) fun u5 H5 e5 n5 => ?_
  have e05 := e04.trans e5
  refine r_catN (n3.fwd (e4.trans e5)) n5 e05 (by simp; omega) fun u6 H6 e6 n6 => ?_
  refine k u6 H6 (e05.trans e6) ?_
  have e : (List.replicate (Int.toNat (i : Nat)) [V.int 0]).flatten ++ [V.int 1] ++ (List.replicate (Int.toNat ((n : Int) - (i : Nat) - 1)) [V.int 0]).flatten = (unitF i n).map V.int := by
    rw [show ((n : Int) - (i : Nat) - 1).toNat = n - i - 1 by omega]
    simp [unitF]
  rw [e] at n6
  exact n6
end
end Mg
/-! LB -/
namespace Mg
open PySem PySem.Spec PyProof.Rows L2
structure BagIs (K : PySem.W.Frag) (H : Hp) (b c : Addr) (ns : List Int) (pos rest salt : Int) : Prop where
  at_ : H b = some (.lst [.ref c, .int pos, .int rest, .int salt])
  cells : H c = some (.lst (ns.map V.int))
  ne : c ≠ b
  pos : 0 ≤ pos
  rest : 0 ≤ rest
  salt : 0 ≤ salt ∧ salt < 2147483629
  few : ns.length ≤ 63
structure BagT where
  b : Addr
  c : Addr
  ns : List Int
def BagOk (K : PySem.W.Frag) (H : Hp) (B : BagT) : Prop := ∃ pos rest salt, BagIs K H B.b B.c B.ns pos rest salt
section
variable {P : Program} {w : World} {K : PySem.W.Frag} {mg : Str → Option Value} {base : Heap}
theorem BagOk.same {H H' : Hp} {B : BagT} (h : BagOk K H B) (e : Same H H') : BagOk K H' B := by
  obtain ⟨pos, rest, salt, h⟩ := h
  exact ⟨pos, rest, salt, e _ _ h.at_, e _ _ h.cells, h.ne, h.pos, h.rest, h.salt, h.few⟩
theorem BagOk.ext {H H' : Hp} {B : BagT} (h : BagOk K H B) (e : ExtT H H') : BagOk K H' B := by
  obtain ⟨pos, rest, salt, h⟩ := h
  exact ⟨pos, rest, salt, e _ _ h.at_ nt_lst, e _ _ h.cells nt_lst, h.ne, h.pos, h.rest, h.salt, h.few⟩
theorem BagIs.put {H : Hp} {b c : Addr} {ns : List Int} {pos rest salt pos' rest' salt' : Int} (h : BagIs K H b c ns pos rest salt) (h1 : 0 ≤ pos') (h2 : 0 ≤ rest') (h3 : 0 ≤ salt' ∧ salt' < 2147483629) :
    BagIs K (upd H b (.lst [.ref c, .int pos', .int rest', .int salt'])) b c ns pos' rest' salt' :=
  ⟨upd_same, by rw [upd_ne h.ne]; exact h.cells, h.ne, h1, h2, h3, h.few⟩
theorem r_setL {R : Hp → Prop} {H : Hp} {L : Addr} {xs : List V} {z : Int} {v : V} {k : Nat} (h : H L = some (.lst xs)) (hz : z = (k : Int)) (hk : k < xs.length) (q : R (upd H L (.lst (xs.set k v)))) : rSetL (.ref L) (.int z) v H R :=
  ⟨L, _, z, k, rfl, rfl, h, by rw [hz]; unfold ixN; rw [if_pos (by omega), if_pos (by omega), Int.toNat_natCast], q⟩
theorem sc_L_pull : FnScope ["_law_bag_here", "_law_tally", "_law_drawn", "_law_cell", "_law_grain"] ["_law_bag_here", "_law_tally"] d_L_pull.scope := ⟨rfl, rfl, rfl, by decide +kernel, rfl, by decide +kernel, by decide +kernel⟩
def sp_pull (K : PySem.W.Frag) : Sp := SpN 2 fun vs H Q => ∃ (B : BagT) (n : Int), vs = [.ref B.b, .int n] ∧ BagOk K H B ∧ (0 < n ∧ n < 1073741824) ∧ ∀ (r : Int) (H' : Hp), 0 ≤ r → r < n → SameBut B.b H H' → BagOk K H' B → Q (.int r) H'
theorem ok_L_pull (S : Says K mg) : Fn P w K mg base 1 (He.fAd K d_L_pull.at_) (sp_pull K) := by
  refine fn_body (f_L_pull S) sc_L_pull rfl (fun _ _ _ _ _ _ us hl => match us, hl with | [_, _], _ => rfl) fun cdv A outer s H vs Q E hr h => ?_
  obtain ⟨⟨b, c, ns⟩, n, rfl, ⟨pos, rest, salt, h⟩, hn, k⟩ := h
  have h : BagIs K H b c ns pos rest salt := h
  have k : ∀ (r : Int) (H' : Hp), 0 ≤ r → r < n → SameBut b H H' → BagOk K H' ⟨b, c, ns⟩ → Q (.int r) H' := k
  refine ⟨_, (pss_cons (ps_if (pt_cmpR op_eq (pe_ix (ix_listK K) (pv 0) pe_int (fun _ _ => rfl)) pe_int (nomark _)) (pss_cons (ps_asg (pe_op op_add (pe_ix (ix_listK K) (pv 0) pe_int (fun _ _ => rfl)) pe_int) (pg_sub (pv 0) pe_int set_list)) (pss_cons (ps_set (i := 3) sc_L_pull.nd rfl (by first | exact Or.inl rfl | exact Or.inr rfl) (pe_ifExp (pt_cmpR op_le (pe_ix (ix_listK K) (pv 0) pe_int (fun _ _ => rfl)) (pe_callB (call_len_seqK K) (by rfl) (n_len S) PySem.boot_len (pa_cons (pe_ix (ix_listK K) (pv 0) pe_int (fun _ _ => rfl)) pa_nil)) (nomark _)) (pe_ix (ix_listK K) (pe_ix (ix_listK K) (pv 0) pe_int (fun _ _ => rfl)) (pe_op op_sub (pe_ix (ix_listK K) (pv 0) pe_int (fun _ _ => rfl)) pe_int) (fun _ _ => rfl)) pe_int)) (pss_cons (ps_if (pt_cmpR op_lt (pe_callB call_abs (by rfl) (n_abs S) (by decide +kernel) (pa_cons (pv 3) pa_nil)) (pe_op op_pow pe_int pe_int) (nomark _)) (pss_cons (ps_set (i := 4) sc_L_pull.nd rfl (by first | exact Or.inl rfl | exact Or.inr rfl) (pe_op op_add (pe_op op_mul (pe_ix (ix_listK K) (pv 0) pe_int (fun _ _ => rfl)) pe_int) (pe_op op_mul (pe_op op_mod (pv 3) pe_int) pe_int))) (pss_cons (ps_set (i := 4) sc_L_pull.nd rfl (by first | exact Or.inl rfl | exact Or.inr rfl) (pe_op op_mod (pe_op op_add (pv 4) (pe_op op_mul (pe_ix (ix_listK K) (pv 0) pe_int (fun _ _ => rfl)) pe_int)) pe_int)) (pss_cons (ps_asg (pe_op op_mod (pe_op op_add (pe_op op_add (pe_op op_mul (pv 4) (pv 4)) (pe_ix (ix_listK K) (pv 0) pe_int (fun _ _ => rfl))) pe_int) pe_int) (pg_sub (pv 0) pe_int set_list)) (pss_one (ps_ret (pe_op op_mod (pe_op op_add (pe_op op_fdiv (pe_ix (ix_listK K) (pv 0) pe_int (fun _ _ => rfl)) pe_int) (pe_op op_mul (pe_op op_mod (pe_ix (ix_listK K) (pv 0) pe_int (fun _ _ => rfl)) pe_int) pe_int)) (pv 1))))))) pss_nil) (pss_one (ps_asg (pe_callB call_abs (by rfl) (n_abs S) (by decide +kernel) (pa_cons (pv 3) pa_nil)) (pg_sub (pv 0) pe_int set_list)))))) pss_nil) (pss_cons (ps_set (i := 2) sc_L_pull.nd rfl (by first | exact Or.inl rfl | exact Or.inr rfl) (pe_op op_mod (pe_ix (ix_listK K) (pv 0) pe_int (fun _ _ => rfl)) (pv 1))) (pss_cons (ps_asg (pe_op op_fdiv (pe_ix (ix_listK K) (pv 0) pe_int (fun _ _ => rfl)) (pv 1)) (pg_sub (pv 0) pe_int set_list)) (pss_one (ps_ret (pv 2)))))), ?_⟩
  -- the end
  have fin : ∀ (G : Hp) (pos rest salt : Int) (x2 x3 x4 : Option V), SameBut b H G → BagIs K G b c ns pos rest salt →
      tSeq (tAsg (tOp (rI (fun _ j => 0 < j) fun i j => .int (i % j)) (tOp (rIxL K) (tVar 0) (tC (.int 2))) (tVar 1)) (gName 2)) (tSeq (tAsg (tOp (rI CDiv fun i j => .int (i / j)) (tOp (rIxL K) (tVar 0) (tC (.int 2))) (tVar 1)) (gSub (tVar 0) (tC (.int 2)) rSetL)) (tRet (tVar 2)))
        { nx := fun _ H' => Q .non H', rt := Q } [some (.ref b), some (.int n), x2, x3, x4] G := by
    intro G pos rest salt x2 x3 x4 e h
    repeat tb_rel
    refine r_ixL (.of h.at_) (j := 2) rfl rfl ?_
    repeat tb_rel
    refine r_mod hn.1 ?_
    repeat tb_rel
    refine r_ixL (.of h.at_) (j := 2) rfl rfl ?_
    repeat tb_rel
    refine r_div ⟨hn.1, hn.2⟩ ?_
    repeat tb_rel
    refine r_setL h.at_ (k := 2) rfl (Nat.le_of_ble_eq_true rfl) ?_
    repeat tb_rel
    exact k _ _ (Int.emod_nonneg _ (by omega)) (Int.emod_lt_of_pos _ hn.1) e.put ⟨_, _, _, h.put h.pos (Int.ediv_nonneg h.rest (by omega)) h.salt⟩
  have body : ∀ (G : Hp) (pos rest salt v : Int) (x2 x4 : Option V), SameBut b H G → BagIs K G b c ns pos rest salt →
      tSeq (tIfS (tTest (tOp (rI0 fun i j => .bl (decide (i < j))) (tCB (fun xs H Q => ∃ i, xs = [.int i] ∧ Q (.int (if i < 0 then -i else i)) H) (tCons (tVar 3) tNil)) (tOp (rI CPow fun i j => .int (i ^ j.toNat)) (tC (.int 10)) (tC (.int 18)))))
          (tSeq (tAsg (tOp (rI0 fun i j => .int (i + j)) (tOp (rI CMul fun i j => .int (i * j)) (tOp (rIxL K) (tVar 0) (tC (.int 3))) (tC (.int 48271))) (tOp (rI CMul fun i j => .int (i * j)) (tOp (rI (fun _ j => 0 < j) fun i j => .int (i % j)) (tVar 3) (tC (.int 2147483587))) (tC (.int 40503)))) (gName 4))
            (tSeq (tAsg (tOp (rI (fun _ j => 0 < j) fun i j => .int (i % j)) (tOp (rI0 fun i j => .int (i + j)) (tVar 4) (tOp (rI CMul fun i j => .int (i * j)) (tOp (rIxL K) (tVar 0) (tC (.int 1))) (tC (.int 6367)))) (tC (.int 2147483629))) (gName 4))
              (tSeq (tAsg (tOp (rI (fun _ j => 0 < j) fun i j => .int (i % j)) (tOp (rI0 fun i j => .int (i + j)) (tOp (rI0 fun i j => .int (i + j)) (tOp (rI CMul fun i j => .int (i * j)) (tVar 4) (tVar 4)) (tOp (rIxL K) (tVar 0) (tC (.int 3)))) (tC (.int 12345))) (tC (.int 2147483587))) (gSub (tVar 0) (tC (.int 3)) rSetL))
                (tRet (tOp (rI (fun _ j => 0 < j) fun i j => .int (i % j)) (tOp (rI0 fun i j => .int (i + j)) (tOp (rI CDiv fun i j => .int (i / j)) (tOp (rIxL K) (tVar 0) (tC (.int 3))) (tC (.int 53))) (tOp (rI CMul fun i j => .int (i * j)) (tOp (rI (fun _ j => 0 < j) fun i j => .int (i % j)) (tOp (rIxL K) (tVar 0) (tC (.int 3))) (tC (.int 8191))) (tC (.int 37)))) (tVar 1)))))) tNext)
        (tAsg (tCB (fun xs H Q => ∃ i, xs = [.int i] ∧ Q (.int (if i < 0 then -i else i)) H) (tCons (tVar 3) tNil)) (gSub (tVar 0) (tC (.int 2)) rSetL))
        { nx := tSeq (tAsg (tOp (rI (fun _ j => 0 < j) fun i j => .int (i % j)) (tOp (rIxL K) (tVar 0) (tC (.int 2))) (tVar 1)) (gName 2)) (tSeq (tAsg (tOp (rI CDiv fun i j => .int (i / j)) (tOp (rIxL K) (tVar 0) (tC (.int 2))) (tVar 1)) (gSub (tVar 0) (tC (.int 2)) rSetL)) (tRet (tVar 2)))
            { nx := fun _ H' => Q .non H', rt := Q }, rt := Q } [some (.ref b), some (.int n), x2, some (.int v), x4] G := by
    intro G pos rest salt v x2 x4 e h
    repeat tb_rel
    refine ⟨_, rfl, ?_⟩
    repeat tb_rel
    refine ⟨_, _, rfl, rfl, ⟨by decide, by decide, by decide⟩, ?_⟩
    repeat tb_rel
    refine ite_d (fun _ => ?_) fun _ => ?_
    · repeat tb_rel
      refine r_ixL (.of h.at_) (j := 3) rfl rfl ?_
      repeat tb_rel
      refine r_mulR ⟨by omega, by omega⟩ ?_
      repeat tb_rel
      refine r_mod (by omega) ?_
      repeat tb_rel
      refine r_mulR ⟨by omega, by omega⟩ ?_
      repeat tb_rel
      refine r_ixL (.of h.at_) (j := 1) rfl rfl ?_
      repeat tb_rel
      refine r_mulR ⟨by omega, by omega⟩ ?_
      repeat tb_rel
      refine r_mod (by omega) ?_
      repeat tb_rel
      generalize hg : (salt * 48271 + v % 2147483587 * 40503 + pos * 6367) % 2147483629 = g
      have hg0 : 0 ≤ g ∧ g < 2147483629 := by
        rw [← hg]
        exact ⟨Int.emod_nonneg _ (by omega), Int.emod_lt_of_pos _ (by omega)⟩
      refine r_mul ⟨by omega, by omega⟩ ?_
      repeat tb_rel
      refine r_ixL (.of h.at_) (j := 3) rfl rfl ?_
      repeat tb_rel
      refine r_mod (by omega) ?_
      repeat tb_rel
      refine r_setL h.at_ (k := 3) rfl (Nat.le_of_ble_eq_true rfl) ?_
      repeat tb_rel
      have hs1 := Int.emod_nonneg (g * g + salt + 12345) (show (2147483587 : Int) ≠ 0 by omega)
      have hs2 := Int.emod_lt_of_pos (g * g + salt + 12345) (show (0 : Int) < 2147483587 by omega)
      have h2 : BagIs K (upd G b (.lst [.ref c, .int pos, .int rest, .int ((g * g + salt + 12345) % 2147483587)])) b c ns pos rest _ := h.put h.pos h.rest ⟨hs1, by omega⟩
      refine r_ixL (.of h2.at_) (j := 3) rfl rfl ?_
      repeat tb_rel
      refine r_div ⟨by omega, by omega⟩ ?_
      repeat tb_rel
      refine r_ixL (.of h2.at_) (j := 3) rfl rfl ?_
      repeat tb_rel
      refine r_mod (by omega) ?_
      repeat tb_rel
      refine r_mulR ⟨by omega, by omega⟩ ?_
      repeat tb_rel
      refine r_mod hn.1 ?_
      exact k _ _ (Int.emod_nonneg _ (by omega)) (Int.emod_lt_of_pos _ hn.1) e.put ⟨_, _, _, h2⟩
    · repeat tb_rel
      refine ⟨_, rfl, ?_⟩
      repeat tb_rel
      refine r_setL h.at_ (k := 2) rfl (Nat.le_of_ble_eq_true rfl) ?_
      exact fin _ _ _ _ _ _ _ e.put (h.put h.pos (by split <;> omega) h.salt)
  repeat tb_rel
  refine r_ixL (.of h.at_) (j := 2) rfl rfl ?_
  repeat tb_rel
  refine ite_d (fun h0 => ?_) fun h0 => ?_
  · repeat tb_rel
    refine r_ixL (.of h.at_) (j := 1) rfl rfl ?_
    repeat tb_rel
    refine r_setL h.at_ (k := 1) rfl (Nat.le_of_ble_eq_true rfl) ?_
    have h1 : BagIs K (upd H b (.lst [.ref c, .int (pos + 1), .int rest, .int salt])) b c ns (pos + 1) rest salt := h.put (by have := h.pos; omega) h.rest h.salt
    have e1 : SameBut b H (upd H b (.lst [.ref c, .int (pos + 1), .int rest, .int salt])) := (SameBut.of (Same.refl H)).put
    have eG : upd H b (.lst (([.ref c, .int pos, .int rest, .int salt] : List V).set 1 (.int (pos + 1)))) = upd H b (.lst [.ref c, .int (pos + 1), .int rest, .int salt]) := rfl
    rw [eG]
    generalize hG : upd H b (.lst [.ref c, .int (pos + 1), .int rest, .int salt]) = G at h1 e1
    have hp := h.pos
    repeat tb_rel
    refine r_ixL (.of h1.at_) (j := 1) rfl rfl ?_
    repeat tb_rel
    refine r_ixL (.of h1.at_) (j := 0) rfl rfl ?_
    repeat tb_rel
    refine r_len (.inl (.of h1.cells)) ?_
    repeat tb_rel
    rw [List.length_map]
    refine ite_d (fun h2 => ?_) fun h2 => ?_
    · repeat tb_rel
      refine r_ixL (.of h1.at_) (j := 0) rfl rfl ?_
      repeat tb_rel
      refine r_ixL (.of h1.at_) (j := 1) rfl rfl ?_
      repeat tb_rel
      refine r_ixL (.of h1.cells) (j := pos.toNat) (by omega) (by rw [List.getElem?_map, getD_some (by omega)]; rfl) ?_
      refine r_gn ?_
      exact body G _ _ _ _ _ _ e1 h1
    · refine r_c (r_gn ?_)
      exact body G _ _ _ _ _ _ e1 h1
  · exact fin H pos rest salt _ _ _ (SameBut.of (Same.refl H)) h
end
end Mg
/-! LC -/
namespace Mg
open PySem PySem.Spec PyProof.Rows L2
section
variable {K : PySem.W.Frag} {H G : Hp} {B : BagT} {T l : Addr} {xs : List V} {o : HO}
/-- what lies beside the bag -/
theorem seqT_bag (e : SameBut B.b H G) (hb : BagOk K H B) (h : SqT K H T xs) : SqT K G T xs := by
  obtain ⟨pos, rest, salt, hb⟩ := hb
  rcases h with (h | ⟨o, h⟩) | h
  · exact .inl (.inl (e _ _ (fun z => by rw [z, hb.at_] at h; cases h) h))
  · exact .inl (.inr ⟨o, e _ _ (fun z => by rw [z, hb.at_] at h; cases h) h⟩)
  · exact .inr h
/-- J of the law's drawing: the bag apart -/
def JB (K : PySem.W.Frag) (B : BagT) (S H : Hp) : Prop := Same S H ∧ S B.b = none ∧ S B.c = none ∧ BagOk K H B
theorem jlB : JL (JB K B) where
  same := fun j => j.1
  ext := fun j e => ⟨j.1.trans e, j.2.1, j.2.2.1, j.2.2.2.same e⟩
  trk := fun {S H H' p o} j e h h' n => by
    obtain ⟨pos, rest, salt, hb⟩ := j.2.2.2
    refine ⟨jl0.trk j.1 e h h' n, ?_, ?_, j.2.2.2.same e⟩
    · rw [upd_ne (fun z => by rw [← z, hb.at_] at h; cases h)]
      exact j.2.1
    · rw [upd_ne (fun z => by rw [← z, hb.cells] at h; cases h)]
      exact j.2.2.1
  put := fun {S H p o o'} j h n n' => by
    obtain ⟨j1, j2, j3, pos, rest, salt, hb⟩ := j
    have h1 : B.b ≠ p := fun z => by
      rw [z, h] at j2
      cases j2
    have h2 : B.c ≠ p := fun z => by
      rw [z, h] at j3
      cases j3
    refine ⟨jl0.put j1 h n n', by rw [upd_ne h1]; exact j2, by rw [upd_ne h2]; exact j3, pos, rest, salt, by rw [upd_ne h1]; exact hb.at_, by rw [upd_ne h2]; exact hb.cells, hb.ne, hb.pos, hb.rest, hb.salt, hb.few⟩
def woB (B : BagT) (H : Hp) : Hp := fun a => if a = B.b ∨ a = B.c then none else H a
theorem woB_same : Same (woB B H) H := fun a o h => by
  unfold woB at h
  split at h
  · cases h
  · exact h
theorem woB_of (n : l ≠ B.b) (n2 : l ≠ B.c) (h : H l = some o) : woB B H l = some o := by
  unfold woB
  rw [if_neg (fun z => z.elim n n2)]
  exact h
theorem jB0 (h : BagOk K H B) : JB K B (woB B H) H := ⟨woB_same, by unfold woB; rw [if_pos (.inl rfl)], by unfold woB; rw [if_pos (.inr rfl)], h⟩
theorem JB.but {S : Hp} (j : JB K B S H) (e : SameBut B.b H G) (h : BagOk K G B) : JB K B S G :=
  ⟨fun a o q => e a o (fun z => by rw [z, j.2.1] at q; cases q) (j.1 a o q), j.2.1, j.2.2.1, h⟩
theorem JB.toBut {H0 S : Hp} (h0 : BagOk K H0 B) (e : Same (woB B H0) S) (j : JB K B S G) : SameBut B.b H0 G := fun a o n q => by
  by_cases z : a = B.c
  · obtain ⟨pos, rest, salt, hb⟩ := h0
    obtain ⟨pos', rest', salt', hb'⟩ := j.2.2.2
    rw [z, hb.cells] at q
    rw [z, hb'.cells]
    exact q
  · exact j.1 a o (e a o (woB_of n z q))
end
section
variable {P : Program} {w : World} {K : PySem.W.Frag} {mg : Str → Option Value} {base : Heap}
theorem sc_L_bag : FnScope ["_law_script", "_law_cells", "_law_salt", "_law_one"] ["_law_script"] d_L_bag.scope := ⟨rfl, rfl, rfl, by decide +kernel, rfl, by decide +kernel, by decide +kernel⟩
def sp_L_bag (K : PySem.W.Frag) : Sp := SpN 1 fun vs H Q => ∃ (a : Addr) (ns : List Int), vs = [.ref a] ∧ SqL K H a (ns.map V.int) ∧ ns.length ≤ 63 ∧ ∀ (B : BagT) (H' : Hp), H B.b = none → H B.c = none → Same H H' → BagOk K H' B → Q (.ref B.b) H'
theorem ok_L_bag (S : Says K mg) : Fn P w K mg base 1 (He.fAd K d_L_bag.at_) (sp_L_bag K) := by
  refine fn_body (f_L_bag S) sc_L_bag rfl (fun _ _ _ _ _ _ us hl => match us, hl with | [_], _ => rfl) fun cdv A outer s H vs Q E hr h => ?_
  obtain ⟨a, ns, rfl, ha, hl, k⟩ := h
  refine ⟨_, (pss_cons (ps_set (i := 1) sc_L_bag.nd rfl (by first | exact Or.inl rfl | exact Or.inr rfl) (pe_callTy (call_list_ofK K) (by rfl) (n_list S) (by decide +kernel) (pa_cons (pe_slice (sl_listK K) (pv 0) po_none (po_some pe_int)) pa_nil))) (pss_cons (ps_set (i := 2) sc_L_bag.nd rfl (by first | exact Or.inl rfl | exact Or.inr rfl) (pe_op op_add pe_int (pe_callB (call_len_seqK K) (by rfl) (n_len S) PySem.boot_len (pa_cons (pv 1) pa_nil)))) (pss_cons (ps_for PassesOwn.never rfl (pi_listK K (pv 1)) (pg_name (i := 3) sc_L_bag.nd rfl (by first | exact Or.inl rfl | exact Or.inr rfl)) (pss_one (ps_set (i := 2) sc_L_bag.nd rfl (by first | exact Or.inl rfl | exact Or.inr rfl) (pe_op op_mod (pe_op op_add (pe_op op_add (pe_op op_mul (pv 2) pe_int) (pe_op op_mod (pe_callB call_abs (by rfl) (n_abs S) (by decide +kernel) (pa_cons (pv 3) pa_nil)) pe_int)) (pe_op op_mul pe_int (pe_callTy call_int1 (by rfl) (n_int S) (by decide +kernel) (pa_cons (pe_cmpR op_lt (pv 3) pe_int (nomark _)) pa_nil)))) pe_int)))) (pss_one (ps_ret (pe_lst (pa_cons (pv 1) (pa_cons pe_int (pa_cons pe_int (pa_cons (pv 2) pa_nil)))))))))), ?_⟩
  repeat tb_rel
  refine ⟨_, rfl, ?_⟩
  refine ⟨a, _, rfl, ha, fun p hp => ?_⟩
  repeat tb_rel
  have hcut : cutV (ns.map V.int) none (some 63) = (ns.take 63).map V.int := by
    rw [show (63 : Int) = ((63 : Nat) : Int) from rfl, cutV_take, List.map_take]
  rw [hcut]
  refine ⟨p, _, rfl, .inl (.of upd_same), fun c hc => ?_⟩
  repeat tb_rel
  have e1 := Same.new hp (o := .lst ((ns.take 63).map V.int))
  have e2 := Same.new hc (o := .lst ((ns.take 63).map V.int))
  have hc2 : upd (upd H p (.lst ((ns.take 63).map V.int))) c (.lst ((ns.take 63).map V.int)) c = some (.lst ((ns.take 63).map V.int)) := upd_same
  have hcl : (ns.take 63).length ≤ 63 := by rw [List.length_take]; omega
  have e12 := e1.trans e2
  generalize upd (upd H p (.lst ((ns.take 63).map V.int))) c (.lst ((ns.take 63).map V.int)) = G at hc2 e12
  refine r_len (.inl (.of hc2)) ?_
  repeat tb_rel
  refine ⟨_, rfl, ⟨_, .of hc2⟩, ?_⟩
  refine for_B (walk_list (xs := (ns.take 63).map V.int)) (fun i σ G' => ∃ salt x, σ = [some (.ref a), some (.ref c), some (.int salt), x] ∧ G' = G ∧ 0 ≤ salt ∧ salt < 2147483629)
    ⟨_, _, rfl, rfl, by omega, by rw [List.length_map]; omega⟩ (fun i σ G' _ ⟨_, _, _, e, _⟩ => by rw [e]; exact .of hc2) ?_ ?_
  · rintro i v σ G1 G2 hi ⟨salt, x, rfl, rfl, h1, h2⟩ ⟨rfl, hv⟩
    obtain ⟨y, hy, rfl⟩ := map_get hv
    repeat tb_rel
    refine r_mulR ⟨by omega, by omega⟩ ?_
    repeat tb_rel
    refine ⟨_, rfl, ?_⟩
    repeat tb_rel
    refine r_mod (by omega) ?_
    repeat tb_rel
    refine .inr ⟨_, rfl, ?_⟩
    refine r_mul ⟨by omega, by omega⟩ ?_
    repeat tb_rel
    refine r_mod (by omega) ?_
    repeat tb_rel
    exact ⟨_, _, rfl, rfl, Int.emod_nonneg _ (by omega), Int.emod_lt_of_pos _ (by omega)⟩
  · rintro σ G' ⟨salt, x, rfl, rfl, h1, h2⟩
    repeat tb_rel
    refine r_lstN fun b H5 hb e5 h5 => ?_
    exact k ⟨b, c, ns.take 63⟩ H5 (e12.free hb) (e1.free hc) (e12.trans e5) ⟨0, 0, salt, h5, e5 _ _ hc2, ne_of_none hc2 hb, by omega, by omega, ⟨h1, h2⟩, hcl⟩
theorem sc_L_pick : FnScope ["_law_bag_here", "_law_row"] ["_law_bag_here", "_law_row"] d_L_pick.scope := ⟨rfl, rfl, rfl, by decide +kernel, rfl, by decide +kernel, by decide +kernel⟩
def sp_pick (K : PySem.W.Frag) : Sp := SpN 2 fun vs H Q => ∃ (B : BagT) (l : Addr) (us : List V), vs = [.ref B.b, .ref l] ∧ BagOk K H B ∧ H l = some (.lst us) ∧ l ≠ B.b ∧ us ≠ [] ∧ us.length ≤ 1000 ∧ ∀ (i : Nat) (v : V) (H' : Hp), us[i]? = some v → SameBut B.b H H' → BagOk K H' B → Q v H'
theorem ok_L_pick (S : Says K mg) : Fn P w K mg base 2 (He.fAd K d_L_pick.at_) (sp_pick K) := by
  refine fn_body (f_L_pick S) sc_L_pick rfl (fun _ _ _ _ _ _ us hl => match us, hl with | [_, _], _ => rfl) fun cdv A outer s H vs Q E hr h => ?_
  obtain ⟨b, l, us, rfl, hb, hl, hlb, hne, hz, k⟩ := h
  have hpos := List.length_pos_iff.2 hne
  refine ⟨_, (pss_one (ps_ret (pe_ix (ix_listK K) (pv 1) (pc (ok_L_pull (K := K) S) (hr.mono (by decide)) (g_L_pull S) (f_L_pull S).choose_spec.kp rfl (pa_cons (pv 0) (pa_cons (pe_callB (call_len_seqK K) (by rfl) (n_len S) PySem.boot_len (pa_cons (pv 1) pa_nil)) pa_nil))) (fun _ _ => rfl)))), ?_⟩
  repeat tb_rel
  refine r_len (.inl (.of hl)) ?_
  repeat tb_rel
  refine ⟨rfl, b, _, rfl, hb, ⟨by omega, by omega⟩, fun r H' h0 h1 e h' => ?_⟩
  have hr2 : r.toNat < us.length := by omega
  have hv : us[r.toNat]? = some (us[r.toNat]'hr2) := by simp [hr2]
  refine r_ixL (.of (e _ _ hlb hl)) (j := r.toNat) (by omega) hv ?_
  exact k r.toNat _ H' hv e h'
theorem sc_L_size : FnScope ["_law_bag_here"] ["_law_bag_here"] d_L_size.scope := ⟨rfl, rfl, rfl, by decide +kernel, rfl, by decide +kernel, by decide +kernel⟩
def sp_size (K : PySem.W.Frag) : Sp := SpN 1 fun vs H Q => ∃ (B : BagT), vs = [.ref B.b] ∧ BagOk K H B ∧ ∀ (x : Int) (H' : Hp), x ∈ SIZESl → SameBut B.b H H' → BagOk K H' B → Q (.int x) H'
theorem ok_L_size (S : Says K mg) : Fn P w K mg base 2 (He.fAd K d_L_size.at_) (sp_size K) := by
  refine fn_body (f_L_size S) sc_L_size rfl (fun _ _ _ _ _ _ us hl => match us, hl with | [_], _ => rfl) fun cdv A outer s H vs Q E hr h => ?_
  obtain ⟨b, rfl, hb, k⟩ := h
  refine ⟨_, (pss_one (ps_ret (pe_ix (ix_tupK K) (pe_tup (pa_cons pe_int (pa_cons pe_int (pa_cons pe_int (pa_cons pe_int (pa_cons pe_int (pa_cons pe_int (pa_cons pe_int (pa_cons pe_int (pa_cons pe_int (pa_cons pe_int pa_nil))))))))))) (pc (ok_L_pull (K := K) S) (hr.mono (by decide)) (g_L_pull S) (f_L_pull S).choose_spec.kp rfl (pa_cons (pv 0) (pa_cons pe_int pa_nil))) (fun _ _ => rfl)))), ?_⟩
  repeat tb_rel
  refine r_tupN (K := K) fun u H1 e1 n1 => ?_
  repeat tb_rel
  refine ⟨rfl, b, _, rfl, hb.same e1, ⟨by omega, by omega⟩, fun r H' h0 h1 e h' => ?_⟩
  repeat tb_rel
  have hsq : SqT K H' u (SIZESl.map V.int) := seqT_bag e (hb.same e1) n1.sq
  have hr2 : r.toNat < SIZESl.length := by
    show r.toNat < 10
    omega
  refine r_ixT hsq (j := r.toNat) (by omega) (by rw [List.getElem?_map, getD_some hr2]; rfl) ?_
  exact k _ H' (List.mem_of_getElem? (getD_some hr2)) ((SameBut.of e1).trans e) h'
end
end Mg
/-! LD -/
namespace Mg
open PySem PySem.Spec PyProof.Rows L2
theorem eraseIdx_mapV {α β : Type} (f : α → β) : ∀ (l : List α) (i : Nat), (l.map f).eraseIdx i = (l.eraseIdx i).map f
  | [], _ => rfl
  | x :: l, 0 => rfl
  | x :: l, i + 1 => congrArg (f x :: ·) (eraseIdx_mapV f l i)
theorem erase_perm {α : Type} : ∀ (l : List α) (i : Nat) (h : i < l.length), (l[i] :: l.eraseIdx i).Perm l
  | [], _, h => absurd h (Nat.not_lt_zero _)
  | x :: l, 0, _ => List.Perm.refl _
  | x :: l, i + 1, h => (List.Perm.swap _ _ _).trans (List.Perm.cons x (erase_perm l i (Nat.lt_of_succ_lt_succ h)))
section
variable {K : PySem.W.Frag} {H G : Hp} {B : BagT} {T l F : Addr} {xs : List V} {o : HO}
theorem but_put {b : Addr} (e : SameBut b H G) (h : H F = none) : SameBut b H (upd G F o) := fun a u n q => by
  rw [upd_ne (ne_of_none q h)]
  exact e a u n q
theorem BagOk.put {H0 : Hp} (h : BagOk K G B) (h0 : BagOk K H0 B) (hF : H0 F = none) : BagOk K (upd G F o) B := by
  obtain ⟨pos, rest, salt, hb⟩ := h
  obtain ⟨pos', rest', salt', hb'⟩ := h0
  have h1 : B.b ≠ F := ne_of_none hb'.at_ hF
  have h2 : B.c ≠ F := ne_of_none hb'.cells hF
  exact ⟨pos, rest, salt, by rw [upd_ne h1]; exact hb.at_, by rw [upd_ne h2]; exact hb.cells, hb.ne, hb.pos, hb.rest, hb.salt, hb.few⟩
theorem BagOk.ne (h0 : BagOk K H B) (hF : H F = none) : F ≠ B.b := by
  obtain ⟨pos, rest, salt, hb⟩ := h0
  exact (ne_of_none hb.at_ hF).symm
theorem lines_bag {us : List V} {rs : List Road} (e : SameBut B.b H G) (hb : BagOk K H B) (h : LinesAt K H us rs) : LinesAt K G us rs :=
  ⟨h.1, fun i r v h1 h2 => let ⟨t, e1, e2⟩ := h.2 i r v h1 h2; ⟨t, e1, seqT_bag e hb e2⟩⟩
end
section
variable {P : Program} {w : World} {K : PySem.W.Frag} {mg : Str → Option Value} {base : Heap}
theorem sc_L_gone : FnScope ["_law_bag_here", "_law_roads", "_law_upto", "_law_found", "_law_row"] ["_law_bag_here", "_law_roads", "_law_upto"] d_L_gone.scope := ⟨rfl, rfl, rfl, by decide +kernel, rfl, by decide +kernel, by decide +kernel⟩
def sp_gone (K : PySem.W.Frag) : Sp := SpN 3 fun vs H Q => ∃ (B : BagT) (l : Addr) (us : List V) (rs : List Road) (n : Nat), vs = [.ref B.b, .ref l, .int (n : Nat)] ∧ BagOk K H B ∧ H l = some (.lst us) ∧ l ≠ B.b ∧ LinesAt K H us rs ∧ n ≤ 100 ∧
  ∀ (u : Addr) (H' : Hp) (ms : List Int), SameBut B.b H H' → BagOk K H' B → H u = none → H' u = some (.tup (ms.map V.int)) → ms.Sublist (marks rs) → ms.length ≤ n → Q (.ref u) H'
theorem ok_L_gone (S : Says K mg) : Fn P w K mg base 2 (He.fAd K d_L_gone.at_) (sp_gone K) := by
  refine fn_body (f_L_gone S) sc_L_gone rfl (fun _ _ _ _ _ _ us hl => match us, hl with | [_, _, _], _ => rfl) fun cdv A outer s H vs Q E hr h => ?_
  obtain ⟨B, l, us, rs, n, rfl, hb, hl, hlb, hls, hn, k⟩ := h
  refine ⟨_, (pss_cons (ps_set (i := 3) sc_L_gone.nd rfl (by first | exact Or.inl rfl | exact Or.inr rfl) (pe_lst pa_nil)) (pss_cons (ps_for PassesOwn.never rfl (pi_listK K (pv 1)) (pg_name (i := 4) sc_L_gone.nd rfl (by first | exact Or.inl rfl | exact Or.inr rfl)) (pss_one (ps_if (PW.pt (pw_and (pt_cmpR op_lt (pe_callB (call_len_seqK K) (by rfl) (n_len S) PySem.boot_len (pa_cons (pv 3) pa_nil)) (pv 2) (nomark _)) (pw_and1 (pt_cmpR op_eq (pc (ok_L_pull (K := K) S) (hr.mono (by decide)) (g_L_pull S) (f_L_pull S).choose_spec.kp rfl (pa_cons (pv 0) (pa_cons pe_int pa_nil))) pe_int (nomark _))))) (pss_one (ps_expr (pe_bmK K PySem.F.plainAttrs_list PySem.F.slot_list_append PySem.F.type_list_append mt_append (pv 3) (pa_cons (pe_ix (ix_tupK K) (pv 4) pe_int (fun _ _ => rfl)) pa_nil)))) pss_nil))) (pss_one (ps_ret (pe_tupleOfK K rfl (n_tuple S) (pv 3)))))), ?_⟩
  repeat tb_rel
  refine r_lstN fun F H1 hF e1 h1 => ?_
  repeat tb_rel
  refine ⟨_, rfl, ⟨_, .of (e1 _ _ hl)⟩, ?_⟩
  have hFb := hb.ne hF
  refine for_B (walk_list (xs := us)) (fun i σ G => ∃ ms x, σ = [some (.ref B.b), some (.ref l), some (.int (n : Nat)), some (.ref F), x] ∧ SameBut B.b H G ∧ BagOk K G B ∧ G F = some (.lst (ms.map V.int)) ∧ ms.Sublist ((marks rs).take i) ∧ ms.length ≤ n)
    ⟨[], _, rfl, SameBut.of e1, hb.same e1, h1, List.Sublist.refl _, Nat.zero_le _⟩ (fun i σ G _ ⟨_, _, _, e, _⟩ => .of (e _ _ hlb hl)) ?_ ?_
  · rintro i v σ G0 G hi ⟨ms, x, rfl, e, hbG, hFG, hsub, hml⟩ ⟨rfl, hv⟩
    have hir : i < rs.length := by rw [← hls.1]; exact hi
    have hr2 : rs[i]? = some (rs[i]'hir) := by simp [hir]
    generalize rs[i]'hir = r at hr2
    obtain ⟨t, rfl, ht⟩ := (lines_bag e hb hls).2 i r v hr2 hv
    have hmk : (marks rs)[i]? = some r.mark := by unfold marks; rw [List.getElem?_map, hr2]; rfl
    rw [take_snoc hmk]
    repeat tb_rel
    refine r_len (.inl (.of hFG)) ?_
    repeat tb_rel
    rw [List.length_map]
    refine ite_d (fun hlt => ?_) fun _ => ?_
    · repeat tb_rel
      refine ⟨rfl, B, _, rfl, hbG, ⟨by omega, by omega⟩, fun r0 G2 h0 h5 e2 hb2 => ?_⟩
      repeat tb_rel
      have hF2 := e2 _ _ hFb hFG
      have ht2 := seqT_bag e2 hbG ht
      refine ite_d (fun _ => ?_) fun _ => ?_
      · repeat tb_rel
        refine r_ty hF2 ?_
        repeat tb_rel
        refine r_ixT ht2 (j := 0) rfl rfl ?_
        repeat tb_rel
        refine r_app hF2 (by rw [List.length_map]; omega) ?_
        refine ⟨ms ++ [r.mark], _, rfl, but_put (e.trans e2) hF, hb2.put hb hF, ?_, hsub.append (List.Sublist.refl _), by rw [List.length_append]; show _ + 1 ≤ n; omega⟩
        rw [upd_same]
        simp
      · repeat tb_rel
        exact ⟨ms, _, rfl, e.trans e2, hb2, hF2, hsub.trans (List.sublist_append_left _ _), hml⟩
    · repeat tb_rel
      exact ⟨ms, _, rfl, e, hbG, hFG, hsub.trans (List.sublist_append_left _ _), hml⟩
  · rintro σ G ⟨ms, x, rfl, e, hbG, hFG, hsub, hml⟩
    repeat tb_rel
    refine .inl ⟨F, _, rfl, .of hFG, fun u hu => ?_⟩
    have huH : H u = none := by
      cases q : H u with
      | none => rfl
      | some o =>
        exfalso
        by_cases z : u = B.b
        · obtain ⟨_, _, _, hb3⟩ := hbG
          rw [z, hb3.at_] at hu
          cases hu
        · rw [e _ _ z q] at hu
          cases hu
    exact k u _ ms (e.trans (SameBut.of (Same.new hu))) (hbG.same (Same.new hu)) huH upd_same (hsub.trans (List.take_sublist _ _)) hml
theorem sc_L_order_drawn : FnScope ["_law_bag_here", "_law_row", "_law_left", "_law_found", "_law_turn"] ["_law_bag_here", "_law_row"] d_L_order_drawn.scope := ⟨rfl, rfl, rfl, by decide +kernel, rfl, by decide +kernel, by decide +kernel⟩
def sp_order_drawn (K : PySem.W.Frag) : Sp := SpN 2 fun vs H Q => ∃ (B : BagT) (l : Addr) (xs : List Str), vs = [.ref B.b, .ref l] ∧ BagOk K H B ∧ H l = some (.lst (xs.map V.str)) ∧ l ≠ B.b ∧ xs.length ≤ 100 ∧
  ∀ (D : Addr) (H' : Hp) (ys : List Str), SameBut B.b H H' → BagOk K H' B → H D = none → H' D = some (.lst (ys.map V.str)) → ys.Perm xs → Q (.ref D) H'
theorem ok_L_order_drawn (S : Says K mg) : Fn P w K mg base 2 (He.fAd K d_L_order_drawn.at_) (sp_order_drawn K) := by
  refine fn_body (f_L_order_drawn S) sc_L_order_drawn rfl (fun _ _ _ _ _ _ us hl => match us, hl with | [_, _], _ => rfl) fun cdv A outer s H vs Q E hr h => ?_
  obtain ⟨B, l, xs, rfl, hb, hl, hlb, hz, k⟩ := h
  refine ⟨_, (pss_cons (ps_set (i := 2) sc_L_order_drawn.nd rfl (by first | exact Or.inl rfl | exact Or.inr rfl) (pe_callTy (call_list_ofK K) (by rfl) (n_list S) (by decide +kernel) (pa_cons (pv 1) pa_nil))) (pss_cons (ps_set (i := 3) sc_L_order_drawn.nd rfl (by first | exact Or.inl rfl | exact Or.inr rfl) (pe_lst pa_nil)) (pss_cons (ps_for PassesOwn.never rfl (pi_range1 rfl (n_range S) (pa_cons (pe_callB (call_len_seqK K) (by rfl) (n_len S) PySem.boot_len (pa_cons (pv 1) pa_nil)) pa_nil)) (pg_name (i := 4) sc_L_order_drawn.nd rfl (by first | exact Or.inl rfl | exact Or.inr rfl)) (pss_one (ps_expr (pe_bmK K PySem.F.plainAttrs_list PySem.F.slot_list_append PySem.F.type_list_append mt_append (pv 3) (pa_cons (pe_bmK K PySem.F.plainAttrs_list PySem.F.slot_list_pop PySem.F.type_list_pop mt_popAt (pv 2) (pa_cons (pc (ok_L_pull (K := K) S) (hr.mono (by decide)) (g_L_pull S) (f_L_pull S).choose_spec.kp rfl (pa_cons (pv 0) (pa_cons (pe_callB (call_len_seqK K) (by rfl) (n_len S) PySem.boot_len (pa_cons (pv 2) pa_nil)) pa_nil))) pa_nil)) pa_nil))))) (pss_one (ps_ret (pv 3)))))), ?_⟩
  repeat tb_rel
  refine ⟨l, _, rfl, .inl (.of hl), fun L hL => ?_⟩
  repeat tb_rel
  have eL := Same.new hL (o := .lst (xs.map V.str))
  refine r_lstN fun F H1 hF e1 h1 => ?_
  repeat tb_rel
  have e01 := eL.trans e1
  have hFH : H F = none := eL.free hF
  have hLF : L ≠ F := ne_of_none upd_same hF
  have hL1 := e1 _ _ (upd_same (H := H) (a := L) (o := .lst (xs.map V.str)))
  have hFb := hb.ne hFH
  have hLb := hb.ne hL
  refine r_len (.inl (.of (e01 _ _ hl))) ?_
  repeat tb_rel
  rw [List.length_map]
  refine ⟨_, rfl, by omega, by omega, ?_⟩
  refine for_B (walk_range (n := xs.length)) (fun i σ G => ∃ ls fs x, σ = [some (.ref B.b), some (.ref l), some (.ref L), some (.ref F), x] ∧ SameBut B.b H G ∧ BagOk K G B ∧ G L = some (.lst (ls.map V.str)) ∧ G F = some (.lst (fs.map V.str)) ∧ (fs ++ ls).Perm xs ∧ fs.length = i)
    ⟨xs, [], _, rfl, SameBut.of e01, hb.same e01, hL1, h1, List.Perm.refl _, rfl⟩ (fun _ _ _ _ _ => trivial) ?_ ?_
  · rintro i v σ G0 G hi ⟨ls, fs, x, rfl, e, hbG, hGL, hGF, hp, hfl⟩ ⟨rfl, rfl⟩
    have hlen := hp.length_eq
    rw [List.length_append] at hlen
    repeat tb_rel
    refine r_ty hGF ?_
    repeat tb_rel
    refine r_ty hGL ?_
    repeat tb_rel
    refine r_len (.inl (.of hGL)) ?_
    repeat tb_rel
    rw [List.length_map]
    refine ⟨rfl, B, _, rfl, hbG, ⟨by omega, by omega⟩, fun r G2 h0 h5 e2 hb2 => ?_⟩
    repeat tb_rel
    have hL2 := e2 _ _ hLb hGL
    have hF2 := e2 _ _ hFb hGF
    have hrl : r.toNat < ls.length := by omega
    have hy : ls[r.toNat]? = some (ls[r.toNat]'hrl) := by simp [hrl]
    generalize hyy : ls[r.toNat]'hrl = y at hy
    have hix : ixN (ls.map V.str).length r = some r.toNat := by
      unfold ixN
      rw [if_pos h0, if_pos (by rw [List.length_map]; omega)]
    refine ⟨L, _, r, r.toNat, .str y, rfl, rfl, hL2, by omega, by omega, (ixN_seq hix).1, by rw [List.getElem?_map, hy]; rfl, ?_⟩
    repeat tb_rel
    have hF3 : upd G2 L (.lst ((ls.map V.str).eraseIdx r.toNat)) F = some (.lst (fs.map V.str)) := by
      rw [upd_ne hLF.symm]
      exact hF2
    refine r_app hF3 (by rw [List.length_map]; omega) ?_
    refine ⟨ls.eraseIdx r.toNat, fs ++ [y], _, rfl, but_put (but_put (e.trans e2) hL) hFH, (hb2.put hb hL).put hb hFH, ?_, ?_, ?_, by rw [List.length_append, hfl]; rfl⟩
    · rw [upd_ne hLF, upd_same]
      rw [eraseIdx_mapV]
    · rw [upd_same]
      simp
    · refine List.Perm.trans ?_ hp
      rw [List.append_assoc]
      refine List.Perm.append_left fs ?_
      have := erase_perm ls r.toNat hrl
      rw [hyy] at this
      exact this
  · rintro σ G ⟨ls, fs, x, rfl, e, hbG, hGL, hGF, hp, hfl⟩
    repeat tb_rel
    have hnil : ls = [] := by
      have hlen := hp.length_eq
      rw [List.length_append] at hlen
      exact List.eq_nil_of_length_eq_zero (by omega)
    rw [hnil, List.append_nil] at hp
    exact k F G fs e hbG hFH hGF hp
end
end Mg
/-! LE -/
namespace Mg
open PySem PySem.Spec PyProof.Rows L2
def tailsL : List Str := ["", "", "x", "box", "zzzzz", "a"]
def stepsL : List Int := [1, 3, 5, 7, 9, 11]
def nameF (i u : Nat) : Str := cutS ((⟨#[97 + i]⟩ : Str) ++ tailsL.getD u "") none (some 6)
def nameB (s : Str) : Bool := decide (1 ≤ s.length ∧ s.length ≤ 6) && (s.cps.toList.all (fun c => decide (c ∈ ("abcdefghijklmnopqrstuvwxyz" : Str).cps.toList)) && PyData.strOk s)
theorem nameF_ok : ∀ i ∈ List.range 26, ∀ u ∈ List.range 6, nameB (nameF i u) = true ∧ (nameF i u).cps[0]? = some (97 + i) := by decide +kernel
theorem signs_at : ∀ i ∈ List.range 26, atI ("abcdefghijklmnopqrstuvwxyz" : Str).cps.toList ((i : Nat) : Int) = some (97 + i) := by decide +kernel
theorem tails_len : ∀ u ∈ List.range 6, (tailsL.getD u "").length ≤ 5 := by decide +kernel
theorem steps_inj : ∀ b ∈ List.range 26, ∀ s ∈ stepsL, ∀ j ∈ List.range 8, ∀ k ∈ List.range 8, (((b : Nat) : Int) + s * (j : Nat)) % 26 = (((b : Nat) : Int) + s * (k : Nat)) % 26 → j = k := by decide +kernel
theorem NameOk.of {s : Str} (h : nameB s = true) : NameOk s ∧ PyData.strOk s = true := by
  unfold nameB at h
  obtain ⟨h1, h2⟩ := He.ba h
  obtain ⟨h3, h4⟩ := He.ba h2
  have h1 := of_decide_eq_true h1
  exact ⟨⟨h1.1, h1.2, fun c hc => of_decide_eq_true (List.all_eq_true.1 h3 c hc)⟩, h4⟩
structure NamesOk (ys : List Str) : Prop where
  nd : ys.Nodup
  ok : ∀ y ∈ ys, NameOk y ∧ PyData.strOk y = true
def ixF (b s : Int) (j : Nat) : Nat := ((b + s * (j : Nat)) % 26).toNat
theorem names_ok {b s : Int} {us : List Nat} {n : Nat} (hb : 0 ≤ b ∧ b < 26) (hs : s ∈ stepsL) (hn : n ≤ 8) (hu : ∀ u ∈ us, u < 6) (hl : us.length = n) : NamesOk ((List.range n).map fun j => nameF (ixF b s j) (us.getD j 0)) := by
  have hi : ∀ j, ixF b s j ∈ List.range 26 := fun j => List.mem_range.2 (by
    unfold ixF
    have := Int.emod_nonneg (b + s * (j : Nat)) (show (26 : Int) ≠ 0 by omega)
    have := Int.emod_lt_of_pos (b + s * (j : Nat)) (show (0 : Int) < 26 by omega)
    omega)
  have hu2 : ∀ j, us.getD j 0 ∈ List.range 6 := fun j => List.mem_range.2 (by
    by_cases h : j < us.length
    · have : us.getD j 0 = us[j] := by simp [List.getD, h]
      rw [this]
      exact hu _ (List.getElem_mem h)
    · have : us.getD j 0 = 0 := by simp [List.getD, List.getElem?_eq_none (show us.length ≤ j by omega)]
      omega)
  refine ⟨?_, fun y hy => ?_⟩
  · refine List.pairwise_map.2 (List.Pairwise.imp_of_mem ?_ List.nodup_range)
    intro j k hj hk hne e
    have hj := List.mem_range.1 hj
    have hk := List.mem_range.1 hk
    have h1 := (nameF_ok _ (hi j) _ (hu2 j)).2
    have h2 := (nameF_ok _ (hi k) _ (hu2 k)).2
    rw [e, h2] at h1
    have h3 := Option.some.inj h1
    have h4 : (b + s * (j : Nat)) % 26 = (b + s * (k : Nat)) % 26 := by
      unfold ixF at h3
      have := Int.emod_nonneg (b + s * (j : Nat)) (show (26 : Int) ≠ 0 by omega)
      have := Int.emod_nonneg (b + s * (k : Nat)) (show (26 : Int) ≠ 0 by omega)
      omega
    refine hne (steps_inj b.toNat (List.mem_range.2 (by omega)) s hs j (List.mem_range.2 (by omega)) k (List.mem_range.2 (by omega)) ?_)
    rw [Int.toNat_of_nonneg hb.1]
    exact h4
  · obtain ⟨j, _, rfl⟩ := List.mem_map.1 hy
    exact NameOk.of (nameF_ok _ (hi j) _ (hu2 j)).1
section
variable {P : Program} {w : World} {K : PySem.W.Frag} {mg : Str → Option Value} {base : Heap}
theorem sc_L_names : FnScope ["_law_bag_here", "_law_tally", "_law_tails", "_law_signs", "_law_begin", "_law_step", "_law_k"] ["_law_bag_here", "_law_tally"] d_L_names.scope := ⟨rfl, rfl, rfl, by decide +kernel, rfl, by decide +kernel, by decide +kernel⟩
def sp_names (K : PySem.W.Frag) : Sp := SpN 2 fun vs H Q => ∃ (B : BagT) (n : Nat), vs = [.ref B.b, .int (n : Nat)] ∧ BagOk K H B ∧ n ≤ 8 ∧
  ∀ (D : Addr) (H' : Hp) (ys : List Str), SameBut B.b H H' → BagOk K H' B → H D = none → H' D = some (.lst (ys.map V.str)) → NamesOk ys → ys.length = n → Q (.ref D) H'
theorem ok_L_names (S : Says K mg) : Fn P w K mg base 2 (He.fAd K d_L_names.at_) (sp_names K) := by
  refine fn_body (f_L_names S) sc_L_names rfl (fun _ _ _ _ _ _ us hl => match us, hl with | [_, _], _ => rfl) fun cdv A outer s H vs Q E hr h => ?_
  obtain ⟨B, n, rfl, hb, hn, k⟩ := h
  refine ⟨_, (pss_cons (ps_set (i := 2) sc_L_names.nd rfl (by first | exact Or.inl rfl | exact Or.inr rfl) (pe_lst (pa_cons pe_str (pa_cons pe_str (pa_cons pe_str (pa_cons pe_str (pa_cons pe_str (pa_cons pe_str pa_nil)))))))) (pss_cons (ps_set (i := 3) sc_L_names.nd rfl (by first | exact Or.inl rfl | exact Or.inr rfl) pe_str) (pss_cons (ps_set (i := 4) sc_L_names.nd rfl (by first | exact Or.inl rfl | exact Or.inr rfl) (pc (ok_L_pull (K := K) S) (hr.mono (by decide)) (g_L_pull S) (f_L_pull S).choose_spec.kp rfl (pa_cons (pv 0) (pa_cons pe_int pa_nil)))) (pss_cons (ps_set (i := 5) sc_L_names.nd rfl (by first | exact Or.inl rfl | exact Or.inr rfl) (pe_ix (ix_listK K) (pe_lst (pa_cons pe_int (pa_cons pe_int (pa_cons pe_int (pa_cons pe_int (pa_cons pe_int (pa_cons pe_int pa_nil))))))) (pc (ok_L_pull (K := K) S) (hr.mono (by decide)) (g_L_pull S) (f_L_pull S).choose_spec.kp rfl (pa_cons (pv 0) (pa_cons pe_int pa_nil))) (fun _ _ => rfl))) (pss_one (ps_ret (pe_lc (own := [("_law_k", 6)]) rfl sc_L_names.nd (pi_range1 rfl (n_range S) (pa_cons (pv 1) pa_nil)) (blkOk_by (N := ["_law_bag_here", "_law_tally", "_law_tails", "_law_signs", "_law_begin", "_law_step", "_law_k"]) (sc := d_L_names.scope) (by decide +kernel)) (fun _ _ _ _ _ => (pg_name (i := 6) sc_L_names.nd rfl (by first | exact Or.inl rfl | exact Or.inr rfl))) (fun _ _ _ _ _ => pts_nil) (fun _ _ _ _ _ => (pe_slice sl_str (pe_op op_add_str (pe_ix ix_str (pv 3) (pe_op op_mod (pe_op op_add (pv 4) (pe_op op_mul (pv 5) (pv 6))) pe_int) (fun _ _ => rfl)) (pe_ix (ix_listK K) (pv 2) (pc (ok_L_pull (K := K) S) (hr.mono (by decide)) (g_L_pull S) (f_L_pull S).choose_spec.kp rfl (pa_cons (pv 0) (pa_cons pe_int pa_nil))) (fun _ _ => rfl))) po_none (po_some pe_int)))))))))), ?_⟩
  repeat tb_rel
  refine r_lstN fun T H1 hT e1 h1 => ?_
  repeat tb_rel
  refine ⟨rfl, B, _, rfl, hb.same e1, ⟨by omega, by omega⟩, fun bg H2 h20 h21 e2 hb2 => ?_⟩
  repeat tb_rel
  refine r_lstN fun U H3 hU e3 h3 => ?_
  repeat tb_rel
  refine ⟨rfl, B, _, rfl, hb2.same e3, ⟨by omega, by omega⟩, fun r H4 h40 h41 e4 hb4 => ?_⟩
  repeat tb_rel
  have hTb := hb.ne hT
  have hUb := hb2.ne hU
  have hst : r.toNat < stepsL.length := by
    show r.toNat < 6
    omega
  refine r_ixL (.of (e4 _ _ hUb h3)) (j := r.toNat) (v := .int (stepsL.getD r.toNat 0)) (by omega) (by
    rw [show ([V.int 1, V.int 3, V.int 5, V.int 7, V.int 9, V.int 11] : List V) = stepsL.map V.int from rfl, List.getElem?_map, getD_some hst]
    rfl) ?_
  have hsm : stepsL.getD r.toNat 0 ∈ stepsL := List.mem_of_getElem? (getD_some hst)
  generalize stepsL.getD r.toNat 0 = st at hsm
  have hst2 : 1 ≤ st ∧ st ≤ 11 := by
    revert hsm
    unfold stepsL
    simp only [List.mem_cons, List.not_mem_nil, or_false]
    omega
  repeat tb_rel
  have hT4 := e4 _ _ hTb (e3 _ _ (e2 _ _ hTb h1))
  have eH4 : SameBut B.b H H4 := (((SameBut.of e1).trans e2).trans (SameBut.of e3)).trans e4
  refine ⟨_, rfl, by omega, by omega, ?_⟩
  have hTc : T ≠ B.c := by
    obtain ⟨_, _, _, hx⟩ := hb
    exact (ne_of_none hx.cells hT).symm
  refine lc_J (walk_range (n := n)) (J := JB K B) jlB (S0 := woB B H4) (jB0 hb4)
    (fun D i acc S => ∃ us : List Nat, us.length = i ∧ (∀ u ∈ us, u < 6) ∧ acc = (List.range i).map fun j => V.str (nameF (ixF bg st j) (us.getD j 0)))
    (fun D => ⟨[], rfl, fun u h => (by cases h), rfl⟩) (fun D i acc S S' h e => h) (fun D i acc S l l' h hl => h) ?_ (fun S G e j => trivial) ?_ ?_
  · rintro D i acc S hi ⟨us, h1, h2, rfl⟩
    rw [List.length_map, List.length_range]
    exact Nat.lt_of_le_of_lt (m := 8) (by omega) (by decide)
  · rintro D i S G0 v G acc R R' hi eS j hD ⟨us, hu1, hu2, rfl⟩ ⟨rfl, rfl⟩ hR hR'
    repeat tb_rel
    refine ⟨rfl, ?_⟩
    repeat tb_rel
    refine r_mul ⟨by omega, by omega⟩ ?_
    repeat tb_rel
    refine r_mod (by omega) ?_
    have hm0 := Int.emod_nonneg (bg + st * (0 + (i : Nat))) (show (26 : Int) ≠ 0 by omega)
    have hm1 := Int.emod_lt_of_pos (bg + st * (0 + (i : Nat))) (show (0 : Int) < 26 by omega)
    have hix : ixF bg st i ∈ List.range 26 := List.mem_range.2 (by
      unfold ixF
      rw [show (i : Int) = 0 + (i : Nat) by omega]
      omega)
    have hixv : (bg + st * (0 + (i : Nat))) % 26 = ((ixF bg st i : Nat) : Int) := by
      unfold ixF
      rw [show (0 : Int) + (i : Nat) = (i : Nat) by omega] at hm0 ⊢
      omega
    refine ⟨_, _, 97 + ixF bg st i, rfl, rfl, by decide, ?_, ?_⟩
    · rw [hixv]
      exact signs_at _ hix
    repeat tb_rel
    refine ⟨rfl, B, _, rfl, j.2.2.2, ⟨by omega, by omega⟩, fun u G2 hu0 hu6 e5 hb5 => ?_⟩
    repeat tb_rel
    have j5 := j.but e5 hb5
    have hTG : G2 T = some (.lst (tailsL.map V.str)) := j5.1 _ _ (eS _ _ (woB_of hTb hTc hT4))
    have hul : u.toNat < tailsL.length := by
      show u.toNat < 6
      omega
    refine r_ixL (.of hTG) (j := u.toNat) (v := .str (tailsL.getD u.toNat "")) (by omega) (by rw [List.getElem?_map]; simp [List.getD, hul]) ?_
    repeat tb_rel
    have htl := tails_len u.toNat (List.mem_range.2 hul)
    have hsz : (⟨#[97 + ixF bg st i]⟩ : Str).length + (tailsL.getD u.toNat "").length ≤ sizeLine := by
      show 1 + _ ≤ _
      exact Nat.le_trans (m := 6) (by omega) (by decide)
    refine ⟨_, _, rfl, rfl, hsz, ?_⟩
    repeat tb_rel
    refine ⟨_, rfl, ?_⟩
    refine ⟨_, rfl, ?_, ?_⟩
    · show Array.size (_ ++ _) ≤ _
      rw [Array.size_append]
      exact hsz
    have := hR (.str (nameF (ixF bg st i) u.toNat)) S G2 (Same.refl _) j5 ⟨us ++ [u.toNat], by rw [List.length_append, hu1]; rfl, fun x hx => by
      rcases List.mem_append.1 hx with hx | hx
      · exact hu2 x hx
      · rw [List.mem_singleton.1 hx]
        exact hul, ?_⟩
    · exact this
    · rw [List.range_succ, List.map_append]
      have e1 : (List.range i).map (fun j => V.str (nameF (ixF bg st j) ((us ++ [u.toNat]).getD j 0))) = (List.range i).map fun j => V.str (nameF (ixF bg st j) (us.getD j 0)) := List.map_congr_left fun k hk => by
        have hk := List.mem_range.1 hk
        simp [List.getD, List.getElem?_append_left (show k < us.length by omega)]
      rw [e1]
      simp [List.getD, hu1]
  · rintro D acc S' G eS j hDl hD hD1 ⟨us, hu1, hu2, rfl⟩
    have hDH : H D = none := by
      cases q : H D with
      | none => rfl
      | some o =>
        exfalso
        by_cases z : D = B.b
        · obtain ⟨_, _, _, hb3⟩ := hb4
          rw [z, hb3.at_] at hD1
          cases hD1
        · rw [eH4 _ _ z q] at hD1
          cases hD1
    refine k D G ((List.range n).map fun j => nameF (ixF bg st j) (us.getD j 0)) (eH4.trans (j.toBut hb4 eS)) j.2.2.2 hDH ?_ (names_ok ⟨h20, h21⟩ hsm hn hu2 hu1) (by simp)
    rw [j.1 _ _ hDl, List.map_map]
    rfl
end
end Mg
/-! LF -/
namespace Mg
open PySem PySem.Spec PyProof.Rows L2
structure WOk (ys : List Str) (rs : List Road) : Prop where
  names : NamesOk ys
  nlen : 2 ≤ ys.length ∧ ys.length ≤ 6
  rlen : rs.length ≤ 12
  asc : rs.Pairwise fun a b => a.mark < b.mark
  mark : ∀ r ∈ rs, 1 ≤ r.mark ∧ r.mark ≤ 99
  ends : ∀ r ∈ rs, ∃ i j : Nat, i < j ∧ ys[i]? = some r.one ∧ ys[j]? = some r.other
  slow : ∀ r ∈ rs, 1 ≤ r.slow ∧ r.slow ≤ 4
structure WorldAt (K : PySem.W.Frag) (H : Hp) (w nl rl : Addr) (ys : List Str) (rs : List Road) (us : List V) : Prop where
  at_ : SqT K H w [.ref nl, .ref rl]
  nam : H nl = some (.lst (ys.map V.str))
  roa : H rl = some (.lst us)
  lin : LinesAt K H us rs
theorem r_par {i j : Nat} {ta : TA} {D : Ends} {σ : L2.St} {H : Hp} (h : ta σ H fun vs H1 => ∃ v w, vs = [v, w] ∧ D.nx ((σ.set i (some v)).set j (some w)) H1) : tPar i j ta D σ H := h
end Mg
local macro_rules | `(tactic| tb_rel) => `(tactic| with_reducible refine Mg.r_par ?_)
namespace Mg
open PySem PySem.Spec PyProof.Rows L2
section
variable {P : Program} {w : World} {K : PySem.W.Frag} {mg : Str → Option Value} {base : Heap}
theorem lines_same {H H' : Hp} {us : List V} {rs : List Road} (h : LinesAt K H us rs) (e : Same H H') : LinesAt K H' us rs := ⟨h.1, fun i r v h1 h2 => let ⟨t, a, b⟩ := h.2 i r v h1 h2; ⟨t, a, e.seqT b⟩⟩
theorem lines_snoc {H : Hp} {us : List V} {rs : List Road} {r : Road} {t : Addr} (h : LinesAt K H us rs) (ht : SqT K H t (rdV4 r)) : LinesAt K H (us ++ [.ref t]) (rs ++ [r]) := by
  have := Acc.snoc (E := fun (r : Road) H v => ∃ t, v = V.ref t ∧ SqT K H t (rdV4 r)) (cs := rs) (acc := us) (H := H) (c := r) (v := .ref t) ⟨h.1, h.2⟩ ⟨t, rfl, ht⟩
  exact ⟨this.1, this.2⟩
theorem sc_L_world : FnScope ["_law_bag_here", "_law_upto", "_law_lines", "_law_ringless", "_law_names_here", "_law_mark", "_law_roads", "_law_turn", "_law_one", "_law_other"] ["_law_bag_here", "_law_upto", "_law_lines", "_law_ringless"] d_L_world.scope := ⟨rfl, rfl, rfl, by decide +kernel, rfl, by decide +kernel, by decide +kernel⟩
def sp_world (K : PySem.W.Frag) : Sp := SpN 4 fun vs H Q => ∃ (B : BagT), vs = [.ref B.b, .int 6, .int 12, .bl true] ∧ BagOk K H B ∧
  ∀ (w nl rl : Addr) (H' : Hp) (ys : List Str) (rs : List Road) (us : List V), SameBut B.b H H' → BagOk K H' B → WorldAt K H' w nl rl ys rs us → WOk ys rs → H nl = none → H rl = none → H w = none → Q (.ref w) H'
theorem but_free {b u : Addr} {H G : Hp} {B : BagT} (hb : BagOk K H B) (e : SameBut B.b H G) (hG : BagOk K G B) (h : G u = none) : H u = none := by
  cases q : H u with
  | none => rfl
  | some o =>
    exfalso
    by_cases z : u = B.b
    · obtain ⟨_, _, _, hb3⟩ := hG
      rw [z, hb3.at_] at h
      cases h
    · rw [e _ _ z q] at h
      cases h
theorem mod_ne {a n x : Int} (ha : 0 ≤ a ∧ a < n) (hx : 0 ≤ x ∧ x < n - 1) : 0 ≤ (a + 1 + x) % n ∧ (a + 1 + x) % n < n ∧ (a + 1 + x) % n ≠ a := by
  have h0 := Int.emod_nonneg (a + 1 + x) (show n ≠ 0 by omega)
  have h1 := Int.emod_lt_of_pos (a + 1 + x) (show 0 < n by omega)
  refine ⟨h0, h1, ?_⟩
  by_cases h : a + 1 + x < n
  · rw [Int.emod_eq_of_lt (by omega) h]
    omega
  · have : (a + 1 + x) % n = a + 1 + x - n := by
      rw [← Int.sub_emod_right, Int.emod_eq_of_lt (by omega) (by omega)]
    omega
theorem ok_L_world (S : Says K mg) : Fn P w K mg base 3 (He.fAd K d_L_world.at_) (sp_world K) := by
  refine fn_body (f_L_world S) sc_L_world rfl (fun _ _ _ _ _ _ us hl => match us, hl with | [_, _, _, _], _ => rfl) fun cdv A outer s H vs Q E hr h => ?_
  obtain ⟨B, rfl, hb, k⟩ := h
  refine ⟨_, (pss_cons (ps_set (i := 4) sc_L_world.nd rfl (by first | exact Or.inl rfl | exact Or.inr rfl) (pc (ok_L_names (K := K) S) (hr.mono (by decide)) (g_L_names S) (f_L_names S).choose_spec.kp rfl (pa_cons (pv 0) (pa_cons (pe_op op_add pe_int (pc (ok_L_pull (K := K) S) (hr.mono (by decide)) (g_L_pull S) (f_L_pull S).choose_spec.kp rfl (pa_cons (pv 0) (pa_cons (pe_op op_sub (pv 1) pe_int) pa_nil)))) pa_nil)))) (pss_cons (ps_set (i := 5) sc_L_world.nd rfl (by first | exact Or.inl rfl | exact Or.inr rfl) pe_int) (pss_cons (ps_set (i := 6) sc_L_world.nd rfl (by first | exact Or.inl rfl | exact Or.inr rfl) (pe_lst pa_nil)) (pss_cons (ps_for PassesOwn.never rfl (pi_range1 rfl (n_range S) (pa_cons (pc (ok_L_pull (K := K) S) (hr.mono (by decide)) (g_L_pull S) (f_L_pull S).choose_spec.kp rfl (pa_cons (pv 0) (pa_cons (pe_op op_add (pv 2) pe_int) pa_nil))) pa_nil)) (pg_name (i := 7) sc_L_world.nd rfl (by first | exact Or.inl rfl | exact Or.inr rfl)) (pss_cons (ps_set (i := 8) sc_L_world.nd rfl (by first | exact Or.inl rfl | exact Or.inr rfl) (pc (ok_L_pull (K := K) S) (hr.mono (by decide)) (g_L_pull S) (f_L_pull S).choose_spec.kp rfl (pa_cons (pv 0) (pa_cons (pe_callB (call_len_seqK K) (by rfl) (n_len S) PySem.boot_len (pa_cons (pv 4) pa_nil)) pa_nil)))) (pss_cons (ps_set (i := 9) sc_L_world.nd rfl (by first | exact Or.inl rfl | exact Or.inr rfl) (pe_op op_mod (pe_op op_add (pe_op op_add (pv 8) pe_int) (pc (ok_L_pull (K := K) S) (hr.mono (by decide)) (g_L_pull S) (f_L_pull S).choose_spec.kp rfl (pa_cons (pv 0) (pa_cons (pe_op op_sub (pe_callB (call_len_seqK K) (by rfl) (n_len S) PySem.boot_len (pa_cons (pv 4) pa_nil)) pe_int) pa_nil)))) (pe_callB (call_len_seqK K) (by rfl) (n_len S) PySem.boot_len (pa_cons (pv 4) pa_nil)))) (pss_cons (ps_if (pt_val (pv 3)) (pss_one (ps_par (i := 8) (j := 9) rfl sc_L_world.nd rfl rfl (by decide) rfl rfl (pa_cons (pe_callB (call_min2 rfl) (by rfl) (n_min S) (by decide +kernel) (pa_cons (pv 8) (pa_cons (pv 9) pa_nil))) (pa_cons (pe_callB (call_max2 rfl) (by rfl) (n_max S) (by decide +kernel) (pa_cons (pv 8) (pa_cons (pv 9) pa_nil))) pa_nil)) rfl)) pss_nil) (pss_cons (ps_set (i := 5) sc_L_world.nd rfl (by first | exact Or.inl rfl | exact Or.inr rfl) (pe_op op_add (pv 5) (pe_ix (ix_listK K) (pe_lst (pa_cons pe_int (pa_cons pe_int (pa_cons pe_int (pa_cons pe_int (pa_cons pe_int pa_nil)))))) (pc (ok_L_pull (K := K) S) (hr.mono (by decide)) (g_L_pull S) (f_L_pull S).choose_spec.kp rfl (pa_cons (pv 0) (pa_cons pe_int pa_nil))) (fun _ _ => rfl)))) (pss_one (ps_expr (pe_bmK K PySem.F.plainAttrs_list PySem.F.slot_list_append PySem.F.type_list_append mt_append (pv 6) (pa_cons (pe_tup (pa_cons (pv 5) (pa_cons (pe_ix (ix_listK K) (pv 4) (pv 8) (fun _ _ => rfl)) (pa_cons (pe_ix (ix_listK K) (pv 4) (pv 9) (fun _ _ => rfl)) (pa_cons (pe_op op_add pe_int (pc (ok_L_pull (K := K) S) (hr.mono (by decide)) (g_L_pull S) (f_L_pull S).choose_spec.kp rfl (pa_cons (pv 0) (pa_cons pe_int pa_nil)))) pa_nil))))) pa_nil))))))))) (pss_one (ps_ret (pe_tup (pa_cons (pv 4) (pa_cons (pv 6) pa_nil))))))))), ?_⟩
  repeat tb_rel
  refine ⟨rfl, B, _, rfl, hb, ⟨by omega, by omega⟩, fun r0 H1 h0 h1 e1 hb1 => ?_⟩
  repeat tb_rel
  have hr0 : 2 + r0 = ((2 + r0.toNat : Nat) : Int) := by omega
  rw [hr0]
  refine ⟨rfl, B, 2 + r0.toNat, rfl, hb1, by omega, fun nl H2 ys e2 hb2 hnl hnl2 hnok hyl => ?_⟩
  repeat tb_rel
  have hyl2 : 2 ≤ ys.length ∧ ys.length ≤ 6 := by omega
  refine r_lstN fun R H3 hR e3 h3 => ?_
  repeat tb_rel
  refine ⟨rfl, B, _, rfl, hb2.same e3, ⟨by omega, by omega⟩, fun r1 H4 h10 h11 e4 hb4 => ?_⟩
  repeat tb_rel
  have hnlb : nl ≠ B.b := hb1.ne hnl
  have hRb : R ≠ B.b := hb2.ne hR
  have eH2 : SameBut B.b H H2 := e1.trans e2
  have hRH : H R = none := but_free (b := B.b) hb eH2 hb2 hR
  have hnlH : H nl = none := but_free (b := B.b) hb e1 hb1 hnl
  have eH4 : SameBut B.b H H4 := (eH2.trans (SameBut.of e3)).trans e4
  have hnR : nl ≠ R := ne_of_none hnl2 hR
  refine ⟨_, rfl, by omega, by omega, ?_⟩
  refine for_B walk_range (fun i σ G => ∃ (mark : Int) (rs : List Road) (us : List V) (x7 x8 x9 : Option V), σ = [some (.ref B.b), some (.int 6), some (.int 12), some (.bl true), some (.ref nl), some (.int mark), some (.ref R), x7, x8, x9] ∧ SameBut B.b H G ∧ BagOk K G B ∧ G nl = some (.lst (ys.map V.str)) ∧ G R = some (.lst us) ∧ LinesAt K G us rs ∧
      (rs.length = i ∧ (∀ r ∈ rs, 1 ≤ r.mark ∧ r.mark ≤ mark) ∧ 0 ≤ mark ∧ mark ≤ 3 * i ∧ rs.Pairwise (fun a b => a.mark < b.mark) ∧ (∀ r ∈ rs, ∃ i j : Nat, i < j ∧ ys[i]? = some r.one ∧ ys[j]? = some r.other) ∧ ∀ r ∈ rs, 1 ≤ r.slow ∧ r.slow ≤ 4))
    ⟨0, [], [], _, _, _, rfl, eH4, hb4, e4 _ _ hnlb (e3 _ _ hnl2), e4 _ _ hRb h3, ⟨rfl, fun i r v h => (by cases h)⟩, rfl, fun r h => (by cases h), by omega, by omega, .nil, fun r h => (by cases h), fun r h => (by cases h)⟩ (fun _ _ _ _ _ => trivial) ?_ ?_
  · rintro i v σ G0 G hi ⟨mark, rs, us, x7, x8, x9, rfl, e, hbG, hGn, hGR, hlin, hrl, hmk, hm0, hm3, hasc, hends, hslow⟩ ⟨rfl, rfl⟩
    repeat tb_rel
    refine r_len (.inl (.of hGn)) ?_
    repeat tb_rel
    rw [List.length_map]
    refine ⟨rfl, B, _, rfl, hbG, ⟨by omega, by omega⟩, fun a G1 ha0 ha1 f1 hc1 => ?_⟩
    repeat tb_rel
    have hG1n := f1 _ _ hnlb hGn
    refine r_len (.inl (.of hG1n)) ?_
    repeat tb_rel
    rw [List.length_map]
    refine ⟨rfl, B, _, rfl, hc1, ⟨by omega, by omega⟩, fun x G2 hx0 hx1 f2 hc2 => ?_⟩
    repeat tb_rel
    have hG2n := f2 _ _ hnlb hG1n
    refine r_len (.inl (.of hG2n)) ?_
    repeat tb_rel
    rw [List.length_map]
    refine r_mod (by omega) ?_
    repeat tb_rel
    obtain ⟨ho0, ho1, hone⟩ := mod_ne ⟨ha0, ha1⟩ ⟨hx0, hx1⟩
    generalize (a + 1 + x) % (ys.length : Int) = o at ho0 ho1 hone
    refine ⟨_, _, rfl, ?_⟩
    repeat tb_rel
    refine ⟨_, _, rfl, ?_⟩
    repeat tb_rel
    generalize hp : (if o < a then o else a) = p
    generalize hq : (if o > a then o else a) = q
    have hpq : 0 ≤ p ∧ p < q ∧ q < ys.length := by
      rw [← hp, ← hq]
      split <;> split <;> omega
    refine ⟨_, _, rfl, ?_⟩
    repeat tb_rel
    refine r_lstN fun u4 G4 hu4 f4 h44 => ?_
    repeat tb_rel
    have hc4 := hc2.same f4
    refine ⟨rfl, B, _, rfl, hc4, ⟨by omega, by omega⟩, fun y G5 hy0 hy1 f5 hc5 => ?_⟩
    repeat tb_rel
    have hu4b := hc2.ne hu4
    have hyl3 : y.toNat < ([1, 1, 1, 2, 3] : List Int).length := by
      show y.toNat < 5
      omega
    refine r_ixL (.of (f5 _ _ hu4b h44)) (j := y.toNat) (v := .int (([1, 1, 1, 2, 3] : List Int).getD y.toNat 0)) (by omega) (by
      rw [show ([V.int 1, V.int 1, V.int 1, V.int 2, V.int 3] : List V) = ([1, 1, 1, 2, 3] : List Int).map V.int from rfl, List.getElem?_map, getD_some hyl3]
      rfl) ?_
    have hsm : ([1, 1, 1, 2, 3] : List Int).getD y.toNat 0 ∈ ([1, 1, 1, 2, 3] : List Int) := List.mem_of_getElem? (getD_some hyl3)
    generalize ([1, 1, 1, 2, 3] : List Int).getD y.toNat 0 = st at hsm
    have hst : 1 ≤ st ∧ st ≤ 3 := by
      revert hsm
      simp only [List.mem_cons, List.not_mem_nil, or_false]
      omega
    repeat tb_rel
    have eG5 : SameBut B.b G G5 := ((f1.trans f2).trans (SameBut.of f4)).trans f5
    have h5R := eG5 _ _ hRb hGR
    have h5n := eG5 _ _ hnlb hGn
    refine r_ty h5R ?_
    repeat tb_rel
    have hp1 : p.toNat < ys.length := by omega
    have hq1 : q.toNat < ys.length := by omega
    have hyp : ys[p.toNat]? = some (ys[p.toNat]'hp1) := by simp [hp1]
    have hyq : ys[q.toNat]? = some (ys[q.toNat]'hq1) := by simp [hq1]
    generalize ys[p.toNat]'hp1 = s1 at hyp
    generalize ys[q.toNat]'hq1 = s2 at hyq
    refine r_ixL (.of h5n) (j := p.toNat) (v := .str s1) (by omega) (by rw [List.getElem?_map, hyp]; rfl) ?_
    repeat tb_rel
    refine r_ixL (.of h5n) (j := q.toNat) (v := .str s2) (by omega) (by rw [List.getElem?_map, hyq]; rfl) ?_
    repeat tb_rel
    refine ⟨rfl, B, _, rfl, hc5, ⟨by omega, by omega⟩, fun sl G6 hs0 hs1 f6 hc6 => ?_⟩
    repeat tb_rel
    refine r_tupN (K := K) fun t G7 f7 n7 => ?_
    repeat tb_rel
    have eG7 : SameBut B.b G G7 := (eG5.trans f6).trans (SameBut.of f7)
    have h7R := eG7 _ _ hRb hGR
    have hc7 := hc6.same f7
    have hlin7 := lines_bag eG7 hbG hlin
    have hul : us.length ≤ 100 := by rw [hlin.1, hrl]; omega
    refine r_app h7R (by omega) ?_
    have hi12 : i < 12 := by omega
    refine ⟨mark + st, rs ++ [⟨mark + st, s1, s2, 1 + sl⟩], us ++ [.ref t], _, _, _, rfl, but_put (e.trans eG7) hRH, hc7.put hb hRH, ?_, upd_same, ?_, ?_, ?_, by omega, by omega, ?_, ?_, ?_⟩
    · rw [upd_ne hnR]
      exact eG7 _ _ hnlb hGn
    · have hl8 := lines_snoc hlin7 (r := ⟨mark + st, s1, s2, 1 + sl⟩) n7.sq
      exact ⟨hl8.1, fun i r v h1 h2 => let ⟨t, a, b⟩ := hl8.2 i r v h1 h2; ⟨t, a, seqT_putL b h7R⟩⟩
    · rw [List.length_append, hrl]
      rfl
    · intro r hr2
      rcases List.mem_append.1 hr2 with h | h
      · have := hmk r h
        omega
      · rw [List.mem_singleton.1 h]
        show 1 ≤ mark + st ∧ mark + st ≤ mark + st
        omega
    · refine List.pairwise_append.2 ⟨hasc, List.pairwise_singleton _ _, fun a ha b hb => ?_⟩
      rw [List.mem_singleton.1 hb]
      have := hmk a ha
      show a.mark < mark + st
      omega
    · intro r hr2
      rcases List.mem_append.1 hr2 with h | h
      · exact hends r h
      · rw [List.mem_singleton.1 h]
        exact ⟨p.toNat, q.toNat, by omega, hyp, hyq⟩
    · intro r hr2
      rcases List.mem_append.1 hr2 with h | h
      · exact hslow r h
      · rw [List.mem_singleton.1 h]
        show 1 ≤ 1 + sl ∧ 1 + sl ≤ 4
        omega
  · rintro σ G ⟨mark, rs, us, x7, x8, x9, rfl, e, hbG, hGn, hGR, hlin, hrl, hmk, hm0, hm3, hasc, hends, hslow⟩
    repeat tb_rel
    refine ⟨(by show 2 ≤ sizeLine; decide), fun wd hw => ?_⟩
    have n := Same.new hw (o := .tup [.ref nl, .ref R])
    refine k wd nl R _ ys rs us (e.trans (SameBut.of n)) (hbG.same n) ⟨.of upd_same, n _ _ hGn, n _ _ hGR, lines_same hlin n⟩ ⟨hnok, hyl2, by omega, hasc, fun r hr => by have := hmk r hr; omega, hends, hslow⟩ hnlH hRH (but_free (b := B.b) hb e hbG hw)
end
end Mg
/-! LG -/
namespace Mg
open PySem PySem.Spec PyProof.Rows L2
/-- an asked task, as it lies -/
structure AskAt (K : PySem.W.Frag) (H : Hp) (a : Addr) (T : TSpec) (w nl rl er gn : Addr) (us : List V) (gs : List (Addr × List Int)) : Prop where
  at_ : SqT K H a [.ref w, .str T.src, .ref er, .int (T.m : Nat), .ref gn, .int T.q]
  world : WorldAt K H w nl rl T.names T.rs us
  ear : H er = some (.lst (T.ears.map V.str))
  gon : H gn = some (.lst (refs gs))
  rows : RowsAt K H gs
  geq : T.gone = gs.map (·.2)
section
variable {P : Program} {w : World} {K : PySem.W.Frag} {mg : Str → Option Value} {base : Heap}
theorem WorldAt.same {H H' : Hp} {w nl rl : Addr} {ys : List Str} {rs : List Road} {us : List V} (h : WorldAt K H w nl rl ys rs us) (e : Same H H') : WorldAt K H' w nl rl ys rs us := ⟨e.seqT h.at_, e _ _ h.nam, e _ _ h.roa, lines_same h.lin e⟩
theorem AskAt.same {H H' : Hp} {a : Addr} {T : TSpec} {w nl rl er gn : Addr} {us : List V} {gs : List (Addr × List Int)} (h : AskAt K H a T w nl rl er gn us gs) (e : Same H H') : AskAt K H' a T w nl rl er gn us gs :=
  ⟨e.seqT h.at_, h.world.same e, e _ _ h.ear, e _ _ h.gon, h.rows.same e, h.geq⟩
theorem sc_L_fed : FnScope ["_law_ask_here", "_law_mark", "_law_roads", "_law_one", "_law_row"] ["_law_ask_here", "_law_mark"] d_L_fed.scope := ⟨rfl, rfl, rfl, by decide +kernel, rfl, by decide +kernel, by decide +kernel⟩
def sp_L_fed (K : PySem.W.Frag) : Sp := SpN 2 fun vs H Q => ∃ a T r w nl rl er gn us gs, vs = [.ref a, .int r.mark] ∧ AskAt K H a T w nl rl er gn us gs ∧ WOk T.names T.rs ∧ r ∈ T.rs ∧
  (r.one = T.src → ∀ H', Same H H' → Q .non H') ∧ (¬ r.one = T.src → ∀ (D : Addr) (H' : Hp), H D = none → Same H H' → H' D = some (.lst ((intoM T.rs r.one).map V.int)) → Q (.ref D) H')
theorem filter_mark {rs : List Road} (ha : rs.Pairwise fun a b => a.mark < b.mark) {r : Road} (hr : r ∈ rs) : rs.filter (fun x => decide (x.mark = r.mark)) = [r] := by
  obtain ⟨s, t, rfl⟩ := List.append_of_mem hr
  rw [List.filter_append, List.filter_cons, if_pos (decide_eq_true rfl)]
  have h1 := List.pairwise_append.1 ha
  have h2 := List.pairwise_cons.1 h1.2.1
  rw [List.filter_eq_nil_iff.2 fun x hx => ?_, List.filter_eq_nil_iff.2 fun x hx => ?_]
  · rfl
  · have := h2.1 x hx
    simp
    omega
  · have := h1.2.2 x hx r (List.mem_cons_self ..)
    simp
    omega
theorem ok_L_fed (S : Says K mg) : Fn P w K mg base 1 (He.fAd K d_L_fed.at_) (sp_L_fed K) := by
  refine fn_body (f_L_fed S) sc_L_fed rfl (fun _ _ _ _ _ _ us hl => match us, hl with | [_, _], _ => rfl) fun cdv A outer s H vs Q E hr h => ?_
  obtain ⟨a, T, r, wd, nl, rl, er, gn, us, gs, rfl, ha, wok, hrm, k1, k2⟩ := h
  have hlin := ha.world.lin
  have hlz : us.length < sizeLine := by
    rw [hlin.1]
    exact Nat.lt_of_le_of_lt wok.rlen (by decide)
  refine ⟨_, (pss_cons (ps_set (i := 2) sc_L_fed.nd rfl (by first | exact Or.inl rfl | exact Or.inr rfl) (pe_ix (ix_tupK K) (pe_ix (ix_tupK K) (pv 0) pe_int (fun _ _ => rfl)) pe_int (fun _ _ => rfl))) (pss_cons (ps_set (i := 3) sc_L_fed.nd rfl (by first | exact Or.inl rfl | exact Or.inr rfl) (pe_ix (ix_listK K) (pe_lc (own := [("_law_row", 4)]) rfl sc_L_fed.nd (pi_listK K (pv 2)) (blkOk_by (N := ["_law_ask_here", "_law_mark", "_law_roads", "_law_one", "_law_row"]) (sc := d_L_fed.scope) (by decide +kernel)) (fun _ _ _ _ _ => (pg_name (i := 4) sc_L_fed.nd rfl (by first | exact Or.inl rfl | exact Or.inr rfl))) (fun _ _ _ _ _ => (pts_one (pt_cmpR op_eq (pe_ix (ix_tupK K) (pv 4) pe_int (fun _ _ => rfl)) (pv 1) (nomark _)))) (fun _ _ _ _ _ => (pe_ix (ix_tupK K) (pv 4) pe_int (fun _ _ => rfl)))) pe_int (fun _ _ => rfl))) (pss_one (ps_ret (pe_ifExp (pt_cmpR op_eq (pv 3) (pe_ix (ix_tupK K) (pv 0) pe_int (fun _ _ => rfl)) (nomark _)) pe_non (pe_lc (own := [("_law_row", 4)]) rfl sc_L_fed.nd (pi_listK K (pv 2)) (blkOk_by (N := ["_law_ask_here", "_law_mark", "_law_roads", "_law_one", "_law_row"]) (sc := d_L_fed.scope) (by decide +kernel)) (fun _ _ _ _ _ => (pg_name (i := 4) sc_L_fed.nd rfl (by first | exact Or.inl rfl | exact Or.inr rfl))) (fun _ _ _ _ _ => (pts_one (pt_cmpR op_eq (pe_ix (ix_tupK K) (pv 4) pe_int (fun _ _ => rfl)) (pv 3) (nomark _)))) (fun _ _ _ _ _ => (pe_ix (ix_tupK K) (pv 4) pe_int (fun _ _ => rfl))))))))), ?_⟩
  repeat tb_rel
  refine r_ixT ha.at_ (j := 0) rfl rfl ?_
  repeat tb_rel
  refine r_ixT ha.world.at_ (j := 1) rfl rfl ?_
  repeat tb_rel
  refine ⟨_, rfl, ⟨_, .of ha.world.roa⟩, ?_⟩
  refine lc_L (walk_list (xs := us)) T.rs hlin.1.symm hlz (fun x => decide (x.mark = r.mark)) (fun x => .str x.one) (fun G e => .of (e _ _ ha.world.roa)) ?_ ?_
  · rintro i x G y G' R R' hx e ⟨rfl, hy⟩ hR hR'
    obtain ⟨t, rfl, ht⟩ := hlin.2 i x y hx hy
    repeat tb_rel
    refine ⟨rfl, ?_⟩
    repeat tb_rel
    refine r_ixT (e.seqT ht) (j := 0) rfl rfl ?_
    repeat tb_rel
    refine ite_d (fun h1 => ?_) fun h1 => ?_
    · repeat tb_rel
      refine r_ixT (e.seqT ht) (j := 1) rfl rfl ?_
      exact hR (decide_eq_true h1) _ (Same.refl _)
    · exact hR' (decide_eq_false h1) _ (Same.refl _)
  · intro D H4 hD e4 h4
    rw [filter_mark wok.asc hrm] at h4
    repeat tb_rel
    refine r_ixL (.of h4) (j := 0) rfl rfl ?_
    repeat tb_rel
    refine r_ixT (e4.seqT ha.at_) (j := 1) rfl rfl ?_
    repeat tb_rel
    refine ite_d (fun h1 => ?_) fun h1 => ?_
    · repeat tb_rel
      exact k1 h1 H4 e4
    · repeat tb_rel
      refine ⟨_, rfl, ⟨_, .of (e4 _ _ ha.world.roa)⟩, ?_⟩
      refine lc_L (walk_list (xs := us)) T.rs hlin.1.symm hlz (fun x => decide (x.other = r.one)) (fun x => .int x.mark) (fun G e => .of (e _ _ (e4 _ _ ha.world.roa))) ?_ ?_
      · rintro i x G y G' R R' hx e ⟨rfl, hy⟩ hR hR'
        obtain ⟨t, rfl, ht⟩ := hlin.2 i x y hx hy
        repeat tb_rel
        refine ⟨rfl, ?_⟩
        repeat tb_rel
        refine r_ixT ((e4.trans e).seqT ht) (j := 2) rfl rfl ?_
        repeat tb_rel
        refine ite_d (fun h1 => ?_) fun h1 => ?_
        · repeat tb_rel
          refine r_ixT ((e4.trans e).seqT ht) (j := 0) rfl rfl ?_
          exact hR (decide_eq_true h1) _ (Same.refl _)
        · exact hR' (decide_eq_false h1) _ (Same.refl _)
      · intro E1 H5 hE e5 h5
        refine k2 h1 E1 H5 (e4.free hE) (e4.trans e5) ?_
        rw [h5]
        unfold intoM marks
        rw [List.map_map]
        rfl
theorem sc_L_inputs : FnScope ["_law_ask_here", "_law_mark", "_law_some"] ["_law_ask_here", "_law_mark"] d_L_inputs.scope := ⟨rfl, rfl, rfl, by decide +kernel, rfl, by decide +kernel, by decide +kernel⟩
def sp_L_inputs (K : PySem.W.Frag) : Sp := SpN 2 fun vs H Q => ∃ a T r w nl rl er gn us gs, vs = [.ref a, .int r.mark] ∧ AskAt K H a T w nl rl er gn us gs ∧ WOk T.names T.rs ∧ r ∈ T.rs ∧ ∀ H', Same H H' → Q (.int (inputsN T r : Nat)) H'
theorem ok_L_inputs (S : Says K mg) : Fn P w K mg base 2 (He.fAd K d_L_inputs.at_) (sp_L_inputs K) := by
  refine fn_body (f_L_inputs S) sc_L_inputs rfl (fun _ _ _ _ _ _ us hl => match us, hl with | [_, _], _ => rfl) fun cdv A outer s H vs Q E hr h => ?_
  obtain ⟨a, T, r, wd, nl, rl, er, gn, us, gs, rfl, ha, wok, hrm, k⟩ := h
  refine ⟨_, (pss_cons (ps_set (i := 2) sc_L_inputs.nd rfl (by first | exact Or.inl rfl | exact Or.inr rfl) (pc (ok_L_fed (K := K) S) (hr.mono (by decide)) (g_L_fed S) (f_L_fed S).choose_spec.kp rfl (pa_cons (pv 0) (pa_cons (pv 1) pa_nil)))) (pss_one (ps_ret (pe_ifExp (pt_cmpR op_isN (pv 2) pe_non (nomark _)) (pe_ix (ix_tupK K) (pv 0) pe_int (fun _ _ => rfl)) (pe_callB (call_len_seqK K) (by rfl) (n_len S) PySem.boot_len (pa_cons (pv 2) pa_nil)))))), ?_⟩
  repeat tb_rel
  refine ⟨rfl, a, T, r, wd, nl, rl, er, gn, us, gs, rfl, ha, wok, hrm, fun h1 H' e => ?_, fun h1 D H' hD e hl => ?_⟩
  · repeat tb_rel
    refine ⟨rfl, ?_⟩
    repeat tb_rel
    refine iteT ?_
    repeat tb_rel
    refine r_ixT (e.seqT ha.at_) (j := 3) rfl rfl ?_
    have k2 := k H' e
    unfold inputsN at k2
    rw [if_pos h1] at k2
    exact k2
  · repeat tb_rel
    refine ⟨rfl, ?_⟩
    repeat tb_rel
    refine iteF ?_
    repeat tb_rel
    refine r_len (.inl (.of hl)) ?_
    have k2 := k H' e
    unfold inputsN at k2
    rw [if_neg h1] at k2
    rw [List.length_map]
    exact k2
end
end Mg
/-! LH -/
namespace Mg
open PySem PySem.Spec PyProof.Rows L2
section
variable {K : PySem.W.Frag} {H G : Hp} {d : Addr} {ks : List Int} {f : Int → List Int} {ts : List Addr}
theorem entD_snoc {m : Int} {t : Addr} (h : ts.length = ks.length) : entD (ks ++ [m]) (ts ++ [t]) = entD ks ts ++ [(Sum.inl m, .ref t)] := by
  unfold entD
  rw [List.zip_append h.symm]
  simp
theorem RowD0.put_last {m : Int} {t t2 : Addr} {row : List Int} (r : RowD0 K H d (ks ++ [m]) f (ts ++ [t])) (hl : ts.length = ks.length) (hm : ¬ m ∈ ks) (ht : SqT K H t2 (row.map V.int)) :
    RowD0 K (upd H d (.dK (putK (entD (ks ++ [m]) (ts ++ [t])) (Sum.inl m) (.ref t2)))) d (ks ++ [m]) (fun x => if x = m then row else f x) (ts ++ [t2]) := by
  have hput : putK (entD (ks ++ [m]) (ts ++ [t])) (Sum.inl m) (.ref t2) = entD (ks ++ [m]) (ts ++ [t2]) := by
    have hv : valV (entD (ks ++ [m]) (ts ++ [t])) (Sum.inl m) = some (.ref t) := by
      rw [entD_snoc hl, valV_snoc _ _ _ _ (valV_entD_none hm), if_pos rfl]
    unfold putK
    rw [valV_any, hv, if_pos (show (some (V.ref t)).isSome = true from rfl), entD_snoc hl, entD_snoc hl, List.map_append]
    have h1 : (entD ks ts).map (fun kv => if kv.1 = (Sum.inl m : Key) then (kv.1, V.ref t2) else kv) = entD ks ts := by
      refine (List.map_congr_left fun kv hkv => ?_).trans (List.map_id _)
      unfold entD at hkv
      obtain ⟨z, hz, rfl⟩ := List.mem_map.1 hkv
      exact if_neg fun e => hm (by rw [← Sum.inl.inj e]; exact (List.of_mem_zip hz).1)
    rw [h1]
    simp
  refine ⟨by rw [List.length_append, List.length_append, hl]; rfl, by rw [upd_same, hput], fun z hz => ?_⟩
  rw [List.zip_append hl.symm] at hz
  rcases List.mem_append.1 hz with hz | hz
  · have hne : ¬ z.1 = m := fun e => hm (by rw [← e]; exact (List.of_mem_zip hz).1)
    show SqT K _ z.2 ((if z.1 = m then row else f z.1).map V.int)
    rw [if_neg hne]
    exact seqT_putD (r.row z (by rw [List.zip_append hl.symm]; exact List.mem_append_left _ hz)) r.at_
  · rw [List.mem_singleton.1 hz]
    show SqT K _ t2 ((if m = m then row else f m).map V.int)
    rw [if_pos rfl]
    exact seqT_putD ht r.at_
/-- the lists of an asked task are not the bag -/
structure Apart (B : BagT) (nl rl er gn : Addr) : Prop where
  nl : nl ≠ B.b
  rl : rl ≠ B.b
  er : er ≠ B.b
  gn : gn ≠ B.b
theorem AskAt.bag {B : BagT} {a : Addr} {T : TSpec} {w nl rl er gn : Addr} {us : List V} {gs : List (Addr × List Int)} (h : AskAt K H a T w nl rl er gn us gs) (hb : BagOk K H B) (ap : Apart B nl rl er gn) (e : SameBut B.b H G) : AskAt K G a T w nl rl er gn us gs :=
  ⟨seqT_bag e hb h.at_, ⟨seqT_bag e hb h.world.at_, e _ _ ap.nl h.world.nam, e _ _ ap.rl h.world.roa, lines_bag e hb h.world.lin⟩, e _ _ ap.er h.ear, e _ _ ap.gn h.gon, fun z hz => seqT_bag e hb (h.rows z hz), h.geq⟩
theorem RowD0.bag {B : BagT} (r : RowD0 K H d ks f ts) (hb : BagOk K H B) (e : SameBut B.b H G) : RowD0 K G d ks f ts := by
  refine ⟨r.len, e _ _ (fun z => ?_) r.at_, fun z hz => seqT_bag e hb (r.row z hz)⟩
  obtain ⟨_, _, _, hx⟩ := hb
  have := r.at_
  rw [z, hx.at_] at this
  cases this
end
section
variable {P : Program} {w : World} {K : PySem.W.Frag} {mg : Str → Option Value} {base : Heap}
theorem sc_L_mixers : FnScope ["_law_bag_here", "_law_ask_here", "_law_found", "_law_row", "_law_tally", "_law_way", "_law_k"] ["_law_bag_here", "_law_ask_here"] d_L_mixers.scope := ⟨rfl, rfl, rfl, by decide +kernel, rfl, by decide +kernel, by decide +kernel⟩
def sp_mixers (K : PySem.W.Frag) : Sp := SpN 2 fun vs H Q => ∃ (B : BagT) (a : Addr) (T : TSpec) (w nl rl er gn : Addr) (us : List V) (gs : List (Addr × List Int)), vs = [.ref B.b, .ref a] ∧ BagOk K H B ∧ AskAt K H a T w nl rl er gn us gs ∧ Apart B nl rl er gn ∧ WOk T.names T.rs ∧ (1 ≤ T.m ∧ T.m ≤ 4) ∧ (0 < T.q ∧ T.q < 100) ∧ (2 ≤ T.q) ∧
  ∀ (D : Addr) (H' : Hp) (mx : Int → List Int), SameBut B.b H H' → BagOk K H' B → H D = none → RowD K H' D (marks T.rs) mx → MixOk T mx → Q (.ref D) H'
theorem ok_L_mixers (S : Says K mg) : Fn P w K mg base 3 (He.fAd K d_L_mixers.at_) (sp_mixers K) := by
  refine fn_body (f_L_mixers S) sc_L_mixers rfl (fun _ _ _ _ _ _ us hl => match us, hl with | [_, _], _ => rfl) fun cdv A outer s H vs Q E hr h => ?_
  obtain ⟨B, a, T, wd, nl, rl, er, gn, us, gs, rfl, hb, ha, ap, wok, hm4, hq, hq2, k⟩ := h
  have hlin := ha.world.lin
  have hmnd := marks_nodup wok.asc
  refine ⟨_, (pss_cons (ps_set (i := 2) sc_L_mixers.nd rfl (by first | exact Or.inl rfl | exact Or.inr rfl) pe_dnewK) (pss_cons (ps_for PassesOwn.never rfl (pi_listK K (pe_ix (ix_tupK K) (pe_ix (ix_tupK K) (pv 1) pe_int (fun _ _ => rfl)) pe_int (fun _ _ => rfl))) (pg_name (i := 3) sc_L_mixers.nd rfl (by first | exact Or.inl rfl | exact Or.inr rfl)) (pss_cons (ps_set (i := 4) sc_L_mixers.nd rfl (by first | exact Or.inl rfl | exact Or.inr rfl) (pc (ok_L_inputs (K := K) S) (hr.mono (by decide)) (g_L_inputs S) (f_L_inputs S).choose_spec.kp rfl (pa_cons (pv 1) (pa_cons (pe_ix (ix_tupK K) (pv 3) pe_int (fun _ _ => rfl)) pa_nil)))) (pss_cons (ps_set (i := 5) sc_L_mixers.nd rfl (by first | exact Or.inl rfl | exact Or.inr rfl) (pc (ok_L_pull (K := K) S) (hr.mono (by decide)) (g_L_pull S) (f_L_pull S).choose_spec.kp rfl (pa_cons (pv 0) (pa_cons pe_int pa_nil)))) (pss_cons (ps_dput (hu_of hr) (pv 2) (pe_ix (ix_tupK K) (pv 3) pe_int (fun _ _ => rfl)) (pe_tupleOfK K rfl (n_tuple S) (pe_lc (own := [("_law_k", 6)]) rfl sc_L_mixers.nd (pi_range1 rfl (n_range S) (pa_cons (pv 4) pa_nil)) (blkOk_by (N := ["_law_bag_here", "_law_ask_here", "_law_found", "_law_row", "_law_tally", "_law_way", "_law_k"]) (sc := d_L_mixers.scope) (by decide +kernel)) (fun _ _ _ _ _ => (pg_name (i := 6) sc_L_mixers.nd rfl (by first | exact Or.inl rfl | exact Or.inr rfl))) (fun _ _ _ _ _ => pts_nil) (fun _ _ _ _ _ => (pc (ok_L_pull (K := K) S) (hr.mono (by decide)) (g_L_pull S) (f_L_pull S).choose_spec.kp rfl (pa_cons (pv 0) (pa_cons (pe_ix (ix_tupK K) (pv 1) pe_int (fun _ _ => rfl)) pa_nil)))))) rfl) (pss_one (ps_if (PW.pt (pw_and (pt_cmpR op_eq (pv 5) pe_int (nomark _)) (pw_and1 (pt_cmpR op_gt (pv 4) pe_int (nomark _))))) (pss_one (ps_dput (hu_of hr) (pv 2) (pe_ix (ix_tupK K) (pv 3) pe_int (fun _ _ => rfl)) (pc (ok_L_unit (K := K) S) (hr.mono (by decide)) (g_L_unit S) (f_L_unit S).choose_spec.kp rfl (pa_cons (pc (ok_L_pull (K := K) S) (hr.mono (by decide)) (g_L_pull S) (f_L_pull S).choose_spec.kp rfl (pa_cons (pv 0) (pa_cons (pv 4) pa_nil))) (pa_cons (pv 4) pa_nil))) rfl)) pss_nil)))))) (pss_one (ps_ret (pv 2))))), ?_⟩
  repeat tb_rel
  refine r_dnewK fun D H1 hD e1 h1 => ?_
  repeat tb_rel
  have a1 := ha.same e1
  refine r_ixT a1.at_ (j := 0) rfl rfl ?_
  repeat tb_rel
  refine r_ixT a1.world.at_ (j := 1) rfl rfl ?_
  repeat tb_rel
  refine ⟨_, rfl, ⟨_, .of a1.world.roa⟩, ?_⟩
  have hDb := hb.ne hD
  refine for_B (walk_list (xs := us)) (fun i σ G => ∃ f ts x3 x4 x5 x6, σ = [some (.ref B.b), some (.ref a), some (.ref D), x3, x4, x5, x6] ∧ SameBut B.b H G ∧ BagOk K G B ∧ RowD0 K G D ((marks T.rs).take i) f ts ∧ ∀ r ∈ T.rs, r.mark ∈ (marks T.rs).take i → (f r.mark).length = inputsN T r ∧ InR T.q (f r.mark))
    ⟨fun _ => [], [], _, _, _, _, rfl, SameBut.of e1, hb.same e1, ⟨rfl, h1, fun z hz => (by cases hz)⟩, fun r hr h => (by cases h)⟩ (fun i σ G _ ⟨_, _, _, _, _, _, _, e, hbG, _⟩ => .of (ha.bag hb ap e).world.roa) ?_ ?_
  · rintro i v σ G0 G hi ⟨f, ts, x3, x4, x5, x6, rfl, e, hbG, hrd, hf⟩ ⟨rfl, hv⟩
    have hir : i < T.rs.length := by rw [← hlin.1]; exact hi
    have hr2 : T.rs[i]? = some (T.rs[i]'hir) := by simp [hir]
    generalize T.rs[i]'hir = r at hr2
    have aG := ha.bag hb ap e
    obtain ⟨t, rfl, ht⟩ := aG.world.lin.2 i r v hr2 hv
    have hrm := List.mem_of_getElem? hr2
    have hmk : (marks T.rs)[i]? = some r.mark := by unfold marks; rw [List.getElem?_map, hr2]; rfl
    have hno : ¬ r.mark ∈ (marks T.rs).take i := fun z => by
      obtain ⟨j, hj⟩ := List.getElem?_of_mem z
      have hji : j < i := by
        refine Decidable.byContradiction fun z => ?_
        rw [List.getElem?_eq_none (by rw [List.length_take]; omega)] at hj
        cases hj
      rw [List.getElem?_take_of_lt hji] at hj
      obtain ⟨h1, e1⟩ := List.getElem?_eq_some_iff.1 hj
      obtain ⟨h2, e2⟩ := List.getElem?_eq_some_iff.1 hmk
      exact absurd (e1.trans e2.symm) (List.pairwise_iff_getElem.1 hmnd j i h1 h2 hji)
    repeat tb_rel
    refine r_ixT ht (j := 0) rfl rfl ?_
    repeat tb_rel
    refine ⟨rfl, a, T, r, wd, nl, rl, er, gn, us, gs, rfl, aG, wok, hrm, fun G1 f1 => ?_⟩
    repeat tb_rel
    have hb1 := hbG.same f1
    refine ⟨rfl, B, _, rfl, hb1, ⟨by omega, by omega⟩, fun way G2 hw0 hw4 f2 hb2 => ?_⟩
    repeat tb_rel
    have e2 : SameBut B.b G G2 := (SameBut.of f1).trans f2
    have a2 := aG.bag hbG ap e2
    have hrd2 := hrd.bag hbG e2
    have ht2 := seqT_bag e2 hbG ht
    have hin12 : inputsN T r ≤ 20 := by
      unfold inputsN
      split
      · omega
      · unfold intoM marks
        rw [List.length_map]
        have := List.length_filter_le (fun x : Road => decide (x.other = r.one)) T.rs
        have := wok.rlen
        omega
    have hDH2 : SameBut B.b H G2 := e.trans e2
    refine ⟨_, rfl, by omega, by omega, ?_⟩
    refine lc_J (walk_range (n := inputsN T r)) (J := JB K B) jlB (S0 := woB B G2) (jB0 hb2)
      (fun _ i acc _ => ∃ ns : List Int, acc = ns.map V.int ∧ ns.length = i ∧ InR T.q ns) (fun _ => ⟨[], rfl, rfl, fun x h => (by cases h)⟩) (fun _ i acc S S' h e => h) (fun _ i acc S l l' h hl => h) ?_ (fun S G e j => trivial) ?_ ?_
    · rintro D2 i acc S hi ⟨ns, rfl, h2, _⟩
      rw [List.length_map, h2]
      exact Nat.lt_of_le_of_lt (m := 20) (by omega) (by decide)
    · rintro D2 j S G3' v G3 acc R R' hj eS jj hD2 ⟨ns, rfl, hnl, hin⟩ ⟨rfl, rfl⟩ hR hR'
      repeat tb_rel
      refine ⟨rfl, ?_⟩
      have a3 := a2.bag hb2 ap (jj.toBut hb2 eS)
      repeat tb_rel
      refine r_ixT a3.at_ (j := 5) rfl rfl ?_
      repeat tb_rel
      refine ⟨rfl, B, _, rfl, jj.2.2.2, ⟨by omega, by omega⟩, fun x G4 hx0 hx1 f4 hb4 => ?_⟩
      refine hR _ S G4 (Same.refl _) (jj.but f4 hb4) ⟨ns ++ [x], by simp, by rw [List.length_append, hnl]; rfl, fun y hy => ?_⟩
      rcases List.mem_append.1 hy with hy | hy
      · exact hin y hy
      · rw [List.mem_singleton.1 hy]
        exact ⟨hx0, hx1⟩
    · rintro D2 acc S' G5 eS jj hDl _ hD21 ⟨ns, rfl, hnl, hin⟩
      have f5 := jj.toBut hb2 eS
      have hb5 := jj.2.2.2
      refine .inl ⟨D2, _, rfl, .of (jj.1 _ _ hDl), fun u hu => ?_⟩
      repeat tb_rel
      have f6 := Same.new hu (o := .tup (ns.map V.int))
      have hb6 := hb5.same f6
      have e6 : SameBut B.b G (upd G5 u (.tup (ns.map V.int))) := (e2.trans f5).trans (SameBut.of f6)
      have hrd6 := hrd.bag hbG e6
      have ht6 := seqT_bag e6 hbG ht
      refine r_ixT ht6 (j := 0) rfl rfl ?_
      repeat tb_rel
      have hlen : (entD ((marks T.rs).take i) ts).length < 100 := by
        unfold entD
        rw [List.length_map, List.length_zip, hrd.len, Nat.min_self, List.length_take]
        have := wok.rlen
        unfold marks
        rw [List.length_map]
        omega
      refine ⟨D, _, rfl, DPut.k (k := Sum.inl r.mark) hrd6.at_ (Nat.lt_of_lt_of_le hlen (by decide)), ?_⟩
      have hp := hrd6.put (t := u) (g := fun x => if x = r.mark then ns else f x) hno (fun k hk => if_neg fun z => hno (by rw [← z]; exact hk)) (by
        show SqT K _ u ((if r.mark = r.mark then ns else f r.mark).map V.int)
        rw [if_pos rfl]
        exact .of upd_same)
      have hb7 := hb6.put hb hD (o := .dK (putK (entD ((marks T.rs).take i) ts) (Sum.inl r.mark) (.ref u)))
      have e7 : SameBut B.b H (upd (upd G5 u (.tup (ns.map V.int))) D (.dK (putK (entD ((marks T.rs).take i) ts) (Sum.inl r.mark) (.ref u)))) := but_put (e.trans e6) hD
      have hdT : ∀ {z : Addr} {xs : List V}, SqT K G z xs → SqT K (upd (upd G5 u (.tup (ns.map V.int))) D (.dK (putK (entD ((marks T.rs).take i) ts) (Sum.inl r.mark) (.ref u)))) z xs := fun h => seqT_putD (seqT_bag e6 hbG h) hrd6.at_
      generalize upd (upd G5 u (.tup (ns.map V.int))) D (.dK (putK (entD ((marks T.rs).take i) ts) (Sum.inl r.mark) (.ref u))) = G7 at hp hb7 e7 hdT
      have hg : ∀ row : List Int, row.length = inputsN T r → InR T.q row → ∀ g : Int → List Int, g r.mark = row → (∀ k, k ≠ r.mark → g k = f k) → ∀ r' ∈ T.rs, r'.mark ∈ (marks T.rs).take (i + 1) → (g r'.mark).length = inputsN T r' ∧ InR T.q (g r'.mark) := fun row h1 h2 g hg1 hg2 r' hr' hin' => by
        rw [take_snoc hmk] at hin'
        by_cases z : r'.mark = r.mark
        · have := mark_inj wok.asc hr' hrm z
          subst this
          rw [hg1]
          exact ⟨h1, h2⟩
        · rw [hg2 _ z]
          rcases List.mem_append.1 hin' with h | h
          · exact hf r' hr' h
          · exact absurd (List.mem_singleton.1 h) z
      repeat tb_rel
      refine ite_d (fun _ => ?_) fun _ => ?_
      · repeat tb_rel
        refine ite_d (fun hpos => ?_) fun _ => ?_
        · repeat tb_rel
          refine ⟨rfl, B, _, rfl, hb7, ⟨by omega, by omega⟩, fun x G8 hx0 hx1 f8 hb8 => ?_⟩
          repeat tb_rel
          refine ⟨rfl, x.toNat, inputsN T r, by rw [Int.toNat_of_nonneg hx0], by omega, by omega, fun u9 G9 f9 n9 => ?_⟩
          repeat tb_rel
          have hp9 := (hp.bag hb7 f8).same f9
          have ht9 := f9.seqT (seqT_bag f8 hb7 (hdT ht))
          refine r_ixT ht9 (j := 0) rfl rfl ?_
          repeat tb_rel
          refine ⟨D, _, rfl, DPut.k (k := Sum.inl r.mark) hp9.at_ (by
            rw [entD_snoc hrd.len, List.length_append]
            exact Nat.lt_of_lt_of_le (m := 101) (by show _ + 1 < 101; omega) (by decide)), ?_⟩
          have hpl := hp9.put_last hrd.len hno n9.sq
          rw [← take_snoc hmk] at hpl
          have hui : x.toNat < inputsN T r := by omega
          refine ⟨_, _, _, _, _, _, rfl, but_put ((e7.trans f8).trans (SameBut.of f9)) hD, (hb8.same f9).put hb hD, by rw [← take_snoc hmk] at *; exact hpl, hg (unitF x.toNat (inputsN T r)) (unitF_length hui) (fun y hy => ?_) _ (if_pos rfl) fun k hk => ?_⟩
          · rcases List.mem_append.1 hy with h | h
            · rcases List.mem_append.1 h with h | h
              · rw [List.eq_of_mem_replicate h]
                omega
              · rw [List.mem_singleton.1 h]
                omega
            · rw [List.eq_of_mem_replicate h]
              omega
          · show (if k = r.mark then _ else if k = r.mark then ns else f k) = f k
            rw [if_neg hk, if_neg hk]
        · rw [← take_snoc hmk] at hp
          exact ⟨_, _, _, _, _, _, rfl, e7, hb7, hp, hg ns hnl hin _ (if_pos rfl) fun k hk => if_neg hk⟩
      · rw [← take_snoc hmk] at hp
        exact ⟨_, _, _, _, _, _, rfl, e7, hb7, hp, hg ns hnl hin _ (if_pos rfl) fun k hk => if_neg hk⟩
  · rintro σ G ⟨f, ts, x3, x4, x5, x6, rfl, e, hbG, hrd, hf⟩
    repeat tb_rel
    have hln : us.length = (marks T.rs).length := by rw [hlin.1]; simp [marks]
    rw [hln, List.take_length] at hrd hf
    exact k D G f e hbG hD ⟨ts, hrd⟩ fun r hr => hf r hr (List.mem_map.2 ⟨r, hr, rfl⟩)
end
end Mg
/-! LI -/
namespace L2
open PySem PySem.Spec PyProof.Rows
section
variable {X : Cx} {k n : Nat} {f C : Addr} {fd : FuncData} {ps ks : List Str} {sp : Sp} {m : Str} {pos apos : Pos} {o e : Expr} {es : List Expr} {kws : List Keyword} {ta : TE} {t tk : TA} {g : List Value → List Value → List Value} {gV : List V → List V → List V}
def tMK (C : Addr) (m : Str) (n l : Nat) (sp : Sp) (gV : List V → List V → List V) (ta : TE) (t tk : TA) : TE := fun σ H Q => ta σ H fun x H1 => ∃ a dx fs, x = .ref a ∧ H1 a = some (.ins C dx fs) ∧ fs.lookup m = none ∧ t σ H1 fun vs H2 => tk σ H2 fun zs H3 => (x :: vs).length = n ∧ zs.length = l ∧ sp (gV (x :: vs) zs) H3 Q E0
/-- o.m(e, .., k = v, ..) -/
theorem pmK {pl : Sem Bool} (F : FnOk X.prog X.w X.K X.mg X.base CX0 k f fd ps sp) (hr : Room k X.A) (c : Cls X.K C) (hm : Meth X.K C m f) (hb : KBn X.K fd ps n ks g gV) (he : PE X o ta) (ha : PA X (e :: es) t) (hkw : PK X kws tk)
    (hall : (backToKw pos (keywordEach kws X.env)).all (·.1.isSome) = true := by rfl) (hks : (backToKw pos (keywordEach kws X.env)).filterMap (·.1) = ks := by rfl)
    (hst : starEach (e :: es) X.env = (false, eval e X.env) :: starEach es X.env := by rfl) (hpl : ((backTo pos (starEach (e :: es) X.env)).any (·.1) || (backToKw pos (keywordEach kws X.env)).any (·.1.isNone)) = false := by rfl)
    (ht : eval (.Call (.Attribute o m apos) (e :: es) kws pos) X.env = (do
      let ov ← eval o X.env
      standAt apos.atName
      let (f, first) ← holding [ov] (getMethod ov m pl)
      callWith pos f first (backTo pos (starEach (e :: es) X.env)) (backToKw pos (keywordEach kws X.env))) := by rfl) :
    PE X (.Call (.Attribute o m apos) (e :: es) kws pos) (tMK C m n ks.length sp gV ta t tk) := by
  refine ⟨fun pins s σ H Q I h => ?_⟩
  refine PySem.W.methodCall_KW (pl := pl) (thn (he.run pins s σ H _ I h) fun u s1 ⟨x, H1, I1, rx, a, dx, fs, ex, ea, l, q⟩ => ?_) ht
  subst ex
  obtain rfl : u = Value.ref a := rx
  refine getmeth_ok I1 ea c hm l ?_
  refine PySem.W.callWith_KW (first := [.ref a]) (h₀ := X.base) I.ok.mod.kin hm.kp hall (thn (ha.run pos pins s1 σ H1 _ I1 q) fun us s2 ⟨vs, H2, I2, r, q2⟩ => ?_) hpl hst
  refine thn (hkw.run pos pins s2 σ H2 _ I2 q2) fun ws s3 ⟨zs, H3, I3, rz, l1, l2, q3⟩ => ⟨I3.kIn, ?_⟩
  rw [hks]
  exact run_fnN (us := .ref a :: us) (vs := .ref a :: vs) F hr hb pass0 I3 (.cons rfl r) rz l1 l2 q3
theorem r_tMK {l : Nat} {σ : L2.St} {H : Hp} {Q : VK} (h : ta σ H fun x H1 => ∃ a dx fs, x = .ref a ∧ H1 a = some (.ins C dx fs) ∧ fs.lookup m = none ∧ t σ H1 fun vs H2 => tk σ H2 fun zs H3 => (x :: vs).length = n ∧ zs.length = l ∧ sp (gV (x :: vs) zs) H3 Q E0) : tMK C m n l sp gV ta t tk σ H Q := h
theorem r_revL {K : PySem.W.Frag} {te : TE} {σ : L2.St} {H : Hp} {Q : VK} (h : te σ H fun x H1 => ∃ a xs, x = .ref a ∧ SqL K H1 a xs ∧ ∀ p, H1 p = none → Q (.ref p) (upd H1 p (.lst xs.reverse))) : tRevL K te σ H Q := h
end
end L2
local macro_rules | `(tactic| tb_rel) => `(tactic| with_reducible first | refine L2.r_tMK ?_ | refine L2.r_revL ?_)
namespace L2
open PySem PySem.Spec PyProof.Rows
end L2
namespace Mg
open PySem PySem.Spec PyProof.Rows L2
section
variable {P : Program} {w : World} {K : PySem.W.Frag} {mg : Str → Option Value} {base : Heap}
theorem sc_L_plain_net : FnScope ["_law_world_here", "_law_mesh", "_law_name", "_law_mark", "_law_one", "_law_other", "_law_lag"] ["_law_world_here"] d_L_plain_net.scope := ⟨rfl, rfl, rfl, by decide +kernel, rfl, by decide +kernel, by decide +kernel⟩
def sp_plain_net (K : PySem.W.Frag) : Sp := SpN 1 fun vs H Q => ∃ (wd nl rl : Addr) (ys : List Str) (rs : List Road) (us : List V), vs = [.ref wd] ∧ WorldAt K H wd nl rl ys rs us ∧ WOk ys rs ∧ ∀ (u : Addr) (H' : Hp), Same H H' → NetAt K H' u ys rs → Q (.ref u) H'
theorem ok_L_plain_net (S : Says K mg) : Fn P w K mg base 3 (He.fAd K d_L_plain_net.at_) (sp_plain_net K) := by
  refine fn_body (f_L_plain_net S) sc_L_plain_net rfl (fun _ _ _ _ _ _ us hl => match us, hl with | [_], _ => rfl) fun cdv A outer s H vs Q E hr h => ?_
  obtain ⟨wd, nl, rl, ys, rs, us, rfl, hw, wok, k⟩ := h
  obtain ⟨fdN, FN⟩ := f_Net_init S
  have bN := FN.bindsN (ps := ["self"]) (fun _ _ _ _ _ _ us hl => match us, hl with | [_], _ => rfl)
  obtain ⟨fdL, FLn⟩ := f_Net_line S
  obtain ⟨mv, kbL⟩ := FLn.kbinds0 (ps := ["self", "one", "other", "slow", "number"]) 3 ["number", "slow"] [] (fun us _ ws => us ++ ws.reverse) (fun z => by cases z) (fun q hq => by cases hq) (fun h1 _ h2 => h1.append h2.reverse)
    (fun D doc pm an cdv ct us mv ws hu hm hw => match us, hu, mv, hm, ws, hw with | [_, _, _], _, [], _, [_, _], _ => rfl)
  refine ⟨_, (pss_cons (ps_set (i := 1) sc_L_plain_net.nd rfl (by first | exact Or.inl rfl | exact Or.inr rfl) (pe_make0 (k_Net (K := K) S) (raw_Net_init S FN) (hr.mono (by decide)) rfl (g_Net S) bN .nil pass0)) (pss_cons (ps_for PassesOwn.never rfl (pi_listK K (pe_ix (ix_tupK K) (pv 0) pe_int (fun _ _ => rfl))) (pg_name (i := 2) sc_L_plain_net.nd rfl (by first | exact Or.inl rfl | exact Or.inr rfl)) (pss_one (ps_expr (pm (ok_Net_house (K := K) S) (hr.mono (by decide)) (c_Net (K := K) S) (m_Net_house (K := K) S) (pv 1) (pa_cons (pv 2) pa_nil))))) (pss_cons (ps_for PassesOwn.never rfl (pi_listK K (pe_revL (pe_ix (ix_tupK K) (pv 0) pe_int (fun _ _ => rfl)))) (pg_tupK K (n := 4) rfl (pgs_cons (pg_name (i := 3) sc_L_plain_net.nd rfl (by first | exact Or.inl rfl | exact Or.inr rfl)) (pgs_cons (pg_name (i := 4) sc_L_plain_net.nd rfl (by first | exact Or.inl rfl | exact Or.inr rfl)) (pgs_cons (pg_name (i := 5) sc_L_plain_net.nd rfl (by first | exact Or.inl rfl | exact Or.inr rfl)) (pgs_cons (pg_name (i := 6) sc_L_plain_net.nd rfl (by first | exact Or.inl rfl | exact Or.inr rfl)) pgs_nil))))) (pss_one (ps_expr (pmK (raw_Net_line S FLn) (hr.mono (by decide)) (c_Net (K := K) S) (m_Net_line (K := K) S) kbL (pv 1) (pa_cons (pv 4) (pa_cons (pv 5) pa_nil)) (pk_cons (pv 3) (pk_cons (pv 6) pk_nil)))))) (pss_one (ps_ret (pv 1)))))), ?_⟩
  repeat tb_rel
  intro x dx hx hdx hne
  refine ⟨rfl, x, dx, rfl, upd_same, fun H1 dN dR e1 m h1 h2 => ⟨rfl, ?_⟩⟩
  repeat tb_rel
  have es : Same H H1 := SameBut.new hx hdx e1
  have w1 := hw.same es
  refine r_ixT w1.at_ (j := 0) rfl rfl ?_
  repeat tb_rel
  refine ⟨_, rfl, ⟨_, .of w1.nam⟩, ?_⟩
  have hdNH : H dN = none := by
    cases q : H dN with
    | none => rfl
    | some o =>
      exfalso
      have h5 : upd (upd H dx (.own x)) x (.ins (He.ga K "Net") dx []) dN = some o := (Same.new hdx).put hx _ _ q
      rw [h5] at h1
      cases h1
  have hdRH : H dR = none := by
    cases q : H dR with
    | none => rfl
    | some o =>
      exfalso
      have h5 : upd (upd H dx (.own x)) x (.ins (He.ga K "Net") dx []) dR = some o := (Same.new hdx).put hx _ _ q
      rw [h5] at h2
      cases h2
  have hnames := wok.nlen
  refine for_B (walk_list (xs := ys.map V.str)) (fun i σ G => ∃ x2, σ = [some (.ref wd), some (.ref x), x2, none, none, none, none] ∧ Same H G ∧ NetOk K G x (ys.take i) [] dx dN dR [])
    ⟨_, rfl, es, m⟩ (fun i σ G _ ⟨_, _, e, _⟩ => .of (e _ _ hw.nam)) ?_ ?_
  · rintro i v σ G0 G hi ⟨x2, rfl, e, mG⟩ ⟨rfl, hv⟩
    obtain ⟨y, hy, rfl⟩ := map_get hv
    have hyn := (wok.names.ok y (List.mem_of_getElem? hy)).1
    have hno : ¬ y ∈ ys.take i := fun z => by
      obtain ⟨j, hj⟩ := List.getElem?_of_mem z
      have hji : j < i := by
        refine Decidable.byContradiction fun z => ?_
        rw [List.getElem?_eq_none (by rw [List.length_take]; omega)] at hj
        cases hj
      rw [List.getElem?_take_of_lt hji] at hj
      obtain ⟨h1, e1⟩ := List.getElem?_eq_some_iff.1 hj
      obtain ⟨h2, e2⟩ := List.getElem?_eq_some_iff.1 hy
      exact absurd (e1.trans e2.symm) (List.pairwise_iff_getElem.1 wok.names.nd j i h1 h2 hji)
    repeat tb_rel
    refine r_Mv mG.self rfl ?_
    repeat tb_rel
    refine ⟨rfl, x, _, _, y, dx, dN, dR, [], rfl, mG, hyn, hno, by rw [List.length_take]; omega, fun G2 e2 m2 => ?_⟩
    repeat tb_rel
    refine ⟨_, rfl, fun b o q => e2 b o (ne_of_none q hdNH) (e b o q), ?_⟩
    rw [take_snoc hy]
    exact m2
  · rintro σ G ⟨x2, rfl, e, mG⟩
    rw [List.length_map, List.take_length] at mG
    repeat tb_rel
    have wG := hw.same e
    refine r_ixT wG.at_ (j := 1) rfl rfl ?_
    repeat tb_rel
    refine ⟨_, _, rfl, .of wG.roa, fun L hL => ?_⟩
    have eL := Same.new hL (o := .lst us.reverse)
    refine ⟨_, rfl, ⟨_, .of upd_same⟩, ?_⟩
    have hrl := wG.lin.1
    have hLH : H L = none := e.free hL
    refine for_B (walk_list (xs := us.reverse)) (fun i σ G' => ∃ x2 x3 x4 x5 x6 zs, σ = [some (.ref wd), some (.ref x), x2, x3, x4, x5, x6] ∧ Same H G' ∧ G' L = some (.lst us.reverse) ∧ NetOk K G' x ys (rs.drop (rs.length - i)) dx dN dR zs)
      ⟨_, _, _, _, _, [], rfl, e.trans eL, upd_same, by rw [Nat.sub_zero, List.drop_length]; exact mG.same eL⟩ (fun i σ G' _ ⟨_, _, _, _, _, _, _, _, h, _⟩ => .of h) ?_ ?_
    · rintro i v σ G0 G2 hi ⟨x2, x3, x4, x5, x6, zs, rfl, e2, hGL, m2⟩ ⟨rfl, hv⟩
      rw [List.length_reverse, hrl] at hi
      have hir : rs.length - 1 - i < rs.length := by omega
      have hr2 : rs[rs.length - 1 - i]? = some (rs[rs.length - 1 - i]'hir) := by simp [hir]
      have hvv : us[rs.length - 1 - i]? = some v := by
        rw [List.getElem?_reverse (by omega)] at hv
        rw [← hrl]
        exact hv
      generalize hrr : rs[rs.length - 1 - i]'hir = r at hr2
      obtain ⟨t, rfl, ht⟩ := (hw.same e2).lin.2 _ r v hr2 hvv
      have hrm := List.mem_of_getElem? hr2
      have hdrop : rs.drop (rs.length - (i + 1)) = r :: rs.drop (rs.length - i) := by
        rw [show rs.length - (i + 1) = rs.length - 1 - i by omega, List.drop_eq_getElem_cons hir, hrr, show rs.length - 1 - i + 1 = rs.length - i by omega]
      refine r_g4 ht ?_
      repeat tb_rel
      refine r_Mv m2.self rfl ?_
      repeat tb_rel
      obtain ⟨ia, ja, hij, h1a, h2a⟩ := wok.ends r hrm
      have hro : roadOk ys r := ⟨List.mem_of_getElem? h1a, List.mem_of_getElem? h2a, fun z => by
        rw [z] at h1a
        obtain ⟨p1, q1⟩ := List.getElem?_eq_some_iff.1 h1a
        obtain ⟨p2, q2⟩ := List.getElem?_eq_some_iff.1 h2a
        exact absurd (q1.trans q2.symm) (List.pairwise_iff_getElem.1 wok.names.nd ia ja p1 p2 hij), wok.slow r hrm, (wok.mark r hrm).1, (wok.mark r hrm).2⟩
      refine ⟨rfl, rfl, rfl, x, ys, _, r, dx, dN, dR, zs, rfl, m2, hro, fun y hy => ?_, ?_, fun G3 tt e3 m3 => ?_⟩
      · have := wok.asc
        rw [← List.take_append_drop (rs.length - (i + 1)) rs, hdrop] at this
        exact (List.pairwise_cons.1 (List.pairwise_append.1 this).2.1).1 y hy
      · rw [List.length_drop]
        have := wok.rlen
        omega
      repeat tb_rel
      rw [hdrop]
      exact ⟨_, _, _, _, _, _, rfl, fun b o q => e3 b o (ne_of_none q hdRH) (e2 b o q), e3 _ _ (ne_of hGL m2.roa (by intro z; cases z)) hGL, m3⟩
    · rintro σ G2 ⟨x2, x3, x4, x5, x6, zs, rfl, e2, hGL, m2⟩
      repeat tb_rel
      rw [List.length_reverse, hrl, Nat.sub_self, List.drop_zero] at m2
      exact k x G2 e2 ⟨dx, dN, dR, zs, m2⟩
end
end Mg
/-! LJ -/
namespace Mg
open PySem PySem.Spec PyProof.Rows L2
section
variable {P : Program} {w : World} {K : PySem.W.Frag} {mg : Str → Option Value} {base : Heap}
theorem sc_L_task : FnScope ["_law_ask_here", "_law_world_here", "_law_root_here", "_law_ears", "_law_tally", "_law_gone_here", "_law_big"] ["_law_ask_here"] d_L_task.scope := ⟨rfl, rfl, rfl, by decide +kernel, rfl, by decide +kernel, by decide +kernel⟩
def sp_L_task (K : PySem.W.Frag) : Sp := SpN 1 fun vs H Q => ∃ (a : Addr) (T : TSpec) (w nl rl er gn : Addr) (us : List V) (gs : List (Addr × List Int)), vs = [.ref a] ∧ AskAt K H a T w nl rl er gn us gs ∧ WOk T.names T.rs ∧ T.Ok ∧ ∀ (u : Addr) (H' : Hp), Same H H' → TaskAt K H' u T → Q (.ref u) H'
theorem ok_L_task (S : Says K mg) : Fn P w K mg base 7 (He.fAd K d_L_task.at_) (sp_L_task K) := by
  refine fn_body (f_L_task S) sc_L_task rfl (fun _ _ _ _ _ _ us hl => match us, hl with | [_], _ => rfl) fun cdv A outer s H vs Q E hr h => ?_
  obtain ⟨a, T, wd, nl, rl, er, gn, us, gs, rfl, ha, wok, ok, k⟩ := h
  obtain ⟨fdT, FT⟩ := f_Task_init S
  obtain ⟨mv, kbT⟩ := FT.kbinds0 (ps := ["self", "net", "source", "hearers", "letters", "losses", "size"]) 4 ["letters", "losses", "size"] [] (fun us _ ws => us ++ ws) (fun z => by cases z) (fun q hq => by cases hq) (fun h1 _ h2 => h1.append h2)
    (fun D doc pm an cdv ct us mv ws hu hm hw => match us, hu, mv, hm, ws, hw with | [_, _, _, _], _, [], _, [_, _, _], _ => rfl)
  refine ⟨_, (pss_cons (ps_asg (pv 0) (pg_tupK K (n := 6) rfl (pgs_cons (pg_name (i := 1) sc_L_task.nd rfl (by first | exact Or.inl rfl | exact Or.inr rfl)) (pgs_cons (pg_name (i := 2) sc_L_task.nd rfl (by first | exact Or.inl rfl | exact Or.inr rfl)) (pgs_cons (pg_name (i := 3) sc_L_task.nd rfl (by first | exact Or.inl rfl | exact Or.inr rfl)) (pgs_cons (pg_name (i := 4) sc_L_task.nd rfl (by first | exact Or.inl rfl | exact Or.inr rfl)) (pgs_cons (pg_name (i := 5) sc_L_task.nd rfl (by first | exact Or.inl rfl | exact Or.inr rfl)) (pgs_cons (pg_name (i := 6) sc_L_task.nd rfl (by first | exact Or.inl rfl | exact Or.inr rfl)) pgs_nil)))))))) (pss_one (ps_ret (pe_makeK (k_Task (K := K) S) (raw_Task_init S FT) (hr.mono (by decide)) rfl (g_Task S) kbT pass0 (pa_cons (pc (ok_L_plain_net (K := K) S) (hr.mono (by decide)) (g_L_plain_net S) (f_L_plain_net S).choose_spec.kp rfl (pa_cons (pv 1) pa_nil)) (pa_cons (pv 2) (pa_cons (pe_callTy (call_list_ofK K) (by rfl) (n_list S) (by decide +kernel) (pa_cons (pv 3) pa_nil)) pa_nil))) (pk_cons (pv 4) (pk_cons (pe_callTy (call_list_ofK K) (by rfl) (n_list S) (by decide +kernel) (pa_cons (pv 5) pa_nil)) (pk_cons (pv 6) pk_nil))))))), ?_⟩
  repeat tb_rel
  refine r_gtup ha.at_ rfl (r_gcons (r_gn (r_gcons (r_gn (r_gcons (r_gn (r_gcons (r_gn (r_gcons (r_gn (r_gcons (r_gn (r_gnil ?_))))))))))))) 
  repeat tb_rel
  refine ⟨rfl, wd, nl, rl, _, _, us, rfl, ha.world, wok, fun n H1 e1 hn => ?_⟩
  repeat tb_rel
  refine ⟨er, _, rfl, .inl (.of (e1 _ _ ha.ear)), fun er2 hE => ?_⟩
  repeat tb_rel
  have eE := Same.new hE (o := .lst (T.ears.map V.str))
  refine ⟨gn, _, rfl, .inl (.of (eE _ _ (e1 _ _ ha.gon))), fun gn2 hG => ?_⟩
  repeat tb_rel
  have eG := Same.new hG (o := .lst (refs gs))
  have e3 := (e1.trans eE).trans eG
  refine ⟨rfl, rfl, fun x dx hx hdx hne => ?_⟩
  have eN : Same (upd (upd H1 er2 (.lst (T.ears.map V.str))) gn2 (.lst (refs gs))) (upd (upd (upd (upd H1 er2 (.lst (T.ears.map V.str))) gn2 (.lst (refs gs))) dx (.own x)) x (.ins (He.ga K "Task") dx [])) := (Same.new hdx).put hx
  refine ⟨rfl, x, dx, n, er2, gn2, gs, T, rfl, upd_same, ((hn.same eE).same eG).same eN, eN _ _ (eG _ _ upd_same), eN _ _ upd_same, (ha.rows.same e3).same eN, ha.geq, ok, fun H5 e5 ht => ⟨rfl, ?_⟩⟩
  exact k x H5 (e3.trans (SameBut.new hx hdx e5)) ht
end
end Mg
/-! PA -/
namespace Mg
open PySem PySem.Spec PyProof.Rows L2
/-! ### identities of the fields -/
theorem fid0 : ∀ q ∈ ([2, 3, 4, 8, 9, 16] : List Int), ∀ a ∈ List.range 16, ∀ b ∈ List.range 16, ((a : Nat) : Int) < q → ((b : Nat) : Int) < q →
    (fadd q (b : Nat) (fmul q 0 (a : Nat)) (-1) = (b : Nat) ∧ fmul q 0 (a : Nat) = 0 ∧ fadd q (a : Nat) (fmul q 1 (a : Nat)) (-1) = 0 ∧ (a ≠ 0 → b ≠ 0 → fmul q (a : Nat) (b : Nat) ≠ 0)) := by decide +kernel
theorem fin0 : ∀ q ∈ ([2, 3, 4, 8, 9, 16] : List Int), ∀ a ∈ List.range 16, ((a : Nat) : Int) < q → a ≠ 0 → fmul q (a : Nat) (finv q (a : Nat)) = 1 := by decide +kernel
theorem fid {q a b : Int} (hq : Fq q) (ha : 0 ≤ a ∧ a < q) (hb : 0 ≤ b ∧ b < q) : fadd q b (fmul q 0 a) (-1) = b ∧ fmul q 0 a = 0 ∧ (a ≠ 0 → fmul q a (finv q a) = 1) ∧ fadd q a (fmul q 1 a) (-1) = 0 ∧ (a ≠ 0 → b ≠ 0 → fmul q a b ≠ 0) := by
  have := hq.le
  have z := fid0 q hq.mem a.toNat (List.mem_range.2 (by omega)) b.toNat (List.mem_range.2 (by omega)) (by omega) (by omega)
  rw [Int.toNat_of_nonneg ha.1, Int.toNat_of_nonneg hb.1] at z
  have y := fin0 q hq.mem a.toNat (List.mem_range.2 (by omega)) (by omega)
  rw [Int.toNat_of_nonneg ha.1] at y
  exact ⟨z.1, z.2.1, fun h => y (by omega), z.2.2.1, fun h1 h2 => z.2.2.2 (by omega) (by omega)⟩
/-- sizes above -/
def Up (p q : Int) : Prop := (p = 2 ∧ (q = 4 ∨ q = 8 ∨ q = 16)) ∨ (p = 3 ∧ q = 9)
theorem Up.p {p q : Int} (h : Up p q) : Fq p := by
  unfold Fq
  rcases h with h | h <;> omega
theorem Up.q {p q : Int} (h : Up p q) : Fq q := by
  unfold Fq
  rcases h with h | h <;> omega
theorem Up.b4 {p q : Int} (h : Up p q) : B4 q := by
  unfold B4
  rcases h with h | h <;> omega
theorem Up.lt {p q : Int} (h : Up p q) : p < q := by
  rcases h with h | h <;> omega
theorem up0 : ∀ z ∈ ([(2, 4), (2, 8), (2, 16), (3, 9)] : List (Int × Int)), ∀ a ∈ List.range 3, ∀ b ∈ List.range 3, ((a : Nat) : Int) < z.1 → ((b : Nat) : Int) < z.1 →
    (fadd z.2 (a : Nat) (b : Nat) 1 = fadd z.1 (a : Nat) (b : Nat) 1 ∧ fadd z.2 (a : Nat) (b : Nat) (-1) = fadd z.1 (a : Nat) (b : Nat) (-1) ∧ fmul z.2 (a : Nat) (b : Nat) = fmul z.1 (a : Nat) (b : Nat) ∧ (a ≠ 0 → finv z.2 (a : Nat) = finv z.1 (a : Nat))) := by decide +kernel
theorem Up.eq {p q a b : Int} (h : Up p q) (ha : 0 ≤ a ∧ a < p) (hb : 0 ≤ b ∧ b < p) : fadd q a b 1 = fadd p a b 1 ∧ fadd q a b (-1) = fadd p a b (-1) ∧ fmul q a b = fmul p a b ∧ (a ≠ 0 → finv q a = finv p a) := by
  have hm : (p, q) ∈ ([(2, 4), (2, 8), (2, 16), (3, 9)] : List (Int × Int)) := by
    rcases h with ⟨rfl, rfl | rfl | rfl⟩ | ⟨rfl, rfl⟩ <;> decide
  have hp : p ≤ 3 := by rcases h with h | h <;> omega
  have z := up0 (p, q) hm a.toNat (List.mem_range.2 (by omega)) b.toNat (List.mem_range.2 (by omega)) (by show _ < p; omega) (by show _ < p; omega)
  rw [Int.toNat_of_nonneg ha.1, Int.toNat_of_nonneg hb.1] at z
  exact ⟨z.1, z.2.1, z.2.2.1, fun h => z.2.2.2 (by omega)⟩
/-! tables: sums and products of two of 16 in one number each -/
def tabOf (f : Nat → Nat → Int) : Nat := (List.range 256).foldr (fun i n => n * 16 + (f (i / 16) (i % 16)).toNat) 0
def at16 (T a b : Nat) : Nat := T / 16 ^ (16 * a + b) % 16
def tabM (q : Nat) : Nat := if q = 4 then 53330256343845239771214889408017248588558707406201035998363648 else if q = 8 then 638732648260906949777959678038565379125696596219037394524801015071477239970190909606175165633671146960191918252948923319017128185934182682198016 else if q = 9 then 350271593073168926145148751542696170272942420121852288454124347193083665193360404733703433787666620839746384371830655548203159746643362737104589857648376464715808768 else 116196760129267793630862849262464326346044543732748708940920453221664288556434379745879494961270582141731748813355742142288220638766218855867759359510984593843506004200114943278699875244065120512813025380665946106619127097398772031257643617143689515450995722003729973585221105779229319991106539050771048038400
def tabA (q : Nat) : Nat := if q = 4 then 1826636604997524103687025415407641796770237830395656339993104 else if q = 8 then 13874437610526695973432030937281792794508753341615275460032961883811228700950539972536064596195808715573671356327488034696840624189815766921744 else if q = 9 then 242280702199725469974352990928395429226526593484772418668161944328841606494906220325586153284455581685689327813808656503597945483892057202906626319625518304218853904 else 798974726605473726946832238011593618400339158202517049033210936078539962612148351302787556971974837864606271200763683943951953866025539096785282858647326000342156170857478456413950631519959977197563975844721619162716127815821009475742892049151496040916675244806998969647283770674449648040311876430683451920
def tabS (q : Nat) : Nat := if q = 4 then 1826636604997524103687025415407641796770237830395656339993104 else if q = 8 then 13874437610526695973432030937281792794508753341615275460032961883811228700950539972536064596195808715573671356327488034696840624189815766921744 else if q = 9 then 4095011303551043298381458892634582099661919021127691590168361890825419730600297983608501207060755564031003343017753233465183726221160828082437653171683206079471904 else 798974726605473726946832238011593618400339158202517049033210936078539962612148351302787556971974837864606271200763683943951953866025539096785282858647326000342156170857478456413950631519959977197563975844721619162716127815821009475742892049151496040916675244806998969647283770674449648040311876430683451920
def below (n : Nat) (f : Nat → Bool) : Bool := (List.range n).all f
theorem below_at {n i : Nat} {f : Nat → Bool} (h : below n f = true) (hi : i < n) : f i = true := List.all_eq_true.1 h i (List.mem_range.2 hi)
def tabOk (q : Nat) : Bool := below q fun a => below q fun b => decide (fmul (q : Nat) (a : Nat) (b : Nat) = (at16 (tabM q) a b : Nat)) && (decide (fadd (q : Nat) (a : Nat) (b : Nat) 1 = (at16 (tabA q) a b : Nat)) && decide (fadd (q : Nat) (a : Nat) (b : Nat) (-1) = (at16 (tabS q) a b : Nat)))
theorem tab_ok : ∀ q ∈ ([4, 8, 9, 16] : List Nat), tabOk q = true := by decide +kernel
def triOk (q : Nat) : Bool := below q fun a => below q fun b => Nat.blt (at16 (tabM q) a b) q && below q fun c =>
  Nat.beq (at16 (tabM q) a (at16 (tabM q) b c)) (at16 (tabM q) (at16 (tabM q) a b) c) && (Nat.beq (at16 (tabA q) (at16 (tabM q) a c) (at16 (tabM q) b c)) (at16 (tabM q) (at16 (tabA q) a b) c) &&
    Nat.beq (at16 (tabS q) (at16 (tabM q) a c) (at16 (tabM q) b c)) (at16 (tabM q) (at16 (tabS q) a b) c))
theorem tri_ok : ∀ q ∈ ([4, 8, 9, 16] : List Nat), triOk q = true := by decide +kernel
theorem tri {q a b c : Int} (hq : B4 q) (ha : 0 ≤ a ∧ a < q) (hb : 0 ≤ b ∧ b < q) (hc : 0 ≤ c ∧ c < q) :
    fmul q a (fmul q b c) = fmul q (fmul q a b) c ∧ fadd q (fmul q a c) (fmul q b c) 1 = fmul q (fadd q a b 1) c ∧ fadd q (fmul q a c) (fmul q b c) (-1) = fmul q (fadd q a b (-1)) c := by
  have hf : Fq q := by
    unfold Fq
    rcases hq with h | h | h | h <;> omega
  have hm : q.toNat ∈ ([4, 8, 9, 16] : List Nat) := by
    rcases hq with rfl | rfl | rfl | rfl <;> decide
  have hq0 : ((q.toNat : Nat) : Int) = q := Int.toNat_of_nonneg (by omega)
  have tb := tab_ok _ hm
  have tr := tri_ok _ hm
  have key : ∀ x y : Int, 0 ≤ x ∧ x < q → 0 ≤ y ∧ y < q → fmul q x y = (at16 (tabM q.toNat) x.toNat y.toNat : Nat) ∧ fadd q x y 1 = (at16 (tabA q.toNat) x.toNat y.toNat : Nat) ∧ fadd q x y (-1) = (at16 (tabS q.toNat) x.toNat y.toNat : Nat) := fun x y hx hy => by
    have z := below_at (below_at tb (i := x.toNat) (by omega)) (i := y.toNat) (by omega)
    simp only [Bool.and_eq_true, decide_eq_true_eq] at z
    rw [hq0, Int.toNat_of_nonneg hx.1, Int.toNat_of_nonneg hy.1] at z
    exact z
  have t1 := below_at (below_at tr (i := a.toNat) (by omega)) (i := b.toNat) (by omega)
  have t2 := below_at (Bool.and_eq_true _ _ |>.mp t1).2 (i := c.toNat) (by omega)
  simp only [Bool.and_eq_true] at t2
  have rbc := frange hf hb hc
  have rab := frange hf ha hb
  have rac := frange hf ha hc
  refine ⟨?_, ?_, ?_⟩
  · rw [(key a _ ha rbc.2.2).1, (key _ c rab.2.2 hc).1, (key b c hb hc).1, (key a b ha hb).1, Int.toNat_natCast, Int.toNat_natCast, Nat.eq_of_beq_eq_true t2.1]
  · rw [(key _ _ rac.2.2 rbc.2.2).2.1, (key _ c rab.1 hc).1, (key b c hb hc).1, (key a c ha hc).1, (key a b ha hb).2.1, Int.toNat_natCast, Int.toNat_natCast, Int.toNat_natCast, Nat.eq_of_beq_eq_true t2.2.1]
  · rw [(key _ _ rac.2.2 rbc.2.2).2.2, (key _ c rab.2.1 hc).1, (key b c hb hc).1, (key a c ha hc).1, (key a b ha hb).2.2, Int.toNat_natCast, Int.toNat_natCast, Int.toNat_natCast, Nat.eq_of_beq_eq_true t2.2.2]
theorem inv0 : ∀ q ∈ ([4, 8, 9, 16] : List Int), ∀ a ∈ List.range 16, ((a : Nat) : Int) < q → a ≠ 0 → fmul q (finv q (a : Nat)) (a : Nat) = 1 ∧ fmul q 1 (a : Nat) = (a : Nat) ∧ fmul q (a : Nat) 1 = (a : Nat) := by decide +kernel
theorem comm0 : ∀ q ∈ ([4, 8, 9, 16] : List Int), ∀ a ∈ List.range 16, ∀ b ∈ List.range 16, ((a : Nat) : Int) < q → ((b : Nat) : Int) < q → fmul q (a : Nat) (b : Nat) = fmul q (b : Nat) (a : Nat) ∧ timesL q (a : Nat) (b : Nat) = fmul q (a : Nat) (b : Nat) := by decide +kernel
theorem B4.fq {q : Int} (h : B4 q) : Fq q := by
  unfold Fq
  rcases h with h | h | h | h <;> omega
theorem comm {q a b : Int} (hq : B4 q) (ha : 0 ≤ a ∧ a < q) (hb : 0 ≤ b ∧ b < q) : fmul q a b = fmul q b a ∧ timesL q a b = fmul q a b := by
  have := hq.fq.le
  have z := comm0 q hq.mem a.toNat (List.mem_range.2 (by omega)) b.toNat (List.mem_range.2 (by omega)) (by omega) (by omega)
  rw [Int.toNat_of_nonneg ha.1, Int.toNat_of_nonneg hb.1] at z
  exact z
theorem inv_ok {q a : Int} (hq : B4 q) (ha : 0 ≤ a ∧ a < q) (h0 : a ≠ 0) : fmul q (finv q a) a = 1 ∧ fmul q 1 a = a ∧ fmul q a 1 = a := by
  have := hq.fq.le
  have z := inv0 q hq.mem a.toNat (List.mem_range.2 (by omega)) (by omega) (by omega)
  rw [Int.toNat_of_nonneg ha.1] at z
  exact z
/-- (l c) / (a c) = l / a -/
theorem inv_scale {q l a c : Int} (hq : B4 q) (hl : 0 ≤ l ∧ l < q) (ha : 0 ≤ a ∧ a < q) (hc : 0 ≤ c ∧ c < q) (ha0 : a ≠ 0) (hc0 : c ≠ 0) : fmul q (fmul q l c) (finv q (fmul q a c)) = fmul q l (finv q a) := by
  have hf := hq.fq
  have r1 := (frange hf ha hc).2.2
  have n1 : fmul q a c ≠ 0 := (fid hf ha hc).2.2.2.2 ha0 hc0
  have i1 := finv_range hf r1 n1
  have i2 := finv_range hf ha ha0
  have m1 := (frange hf hc i1).2.2
  -- c * inv (a c) = inv a
  have e : fmul q c (finv q (fmul q a c)) = finv q a := by
    have h1 : fmul q a (fmul q c (finv q (fmul q a c))) = 1 := by
      rw [(tri hq ha hc i1).1]
      exact (fid hf r1 r1).2.2.1 n1
    have h2 : fmul q (finv q a) (fmul q a (fmul q c (finv q (fmul q a c)))) = finv q a := by
      rw [h1]
      by_cases z : finv q a = 0
      · have := (inv_ok hq ha ha0).1
        rw [z, (fid hf ha ha).2.1] at this
        cases this
      · exact (inv_ok hq i2 z).2.2
    rw [(tri hq i2 ha m1).1, (inv_ok hq ha ha0).1] at h2
    by_cases z : fmul q c (finv q (fmul q a c)) = 0
    · rw [z] at h1
      rw [(comm hq ha ⟨by omega, by omega⟩).1, (fid hf ha ha).2.1] at h1
      cases h1
    · rw [(inv_ok hq m1 z).2.1] at h2
      exact h2
  rw [← (tri hq hl hc i1).1, e]
end Mg
/-! PB -/
namespace Mg
open PySem PySem.Spec PyProof.Rows L2
theorem rev_ind {α : Type} {P : List α → Prop} (h0 : P []) (h1 : ∀ l a, P l → P (l ++ [a])) : ∀ l, P l := fun l => by
  have h : ∀ r : List α, P r.reverse := fun r => by
    induction r with
    | nil => exact h0
    | cons a r ih =>
      rw [List.reverse_cons]
      exact h1 _ _ ih
  have := h l.reverse
  rwa [List.reverse_reverse] at this
theorem run_nil {q : Int} {ls : Lead} (h : SpanRun q [] ls) : ls = [] := by
  generalize e : ([] : List (List Int)) = rs at h
  cases h with
  | nil => rfl
  | snoc _ _ => cases List.append_ne_nil_of_right_ne_nil _ (List.cons_ne_nil _ _) e.symm
theorem run_snoc {q : Int} {rows : List (List Int)} {r : List Int} {ls' : Lead} (h : SpanRun q (rows ++ [r]) ls') : ∃ ls b, SpanRun q rows ls ∧ PutR q ls r b ls' := by
  generalize e : rows ++ [r] = rs at h
  cases h with
  | nil => cases List.append_ne_nil_of_right_ne_nil _ (List.cons_ne_nil _ _) e
  | snoc h p =>
    obtain ⟨e1, e2⟩ := List.append_inj' e rfl
    cases e2
    subst e1
    exact ⟨_, _, h, p⟩
/-! ### rows, place by place -/
theorem getD_map {f : Int → Int} {l : List Int} {i : Nat} (h : i < l.length) : (l.map f).getD i 0 = f (l.getD i 0) := by simp [List.getD, h]
theorem rscale_at {q c : Int} {l : List Int} {i : Nat} (h : i < l.length) : (rscale q l c).getD i 0 = fmul q (l.getD i 0) c := getD_map h
theorem rjoin_at {q s : Int} {l k : List Int} {i : Nat} (h : i < l.length) (h2 : i < k.length) : (rjoin q l k s).getD i 0 = fadd q (l.getD i 0) (k.getD i 0) s := by
  have e : (l.zip k)[i]? = some (l[i], k[i]) := List.getElem?_zip_eq_some.2 ⟨by simp [h], by simp [h2]⟩
  unfold rjoin
  simp only [List.getD, List.getElem?_map, e]
  simp [h, h2]
theorem inR_at {q : Int} {l : List Int} (h : InR q l) {i : Nat} (hi : i < l.length) : 0 ≤ l.getD i 0 ∧ l.getD i 0 < q := h _ (List.mem_of_getElem? (getD_some hi))
theorem row_ext {l k : List Int} (h : l.length = k.length) (e : ∀ i, i < l.length → l.getD i 0 = k.getD i 0) : l = k := by
  refine List.ext_getElem h fun i h1 h2 => ?_
  have := e i h1
  simpa [List.getD, h1, h2] using this
/-! ### spans: reduced -/
structure LeadOk (q : Int) (n : Nat) (ls : Lead) : Prop where
  asc : ls.Pairwise fun a b => a.1 < b.1
  len : ∀ z ∈ ls, z.2.length = n ∧ InR q z.2 ∧ z.1 < n
  one : ∀ z ∈ ls, z.2.getD z.1 0 = 1
  zero : ∀ z ∈ ls, ∀ y ∈ ls, z.1 ≠ y.1 → z.2.getD y.1 0 = 0
def lowStep (q : Int) (r : List Int) (z : Nat × List Int) : List Int := if r.getD z.1 0 ≠ 0 then rjoin q r (rscale q z.2 (r.getD z.1 0)) (-1) else r
theorem lower_cons (q : Int) (z : Nat × List Int) (ls : Lead) (r : List Int) : lowerF q (z :: ls) r = lowerF q ls (lowStep q r z) := rfl
theorem low_step {q : Int} {n : Nat} (hq : Fq q) {r : List Int} {z : Nat × List Int} (hr : r.length = n ∧ InR q r) (hz : z.2.length = n ∧ InR q z.2 ∧ z.1 < n) : (lowStep q r z).length = n ∧ InR q (lowStep q r z) := by
  unfold lowStep
  split
  · have hc := inR_at hr.2 (i := z.1) (by omega)
    exact ⟨by rw [rjoin_length _ _ _ _ (by rw [rscale_length, hr.1, hz.1]), hr.1], inR_join hq hr.2 (inR_scale hq hz.2.1 hc) (.inr rfl)⟩
  · exact hr
theorem low_zero {q : Int} {n : Nat} (hq : Fq q) {r : List Int} {z : Nat × List Int} (hr : r.length = n ∧ InR q r) (hz : z.2.length = n ∧ InR q z.2 ∧ z.1 < n) {i : Nat} (hi : i < n) (h : z.2.getD i 0 = 0 ∧ r.getD i 0 = 0 ∨ i = z.1 ∧ z.2.getD z.1 0 = 1) : (lowStep q r z).getD i 0 = 0 := by
  unfold lowStep
  split
  · have hc := inR_at hr.2 (i := z.1) (by omega)
    rw [rjoin_at (by omega) (by rw [rscale_length]; omega), rscale_at (by omega)]
    rcases h with ⟨h1, h2⟩ | ⟨rfl, h⟩
    · rw [h1, h2]
      have h0 : (0 : Int) ≤ 0 ∧ (0 : Int) < q := by
        have := hq.le
        omega
      exact (fid hq hc h0).1
    · rw [h]
      exact (fid hq hc hc).2.2.2.1
  · rename_i h0
    rcases h with ⟨_, h2⟩ | ⟨rfl, _⟩
    · exact h2
    · exact Decidable.not_not.1 h0
theorem lower_ok {q : Int} {n : Nat} (hq : Fq q) : ∀ {ls : Lead} {r : List Int}, (∀ z ∈ ls, z.2.length = n ∧ InR q z.2 ∧ z.1 < n) → r.length = n ∧ InR q r → (lowerF q ls r).length = n ∧ InR q (lowerF q ls r)
  | [], _, _, h => h
  | z :: ls, r, hl, h => lower_ok hq (ls := ls) (r := lowStep q r z) (fun y hy => hl y (List.mem_cons_of_mem _ hy)) (low_step hq h (hl z (List.mem_cons_self ..)))
theorem lower_zero {q : Int} {n : Nat} (hq : Fq q) {Z : List Nat} (hZ : ∀ i ∈ Z, i < n) : ∀ {ls : Lead} {r : List Int}, (∀ z ∈ ls, z.2.length = n ∧ InR q z.2 ∧ z.1 < n) → (∀ z ∈ ls, z.2.getD z.1 0 = 1) → r.length = n ∧ InR q r →
    (∀ i ∈ Z, (∀ z ∈ ls, i ≠ z.1 → z.2.getD i 0 = 0)) → (∀ i ∈ Z, r.getD i 0 = 0 ∨ i ∈ ls.map (·.1)) → ∀ i ∈ Z, (lowerF q ls r).getD i 0 = 0
  | [], r, _, _, _, _, h, i, hi => by
    rcases h i hi with h | h
    · exact h
    · cases h
  | z :: ls, r, hl, h1, hr, h0, h, i, hi => by
    have hz := hl z (List.mem_cons_self ..)
    refine lower_zero hq hZ (ls := ls) (r := lowStep q r z) (fun y hy => hl y (List.mem_cons_of_mem _ hy)) (fun y hy => h1 y (List.mem_cons_of_mem _ hy)) (low_step hq hr hz)
      (fun i hi y hy => h0 i hi y (List.mem_cons_of_mem _ hy)) (fun j hj => ?_) i hi
    by_cases e : j = z.1
    · exact .inl (low_zero hq hr hz (hZ j hj) (.inr ⟨e, h1 z (List.mem_cons_self ..)⟩))
    · rcases h j hj with h' | h'
      · exact .inl (low_zero hq hr hz (hZ j hj) (.inl ⟨h0 j hj z (List.mem_cons_self ..) e, h'⟩))
      · rcases List.mem_cons.1 h' with h' | h'
        · exact absurd h' e
        · exact .inr h'
theorem LeadOk.lowered {q : Int} {n : Nat} {ls : Lead} (hq : Fq q) (h : LeadOk q n ls) {r : List Int} (hr : r.length = n ∧ InR q r) : (lowerF q ls r).length = n ∧ InR q (lowerF q ls r) ∧ ∀ z ∈ ls, (lowerF q ls r).getD z.1 0 = 0 := by
  have h1 := lower_ok hq h.len hr
  refine ⟨h1.1, h1.2, fun z hz => ?_⟩
  refine lower_zero hq (Z := ls.map (·.1)) (fun i hi => ?_) h.len h.one hr (fun i hi y hy hne => ?_) (fun i hi => .inr hi) z.1 (List.mem_map.2 ⟨z, hz, rfl⟩)
  · obtain ⟨y, hy, rfl⟩ := List.mem_map.1 hi
    exact (h.len y hy).2.2
  · obtain ⟨x, hx, rfl⟩ := List.mem_map.1 hi
    exact h.zero y hy x hx (fun e => hne e.symm)
theorem asc_of {ls : Lead} (h : ls.Pairwise fun a b => a.1 ≤ b.1) (n : (ls.map (·.1)).Nodup) : ls.Pairwise fun a b => a.1 < b.1 := by
  have n2 : ls.Pairwise fun a b => a.1 ≠ b.1 := List.pairwise_map.1 n
  exact (h.and n2).imp fun ⟨a, b⟩ => Nat.lt_of_le_of_ne a b
theorem put_ok {q : Int} {n : Nat} {ls ls' : Lead} {r : List Int} {b : Bool} (hq : Fq q) (h : LeadOk q n ls) (hr : r.length = n ∧ InR q r) (p : PutR q ls r b ls') : LeadOk q n ls' := by
  obtain ⟨l1, l2, l3⟩ := h.lowered hq hr
  unfold PutR at p
  generalize hleft : lowerF q ls r = left at l1 l2 l3 p
  have h0q : (0 : Int) ≤ 0 ∧ (0 : Int) < q := by
    have := hq.le
    omega
  cases hp : firstP left with
  | none =>
    rw [hp] at p
    rw [p.2]
    exact h
  | some k =>
    rw [hp] at p
    obtain ⟨rfl, hperm, hasc⟩ := p
    obtain ⟨k1, k2⟩ := firstP_lt hp
    have hak := inR_at l2 k1
    have hiv := finv_range hq hak k2
    have hno : ∀ z ∈ ls, z.1 ≠ k := fun z hz e => k2 (by rw [← e]; exact l3 z hz)
    generalize hiv' : finv q (left.getD k 0) = iv at hiv
    have hf : (rscale q left iv).length = n ∧ InR q (rscale q left iv) := ⟨by rw [rscale_length, l1], inR_scale hq l2 hiv⟩
    have hfk : (rscale q left iv).getD k 0 = 1 := by
      rw [rscale_at k1, ← hiv']
      exact (fid hq hak hak).2.2.1 k2
    have hfz : ∀ z ∈ ls, (rscale q left iv).getD z.1 0 = 0 := fun z hz => by
      rw [rscale_at (by rw [l1]; exact (h.len z hz).2.2), l3 z hz]
      exact (fid hq hiv hiv).2.1
    -- a row that was kept
    have hrow : ∀ z ∈ ls, ∀ i, i < n → (rjoin q z.2 (rscale q (rscale q left iv) (z.2.getD k 0)) (-1)).getD i 0 = fadd q (z.2.getD i 0) (fmul q ((rscale q left iv).getD i 0) (z.2.getD k 0)) (-1) := fun z hz i hi => by
      have hz1 := (h.len z hz).1
      rw [rjoin_at (by omega) (by rw [rscale_length, hf.1]; omega), rscale_at (by rw [hf.1]; omega)]
    have hmem : ∀ z ∈ ls', z = (k, rscale q left iv) ∨ ∃ y ∈ ls, z = (y.1, rjoin q y.2 (rscale q (rscale q left iv) (y.2.getD k 0)) (-1)) := fun z hz => by
      have := hperm.mem_iff.1 hz
      unfold putL at this
      rw [hiv'] at this
      rcases List.mem_cons.1 this with e | e
      · exact .inl e
      · obtain ⟨y, hy, e⟩ := List.mem_map.1 e
        exact .inr ⟨y, hy, e.symm⟩
    have hkn : k < n := by omega
    refine ⟨asc_of hasc ?_, fun z hz => ?_, fun z hz => ?_, fun z hz y hy hne => ?_⟩
    · rw [(hperm.map (·.1)).nodup_iff]
      unfold putL
      rw [List.map_cons, List.map_map]
      refine List.nodup_cons.2 ⟨fun hm => ?_, ?_⟩
      · obtain ⟨z, hz, e⟩ := List.mem_map.1 hm
        exact hno z hz e
      · exact List.pairwise_map.2 (h.asc.imp fun h => Nat.ne_of_lt h)
    · rcases hmem z hz with rfl | ⟨y, hy, rfl⟩
      · exact ⟨hf.1, hf.2, hkn⟩
      · obtain ⟨y1, y2, y3⟩ := h.len y hy
        refine ⟨?_, inR_join hq y2 (inR_scale hq hf.2 (inR_at y2 (by omega))) (.inr rfl), y3⟩
        show (rjoin q y.2 _ (-1)).length = n
        rw [rjoin_length _ _ _ _ (by rw [rscale_length, hf.1, y1]), y1]
    · rcases hmem z hz with rfl | ⟨y, hy, rfl⟩
      · exact hfk
      · obtain ⟨y1, y2, y3⟩ := h.len y hy
        show (rjoin q y.2 _ (-1)).getD y.1 0 = 1
        rw [hrow y hy y.1 y3, hfz y hy, h.one y hy]
        have h1q : (0 : Int) ≤ 1 ∧ (1 : Int) < q := by
          have := hq.le
          omega
        exact (fid hq (inR_at y2 (by omega)) h1q).1
    · rcases hmem z hz with rfl | ⟨z0, hz0, rfl⟩ <;> rcases hmem y hy with rfl | ⟨y0, hy0, rfl⟩
      · exact absurd rfl hne
      · exact hfz y0 hy0
      · obtain ⟨y1, y2, y3⟩ := h.len z0 hz0
        show (rjoin q z0.2 _ (-1)).getD k 0 = 0
        rw [hrow z0 hz0 k hkn, hfk]
        exact (fid hq (inR_at y2 (by omega)) h0q).2.2.2.1
      · obtain ⟨y1, y2, y3⟩ := h.len z0 hz0
        show (rjoin q z0.2 _ (-1)).getD y0.1 0 = 0
        rw [hrow z0 hz0 y0.1 (h.len y0 hy0).2.2, hfz y0 hy0, h.zero z0 hz0 y0 hy0 hne]
        exact (fid hq (inR_at y2 (by omega)) h0q).1
theorem put_det {q : Int} {n : Nat} {ls l1 l2 : Lead} {r : List Int} {b1 b2 : Bool} (hq : Fq q) (h : LeadOk q n ls) (hr : r.length = n ∧ InR q r) (p1 : PutR q ls r b1 l1) (p2 : PutR q ls r b2 l2) : l1 = l2 := by
  have o1 := put_ok hq h hr p1
  unfold PutR at p1 p2
  cases hp : firstP (lowerF q ls r) with
  | none =>
    rw [hp] at p1 p2
    rw [p1.2, p2.2]
  | some k =>
    rw [hp] at p1 p2
    obtain ⟨_, q1, a1⟩ := p1
    obtain ⟨_, q2, a2⟩ := p2
    have hp12 := q1.trans q2.symm
    refine List.Perm.eq_of_pairwise (le := fun a b => a.1 ≤ b.1) (fun a b ha hb h1 h2 => ?_) a1 a2 hp12
    have hb1 : b ∈ l1 := hp12.mem_iff.2 hb
    obtain ⟨i, hi, rfl⟩ := List.getElem_of_mem ha
    obtain ⟨j, hj, rfl⟩ := List.getElem_of_mem hb1
    have hpw := List.pairwise_iff_getElem.1 o1.asc
    rcases Nat.lt_trichotomy i j with z | z | z
    · have := hpw i j hi hj z
      omega
    · subst z
      rfl
    · have := hpw j i hj hi z
      omega
theorem lead_nil (q : Int) (n : Nat) : LeadOk q n [] := ⟨.nil, fun z h => (by cases h), fun z h => (by cases h), fun z h => (by cases h)⟩
theorem run_det {q : Int} {n : Nat} (hq : Fq q) : ∀ (rows : List (List Int)), (∀ r ∈ rows, r.length = n ∧ InR q r) → ∀ {l1 l2 : Lead}, SpanRun q rows l1 → SpanRun q rows l2 → l1 = l2 ∧ LeadOk q n l1 := by
  intro rows
  induction rows using rev_ind with
  | h0 =>
    intro _ l1 l2 h1 h2
    rw [run_nil h1, run_nil h2]
    exact ⟨rfl, lead_nil q n⟩
  | h1 rows r ih =>
    intro hr l1 l2 h1 h2
    obtain ⟨k1, b1, s1, p1⟩ := run_snoc h1
    obtain ⟨k2, b2, s2, p2⟩ := run_snoc h2
    obtain ⟨rfl, ok⟩ := ih (fun r h => hr r (List.mem_append_left _ h)) s1 s2
    have hr2 := hr r (List.mem_append_right _ (List.mem_cons_self ..))
    exact ⟨put_det hq ok hr2 p1 p2, put_ok hq ok hr2 p1⟩
/-! ### sizes above: spans -/
theorem scale_up {p q c : Int} {l : List Int} (h : Up p q) (hl : InR p l) (hc : 0 ≤ c ∧ c < p) : rscale q l c = rscale p l c := List.map_congr_left fun x hx => (h.eq (hl x hx) hc).2.2.1
theorem join_up {p q s : Int} {l k : List Int} (h : Up p q) (hl : InR p l) (hk : InR p k) (hs : s = 1 ∨ s = -1) : rjoin q l k s = rjoin p l k s := by
  unfold rjoin
  refine List.map_congr_left fun z hz => ?_
  have hm := List.of_mem_zip (show (z.1, z.2) ∈ l.zip k from hz)
  have e := h.eq (hl _ hm.1) (hk _ hm.2)
  rcases hs with rfl | rfl
  · exact e.1
  · exact e.2.1
theorem lower_up {p q : Int} {n : Nat} (h : Up p q) : ∀ {ls : Lead} {r : List Int}, (∀ z ∈ ls, z.2.length = n ∧ InR p z.2 ∧ z.1 < n) → r.length = n ∧ InR p r → lowerF q ls r = lowerF p ls r
  | [], _, _, _ => rfl
  | z :: ls, r, hl, hr => by
    have hz := hl z (List.mem_cons_self ..)
    have e : lowStep q r z = lowStep p r z := by
      unfold lowStep
      split
      · have hc := inR_at hr.2 (i := z.1) (by omega)
        rw [scale_up h hz.2.1 hc, join_up h hr.2 (inR_scale h.p hz.2.1 hc) (.inr rfl)]
      · rfl
    rw [lower_cons, lower_cons, e]
    exact lower_up h (fun y hy => hl y (List.mem_cons_of_mem _ hy)) (low_step h.p hr hz)
theorem put_up {p q : Int} {n : Nat} {ls ls' : Lead} {r : List Int} {b : Bool} (h : Up p q) (ok : LeadOk p n ls) (hr : r.length = n ∧ InR p r) (u : PutR q ls r b ls') : PutR p ls r b ls' := by
  obtain ⟨l1, l2, l3⟩ := ok.lowered h.p hr
  unfold PutR at u ⊢
  rw [lower_up h ok.len hr] at u
  generalize lowerF p ls r = left at l1 l2 l3 u
  cases hp : firstP left with
  | none =>
    rw [hp] at u
    exact u
  | some k =>
    rw [hp] at u
    obtain ⟨k1, k2⟩ := firstP_lt hp
    have hak := inR_at l2 k1
    have hiv := finv_range h.p hak k2
    have e : putL q ls left k = putL p ls left k := by
      unfold putL
      rw [(h.eq hak hak).2.2.2 k2, scale_up h l2 hiv]
      refine congrArg _ (List.map_congr_left fun z hz => ?_)
      obtain ⟨z1, z2, z3⟩ := ok.len z hz
      have hc := inR_at z2 (i := k) (by omega)
      have hs := inR_scale h.p l2 hiv
      rw [scale_up h hs hc, join_up h z2 (inR_scale h.p hs hc) (.inr rfl)]
    refine ⟨u.1, ?_, u.2.2⟩
    rw [← e]
    exact u.2.1
theorem run_up {p q : Int} {n : Nat} (h : Up p q) : ∀ (rows : List (List Int)), (∀ r ∈ rows, r.length = n ∧ InR p r) → ∀ {ls : Lead}, SpanRun q rows ls → SpanRun p rows ls := by
  intro rows
  induction rows using rev_ind with
  | h0 =>
    intro _ ls h1
    rw [run_nil h1]
    exact .nil
  | h1 rows r ih =>
    intro hr ls h1
    obtain ⟨k1, b1, s1, p1⟩ := run_snoc h1
    have s2 := ih (fun r h => hr r (List.mem_append_left _ h)) s1
    have ok := (run_det h.p rows (fun r h => hr r (List.mem_append_left _ h)) s2 s2).2
    exact .snoc s2 (put_up h ok (hr r (List.mem_append_right _ (List.mem_cons_self ..))) p1)
/-! ### rows multiplied -/
theorem join_scale {q c : Int} {s : Int} (hq : B4 q) (hs : s = 1 ∨ s = -1) (hc : 0 ≤ c ∧ c < q) : ∀ {l k : List Int}, InR q l → InR q k → rjoin q (rscale q l c) (rscale q k c) s = rscale q (rjoin q l k s) c
  | [], _, _, _ => rfl
  | _ :: _, [], _, _ => rfl
  | x :: l, y :: k, hl, hk => by
    have hx := hl x (List.mem_cons_self ..)
    have hy := hk y (List.mem_cons_self ..)
    have e := tri hq hx hy hc
    have ih := join_scale hq hs hc (l := l) (k := k) (fun z hz => hl z (List.mem_cons_of_mem _ hz)) (fun z hz => hk z (List.mem_cons_of_mem _ hz))
    show fadd q (fmul q x c) (fmul q y c) s :: rjoin q (rscale q l c) (rscale q k c) s = fmul q (fadd q x y s) c :: rscale q (rjoin q l k s) c
    rw [ih]
    rcases hs with rfl | rfl
    · rw [e.2.1]
    · rw [e.2.2]
theorem scale_scale {q a c : Int} {l : List Int} (hq : B4 q) (hl : InR q l) (ha : 0 ≤ a ∧ a < q) (hc : 0 ≤ c ∧ c < q) : rscale q l (fmul q a c) = rscale q (rscale q l a) c := by
  unfold rscale
  rw [List.map_map]
  exact List.map_congr_left fun x hx => (tri hq (hl x hx) ha hc).1
theorem mul_zero_iff {q a c : Int} (hq : Fq q) (ha : 0 ≤ a ∧ a < q) (hc : 0 ≤ c ∧ c < q) (hc0 : c ≠ 0) : fmul q a c = 0 ↔ a = 0 := by
  constructor
  · intro h
    exact Decidable.byContradiction fun z => (fid hq ha hc).2.2.2.2 z hc0 h
  · rintro rfl
    exact (fid hq hc hc).2.1
theorem step_scale {q c : Int} {n : Nat} (hq : B4 q) (hc : 0 ≤ c ∧ c < q) (hc0 : c ≠ 0) {r : List Int} {z : Nat × List Int} (hr : r.length = n ∧ InR q r) (hz : z.2.length = n ∧ InR q z.2 ∧ z.1 < n) : lowStep q (rscale q r c) z = rscale q (lowStep q r z) c := by
  have ha := inR_at hr.2 (i := z.1) (by omega)
  unfold lowStep
  rw [rscale_at (by omega)]
  by_cases h : r.getD z.1 0 = 0
  · rw [if_neg (fun z => z ((mul_zero_iff hq.fq ha hc hc0).2 h)), if_neg (fun z => z h)]
  · rw [if_pos (fun z => h ((mul_zero_iff hq.fq ha hc hc0).1 z)), if_pos h, scale_scale hq hz.2.1 ha hc, join_scale hq (.inr rfl) hc hr.2 (inR_scale hq.fq hz.2.1 ha)]
theorem lower_scale {q c : Int} {n : Nat} (hq : B4 q) (hc : 0 ≤ c ∧ c < q) (hc0 : c ≠ 0) : ∀ {ls : Lead} {r : List Int}, (∀ z ∈ ls, z.2.length = n ∧ InR q z.2 ∧ z.1 < n) → r.length = n ∧ InR q r → lowerF q ls (rscale q r c) = rscale q (lowerF q ls r) c
  | [], _, _, _ => rfl
  | z :: ls, r, hl, hr => by
    have hz := hl z (List.mem_cons_self ..)
    rw [lower_cons, lower_cons, step_scale hq hc hc0 hr hz]
    exact lower_scale hq hc hc0 (fun y hy => hl y (List.mem_cons_of_mem _ hy)) (low_step hq.fq hr hz)
theorem firstP_scale {q c : Int} (hq : Fq q) (hc : 0 ≤ c ∧ c < q) (hc0 : c ≠ 0) {l : List Int} (hl : InR q l) : firstP (rscale q l c) = firstP l := by
  unfold firstP firstL
  rw [rscale_length]
  refine congrArg List.head? (List.filter_congr fun i hi => ?_)
  have hi := List.mem_range.1 hi
  rw [rscale_at hi]
  have := mul_zero_iff hq (inR_at hl hi) hc hc0
  by_cases h : l.getD i 0 = 0
  · rw [decide_eq_false (fun z => z (this.2 h)), decide_eq_false (fun z => z h)]
  · rw [decide_eq_true (show fmul q (l.getD i 0) c ≠ 0 from fun z => h (this.1 z)), decide_eq_true (show l.getD i 0 ≠ 0 from h)]
theorem put_scale {q c : Int} {n : Nat} (hq : B4 q) (hc : 0 ≤ c ∧ c < q) (hc0 : c ≠ 0) {ls ls' : Lead} {r : List Int} {b : Bool} (ok : LeadOk q n ls) (hr : r.length = n ∧ InR q r) (u : PutR q ls (rscale q r c) b ls') : PutR q ls r b ls' := by
  obtain ⟨l1, l2, l3⟩ := ok.lowered hq.fq hr
  unfold PutR at u ⊢
  rw [lower_scale hq hc hc0 ok.len hr] at u
  generalize lowerF q ls r = left at l1 l2 l3 u
  rw [firstP_scale hq.fq hc hc0 l2] at u
  cases hp : firstP left with
  | none =>
    rw [hp] at u
    exact u
  | some k =>
    rw [hp] at u
    obtain ⟨k1, k2⟩ := firstP_lt hp
    have hak := inR_at l2 k1
    have e : rscale q (rscale q left c) (finv q ((rscale q left c).getD k 0)) = rscale q left (finv q (left.getD k 0)) := by
      rw [rscale_at k1]
      show (left.map fun x => fmul q x c).map _ = _
      rw [List.map_map]
      exact List.map_congr_left fun x hx => inv_scale hq (l2 x hx) hak hc k2 hc0
    have e2 : putL q ls (rscale q left c) k = putL q ls left k := by
      unfold putL
      rw [e]
    refine ⟨u.1, ?_, u.2.2⟩
    rw [← e2]
    exact u.2.1
theorem run_scale {q : Int} {n : Nat} (hq : B4 q) {f g : Int → List Int} : ∀ (ms : List Int), (∀ m ∈ ms, ((f m).length = n ∧ InR q (f m)) ∧ (g m = f m ∨ ∃ c, (0 ≤ c ∧ c < q) ∧ c ≠ 0 ∧ g m = rscale q (f m) c)) → ∀ {ls : Lead}, SpanRun q (ms.map g) ls → SpanRun q (ms.map f) ls := by
  intro ms
  induction ms using rev_ind with
  | h0 =>
    intro _ ls h1
    exact h1
  | h1 ms m ih =>
    intro hm ls h1
    rw [List.map_append] at h1 ⊢
    obtain ⟨k1, b1, s1, p1⟩ := run_snoc h1
    have s2 := ih (fun m h => hm m (List.mem_append_left _ h)) s1
    have ok := (run_det hq.fq (ms.map f) (fun r h => by
      obtain ⟨x, hx, rfl⟩ := List.mem_map.1 h
      exact (hm x (List.mem_append_left _ hx)).1) s2 s2).2
    obtain ⟨hr, h2⟩ := hm m (List.mem_append_right _ (List.mem_cons_self ..))
    refine .snoc s2 (b := b1) ?_
    rcases h2 with h2 | ⟨c, hc, hc0, h2⟩
    · rw [h2] at p1
      exact p1
    · rw [h2] at p1
      exact put_scale hq hc hc0 ok hr p1
end Mg
/-! PC -/
namespace Mg
open PySem PySem.Spec PyProof.Rows L2
/-! ### heads -/
theorem into_mem {rs : List Road} {s : Str} {m : Int} (h : m ∈ intoM rs s) : ∃ r ∈ rs, r.mark = m ∧ r.other = s := by
  unfold intoM marks at h
  obtain ⟨r, hr, rfl⟩ := List.mem_map.1 h
  obtain ⟨h1, h2⟩ := List.mem_filter.1 hr
  exact ⟨r, h1, rfl, of_decide_eq_true h2⟩
/-- a way up the houses of a net without rings -/
theorem up_ind {names : List Str} {rs : List Road} (ha : Acyc names rs) {P : Road → Prop} (h : ∀ r ∈ rs, (∀ x ∈ rs, x.other = r.one → P x) → P r) : ∀ r ∈ rs, P r := by
  obtain ⟨_, rank, hrank⟩ := ha
  have key : ∀ n : Nat, ∀ r ∈ rs, rank r.one < n → P r := fun n => by
    induction n with
    | zero => exact fun r _ h => absurd h (Nat.not_lt_zero _)
    | succ n ih => exact fun r hr hn => h r hr fun x hx e => ih x hx (by have := hrank x hx; rw [e] at this; omega)
  exact fun r hr => key _ r hr (Nat.lt_succ_self _)
section
variable {T : TSpec} {mx : Int → List Int} {lost : List Int} {f g : Int → List Int}
theorem rows_eq {r : Road} (h : ∀ x ∈ T.rs, x.other = r.one → g x.mark = f x.mark) : rowsOf T g r = rowsOf T f r := by
  unfold rowsOf
  split
  · rfl
  · refine List.map_congr_left fun m hm => ?_
    obtain ⟨x, hx, rfl, e⟩ := into_mem hm
    exact h x hx e
theorem rows_in {q : Int} (hq : Fq q) (hf : ∀ r ∈ T.rs, (f r.mark).length = T.m ∧ InR q (f r.mark)) (r : Road) : ∀ y ∈ rowsOf T f r, y.length = T.m ∧ InR q y := fun y hy => by
  unfold rowsOf at hy
  split at hy
  · unfold unitsF at hy
    obtain ⟨i, hi, rfl⟩ := List.mem_map.1 hy
    exact ⟨unitF_length (List.mem_range.1 hi), inR_unit hq _ _⟩
  · obtain ⟨m, hm, rfl⟩ := List.mem_map.1 hy
    obtain ⟨x, hx, rfl, e⟩ := into_mem hm
    exact hf x hx
/-- the heads are told by their rules -/
theorem heads_one {names : List Str} (ha : Acyc names T.rs) (h1 : HeadsOk T mx lost f) (h2 : HeadsOk T mx lost g) : ∀ r ∈ T.rs, g r.mark = f r.mark :=
  up_ind ha fun r hr ih => by
    have e1 := h1 r hr
    have e2 := h2 r hr
    unfold Eqn at e1 e2
    rw [e1, e2, rows_eq ih]
end
theorem blend_up {p q : Int} {n : Nat} (h : Up p q) : ∀ {l : List (List Int × Int)}, (∀ z ∈ l, z.1.length = n ∧ InR p z.1 ∧ (0 ≤ z.2 ∧ z.2 < p)) → fblend q n l = fblend p n l := by
  intro l
  induction l using rev_ind with
  | h0 => exact fun _ => rfl
  | h1 l z ih =>
    intro hl
    have hz := hl z (List.mem_append_right _ (List.mem_cons_self ..))
    have hl2 : ∀ y ∈ l, y.1.length = n ∧ InR p y.1 ∧ (0 ≤ y.2 ∧ y.2 < p) := fun y hy => hl y (List.mem_append_left _ hy)
    rw [fblend_snoc, fblend_snoc, ih hl2]
    split
    · rw [scale_up h hz.2.1 hz.2.2, join_up h (inR_blend h.p n fun y hy => (hl2 y hy).2) (inR_scale h.p hz.2.1 hz.2.2) (.inl rfl)]
    · rfl
/-- heads over a lesser field are heads over one above -/
theorem heads_up {p q : Int} (h : Up p q) {T : TSpec} {mx f : Int → List Int} {lost : List Int} (hm : MixOk { T with q := p } mx) (hf : ∀ r ∈ T.rs, (f r.mark).length = T.m ∧ InR p (f r.mark)) (h1 : HeadsOk { T with q := p } mx lost f) : HeadsOk { T with q := q } mx lost f := fun r hr => by
  have e := h1 r hr
  unfold Eqn at e ⊢
  rw [e]
  split
  · rfl
  · refine (blend_up h fun z hz => ?_).symm
    obtain ⟨z1, z2⟩ := List.of_mem_zip (show (z.1, z.2) ∈ _ from hz)
    have := rows_in (T := { T with q := p }) h.p hf r z.1 z1
    exact ⟨this.1, this.2, (hm r hr).2 _ z2⟩
theorem rep_scale {q c : Int} (hq : Fq q) (hc : 0 ≤ c ∧ c < q) (n : Nat) : rscale q (List.replicate n 0) c = List.replicate n 0 := by
  unfold rscale
  rw [List.map_replicate, (fid hq hc hc).2.1]
theorem zip_rev {α β : Type} : ∀ {l : List α} {k : List β} {a : α} {b : β}, l.length = k.length → (l ++ [a]).zip (k ++ [b]) = l.zip k ++ [(a, b)] := fun {l k a b} h => by
  rw [List.zip_append h]
  rfl
theorem blend_scale {q c : Int} {n : Nat} (hq : B4 q) (hc : 0 ≤ c ∧ c < q) (hc0 : c ≠ 0) : ∀ {l : List (List Int × Int)}, (∀ z ∈ l, z.1.length = n ∧ InR q z.1 ∧ (0 ≤ z.2 ∧ z.2 < q)) → fblend q n (l.map fun z => (z.1, fmul q z.2 c)) = rscale q (fblend q n l) c := by
  intro l
  induction l using rev_ind with
  | h0 => exact fun _ => (rep_scale hq.fq hc n).symm
  | h1 l z ih =>
    intro hl
    have hz := hl z (List.mem_append_right _ (List.mem_cons_self ..))
    have hl2 : ∀ y ∈ l, y.1.length = n ∧ InR q y.1 ∧ (0 ≤ y.2 ∧ y.2 < q) := fun y hy => hl y (List.mem_append_left _ hy)
    have hi := mul_zero_iff hq.fq hz.2.2 hc hc0
    rw [List.map_append]
    show fblend q n (_ ++ [(z.1, fmul q z.2 c)]) = _
    rw [fblend_snoc, fblend_snoc, ih hl2]
    by_cases h0 : z.2 = 0
    · rw [if_neg (fun y => y (hi.2 h0)), if_neg (fun y => y h0)]
    · rw [if_pos (fun y => h0 (hi.1 y)), if_pos h0, scale_scale hq hz.2.1 hz.2.2 hc, join_scale hq (.inl rfl) hc (inR_blend hq.fq n fun y hy => (hl2 y hy).2) (inR_scale hq.fq hz.2.1 hz.2.2)]
/-- one line's mixers multiplied -/
theorem heads_bent {q c : Int} (hq : B4 q) (hc : 0 ≤ c ∧ c < q) (hc0 : c ≠ 0) {T : TSpec} (hT : T.q = q) {names : List Str} (ha : Acyc names T.rs) (hasc : T.rs.Pairwise fun a b => a.mark < b.mark) {mx mx' f g : Int → List Int} {lost : List Int} {r0 : Road} (hr0 : r0 ∈ T.rs) (hleaf : ∀ r ∈ T.rs, r.one ≠ r0.other)
    (hm : MixOk T mx) (hf : ∀ r ∈ T.rs, (f r.mark).length = T.m ∧ InR q (f r.mark)) (h0 : mx' r0.mark = rscale q (mx r0.mark) c) (h1 : ∀ k, k ≠ r0.mark → mx' k = mx k) (e1 : HeadsOk T mx lost f) (e2 : HeadsOk T mx' lost g) :
    ∀ r ∈ T.rs, (r ≠ r0 → g r.mark = f r.mark) ∧ (r = r0 → g r.mark = rscale q (f r.mark) c) := by
  subst hT
  refine up_ind ha fun r hr ih => ?_
  have hrow : rowsOf T g r = rowsOf T f r := rows_eq fun x hx e => (ih x hx e).1 fun z => hleaf r hr (by rw [← e, z])
  have a1 := e1 r hr
  have a2 := e2 r hr
  unfold Eqn at a1 a2
  rw [hrow] at a2
  refine ⟨fun hne => ?_, fun e => ?_⟩
  · rw [a1, a2, h1 r.mark fun z => hne (mark_inj hasc hr hr0 z)]
  · subst e
    rw [a1, a2, h0]
    split
    · exact (rep_scale hq.fq hc T.m).symm
    · have hz : (rowsOf T f r).zip (rscale T.q (mx r.mark) c) = ((rowsOf T f r).zip (mx r.mark)).map fun z => (z.1, fmul T.q z.2 c) := by
        unfold rscale
        rw [List.zip_map_right]
        rfl
      rw [hz]
      refine blend_scale hq hc hc0 fun z hz => ?_
      obtain ⟨z1, z2⟩ := List.of_mem_zip (show (z.1, z.2) ∈ _ from hz)
      have := rows_in (T := T) hq.fq hf r z.1 z1
      exact ⟨this.1, this.2, (hm r hr).2 _ z2⟩
/-! ### cases -/
theorem run_congr {q : Int} {f g : Int → List Int} {ms : List Int} {ls : Lead} (h : SpanRun q (ms.map g) ls) (e : ∀ m ∈ ms, g m = f m) : SpanRun q (ms.map f) ls := by
  rw [← List.map_congr_left e]
  exact h
theorem inR_up {p q : Int} {l : List Int} (h : Up p q) (hl : InR p l) : InR q l := fun x hx => by
  have := hl x hx
  have := h.lt
  omega
theorem mix_up {p q : Int} (h : Up p q) {T : TSpec} {mx : Int → List Int} (hm : MixOk { T with q := p } mx) : MixOk { T with q := q } mx := fun r hr => ⟨(hm r hr).1, inR_up h (hm r hr).2⟩
theorem mix_bent {q c : Int} (hq : Fq q) (hc : 0 ≤ c ∧ c < q) {T : TSpec} (hT : T.q = q) (hasc : T.rs.Pairwise fun a b => a.mark < b.mark) {mx mx' : Int → List Int} {r0 : Road} (hr0 : r0 ∈ T.rs) (h0 : mx' r0.mark = rscale q (mx r0.mark) c) (h1 : ∀ k, k ≠ r0.mark → mx' k = mx k) (hm : MixOk T mx) : MixOk T mx' := fun r hr => by
  have := hm r hr
  subst hT
  by_cases e : r.mark = r0.mark
  · have e2 := mark_inj hasc hr hr0 e
    subst e2
    rw [h0]
    exact ⟨by rw [rscale_length]; exact this.1, inR_scale hq this.2 hc⟩
  · rw [h1 _ e]
    exact this
/-- the same case over a field above -/
theorem bad_up {p q : Int} (h : Up p q) {T : TSpec} {mx : Int → List Int} {names : List Str} (ha : Acyc names T.rs) (hm : MixOk { T with q := p } mx) {c : Str × List Int} {b b' : Bool} (x : BadR { T with q := p } mx c b) (y : BadR { T with q := q } mx c b') : b' = b := by
  obtain ⟨f, ls, f1, f2, f3, rfl⟩ := x
  obtain ⟨g, ks, g1, g2, g3, rfl⟩ := y
  have e := heads_one (T := { T with q := q }) ha (heads_up h hm f2 f1) g1
  have g4 : SpanRun q ((intoM T.rs c.1).map f) ks := run_congr g3 fun m hm => by
    obtain ⟨r, hr, rfl, _⟩ := into_mem hm
    exact e r hr
  have hin : ∀ r ∈ (intoM T.rs c.1).map f, r.length = T.m ∧ InR p r := fun r hr => by
    obtain ⟨m, hm, rfl⟩ := List.mem_map.1 hr
    obtain ⟨x, hx, rfl, _⟩ := into_mem hm
    exact f2 x hx
  rw [(run_det h.p _ hin f3 (run_up h _ hin g4)).1]
theorem bad_bent {q c : Int} (hq : B4 q) (hc : 0 ≤ c ∧ c < q) (hc0 : c ≠ 0) {T : TSpec} (hT : T.q = q) {names : List Str} (ha : Acyc names T.rs) (hasc : T.rs.Pairwise fun a b => a.mark < b.mark) {mx mx' : Int → List Int} {r0 : Road} (hr0 : r0 ∈ T.rs) (hleaf : ∀ r ∈ T.rs, r.one ≠ r0.other)
    (hm : MixOk T mx) (h0 : mx' r0.mark = rscale q (mx r0.mark) c) (h1 : ∀ k, k ≠ r0.mark → mx' k = mx k) {z : Str × List Int} {b b' : Bool} (x : BadR T mx z b) (y : BadR T mx' z b') : b' = b := by
  subst hT
  obtain ⟨f, ls, f1, f2, f3, rfl⟩ := x
  obtain ⟨g, ks, g1, g2, g3, rfl⟩ := y
  have e := heads_bent hq hc hc0 rfl ha hasc hr0 hleaf hm f2 h0 h1 f1 g1
  have hin : ∀ r ∈ (intoM T.rs z.1).map f, r.length = T.m ∧ InR T.q r := fun r hr => by
    obtain ⟨m, hm, rfl⟩ := List.mem_map.1 hr
    obtain ⟨x, hx, rfl, _⟩ := into_mem hm
    exact f2 x hx
  have g4 : SpanRun T.q ((intoM T.rs z.1).map f) ks := run_scale (n := T.m) hq (intoM T.rs z.1) (fun m hm => by
    obtain ⟨r, hr, rfl, _⟩ := into_mem hm
    refine ⟨f2 r hr, ?_⟩
    by_cases z : r = r0
    · exact .inr ⟨c, hc, hc0, (e r hr).2 z⟩
    · exact .inl ((e r hr).1 z)) g3
  rw [(run_det hq.fq _ hin f3 g4).1]
theorem bs_eq {α : Type} {R R' : α → Bool → Prop} (h : ∀ a b b', R a b → R' a b' → b' = b) : ∀ {cs : List α} {bs bs' : List Bool}, bs.length = cs.length → bs'.length = cs.length → (∀ z ∈ cs.zip bs, R z.1 z.2) → (∀ z ∈ cs.zip bs', R' z.1 z.2) → bs' = bs
  | [], [], [], _, _, _, _ => rfl
  | c :: cs, b :: bs, b' :: bs', h1, h2, h3, h4 => by
    rw [h c b b' (h3 (c, b) (List.mem_cons_self ..)) (h4 (c, b') (List.mem_cons_self ..)), bs_eq h (cs := cs) (bs := bs) (bs' := bs') (by simpa using h1) (by simpa using h2) (fun z hz => h3 z (List.mem_cons_of_mem _ hz)) fun z hz => h4 z (List.mem_cons_of_mem _ hz)]
  | [], _ :: _, _, h, _, _, _ => by cases h
  | [], [], _ :: _, _, h, _, _ => by cases h
  | _ :: _, [], _, h, _, _, _ => by cases h
  | _ :: _, _ :: _, [], _, h, _, _ => by cases h
end Mg
/-! LK -/
namespace Mg
open PySem PySem.Spec PyProof.Rows L2
/-- all of T.Ok but the size -/
def AOk (T : TSpec) : Prop := ∀ q, Fq q → TSpec.Ok { T with q := q }
section
variable {P : Program} {w : World} {K : PySem.W.Frag} {mg : Str → Option Value} {base : Heap}
theorem woK_bag {H G : Hp} {B : BagT} {wd nl rl : Addr} {ys : List Str} {rs : List Road} {us : List V} (h : WorldAt K H wd nl rl ys rs us) (hb : BagOk K H B) (h1 : nl ≠ B.b) (h2 : rl ≠ B.b) (e : SameBut B.b H G) : WorldAt K G wd nl rl ys rs us :=
  ⟨seqT_bag e hb h.at_, e _ _ h1 h.nam, e _ _ h2 h.roa, lines_bag e hb h.lin⟩
theorem acyc_of {ys : List Str} {rs : List Road} (wok : WOk ys rs) : Acyc ys rs := by
  refine ⟨fun r hr => ?_, fun s => ys.idxOf s, fun r hr => ?_⟩
  · obtain ⟨i, j, _, h, _⟩ := wok.ends r hr
    exact List.mem_of_getElem? h
  · obtain ⟨i, j, hij, h1, h2⟩ := wok.ends r hr
    obtain ⟨p1, q1⟩ := List.getElem?_eq_some_iff.1 h1
    obtain ⟨p2, q2⟩ := List.getElem?_eq_some_iff.1 h2
    show ys.idxOf r.one < ys.idxOf r.other
    rw [← q1, ← q2, wok.names.nd.idxOf_getElem i p1, wok.names.nd.idxOf_getElem j p2]
    exact hij
/-- lots that were drawn -/
structure LotsOk (rs : List Road) (ls : List (List Int)) : Prop where
  nd : ls.Nodup
  sub : ∀ z ∈ ls, z ≠ [] ∧ z.Sublist (marks rs) ∧ z.length ≤ 2
theorem aok_of {ys : List Str} {rs : List Road} {src : Str} {some ears : List Str} {m : Nat} {ls : List (List Int)} (wok : WOk ys rs) (hs : src ∈ ys) (hp : some.Perm (ys.filter fun n => decide (n ≠ src))) (he : ∃ k, ears = some.take k) (hel : 1 ≤ ears.length ∧ ears.length ≤ 4) (hm : 1 ≤ m ∧ m ≤ 4) (hl : LotsOk rs ls) (hll : ls.length ≤ 3) (q0 : Int) :
    AOk ⟨ys, rs, src, ears, m, ls, q0⟩ := by
  intro q hq
  obtain ⟨k, rfl⟩ := he
  have hmem : ∀ e ∈ some.take k, e ∈ ys ∧ e ≠ src := fun e h => by
    have := hp.mem_iff.1 (List.mem_of_mem_take h)
    obtain ⟨h1, h2⟩ := List.mem_filter.1 this
    exact ⟨h1, of_decide_eq_true h2⟩
  have hasc : (marks rs).Pairwise (· < ·) := List.pairwise_map.2 wok.asc
  refine ⟨acyc_of wok, hs, fun e h => (hmem e h).1, ?_, hel, fun h => (hmem _ h).2 rfl, hm, ⟨hll, hl.nd, fun z hz => ?_⟩, fun z hz x hx => ?_, hq, fun r hr => ?_, fun n hn => (wok.names.ok n hn).2⟩
  · exact ((hp.nodup_iff.2 (wok.names.nd.filter _))).sublist (List.take_sublist _ _)
  · have := hl.sub z hz
    exact ⟨this.1, hasc.sublist this.2.1, by omega⟩
  · have := (hl.sub z hz).2.1.subset hx
    obtain ⟨r, hr, e⟩ := List.mem_map.1 this
    exact ⟨r, hr, e⟩
  · obtain ⟨i, j, _, _, h⟩ := wok.ends r hr
    exact List.mem_of_getElem? h
theorem eqv_tupI (xs ys : List Int) : PyData.eqv (.tuple (xs.map PyData.int)) (.tuple (ys.map PyData.int)) = decide (xs = ys) := by
  simp only [PyData.eqv]
  exact eqvAll_ints xs ys
theorem r_neNilT {H : Hp} {Q : VK} {a b : Addr} {ns : List Int} (h1 : SqT K H a (ns.map V.int)) (h2 : SqT K H b []) (q : Q (.bl (!decide (ns = []))) H) : rNeD K (.ref a) (.ref b) H Q :=
  ⟨_, _, .tup h1 (dp_ints ns), .tup h2 .nil, (lay_tup (lay_ints 0 ns)).shaped (by omega), (lay_tup (n := 0) (fun d h => by cases h)).shaped (by omega), by
    have := eqv_tupI ns []
    rw [show (([] : List Int).map PyData.int) = [] from rfl] at this
    rw [this]
    exact q⟩
theorem r_notInT {H : Hp} {Q : VK} {a b : Addr} {ns : List Int} {gs : List (Addr × List Int)} (h1 : SqT K H a (ns.map V.int)) (h2 : SqL K H b (refs gs)) (h3 : RowsAt K H gs) (q : Q (.bl (!decide (ns ∈ gs.map (·.2)))) H) : rNotInD K (.ref a) (.ref b) H Q := by
  refine ⟨_, gs.map fun z => .tuple (z.2.map PyData.int), .tup h1 (dp_ints ns), .lst h2 ?_, (lay_tup (lay_ints 0 ns)).shaped (by omega), (lay_list (n := 1) fun d hd => ?_).shaped (by omega), ?_⟩
  · exact dp_map (f := fun z : Addr × List Int => V.ref z.1) (g := fun z => .tuple (z.2.map PyData.int)) fun z hz => .tup (h3 z hz) (dp_ints _)
  · obtain ⟨z, _, rfl⟩ := List.mem_map.1 hd
    exact lay_tup (lay_ints 0 z.2)
  · have : ((gs.map fun z => PyData.tuple (z.2.map PyData.int)).any fun z => PyData.eqv z (.tuple (ns.map PyData.int))) = decide (ns ∈ gs.map (·.2)) := by
      rw [List.any_map]
      by_cases h : ns ∈ gs.map (·.2)
      · rw [decide_eq_true h, List.any_eq_true]
        obtain ⟨z, hz, e⟩ := List.mem_map.1 h
        exact ⟨z, hz, by
          show PyData.eqv (.tuple (z.2.map PyData.int)) (.tuple (ns.map PyData.int)) = true
          rw [eqv_tupI, e, decide_eq_true rfl]⟩
      · rw [decide_eq_false h, List.any_eq_false]
        intro z hz hc
        have hc : PyData.eqv (.tuple (z.2.map PyData.int)) (.tuple (ns.map PyData.int)) = true := hc
        rw [eqv_tupI] at hc
        exact h (List.mem_map.2 ⟨z, hz, of_decide_eq_true hc⟩)
    rw [this]
    exact q
end
end Mg
/-! LL -/
namespace Mg
open PySem PySem.Spec PyProof.Rows L2
section
variable {P : Program} {w : World} {K : PySem.W.Frag} {mg : Str → Option Value} {base : Heap}
theorem sc_L_ask : FnScope ["_law_bag_here", "_law_upto", "_law_lines", "_law_world_here", "_law_root_here", "_law_some", "_law_ears", "_law_gone_here", "_law_turn", "_law_names_here", "_law_roads", "_law_lot", "_law_name"] ["_law_bag_here", "_law_upto", "_law_lines"] d_L_ask.scope := ⟨rfl, rfl, rfl, by decide +kernel, rfl, by decide +kernel, by decide +kernel⟩
def sp_ask (K : PySem.W.Frag) : Sp := SpN 3 fun vs H Q => ∃ (B : BagT), vs = [.ref B.b, .int 6, .int 12] ∧ BagOk K H B ∧
  ∀ (a : Addr) (H' : Hp) (T : TSpec) (w nl rl er gn : Addr) (us : List V) (gs : List (Addr × List Int)), SameBut B.b H H' → BagOk K H' B → AskAt K H' a T w nl rl er gn us gs → Apart B nl rl er gn → WOk T.names T.rs → AOk T → T.q ∈ SIZESl → Q (.ref a) H'
theorem ok_L_ask (S : Says K mg) : Fn P w K mg base 4 (He.fAd K d_L_ask.at_) (sp_ask K) := by
  refine fn_body (f_L_ask S) sc_L_ask rfl (fun _ _ _ _ _ _ us hl => match us, hl with | [_, _, _], _ => rfl) fun cdv A outer s H vs Q E hr h => ?_
  obtain ⟨B, rfl, hb, k⟩ := h
  refine ⟨_, (pss_cons (ps_set (i := 3) sc_L_ask.nd rfl (by first | exact Or.inl rfl | exact Or.inr rfl) (pc (ok_L_world (K := K) S) (hr.mono (by decide)) (g_L_world S) (f_L_world S).choose_spec.kp rfl (pa_cons (pv 0) (pa_cons (pv 1) (pa_cons (pv 2) (pa_cons pe_bl pa_nil)))))) (pss_cons (ps_asg (pv 3) (pg_tupK K (n := 2) rfl (pgs_cons (pg_name (i := 9) sc_L_ask.nd rfl (by first | exact Or.inl rfl | exact Or.inr rfl)) (pgs_cons (pg_name (i := 10) sc_L_ask.nd rfl (by first | exact Or.inl rfl | exact Or.inr rfl)) pgs_nil)))) (pss_cons (ps_set (i := 4) sc_L_ask.nd rfl (by first | exact Or.inl rfl | exact Or.inr rfl) (pe_ix (ix_listK K) (pv 9) (pe_ix (ix_listK K) (pe_lst (pa_cons pe_int (pa_cons pe_int (pa_cons (pc (ok_L_pull (K := K) S) (hr.mono (by decide)) (g_L_pull S) (f_L_pull S).choose_spec.kp rfl (pa_cons (pv 0) (pa_cons (pe_op op_sub (pe_callB (call_len_seqK K) (by rfl) (n_len S) PySem.boot_len (pa_cons (pv 9) pa_nil)) pe_int) pa_nil))) pa_nil)))) (pc (ok_L_pull (K := K) S) (hr.mono (by decide)) (g_L_pull S) (f_L_pull S).choose_spec.kp rfl (pa_cons (pv 0) (pa_cons pe_int pa_nil))) (fun _ _ => rfl)) (fun _ _ => rfl))) (pss_cons (ps_set (i := 5) sc_L_ask.nd rfl (by first | exact Or.inl rfl | exact Or.inr rfl) (pc (ok_L_order_drawn (K := K) S) (hr.mono (by decide)) (g_L_order_drawn S) (f_L_order_drawn S).choose_spec.kp rfl (pa_cons (pv 0) (pa_cons (pe_lc (own := [("_law_name", 12)]) rfl sc_L_ask.nd (pi_listK K (pv 9)) (blkOk_by (N := ["_law_bag_here", "_law_upto", "_law_lines", "_law_world_here", "_law_root_here", "_law_some", "_law_ears", "_law_gone_here", "_law_turn", "_law_names_here", "_law_roads", "_law_lot", "_law_name"]) (sc := d_L_ask.scope) (by decide +kernel)) (fun _ _ _ _ _ => (pg_name (i := 12) sc_L_ask.nd rfl (by first | exact Or.inl rfl | exact Or.inr rfl))) (fun _ _ _ _ _ => (pts_one (pt_cmpR op_ne (pv 12) (pv 4) (nomark _)))) (fun _ _ _ _ _ => (pv 12))) pa_nil)))) (pss_cons (ps_set (i := 6) sc_L_ask.nd rfl (by first | exact Or.inl rfl | exact Or.inr rfl) (pe_slice (sl_listK K) (pv 5) po_none (po_some (pe_op op_add pe_int (pc (ok_L_pull (K := K) S) (hr.mono (by decide)) (g_L_pull S) (f_L_pull S).choose_spec.kp rfl (pa_cons (pv 0) (pa_cons (pe_callB (call_min2 rfl) (by rfl) (n_min S) (by decide +kernel) (pa_cons pe_int (pa_cons (pe_callB (call_len_seqK K) (by rfl) (n_len S) PySem.boot_len (pa_cons (pv 5) pa_nil)) pa_nil))) pa_nil))))))) (pss_cons (ps_set (i := 7) sc_L_ask.nd rfl (by first | exact Or.inl rfl | exact Or.inr rfl) (pe_lst pa_nil)) (pss_cons (ps_for PassesOwn.never rfl (pi_range1 rfl (n_range S) (pa_cons (pc (ok_L_pull (K := K) S) (hr.mono (by decide)) (g_L_pull S) (f_L_pull S).choose_spec.kp rfl (pa_cons (pv 0) (pa_cons pe_int pa_nil))) pa_nil)) (pg_name (i := 8) sc_L_ask.nd rfl (by first | exact Or.inl rfl | exact Or.inr rfl)) (pss_cons (ps_set (i := 11) sc_L_ask.nd rfl (by first | exact Or.inl rfl | exact Or.inr rfl) (pc (ok_L_gone (K := K) S) (hr.mono (by decide)) (g_L_gone S) (f_L_gone S).choose_spec.kp rfl (pa_cons (pv 0) (pa_cons (pv 10) (pa_cons pe_int pa_nil))))) (pss_one (ps_if (PW.pt (pw_and (pt_cmpR (op_neDK K (hu64 hr)) (pv 11) (pe_tup pa_nil) (nomark _)) (pw_and1 (pt_cmpR (op_notInDK K (hu65 hr)) (pv 11) (pv 7) rfl)))) (pss_one (ps_expr (pe_bmK K PySem.F.plainAttrs_list PySem.F.slot_list_append PySem.F.type_list_append mt_append (pv 7) (pa_cons (pv 11) pa_nil)))) pss_nil)))) (pss_one (ps_ret (pe_tup (pa_cons (pv 3) (pa_cons (pv 4) (pa_cons (pv 6) (pa_cons (pe_ix (ix_listK K) (pe_lst (pa_cons pe_int (pa_cons pe_int (pa_cons pe_int (pa_cons pe_int (pa_cons pe_int pa_nil)))))) (pc (ok_L_pull (K := K) S) (hr.mono (by decide)) (g_L_pull S) (f_L_pull S).choose_spec.kp rfl (pa_cons (pv 0) (pa_cons pe_int pa_nil))) (fun _ _ => rfl)) (pa_cons (pv 7) (pa_cons (pc (ok_L_size (K := K) S) (hr.mono (by decide)) (g_L_size S) (f_L_size S).choose_spec.kp rfl (pa_cons (pv 0) pa_nil)) pa_nil)))))))))))))))), ?_⟩
  repeat tb_rel
  refine ⟨rfl, B, rfl, hb, fun wd nl rl H1 ys rs us e1 hb1 hw1 wok hnl hrl hwd => ?_⟩
  repeat tb_rel
  have hnlb := hb.ne hnl
  have hrlb := hb.ne hrl
  refine r_g2 hw1.at_ ?_
  repeat tb_rel
  have hyl := wok.nlen
  refine r_len (.inl (.of hw1.nam)) ?_
  repeat tb_rel
  rw [List.length_map]
  refine ⟨rfl, B, _, rfl, hb1, ⟨by omega, by omega⟩, fun x H2 hx0 hx1 e2 hb2 => ?_⟩
  repeat tb_rel
  refine r_lstN fun u3 H3 hu3 e3 h3 => ?_
  repeat tb_rel
  have hb3 := hb2.same e3
  refine ⟨rfl, B, _, rfl, hb3, ⟨by omega, by omega⟩, fun y H4 hy0 hy1 e4 hb4 => ?_⟩
  repeat tb_rel
  have hu3b := hb2.ne hu3
  have e14 : SameBut B.b H1 H4 := (e2.trans (SameBut.of e3)).trans e4
  have hw4 := woK_bag hw1 hb1 hnlb hrlb e14
  have hyl3 : y.toNat < ([0, 0, x] : List Int).length := by
    show y.toNat < 3
    omega
  refine r_ixL (.of (e4 _ _ hu3b h3)) (j := y.toNat) (v := .int (([0, 0, x] : List Int).getD y.toNat 0)) (by omega) (by
    rw [show ([V.int 0, V.int 0, V.int x] : List V) = ([0, 0, x] : List Int).map V.int from rfl, List.getElem?_map, getD_some hyl3]
    rfl) ?_
  have hsm : ([0, 0, x] : List Int).getD y.toNat 0 ∈ ([0, 0, x] : List Int) := List.mem_of_getElem? (getD_some hyl3)
  generalize ([0, 0, x] : List Int).getD y.toNat 0 = ix at hsm
  have hix : 0 ≤ ix ∧ ix < ys.length := by
    simp only [List.mem_cons, List.not_mem_nil, or_false] at hsm
    omega
  have hixl : ix.toNat < ys.length := by omega
  have hsrc : ys[ix.toNat]? = some (ys[ix.toNat]'hixl) := by simp [hixl]
  generalize ys[ix.toNat]'hixl = src at hsrc
  refine r_ixL (.of hw4.nam) (j := ix.toNat) (v := .str src) (by omega) (by rw [List.getElem?_map, hsrc]; rfl) ?_
  repeat tb_rel
  refine ⟨_, rfl, ⟨_, .of hw4.nam⟩, ?_⟩
  refine lc_L (walk_list (xs := ys.map V.str)) ys (by simp) (by rw [List.length_map]; exact Nat.lt_of_le_of_lt hyl.2 (by decide)) (fun n => decide (n ≠ src)) (fun n => .str n) (fun G e => .of (e _ _ hw4.nam)) ?_ ?_
  · rintro i n G v G' R R' hn e ⟨rfl, hv⟩ hR hR'
    obtain ⟨z, hz, rfl⟩ := map_get hv
    obtain rfl := Option.some.inj (hn.symm.trans hz)
    repeat tb_rel
    refine ⟨rfl, ?_⟩
    repeat tb_rel
    refine ite_n (fun h => ?_) fun h => ?_
    · repeat tb_rel
      exact hR (decide_eq_true h) _ (Same.refl _)
    · exact hR' (decide_eq_false fun z => z (by simpa using h)) _ (Same.refl _)
  intro D5 H5 hD5 e5 h5
  repeat tb_rel
  have hb5 := hb4.same e5
  have hD5b := hb4.ne hD5
  have hfl : (ys.filter fun n => decide (n ≠ src)).length ≤ 6 := Nat.le_trans (List.length_filter_le _ _) hyl.2
  refine ⟨rfl, B, D5, _, rfl, hb5, h5, hD5b, by omega, fun D6 H6 sm e6 hb6 hD6 h6 hperm => ?_⟩
  repeat tb_rel
  have hD6b := hb5.ne hD6
  refine r_len (.inl (.of h6)) ?_
  repeat tb_rel
  rw [List.length_map]
  have hsl : 1 ≤ sm.length := by
    rw [hperm.length_eq]
    have : ∃ n ∈ ys, n ≠ src := by
      have h0 : ys[0]? = some (ys[0]'(by omega)) := by simp [show 0 < ys.length by omega]
      have h1 : ys[1]? = some (ys[1]'(by omega)) := by simp [show 1 < ys.length by omega]
      by_cases z : ys[0]'(by omega) = src
      · refine ⟨_, List.mem_of_getElem? h1, fun z2 => ?_⟩
        exact absurd (z.trans z2.symm) (List.pairwise_iff_getElem.1 wok.names.nd 0 1 (by omega) (by omega) (by omega))
      · exact ⟨_, List.mem_of_getElem? h0, z⟩
    obtain ⟨n, hn, hne⟩ := this
    exact List.length_pos_of_mem (List.mem_filter.2 ⟨hn, decide_eq_true hne⟩)
  refine ⟨_, _, rfl, ?_⟩
  repeat tb_rel
  have hmin : 1 ≤ (if ((sm.length : Nat) : Int) < 3 then ((sm.length : Nat) : Int) else 3) ∧ (if ((sm.length : Nat) : Int) < 3 then ((sm.length : Nat) : Int) else 3) ≤ 3 ∧ (if ((sm.length : Nat) : Int) < 3 then ((sm.length : Nat) : Int) else 3) ≤ sm.length := by
    split <;> omega
  generalize (if ((sm.length : Nat) : Int) < 3 then ((sm.length : Nat) : Int) else 3) = mn at hmin
  refine ⟨rfl, B, mn, rfl, hb6, ⟨by omega, by omega⟩, fun z H7 hz0 hz1 e7 hb7 => ?_⟩
  repeat tb_rel
  refine ⟨_, rfl, ?_⟩
  have h67 := e7 _ _ hD6b h6
  refine ⟨D6, _, rfl, .of h67, fun er her => ?_⟩
  repeat tb_rel
  have eer := Same.new her (o := .lst (cutV (sm.map V.str) none (some (1 + z))))
  have hcut : cutV (sm.map V.str) none (some (1 + z)) = (sm.take (1 + z.toNat)).map V.str := by
    rw [show (1 : Int) + z = ((1 + z.toNat : Nat) : Int) by omega, cutV_take, List.map_take]
  rw [hcut] at eer ⊢
  have hb8 := hb7.same eer
  have herb := hb7.ne her
  have hear8 : upd H7 er (.lst ((sm.take (1 + z.toNat)).map V.str)) er = some (.lst ((sm.take (1 + z.toNat)).map V.str)) := upd_same
  have e48 : SameBut B.b H4 (upd H7 er (.lst ((sm.take (1 + z.toNat)).map V.str))) := (((SameBut.of e5).trans e6).trans e7).trans (SameBut.of eer)
  have hw8 := woK_bag hw4 hb4 hnlb hrlb e48
  have e8 : SameBut B.b H (upd H7 er (.lst ((sm.take (1 + z.toNat)).map V.str))) := (e1.trans e14).trans e48
  generalize upd H7 er (.lst ((sm.take (1 + z.toNat)).map V.str)) = H8 at eer hb8 hear8 e48 hw8 e8
  refine r_lstN fun gn H9 hgn e9 h9 => ?_
  repeat tb_rel
  have hb9 := hb8.same e9
  have hgnb := hb8.ne hgn
  have hern : er ≠ gn := ne_of_none hear8 hgn
  refine ⟨rfl, B, _, rfl, hb9, ⟨by omega, by omega⟩, fun tn G0 ht0 ht1 f0 hc0 => ?_⟩
  repeat tb_rel
  refine ⟨_, rfl, by omega, by omega, ?_⟩
  have e89 : SameBut B.b H8 G0 := (SameBut.of e9).trans f0
  refine for_B walk_range (fun i σ G => ∃ x8 x11 x12 gs, σ = [some (.ref B.b), some (.int 6), some (.int 12), some (.ref wd), some (.str src), some (.ref D6), some (.ref er), some (.ref gn), x8, some (.ref nl), some (.ref rl), x11, x12] ∧ SameBut B.b H8 G ∧ BagOk K G B ∧ G gn = some (.lst (refs gs)) ∧ RowsAt K G gs ∧ LotsOk rs (gs.map (·.2)) ∧ gs.length ≤ i)
    ⟨_, _, _, [], rfl, e89, hc0, f0 _ _ hgnb h9, fun z hz => (by cases hz), ⟨.nil, fun z hz => (by cases hz)⟩, Nat.le_refl _⟩ (fun _ _ _ _ _ => trivial) ?_ ?_
  · rintro i v σ G1 G hi ⟨x8, x11, x12, gs, rfl, e, hbG, hgG, hrG, hlo, hgl⟩ ⟨rfl, rfl⟩
    repeat tb_rel
    have hwG := woK_bag hw8 hb8 hnlb hrlb e
    refine ⟨rfl, B, rl, us, rs, 2, rfl, hbG, hwG.roa, hrlb, hwG.lin, by omega, fun u G2 ms f2 hb2' hu0 hu hsub hml => ?_⟩
    repeat tb_rel
    have hg2 := f2 _ _ hgnb hgG
    have hr2 : RowsAt K G2 gs := fun z hz => seqT_bag f2 hbG (hrG z hz)
    refine r_tupN (K := K) fun u5 G5 f5 n5 => ?_
    refine r_neNilT (f5.seqT (.of hu)) n5.sq ?_
    have e5' : SameBut B.b H8 G5 := (e.trans f2).trans (SameBut.of f5)
    have hb5' := hb2'.same f5
    repeat tb_rel
    refine ite_n (fun hne => ?_) fun _ => ?_
    · repeat tb_rel
      refine r_notInT (f5.seqT (.of hu)) (.of (f5 _ _ hg2)) (hr2.same f5) ?_
      repeat tb_rel
      refine ite_n (fun hnin => ?_) fun _ => ?_
      · repeat tb_rel
        refine r_ty (f5 _ _ hg2) ?_
        repeat tb_rel
        refine r_app (f5 _ _ hg2) (by simp [refs]; omega) ?_
        refine ⟨_, _, _, gs ++ [(u, ms)], rfl, but_put e5' hgn, hb5'.put hb8 hgn, ?_, fun z hz => ?_, ⟨?_, fun z hz => ?_⟩, by rw [List.length_append]; show _ + 1 ≤ _; omega⟩
        · rw [upd_same]
          simp [refs]
        · rcases List.mem_append.1 hz with hz | hz
          · exact seqT_putL (hr2.same f5 z hz) (f5 _ _ hg2)
          · rw [List.mem_singleton.1 hz]
            exact seqT_putL (f5.seqT (.of hu)) (f5 _ _ hg2)
        · rw [List.map_append]
          refine List.nodup_append.2 ⟨hlo.nd, by simp, fun a ha b hb e => hnin ?_⟩
          have hb : b = ms := List.mem_singleton.1 hb
          rw [← hb, ← e]
          exact ha
        · rw [List.map_append] at hz
          rcases List.mem_append.1 hz with hz | hz
          · exact hlo.sub z hz
          · rw [List.mem_singleton.1 hz]
            exact ⟨hne, hsub, hml⟩
      · repeat tb_rel
        exact ⟨_, _, _, gs, rfl, e5', hb5', f5 _ _ hg2, hr2.same f5, hlo, by omega⟩
    · repeat tb_rel
      exact ⟨_, _, _, gs, rfl, e5', hb5', f5 _ _ hg2, hr2.same f5, hlo, by omega⟩
  · rintro σ G ⟨x8, x11, x12, gs, rfl, e, hbG, hgG, hrG, hlo, hgl⟩
    repeat tb_rel
    refine r_lstN fun ml G1 hml f1 h1m => ?_
    repeat tb_rel
    have hc1 := hbG.same f1
    refine ⟨rfl, B, _, rfl, hc1, ⟨by omega, by omega⟩, fun mi G2 hm0 hm1 f2 hc2 => ?_⟩
    repeat tb_rel
    have hmlb := hbG.ne hml
    have hmil : mi.toNat < ([1, 2, 2, 3, 4] : List Int).length := by
      show mi.toNat < 5
      omega
    refine r_ixL (.of (f2 _ _ hmlb h1m)) (j := mi.toNat) (v := .int (([1, 2, 2, 3, 4] : List Int).getD mi.toNat 0)) (by omega) (by
      rw [show ([V.int 1, V.int 2, V.int 2, V.int 3, V.int 4] : List V) = ([1, 2, 2, 3, 4] : List Int).map V.int from rfl, List.getElem?_map, getD_some hmil]
      rfl) ?_
    have hmm : ([1, 2, 2, 3, 4] : List Int).getD mi.toNat 0 ∈ ([1, 2, 2, 3, 4] : List Int) := List.mem_of_getElem? (getD_some hmil)
    generalize ([1, 2, 2, 3, 4] : List Int).getD mi.toNat 0 = m at hmm
    have hm14 : 1 ≤ m ∧ m ≤ 4 := by
      simp only [List.mem_cons, List.not_mem_nil, or_false] at hmm
      omega
    repeat tb_rel
    refine ⟨rfl, B, rfl, hc2, fun q G3 hq f3 hc3 => ?_⟩
    repeat tb_rel
    refine r_tupN (K := K) fun a G4 f4 n4 => ?_
    have eG4 : SameBut B.b G G4 := (((SameBut.of f1).trans f2).trans f3).trans (SameBut.of f4)
    have e84 : SameBut B.b H8 G4 := e.trans eG4
    have hmN : m = ((m.toNat : Nat) : Int) := by omega
    have hel : 1 ≤ (sm.take (1 + z.toNat)).length ∧ (sm.take (1 + z.toNat)).length ≤ 4 := by
      rw [List.length_take]
      omega
    refine k a G4 ⟨ys, rs, src, sm.take (1 + z.toNat), m.toNat, gs.map (·.2), q⟩ wd nl rl er gn us gs (e8.trans e84) (hc3.same f4) ⟨?_, woK_bag hw8 hb8 hnlb hrlb e84, e84 _ _ herb hear8, eG4 _ _ hgnb hgG, fun y hy => seqT_bag eG4 hbG (hrG y hy), rfl⟩ ⟨hnlb, hrlb, herb, hgnb⟩ wok
      (aok_of wok (List.mem_of_getElem? hsrc) hperm ⟨_, rfl⟩ hel (by omega) hlo (by rw [List.length_map]; omega) q) hq
    have := n4.sq
    rw [hmN] at this
    exact this
end
end Mg
/-! LM -/
namespace Mg
open PySem PySem.Spec PyProof.Rows L2
section
variable {P : Program} {w : World} {K : PySem.W.Frag} {mg : Str → Option Value} {base : Heap}
theorem r_isi {H : Hp} {Q : VK} {x : V} {t : Value} {T a : String} {r : Bool} (h : TyX K H x (.type a)) (hk : kitB a T = some r) (q : Q (.bl r) H) : rIsi K [x, .ty T] H Q := ⟨x, .ty T, .type a, .type T, r, rfl, .ty T, h, kit_ty hk, q⟩
theorem r_notV {ta : TE} {σ : L2.St} {H : Hp} {Q : VK} (h : ta σ H fun x H1 => ∃ c, x = .bl c ∧ Q (.bl (!c)) H1) : tNotV ta σ H Q := h
end
end Mg
local macro_rules | `(tactic| tb_rel) => `(tactic| with_reducible refine Mg.r_notV ?_)
namespace Mg
open PySem PySem.Spec PyProof.Rows L2
section
variable {P : Program} {w : World} {K : PySem.W.Frag} {mg : Str → Option Value} {base : Heap}
theorem sc_L_whole : FnScope ["_law_one"] ["_law_one"] d_L_whole.scope := ⟨rfl, rfl, rfl, by decide +kernel, rfl, by decide +kernel, by decide +kernel⟩
def sp_whole : Sp := SpN 1 fun vs H Q => ∃ i : Int, vs = [.int i] ∧ Q (.bl true) H
theorem ok_L_whole (S : Says K mg) : Fn P w K mg base 1 (He.fAd K d_L_whole.at_) sp_whole := by
  refine fn_body (f_L_whole S) sc_L_whole rfl (fun _ _ _ _ _ _ us hl => match us, hl with | [_], _ => rfl) fun cdv A outer s H vs Q E hr h => ?_
  obtain ⟨i, rfl, k⟩ := h
  refine ⟨_, (pss_one (ps_ret (pe_and (pe_callB (call_isiK' K) (by rfl) (n_isinstance S) (by decide +kernel) (pa_cons (pv 0) (pa_cons (pe_bltn (v := .ty "int") rfl (n_int S) (by decide +kernel) rfl) pa_nil))) (pe_one (pe_not (pe_callB (call_isiK' K) (by rfl) (n_isinstance S) (by decide +kernel) (pa_cons (pv 0) (pa_cons (pe_bltn (v := .ty "bool") rfl (n_bool S) (by decide +kernel) rfl) pa_nil)))))))), ?_⟩
  repeat tb_rel
  refine r_isi (t := .none) (.base (.int i)) (r := true) (by decide +kernel) ?_
  repeat tb_rel
  refine r_isi (t := .none) (.base (.int i)) (r := false) (by decide +kernel) ?_
  repeat tb_rel
  exact k
end
end Mg
/-! LN -/
namespace L2
open PySem PySem.Spec PyProof.Rows
theorem ix_seqK {X : Cx} (K : PySem.W.Frag) (h : X.K = K := by rfl) : IxR X (rIx K) := by
  subst h
  exact ix_seq
end L2
namespace Mg
open PySem PySem.Spec PyProof.Rows L2
/-! ### data that is compared -/
inductive AD where
  | bl (b : Bool)
  | int (i : Int)
  | str (s : Str)
  | tup (xs : List AD)
  | lst (xs : List AD)
  | rows (ks : List Int) (f : Int → List Int)
/-- what stands for d, of depth below n; a dict of rows: its keys in any order -/
def AdAt (K : PySem.W.Frag) (H : Hp) : Nat → V → AD → Prop
  | 0, _, _ => False
  | _ + 1, v, .bl b => v = .bl b
  | _ + 1, v, .int i => v = .int i
  | _ + 1, v, .str s => v = .str s
  | n + 1, v, .tup xs => ∃ t us, v = .ref t ∧ SqT K H t us ∧ us.length = xs.length ∧ xs.length ≤ 1000 ∧ ∀ (i : Nat) (u : V) (x : AD), us[i]? = some u → xs[i]? = some x → AdAt K H n u x
  | n + 1, v, .lst xs => ∃ t us, v = .ref t ∧ H t = some (.lst us) ∧ us.length = xs.length ∧ xs.length ≤ 1000 ∧ ∀ (i : Nat) (u : V) (x : AD), us[i]? = some u → xs[i]? = some x → AdAt K H n u x
  | n + 1, v, .rows ks f => ∃ t ks', v = .ref t ∧ RowD K H t ks' f ∧ ks'.Perm ks ∧ ks.Nodup ∧ ks.length ≤ 60 ∧ (∀ k ∈ ks, (f k).length ≤ 1000) ∧ 2 ≤ n
section
variable {K : PySem.W.Frag} {H H' : Hp}
theorem AdAt.same (e : Same H H') : ∀ {n : Nat} {v : V} {d : AD}, AdAt K H n v d → AdAt K H' n v d
  | 0, _, _, h => h
  | _ + 1, _, .bl _, h => h
  | _ + 1, _, .int _, h => h
  | _ + 1, _, .str _, h => h
  | _ + 1, _, .tup _, h => let ⟨t, us, h1, h2, h3, h4, h5⟩ := h; ⟨t, us, h1, e.seqT h2, h3, h4, fun i u x a b => AdAt.same e (h5 i u x a b)⟩
  | _ + 1, _, .lst _, h => let ⟨t, us, h1, h2, h3, h4, h5⟩ := h; ⟨t, us, h1, e _ _ h2, h3, h4, fun i u x a b => AdAt.same e (h5 i u x a b)⟩
  | _ + 1, _, .rows _ _, h => let ⟨t, ks', h1, h2, h3⟩ := h; ⟨t, ks', h1, h2.same e, h3⟩
theorem AdAt.some : ∀ {n : Nat} {v : V} {d : AD}, AdAt K H n v d → v ≠ .non
  | 0, _, _, h => h.elim
  | _ + 1, _, .bl _, h => fun z => by rw [z] at h; cases h
  | _ + 1, _, .int _, h => fun z => by rw [z] at h; cases h
  | _ + 1, _, .str _, h => fun z => by rw [z] at h; cases h
  | _ + 1, _, .tup _, h => fun z => by obtain ⟨t, us, h, _⟩ := h; rw [z] at h; cases h
  | _ + 1, _, .lst _, h => fun z => by obtain ⟨t, us, h, _⟩ := h; rw [z] at h; cases h
  | _ + 1, _, .rows _ _, h => fun z => by obtain ⟨t, us, h, _⟩ := h; rw [z] at h; cases h
theorem AdAt.ints {n : Nat} {t : Addr} {ns : List Int} (h : SqT K H t (ns.map V.int)) (hl : ns.length ≤ 1000) (hn : 2 ≤ n) : AdAt K H n (.ref t) (.tup (ns.map AD.int)) := by
  obtain ⟨m, rfl⟩ : ∃ m, n = m + 2 := ⟨n - 2, by omega⟩
  refine ⟨t, _, rfl, h, by simp, by simpa using hl, fun i u x h1 h2 => ?_⟩
  obtain ⟨a, ha, rfl⟩ := map_get h1
  rw [List.getElem?_map, ha] at h2
  cases h2
  rfl
theorem ty_T {a : Addr} {xs : List V} (h : SqT K H a xs) : TyX K H (.ref a) (.type "tuple") := by
  rcases h with (h | ⟨o, h⟩) | ⟨o, its, n, h, c, _⟩
  · exact .base (.tup h)
  · exact .fTuple h
  · exact .kTuple h c
/-- a dict of rows, read -/
def RowR (K : PySem.W.Frag) (H : Hp) (d : Addr) (ks : List Int) (f : Int → List Int) (ts : List Addr) : Prop := ts.length = ks.length ∧ Rd H d (.dK (entD ks ts)) ∧ ∀ z ∈ ks.zip ts, SqT K H z.2 ((f z.1).map V.int)
theorem RowR.get {d : Addr} {ks : List Int} {f : Int → List Int} {ts : List Addr} (r : RowR K H d ks f ts) (hn : ks.Nodup) {m : Int} (h : m ∈ ks) : ∃ t, DGet H d (.int m) (some (.ref t)) ∧ SqT K H t ((f m).map V.int) := by
  obtain ⟨t, ht⟩ := zip_mem r.1 h
  refine ⟨t, .inl ⟨_, Sum.inl m, r.2.1, rfl, (valV_entD hn ht).symm⟩, r.2.2 _ ht⟩
theorem RowR.same {d : Addr} {ks : List Int} {f : Int → List Int} {ts : List Addr} (r : RowR K H d ks f ts) (e : Same H H') : RowR K H' d ks f ts := ⟨r.1, r.2.1.imp (fun h => e _ _ h) (fun ⟨o, h⟩ => ⟨o, e _ _ h⟩), fun z hz => e.seqT (r.2.2 z hz)⟩
theorem RowD0.lock {d D : Addr} {ks : List Int} {f : Int → List Int} {ts : List Addr} {kvs : List (Key × V)} {od : Obj} (r : RowD0 K H d ks f ts) (hD : H D = some (.dK kvs)) : RowR K (upd H D (.frz od (.dK kvs))) d ks f ts := by
  refine ⟨r.len, ?_, fun z hz => seqT_lock (r.row z hz) hD⟩
  by_cases e : d = D
  · subst e
    have := r.at_
    rw [hD] at this
    cases this
    exact .inr ⟨od, upd_same⟩
  · exact .inl (by rw [upd_ne e]; exact r.at_)
end
theorem kit_tab : ∀ a ∈ (["int", "str", "tuple", "list", "dict"] : List String), ∀ T ∈ (["bool", "int", "str", "dict", "list", "tuple"] : List String), kitB a T = some (decide (a = T)) := by decide +kernel
section
variable {P : Program} {w : World} {K : PySem.W.Frag} {mg : Str → Option Value} {base : Heap}
theorem r_ixSL {H : Hp} {Q : VK} {v : V} {a : Addr} {xs : List V} {j : Nat} {z : Int} (h1 : H a = some (.lst xs)) (hz : z = (j : Int)) (h2 : xs[j]? = some v) (q : Q v H) : rIx K (.ref a) (.int z) H Q := .inl (r_ixL (.of h1) hz h2 q)
theorem r_ixST {H : Hp} {Q : VK} {v : V} {a : Addr} {xs : List V} {j : Nat} {z : Int} (h1 : SqT K H a xs) (hz : z = (j : Int)) (h2 : xs[j]? = some v) (q : Q v H) : rIx K (.ref a) (.int z) H Q := .inr (.inl (r_ixT h1 hz h2 q))
theorem all_true {n : Nat} : (((List.range n).map fun _ => true).all id) = true := by simp
theorem entD_keys {ks : List Int} {ts : List Addr} (h : ts.length = ks.length) : (entD ks ts).map (fun kv => kV kv.1) = ks.map V.int := by
  unfold entD
  rw [List.map_map]
  have : ((fun kv : Key × V => kV kv.1) ∘ fun z : Int × Addr => ((Sum.inl z.1 : Key), V.ref z.2)) = V.int ∘ Prod.fst := rfl
  rw [this, ← List.map_map, List.map_fst_zip (by rw [h]; exact Nat.le_refl _)]
theorem sc_L_alike : FnScope ["_law_found", "_law_due", "_law_name", "_law_at"] ["_law_found", "_law_due"] d_L_alike.scope := ⟨rfl, rfl, rfl, by decide +kernel, rfl, by decide +kernel, by decide +kernel⟩
def sp_alike (K : PySem.W.Frag) (n : Nat) : Sp := SpN 2 fun vs H Q => ∃ (x y : V) (d : AD), vs = [x, y] ∧ AdAt K H n x d ∧ AdAt K H n y d ∧ ∀ H', Same H H' → Q (.bl true) H'
theorem ok_L_alike (S : Says K mg) : ∀ n : Nat, Fn P w K mg base (n + 2) (He.fAd K d_L_alike.at_) (sp_alike K n) := by
  intro n
  induction n with
  | zero =>
    refine fn_body (f_L_alike S) sc_L_alike rfl (fun _ _ _ _ _ _ us hl => match us, hl with | [_, _], _ => rfl) fun cdv A outer s H vs Q E hr h => ?_
    obtain ⟨x, y, d, _, h, _⟩ := h
    exact h.elim
  | succ n ih =>
    refine fn_body (f_L_alike S) sc_L_alike rfl (fun _ _ _ _ _ _ us hl => match us, hl with | [_, _], _ => rfl) fun cdv A outer s H vs Q E hr h => ?_
    obtain ⟨x, y, d, rfl, hx, hy, k⟩ := h
    refine ⟨_, (pss_cons (ps_if (PW.pt (pw_or (pt_cmpR op_isN (pv 1) pe_non (nomark _)) (pw_or1 (pt_cmpR op_isN (pv 0) pe_non (nomark _))))) (pss_one (ps_ret (pe_and (pe_cmpR op_isN (pv 0) pe_non (nomark _)) (pe_one (pe_cmpR op_isN (pv 1) pe_non (nomark _)))))) pss_nil) (pss_cons (ps_if (pt_val (pe_callB (call_isiK' K) (by rfl) (n_isinstance S) (by decide +kernel) (pa_cons (pv 1) (pa_cons (pe_bltn (v := .ty "bool") rfl (n_bool S) (by decide +kernel) rfl) pa_nil)))) (pss_one (ps_ret (pe_and (pe_callB (call_isiK' K) (by rfl) (n_isinstance S) (by decide +kernel) (pa_cons (pv 0) (pa_cons (pe_bltn (v := .ty "bool") rfl (n_bool S) (by decide +kernel) rfl) pa_nil))) (pe_one (pe_cmpR op_eq (pv 0) (pv 1) (nomark _)))))) pss_nil) (pss_cons (ps_if (pt_val (pe_callB (call_isiK' K) (by rfl) (n_isinstance S) (by decide +kernel) (pa_cons (pv 1) (pa_cons (pe_bltn (v := .ty "int") rfl (n_int S) (by decide +kernel) rfl) pa_nil)))) (pss_one (ps_ret (pe_and (pc (ok_L_whole (K := K) S) (hr.mono (by omega)) (g_L_whole S) (f_L_whole S).choose_spec.kp rfl (pa_cons (pv 0) pa_nil)) (pe_one (pe_cmpR op_eq (pv 0) (pv 1) (nomark _)))))) pss_nil) (pss_cons (ps_if (pt_val (pe_callB (call_isiK' K) (by rfl) (n_isinstance S) (by decide +kernel) (pa_cons (pv 1) (pa_cons (pe_bltn (v := .ty "str") rfl (n_str S) (by decide +kernel) rfl) pa_nil)))) (pss_one (ps_ret (pe_and (pe_callB (call_isiK' K) (by rfl) (n_isinstance S) (by decide +kernel) (pa_cons (pv 0) (pa_cons (pe_bltn (v := .ty "str") rfl (n_str S) (by decide +kernel) rfl) pa_nil))) (pe_one (pe_cmpR op_eq (pv 0) (pv 1) (nomark _)))))) pss_nil) (pss_cons (ps_if (pt_val (pe_callB (call_isiK' K) (by rfl) (n_isinstance S) (by decide +kernel) (pa_cons (pv 1) (pa_cons (pe_bltn (v := .ty "dict") rfl (n_dict S) (by decide +kernel) rfl) pa_nil)))) (pss_cons (ps_if (PW.pt (pw_or (pt_not (pt_val (pe_callB (call_isiK' K) (by rfl) (n_isinstance S) (by decide +kernel) (pa_cons (pv 0) (pa_cons (pe_bltn (v := .ty "dict") rfl (n_dict S) (by decide +kernel) rfl) pa_nil))))) (pw_or1 (pt_cmpR (op_neDK K (hu64 hr)) (pe_callB (cr_sortedK K) (by rfl) (n_sorted S) (by decide +kernel) (pa_cons (pe_callTy (call_list_dK rfl) (by rfl) (n_list S) (by decide +kernel) (pa_cons (pv 0) pa_nil)) pa_nil)) (pe_callB (cr_sortedK K) (by rfl) (n_sorted S) (by decide +kernel) (pa_cons (pe_callTy (call_list_dK rfl) (by rfl) (n_list S) (by decide +kernel) (pa_cons (pv 1) pa_nil)) pa_nil)) (nomark _))))) (pss_one (ps_ret pe_bl)) pss_nil) (pss_one (ps_ret (pe_callB (cr_allK K rfl) (by rfl) (n_all S) (by decide +kernel) (pa_cons (pe_lock (pe_lc (own := [("_law_name", 2)]) rfl sc_L_alike.nd (pi_keys (pv 1)) (blkOk_by (N := ["_law_found", "_law_due", "_law_name", "_law_at"]) (sc := d_L_alike.scope) (by decide +kernel)) (fun _ _ _ _ _ => (pg_name (i := 2) sc_L_alike.nd rfl (by first | exact Or.inl rfl | exact Or.inr rfl))) (fun _ _ _ _ _ => pts_nil) (fun _ _ _ _ _ => (pc ih (hr.mono (by omega)) (g_L_alike S) (f_L_alike S).choose_spec.kp rfl (pa_cons (pe_dget (hu_of hr) (pv 0) (pv 2) (fun _ _ => rfl)) (pa_cons (pe_dget (hu_of hr) (pv 1) (pv 2) (fun _ _ => rfl)) pa_nil)))))) pa_nil))))) pss_nil) (pss_cons (ps_if (PW.pt (pw_or (pt_cmpR op_ne (pe_callB (call_isiK' K) (by rfl) (n_isinstance S) (by decide +kernel) (pa_cons (pv 1) (pa_cons (pe_bltn (v := .ty "list") rfl (n_list S) (by decide +kernel) rfl) pa_nil))) (pe_callB (call_isiK' K) (by rfl) (n_isinstance S) (by decide +kernel) (pa_cons (pv 0) (pa_cons (pe_bltn (v := .ty "list") rfl (n_list S) (by decide +kernel) rfl) pa_nil))) (nomark _)) (pw_or1 (pt_cmpR op_ne (pe_callB (call_isiK' K) (by rfl) (n_isinstance S) (by decide +kernel) (pa_cons (pv 1) (pa_cons (pe_bltn (v := .ty "tuple") rfl (n_tuple S) (by decide +kernel) rfl) pa_nil))) (pe_callB (call_isiK' K) (by rfl) (n_isinstance S) (by decide +kernel) (pa_cons (pv 0) (pa_cons (pe_bltn (v := .ty "tuple") rfl (n_tuple S) (by decide +kernel) rfl) pa_nil))) (nomark _))))) (pss_one (ps_ret pe_bl)) pss_nil) (pss_one (ps_ret (pe_and (pe_cmpR op_eq (pe_callB (call_len_seqK K) (by rfl) (n_len S) PySem.boot_len (pa_cons (pv 0) pa_nil)) (pe_callB (call_len_seqK K) (by rfl) (n_len S) PySem.boot_len (pa_cons (pv 1) pa_nil)) (nomark _)) (pe_one (pe_callB (cr_allK K rfl) (by rfl) (n_all S) (by decide +kernel) (pa_cons (pe_lc (own := [("_law_at", 3)]) rfl sc_L_alike.nd (pi_range1 rfl (n_range S) (pa_cons (pe_callB (call_len_seqK K) (by rfl) (n_len S) PySem.boot_len (pa_cons (pv 1) pa_nil)) pa_nil)) (blkOk_by (N := ["_law_found", "_law_due", "_law_name", "_law_at"]) (sc := d_L_alike.scope) (by decide +kernel)) (fun _ _ _ _ _ => (pg_name (i := 3) sc_L_alike.nd rfl (by first | exact Or.inl rfl | exact Or.inr rfl))) (fun _ _ _ _ _ => pts_nil) (fun _ _ _ _ _ => (pc ih (hr.mono (by omega)) (g_L_alike S) (f_L_alike S).choose_spec.kp rfl (pa_cons (pe_ix (ix_seqK K) (pv 0) (pv 3) (fun _ _ => rfl)) (pa_cons (pe_ix (ix_seqK K) (pv 1) (pv 3) (fun _ _ => rfl)) pa_nil))))) pa_nil)))))))))))), ?_⟩
    have hxn := hx.some
    have hyn := hy.some
    repeat tb_rel
    refine ⟨rfl, ?_⟩
    rw [decide_eq_false hyn]
    repeat tb_rel
    refine ⟨rfl, ?_⟩
    rw [decide_eq_false hxn]
    repeat tb_rel
    cases d with
    | bl b =>
      obtain rfl : x = .bl b := hx
      obtain rfl : y = .bl b := hy
      refine r_isi (t := .none) (.base (.bl b)) (r := true) (by decide +kernel) ?_
      repeat tb_rel
      refine r_isi (t := .none) (.base (.bl b)) (r := true) (by decide +kernel) ?_
      repeat tb_rel
      rw [decide_eq_true rfl]
      exact k H (Same.refl _)
    | int i =>
      obtain rfl : x = .int i := hx
      obtain rfl : y = .int i := hy
      refine r_isi (t := .none) (.base (.int i)) (r := false) (by decide +kernel) ?_
      repeat tb_rel
      refine r_isi (t := .none) (.base (.int i)) (r := true) (by decide +kernel) ?_
      repeat tb_rel
      refine ⟨rfl, i, rfl, ?_⟩
      repeat tb_rel
      rw [decide_eq_true rfl]
      exact k H (Same.refl _)
    | str z =>
      obtain rfl : x = .str z := hx
      obtain rfl : y = .str z := hy
      refine r_isi (t := .none) (.base (.str z)) (r := false) (by decide +kernel) ?_
      repeat tb_rel
      refine r_isi (t := .none) (.base (.str z)) (r := false) (by decide +kernel) ?_
      repeat tb_rel
      refine r_isi (t := .none) (.base (.str z)) (r := true) (by decide +kernel) ?_
      repeat tb_rel
      refine r_isi (t := .none) (.base (.str z)) (r := true) (by decide +kernel) ?_
      repeat tb_rel
      rw [decide_eq_true rfl]
      exact k H (Same.refl _)
    | tup xs =>
      obtain ⟨t1, us1, rfl, ht1, hl1, hz1, he1⟩ := hx
      obtain ⟨t2, us2, rfl, ht2, hl2, hz2, he2⟩ := hy
      refine r_isi (t := .none) (ty_T ht2) (r := false) (by decide +kernel) ?_
      repeat tb_rel
      refine r_isi (t := .none) (ty_T ht2) (r := false) (by decide +kernel) ?_
      repeat tb_rel
      refine r_isi (t := .none) (ty_T ht2) (r := false) (by decide +kernel) ?_
      repeat tb_rel
      refine r_isi (t := .none) (ty_T ht2) (r := false) (by decide +kernel) ?_
      repeat tb_rel
      refine r_isi (t := .none) (ty_T ht2) (r := false) (by decide +kernel) ?_
      repeat tb_rel
      refine r_isi (t := .none) (ty_T ht1) (r := false) (by decide +kernel) ?_
      repeat tb_rel
      refine iteF ?_
      repeat tb_rel
      refine r_isi (t := .none) (ty_T ht2) (r := true) (by decide +kernel) ?_
      repeat tb_rel
      refine r_isi (t := .none) (ty_T ht1) (r := true) (by decide +kernel) ?_
      repeat tb_rel
      refine iteF ?_
      repeat tb_rel
      refine r_len (.inr ht1) ?_
      repeat tb_rel
      refine r_len (.inr ht2) ?_
      repeat tb_rel
      rw [hl1, hl2, decide_eq_true rfl]
      repeat tb_rel
      refine r_len (.inr ht2) ?_
      repeat tb_rel
      refine ⟨_, rfl, by omega, by omega, ?_⟩
      rw [hl2, Int.toNat_natCast]
      refine lc_M (walk_range (n := xs.length)) (List.range xs.length) (by simp) (Nat.lt_of_le_of_lt hz1 (by decide)) (fun _ => .bl true) (fun _ _ => trivial) ?_ ?_
      · rintro i j G v G' R hj e ⟨rfl, rfl⟩ hR
        obtain ⟨hlt, rfl⟩ := range_get hj
        have g1 : us1[j]? = some (us1[j]'(by omega)) := by simp [show j < us1.length by omega]
        have g2 : us2[j]? = some (us2[j]'(by omega)) := by simp [show j < us2.length by omega]
        have gx : xs[j]? = some (xs[j]'hlt) := by simp [hlt]
        repeat tb_rel
        refine ⟨rfl, ?_⟩
        repeat tb_rel
        refine r_ixST (e.seqT ht1) (j := j) (by omega) g1 ?_
        repeat tb_rel
        refine r_ixST (e.seqT ht2) (j := j) (by omega) g2 ?_
        repeat tb_rel
        exact ⟨rfl, _, _, _, rfl, (he1 j _ _ g1 gx).same e, (he2 j _ _ g2 gx).same e, fun H5 e5 => hR H5 e5⟩
      · intro D H4 hD e4 h4
        repeat tb_rel
        refine ⟨D, (List.range xs.length).map fun _ => true, rfl, .of (by rw [h4, List.map_map]; rfl), ?_⟩
        rw [all_true]
        exact k H4 e4
    | lst xs =>
      obtain ⟨t1, us1, rfl, ht1, hl1, hz1, he1⟩ := hx
      obtain ⟨t2, us2, rfl, ht2, hl2, hz2, he2⟩ := hy
      refine r_isi (t := .none) (.base (.lst ht2)) (r := false) (by decide +kernel) ?_
      repeat tb_rel
      refine r_isi (t := .none) (.base (.lst ht2)) (r := false) (by decide +kernel) ?_
      repeat tb_rel
      refine r_isi (t := .none) (.base (.lst ht2)) (r := false) (by decide +kernel) ?_
      repeat tb_rel
      refine r_isi (t := .none) (.base (.lst ht2)) (r := false) (by decide +kernel) ?_
      repeat tb_rel
      refine r_isi (t := .none) (.base (.lst ht2)) (r := true) (by decide +kernel) ?_
      repeat tb_rel
      refine r_isi (t := .none) (.base (.lst ht1)) (r := true) (by decide +kernel) ?_
      repeat tb_rel
      refine iteF ?_
      repeat tb_rel
      refine r_isi (t := .none) (.base (.lst ht2)) (r := false) (by decide +kernel) ?_
      repeat tb_rel
      refine r_isi (t := .none) (.base (.lst ht1)) (r := false) (by decide +kernel) ?_
      repeat tb_rel
      refine iteF ?_
      repeat tb_rel
      refine r_len (.inl (.of ht1)) ?_
      repeat tb_rel
      refine r_len (.inl (.of ht2)) ?_
      repeat tb_rel
      rw [hl1, hl2, decide_eq_true rfl]
      repeat tb_rel
      refine r_len (.inl (.of ht2)) ?_
      repeat tb_rel
      refine ⟨_, rfl, by omega, by omega, ?_⟩
      rw [hl2, Int.toNat_natCast]
      refine lc_M (walk_range (n := xs.length)) (List.range xs.length) (by simp) (Nat.lt_of_le_of_lt hz1 (by decide)) (fun _ => .bl true) (fun _ _ => trivial) ?_ ?_
      · rintro i j G v G' R hj e ⟨rfl, rfl⟩ hR
        obtain ⟨hlt, rfl⟩ := range_get hj
        have g1 : us1[j]? = some (us1[j]'(by omega)) := by simp [show j < us1.length by omega]
        have g2 : us2[j]? = some (us2[j]'(by omega)) := by simp [show j < us2.length by omega]
        have gx : xs[j]? = some (xs[j]'hlt) := by simp [hlt]
        repeat tb_rel
        refine ⟨rfl, ?_⟩
        repeat tb_rel
        refine r_ixSL (e _ _ ht1) (j := j) (by omega) g1 ?_
        repeat tb_rel
        refine r_ixSL (e _ _ ht2) (j := j) (by omega) g2 ?_
        repeat tb_rel
        exact ⟨rfl, _, _, _, rfl, (he1 j _ _ g1 gx).same e, (he2 j _ _ g2 gx).same e, fun H5 e5 => hR H5 e5⟩
      · intro D H4 hD e4 h4
        repeat tb_rel
        refine ⟨D, (List.range xs.length).map fun _ => true, rfl, .of (by rw [h4, List.map_map]; rfl), ?_⟩
        rw [all_true]
        exact k H4 e4
    | rows ks f =>
      obtain ⟨t1, k1, rfl, ⟨s1, h1⟩, p1, hnd, hz, hfl, hn⟩ := hx
      obtain ⟨t2, k2, rfl, ⟨s2, h2⟩, p2, _, _, _, _⟩ := hy
      refine r_isi (t := .none) (.base (.dK h2.at_)) (r := false) (by decide +kernel) ?_
      repeat tb_rel
      refine r_isi (t := .none) (.base (.dK h2.at_)) (r := false) (by decide +kernel) ?_
      repeat tb_rel
      refine r_isi (t := .none) (.base (.dK h2.at_)) (r := false) (by decide +kernel) ?_
      repeat tb_rel
      refine r_isi (t := .none) (.base (.dK h2.at_)) (r := true) (by decide +kernel) ?_
      repeat tb_rel
      refine r_isi (t := .none) (.base (.dK h1.at_)) (r := true) (by decide +kernel) ?_
      repeat tb_rel
      refine iteF ?_
      repeat tb_rel
      have z1 : k1.length ≤ 60 := by rw [p1.length_eq]; exact hz
      have z2 : k2.length ≤ 60 := by rw [p2.length_eq]; exact hz
      refine ⟨t1, _, rfl, h1.at_, fun L1 n1 => ?_⟩
      repeat tb_rel
      have e1 := Same.new n1 (o := .lst ((entD k1 s1).map fun kv => kV kv.1))
      refine ⟨L1, k1, rfl, .of (by rw [upd_same, entD_keys h1.len]), by omega, fun y1 L2' hp1 hs1 n2 => ?_⟩
      repeat tb_rel
      have e2 := Same.new n2 (o := .lst (y1.map V.int))
      have h2' := (h2.same e1).same e2
      refine ⟨t2, _, rfl, h2'.at_, fun L3 n3 => ?_⟩
      repeat tb_rel
      have e3 := Same.new n3 (o := .lst ((entD k2 s2).map fun kv => kV kv.1))
      refine ⟨L3, k2, rfl, .of (by rw [upd_same, entD_keys h2.len]), by omega, fun y2 L4 hp2 hs2 n4 => ?_⟩
      repeat tb_rel
      have e4 := Same.new n4 (o := .lst (y2.map V.int))
      have hy12 : y1 = y2 := List.Perm.eq_of_pairwise (le := (· ≤ ·)) (fun a b _ _ h1 h2 => Int.le_antisymm h1 h2) hs1 hs2 (hp1.trans (p1.trans (p2.symm.trans hp2.symm)))
      refine r_neInts (.of (e4 _ _ (e3 _ _ upd_same))) (.of upd_same) ?_
      rw [hy12, decide_eq_true rfl]
      repeat tb_rel
      refine iteF ?_
      repeat tb_rel
      rw [hy12] at e2 e3 e4
      have e14 := (e1.trans e2).trans (e3.trans e4)
      have g1 := h1.same e14
      have g2 := h2.same e14
      generalize upd (upd (upd (upd H L1 (.lst ((entD k1 s1).map fun kv => kV kv.1))) L2' (.lst (y2.map V.int))) L3 (.lst ((entD k2 s2).map fun kv => kV kv.1))) L4 (.lst (y2.map V.int)) = G at e14 g1 g2
      refine r_lockE g2.at_ fun od => ?_
      have r1 := g1.lock (od := od) g2.at_
      have r2 := g2.lock (od := od) g2.at_
      have hat : upd G t2 (.frz od (.dK (entD k2 s2))) t2 = some (.frz od (.dK (entD k2 s2))) := upd_same
      generalize hG1 : upd G t2 (.frz od (.dK (entD k2 s2))) = G1 at r1 r2 hat
      have hkl : (entD k2 s2).length = k2.length := by
        unfold entD
        rw [List.length_map, List.length_zip, h2.len, Nat.min_self]
      repeat tb_rel
      refine ⟨t2, od, rfl, .inl ⟨_, hat, ?_⟩⟩
      refine lc_M walk_keys k2 hkl.symm (by rw [hkl]; exact Nat.lt_of_le_of_lt z2 (by decide)) (fun _ => .bl true) (fun F e => e _ _ hat) ?_ ?_
      · rintro i m F v F' R hm e ⟨rfl, k, w, hk, rfl⟩ hR
        have hkm : k = Sum.inl m := by
          have h5 := congrArg (fun l : List V => l[i]?) (entD_keys h2.len (ks := k2))
          simp only [List.getElem?_map, hk, hm, Option.map_some] at h5
          cases k with
          | inl x => exact congrArg Sum.inl (V.int.inj (Option.some.inj h5))
          | inr x => cases Option.some.inj h5
        subst hkm
        have hmem := List.mem_of_getElem? hm
        have hmk : m ∈ ks := p2.mem_iff.1 hmem
        obtain ⟨u1, d1, q1⟩ := (r1.same e).get (p1.nodup_iff.2 hnd) (p1.mem_iff.2 hmk)
        obtain ⟨u2, d2, q2⟩ := (r2.same e).get (p2.nodup_iff.2 hnd) hmem
        repeat tb_rel
        refine ⟨rfl, ?_⟩
        repeat tb_rel
        refine ⟨t1, _, rfl, d1, ?_⟩
        repeat tb_rel
        refine ⟨t2, _, rfl, d2, ?_⟩
        repeat tb_rel
        exact ⟨rfl, _, _, _, rfl, .ints q1 (hfl m hmk) hn, .ints q2 (hfl m hmk) hn, fun H5 e5 => hR H5 e5⟩
      · intro D H4 hD e5 h4
        refine ⟨e5 _ _ hat, ?_⟩
        have hDt : D ≠ t2 := fun z => by
          rw [z, hat] at hD
          cases hD
        have e6 : Same G (upd H4 t2 (.dK (entD k2 s2))) := Same.unlock g2.at_ (by rw [hG1]; exact e5)
        repeat tb_rel
        refine ⟨D, k2.map fun _ => true, rfl, .of (by rw [upd_ne hDt, h4, List.map_map]; rfl), ?_⟩
        rw [show ((k2.map fun _ => true).all id) = true by simp]
        exact k _ (e14.trans e6)
end
end Mg
/-! LP -/
namespace Mg
open PySem PySem.Spec PyProof.Rows L2 LamX
/-! ### what stays beside the bag and the tables -/
theorem ExtB.bag {a : Addr} {H G : Hp} (e : SameBut a H G) : ExtB a H G := fun b o n h _ => e b o n h
theorem ExtB.ofT {a : Addr} {H G : Hp} (e : ExtT H G) : ExtB a H G := fun b o _ h n => e b o h n
section
variable {K : PySem.W.Frag} {H G : Hp} {B : BagT} {T l d : Addr} {xs : List V} {P : Addr} {q : Str}
theorem seqT_B (e : ExtB B.b H G) (hb : BagOk K H B) (h : SqT K H T xs) : SqT K G T xs := by
  obtain ⟨pos, rest, salt, hb⟩ := hb
  rcases h with (h | ⟨o, h⟩) | h
  · exact .inl (.inl (e _ _ (fun z => by rw [z, hb.at_] at h; cases h) h nt_tup))
  · exact .inl (.inr ⟨o, e _ _ (fun z => by rw [z, hb.at_] at h; cases h) h nt_frz⟩)
  · exact .inr h
theorem lines_B {us : List V} {rs : List Road} (e : ExtB B.b H G) (hb : BagOk K H B) (h : LinesAt K H us rs) : LinesAt K G us rs :=
  ⟨h.1, fun i r v h1 h2 => let ⟨t, e1, e2⟩ := h.2 i r v h1 h2; ⟨t, e1, seqT_B e hb e2⟩⟩
theorem AskAt.extB {a : Addr} {T : TSpec} {w nl rl er gn : Addr} {us : List V} {gs : List (Addr × List Int)} (h : AskAt K H a T w nl rl er gn us gs) (hb : BagOk K H B) (ap : Apart B nl rl er gn) (e : ExtB B.b H G) : AskAt K G a T w nl rl er gn us gs :=
  ⟨seqT_B e hb h.at_, ⟨seqT_B e hb h.world.at_, e _ _ ap.nl h.world.nam nt_lst, e _ _ ap.rl h.world.roa nt_lst, lines_B e hb h.world.lin⟩, e _ _ ap.er h.ear nt_lst, e _ _ ap.gn h.gon nt_lst, fun z hz => seqT_B e hb (h.rows z hz), h.geq⟩
theorem RowD.extB {ks : List Int} {f : Int → List Int} (r : RowD K H d ks f) (hb : BagOk K H B) (e : ExtB B.b H G) : RowD K G d ks f := by
  obtain ⟨ts, r⟩ := r
  refine ⟨ts, r.len, e _ _ (fun z => ?_) r.at_ nt_dK, fun z hz => seqT_B e hb (r.row z hz)⟩
  obtain ⟨_, _, _, hx⟩ := hb
  have := r.at_
  rw [z, hx.at_] at this
  cases this
theorem CaseAt.extB {c : Str × List Int} {v : V} (h : CaseAt K c H v) (hb : BagOk K H B) (e : ExtB B.b H G) : CaseAt K c G v := let ⟨t, l, h1, h2, h3⟩ := h; ⟨t, l, h1, seqT_B e hb h2, seqT_B e hb h3⟩
theorem tabS_bag (t : TabS H P q) (hb : BagOk K H B) (e : SameBut B.b H G) : TabS G P q := by
  obtain ⟨_, _, _, hx⟩ := hb
  obtain ⟨ps, h1, h2, h3⟩ := t
  refine ⟨ps, e _ _ (fun z => by rw [z, hx.at_] at h1; cases h1) h1, h2, fun pos cv e1 => ?_⟩
  obtain ⟨c, e2, e3⟩ := h3 pos cv e1
  exact ⟨c, e2, e _ _ (fun z => by rw [z, hx.at_] at e3; cases e3) e3⟩
/-- the cases, as they are compared -/
def adC (cs : List (Str × List Int)) : AD := .lst (cs.map fun c => .tup [.str c.1, .tup (c.2.map AD.int)])
theorem ad_cases {D : Addr} {us : List V} {cs : List (Str × List Int)} (h : H D = some (.lst us)) (ha : Acc (CaseAt K) cs us H) (hl : cs.length ≤ 1000) (hz : ∀ c ∈ cs, c.2.length ≤ 1000) : AdAt K H 4 (.ref D) (adC cs) := by
  refine ⟨D, us, rfl, h, by rw [ha.1, List.length_map], by rw [List.length_map]; exact hl, fun i u x h1 h2 => ?_⟩
  rw [List.getElem?_map] at h2
  cases hc : cs[i]? with
  | none => rw [hc] at h2; cases h2
  | some c =>
    rw [hc] at h2
    cases h2
    obtain ⟨t, l, rfl, h3, h4⟩ := ha.2 i c u hc h1
    refine ⟨t, _, rfl, h3, rfl, Nat.le_of_ble_eq_true rfl, fun j v y h5 h6 => ?_⟩
    match j, h5, h6 with
    | 0, h5, h6 =>
      cases h5
      cases h6
      rfl
    | 1, h5, h6 =>
      cases h5
      cases h6
      exact .ints h4 (hz c (List.mem_of_getElem? hc)) (Nat.le_refl 2)
    | j + 2, h5, h6 => cases h5
/-- a plan's answers -/
structure DueAt (K : PySem.W.Frag) (H : Hp) (L D1 D2 : Addr) (us : List V) (cs : List (Str × List Int)) (ks : List Int) (f : Int → List Int) (g : Bool) : Prop where
  at_ : H L = some (.lst [.ref D1, .ref D2, .bl g])
  cases : H D1 = some (.lst us)
  acc : Acc (CaseAt K) cs us H
  heads : RowD K H D2 ks f
theorem DueAt.extB {L D1 D2 : Addr} {us : List V} {cs : List (Str × List Int)} {ks : List Int} {f : Int → List Int} {g : Bool} (h : DueAt K H L D1 D2 us cs ks f g) (hb : BagOk K H B) (h0 : L ≠ B.b) (h1 : D1 ≠ B.b) (e : ExtB B.b H G) : DueAt K G L D1 D2 us cs ks f g :=
  ⟨e _ _ h0 h.at_ nt_lst, e _ _ h1 h.cases nt_lst, h.acc.imp fun c v h => h.extB hb e, h.heads.extB hb e⟩
/-- answers that are compared: the heads by their lines -/
def adD (cs : List (Str × List Int)) (ks : List Int) (f : Int → List Int) (g : Bool) : AD := .lst [adC cs, .rows ks f, .bl g]
theorem RowD.congr {ks : List Int} {f f' : Int → List Int} (r : RowD K H d ks f) (h : ∀ k ∈ ks, f' k = f k) : RowD K H d ks f' := by
  obtain ⟨ts, r⟩ := r
  exact ⟨ts, r.len, r.at_, fun z hz => by rw [h _ (List.of_mem_zip (show (z.1, z.2) ∈ _ from hz)).1]; exact r.row z hz⟩
theorem ad_due {L D1 D2 : Addr} {us : List V} {cs : List (Str × List Int)} {ks ks' : List Int} {f f' : Int → List Int} {g : Bool} (h : DueAt K H L D1 D2 us cs ks' f' g) (hl : cs.length ≤ 1000) (hz : ∀ c ∈ cs, c.2.length ≤ 1000) (hp : ks'.Perm ks) (hn : ks.Nodup) (hk : ks.length ≤ 60) (hf : ∀ k ∈ ks, (f k).length ≤ 1000) (he : ∀ k ∈ ks, f' k = f k) : AdAt K H 5 (.ref L) (adD cs ks f g) := by
  refine ⟨L, _, rfl, h.at_, rfl, Nat.le_of_ble_eq_true rfl, fun i u x h1 h2 => ?_⟩
  match i, h1, h2 with
  | 0, h1, h2 =>
    cases h1
    cases h2
    exact ad_cases h.cases h.acc hl hz
  | 1, h1, h2 =>
    cases h1
    cases h2
    exact ⟨D2, ks', rfl, h.heads.congr fun k hk => (he k (hp.mem_iff.1 hk)).symm, hp, hn, hk, hf, Nat.le_of_ble_eq_true rfl⟩
  | 2, h1, h2 =>
    cases h1
    cases h2
    rfl
  | i + 3, h1, h2 => cases h1
/-- a list of cases is not the bag -/
theorem cases_ne {D : Addr} {us : List V} {cs : List (Str × List Int)} (hb : BagOk K H B) (h : H D = some (.lst us)) (ha : Acc (CaseAt K) cs us H) : D ≠ B.b := fun z => by
  obtain ⟨pos, rest, salt, hx⟩ := hb
  rw [z, hx.at_] at h
  cases h
  have hl := ha.1
  have h1 : cs[1]? = some (cs[1]'(by rw [← hl]; show 1 < 4; omega)) := List.getElem?_eq_getElem _
  obtain ⟨t, l, e, _⟩ := ha.2 1 _ _ h1 rfl
  cases e
/-- a row of the dict put anew -/
theorem RowD.set {ks : List Int} {f : Int → List Int} (r : RowD K H d ks f) (hn : ks.Nodup) {m : Int} (hm : m ∈ ks) {t : Addr} {row : List Int} (ht : SqT K H t (row.map V.int)) : ∃ kvs, H d = some (.dK kvs) ∧ kvs.length = ks.length ∧ RowD K (upd H d (.dK (putK kvs (Sum.inl m) (.ref t)))) d ks (fun x => if x = m then row else f x) := by
  obtain ⟨ts, r⟩ := r
  obtain ⟨t0, ht0⟩ := zip_mem r.len hm
  have hv := valV_entD hn ht0
  refine ⟨entD ks ts, r.at_, by unfold entD; rw [List.length_map, List.length_zip, r.len, Nat.min_self], (ks.zip ts).map (fun z => if z.1 = m then t else z.2), ?_, ?_, fun z hz => ?_⟩
  · rw [List.length_map, List.length_zip, r.len, Nat.min_self]
  · rw [upd_same]
    unfold putK
    rw [valV_any, hv, if_pos (show (some (V.ref t0)).isSome = true from rfl)]
    refine congrArg (fun l => some (HO.dK l)) ?_
    unfold entD
    rw [List.map_map]
    have : ks.zip ((ks.zip ts).map fun z => if z.1 = m then t else z.2) = (ks.zip ts).map fun z => (z.1, if z.1 = m then t else z.2) := by
      refine List.ext_getElem? fun i => ?_
      rw [List.getElem?_map]
      by_cases hi : i < ks.length
      · have hi2 : i < ts.length := by rw [r.len]; exact hi
        have e1 : (ks.zip ts)[i]? = some (ks[i], ts[i]) := List.getElem?_zip_eq_some.2 ⟨by simp [hi], by simp [hi2]⟩
        rw [e1]
        exact List.getElem?_zip_eq_some.2 ⟨by simp [hi], by rw [List.getElem?_map, e1]; rfl⟩
      · rw [List.getElem?_eq_none (by rw [List.length_zip]; omega), List.getElem?_eq_none (by rw [List.length_zip]; omega)]
        rfl
    rw [this, List.map_map]
    refine List.map_congr_left fun z hz => ?_
    by_cases e : z.1 = m
    · simp [e]
    · simp [e]
  · obtain ⟨i, hi⟩ := List.getElem?_of_mem hz
    have hi2 := List.getElem?_zip_eq_some.1 hi
    have hil : i < ks.length := (List.getElem?_eq_some_iff.1 hi2.1).1
    have hil2 : i < ts.length := by rw [r.len]; exact hil
    have e1 : (ks.zip ts)[i]? = some (ks[i], ts[i]) := List.getElem?_zip_eq_some.2 ⟨by simp [hil], by simp [hil2]⟩
    have h2 := hi2.2
    rw [List.getElem?_map, e1] at h2
    have hz1 : z.1 = ks[i] := by
      have := hi2.1
      rw [List.getElem?_eq_getElem hil] at this
      exact (Option.some.inj this).symm
    have hz2 : (if ks[i] = m then t else ts[i]) = z.2 := Option.some.inj h2
    show SqT K _ z.2 ((if z.1 = m then row else f z.1).map V.int)
    rw [hz1, ← hz2]
    by_cases e : ks[i] = m
    · rw [if_pos e, if_pos e]
      exact seqT_putD ht r.at_
    · rw [if_neg e, if_neg e]
      exact seqT_putD (r.row _ (List.mem_of_getElem? e1)) r.at_
/-- a copied dict -/
theorem RowD.copy {ks : List Int} {f : Int → List Int} (r : RowD K H d ks f) {p : Addr} (hp : H p = none) : ∃ kvs, H d = some (.dK kvs) ∧ RowD K (upd H p (.dK kvs)) p ks f := by
  obtain ⟨ts, r⟩ := r
  exact ⟨_, r.at_, ts, r.len, upd_same, fun z hz => (Same.new hp).seqT (r.row z hz)⟩
end
/-! ### the same plan, asked twice -/
theorem bad_one {T : TSpec} {mx : Int → List Int} {names : List Str} (hq : Fq T.q) (ha : Acyc names T.rs) {c : Str × List Int} {b b' : Bool} (x : BadR T mx c b) (y : BadR T mx c b') : b' = b := by
  obtain ⟨f, ls, f1, f2, f3, rfl⟩ := x
  obtain ⟨g, ks, g1, g2, g3, rfl⟩ := y
  have e := heads_one ha f1 g1
  have g4 : SpanRun T.q ((intoM T.rs c.1).map f) ks := run_congr g3 fun m hm => by
    obtain ⟨r, hr, rfl, _⟩ := into_mem hm
    exact e r hr
  have hin : ∀ r ∈ (intoM T.rs c.1).map f, r.length = T.m ∧ InR T.q r := fun r hr => by
    obtain ⟨m, hm, rfl⟩ := List.mem_map.1 hr
    obtain ⟨x, hx, rfl, _⟩ := into_mem hm
    exact f2 x hx
  rw [(run_det hq _ hin f3 g4).1]
theorem order_perm {names : List Str} {rs : List Road} {told : List Str} (hasc : rs.Pairwise fun a b => a.mark < b.mark) (ht : Told names rs told) (hone : ∀ r ∈ rs, r.one ∈ told) : (orderM rs told).Perm (marks rs) := by
  refine (List.perm_ext_iff_of_nodup (order_nodup hasc ht.nd) (marks_nodup hasc)).2 fun m => ⟨fun h => ?_, fun h => ?_⟩
  · obtain ⟨r, hr, rfl, _⟩ := order_of h
    exact List.mem_map.2 ⟨r, hr, rfl⟩
  · obtain ⟨r, hr, rfl⟩ := List.mem_map.1 h
    exact order_mem hr (hone r hr)
end Mg
/-! LQ -/
namespace Mg
open PySem PySem.Spec PyProof.Rows L2 LamX
/-! ### the law -/
def scSome : Scope := { kind := ScopeKind.function, names := [(Str.ofString ".0", NameKind.local), (Str.ofString "_law_row", NameKind.local), (Str.ofString "_law_ask_here", NameKind.cell)], isGenerator := false, isCoroutine := false }
section
variable {P : Program} {w : World} {K : PySem.W.Frag} {mg : Str → Option Value} {base : Heap}
theorem six_ok : ¬ (HT.sIx 6 0 none = 0 ∧ HT.sIx 6 6 (some 5) = 6) := by decide
theorem AskAt.sized {H : Hp} {a p : Addr} {T : TSpec} {w nl rl er gn : Addr} {us : List V} {gs : List (Addr × List Int)} (h : AskAt K H a T w nl rl er gn us gs) (x : Int) (s : SqT K H p ([.ref w, .str T.src, .ref er, .int (T.m : Nat), .ref gn] ++ [.int x])) : AskAt K H p { T with q := x } w nl rl er gn us gs :=
  ⟨s, h.world, h.ear, h.gon, h.rows, h.geq⟩
/-- ask[:5] + (big,) -/
theorem r_sizedE {σ : L2.St} {H : Hp} {Q : VK} {a : Addr} {T : TSpec} {w nl rl er gn : Addr} {us : List V} {gs : List (Addr × List Int)} {x : Int} (h3 : σ[3]? = some (some (.ref a))) (h7 : σ[7]? = some (some (.int x))) (h : AskAt K H a T w nl rl er gn us gs)
    (q : ∀ (u : Addr) (H' : Hp), Same H H' → AskAt K H' u { T with q := x } w nl rl er gn us gs → Q (.ref u) H') : tOp (rCatB K) (tSl (rSlT K) (tVar 3) tNoPart (tPart (tC (.int 5)))) (tTup (tCons (tVar 7) tNil)) σ H Q := by
  repeat tb_rel
  refine r_var h3 ?_
  repeat tb_rel
  refine ⟨_, rfl, ?_⟩
  refine ⟨a, _, rfl, h.at_, six_ok, fun u1 n1 => ?_⟩
  repeat tb_rel
  have f2 := Same.new n1 (o := .tup (cutV [.ref w, .str T.src, .ref er, .int (T.m : Nat), .ref gn, .int T.q] none (some 5)))
  refine r_var h7 ?_
  repeat tb_rel
  refine r_tupN (K := K) fun u2 H2 f3 n2 => ?_
  have e5 : cutV [V.ref w, .str T.src, .ref er, .int (T.m : Nat), .ref gn, .int T.q] none (some 5) = [.ref w, .str T.src, .ref er, .int (T.m : Nat), .ref gn] := cutV_take _ 5
  refine r_catS (f3.seqT (.of upd_same)) n2.sq (by rw [e5]; exact Nat.le_of_ble_eq_true rfl) fun p H3 f4 s => ?_
  rw [e5] at s
  have e := (f2.trans f3).trans f4
  exact q p H3 e ((h.same e).sized x s)
theorem mk_plan {H : Hp} {Q : VK} {tk D : Addr} {T : TSpec} {mx : Int → List Int} (htk : TaskAt K H tk T) (hm : RowD K H D (marks T.rs) mx) (ok : MixOk T mx) (q : ∀ (x : Addr) (H' : Hp), Same H H' → PlanAt K H' x T mx → Q (.ref x) H') :
    MkB (He.ga K "Plan") (sp_Plan_init K) [] E0 [.ref tk, .ref D] H Q := by
  intro x dx hx hdx hne
  have eN : Same H (upd (upd H dx (.own x)) x (.ins (He.ga K "Plan") dx [])) := (Same.new hdx).put hx
  exact ⟨rfl, x, dx, tk, D, T, mx, rfl, upd_same, htk.same eN, hm.same eN, ok, fun G e hp => ⟨rfl, q x G (SameBut.new hx hdx e) hp⟩⟩
theorem acc_empty {β : Type} {E : β → Hp → V → Prop} {cs : List β} {us : List V} {H : Hp} (h : Acc E cs us H) : us.isEmpty = cs.isEmpty := by
  have := h.1
  cases us <;> cases cs <;> first | rfl | cases this
/-- what a plan says -/
structure SaysP (T : TSpec) (mx : Int → List Int) (bs : List Bool) (told : List Str) (f : Int → List Int) : Prop where
  len : bs.length = (casesF T).length
  bad : ∀ z ∈ (casesF T).zip bs, BadR T mx z.1 z.2
  ok : HeadsOk T mx [] f
  tok : Told T.names T.rs told
  all : ∀ n ∈ T.names, n ∈ told
  inr : ∀ r ∈ T.rs, (f r.mark).length = T.m ∧ InR T.q (f r.mark)
/-- [plan.bad_cases(), plan.heads(), plan.good()] -/
theorem r_asked (S : Says K mg) {σ : L2.St} {H : Hp} {Q : VK} {i : Nat} {x : Addr} {T : TSpec} {mx : Int → List Int} {B : BagT} (h : σ[i]? = some (some (.ref x))) (hp : PlanAt K H x T mx) (ht : TabS H (pTab K) qPut) (hb : BagOk K H B)
    (q : ∀ (L D1 D2 : Addr) (us : List V) (bs : List Bool) (told : List Str) (f : Int → List Int) (H' : Hp), ExtT H H' → TabS H' (pTab K) qPut → BagOk K H' B → DueAt K H' L D1 D2 us (selB (casesF T) bs) (orderM T.rs told) f (selB (casesF T) bs).isEmpty → L ≠ B.b → D1 ≠ B.b → SaysP T mx bs told f → Q (.ref L) H') :
    tLst (tCons (tM (He.ga K "Plan") "bad_cases" (sp_bad K) (tVar i) tNil) (tCons (tM (He.ga K "Plan") "heads" (fun vs H Q E => sp_heads K (vs ++ [.ref (He.dflAt ("Plan", some "heads") 0 K)]) H Q E) (tVar i) tNil) (tCons (tM (He.ga K "Plan") "good" (sp_good K) (tVar i) tNil) tNil))) σ H Q := by
  obtain ⟨dxp, a, d, po⟩ := id hp
  obtain ⟨dxt, rk, f0, wb, er, gn, told0, gs, t⟩ := id po.task
  have hself := po.self
  repeat tb_rel
  refine r_var h ?_
  refine r_Mv hself rfl ?_
  repeat tb_rel
  refine ⟨rfl, x, T, mx, rfl, hp, ht, fun D1 G1 bs us e1 t1 hD1 hbs hbad hacc => ?_⟩
  have hb1 := hb.ext e1
  have hne1 := cases_ne hb1 hD1 hacc
  have hp1 := hp.ext e1
  have hs1 := e1 _ _ hself nt_ins
  repeat tb_rel
  refine r_var h ?_
  refine r_Mv hs1 rfl ?_
  repeat tb_rel
  refine ⟨rfl, x, _, T, mx, [], rfl, hp1, dfl_at S _, fun y hy => (by cases hy), fun D2 G2 told f hD2 e2 hd => ?_⟩
  repeat tb_rel
  refine r_var h ?_
  refine r_Mv (e2 _ _ hs1) rfl ?_
  repeat tb_rel
  refine ⟨rfl, x, T, mx, rfl, hp1.same e2, t1.ext e2, fun G3 bs2 e3 t3 hbs2 hbad2 => ?_⟩
  repeat tb_rel
  have hb3 := (hb1.same e2).ext e3
  refine r_lstN fun L G4 hL e4 h4 => ?_
  have e24 : ExtT G1 G4 := ((ExtT.of e2).trans e3).trans (ExtT.of e4)
  have hbb : bs2 = bs := bs_eq (R := BadR T mx) (R' := BadR T mx) (fun c b b' h1 h2 => bad_one t.ok.q t.ok.acyc h1 h2) hbs hbs2 hbad hbad2
  subst hbb
  refine q L D1 D2 us bs2 told f G4 (e1.trans e24) (t3.ext e4) (hb3.same e4) ⟨h4, e24 _ _ hD1 nt_lst, hacc.imp fun c v h => CaseAt.ext h e24, (hd.row.ext e3).same e4⟩ (hb3.ne hL) hne1 ⟨hbs, hbad, hd.ok, hd.tok, hd.all, hd.len⟩
theorem selB_mem {α : Type} {cs : List α} {bs : List Bool} {c : α} (h : c ∈ selB cs bs) : c ∈ cs := by
  unfold selB at h
  obtain ⟨z, hz, rfl⟩ := List.mem_map.1 h
  exact (List.of_mem_zip (show (z.1, z.2) ∈ _ from (List.mem_filter.1 hz).1)).1
theorem sel_few {T : TSpec} (ok : T.Ok) (bs : List Bool) : (selB (casesF T) bs).length ≤ 1000 ∧ ∀ c ∈ selB (casesF T) bs, c.2.length ≤ 1000 := by
  refine ⟨?_, fun c hc => ?_⟩
  · unfold selB
    rw [List.length_map]
    have h1 := List.length_filter_le (fun z : (Str × List Int) × Bool => z.2) ((casesF T).zip bs)
    rw [List.length_zip] at h1
    have := casesF_len T ok
    omega
  · rcases (casesF_ear (selB_mem hc)).2 with h | h
    · rw [h]
      exact Nat.zero_le _
    · have := (ok.gone.2.2 _ h).2.2
      omega
theorem bigs_at {pp p : Int} {v1 v2 : Addr} {H : Hp} (hp : p = 2 ∨ p = 3) (hpp : pp = p - 2) (h1 : SqT K H v1 [.int 4, .int 8, .int 16]) (h2 : SqT K H v2 [.int 9]) : ∃ (ub : Addr) (bigs : List Int), ([.ref v1, .ref v2] : List V)[pp.toNat]? = some (.ref ub) ∧ SqT K H ub (bigs.map V.int) ∧ ∀ b ∈ bigs, Up p b := by
  rcases hp with rfl | rfl
  · subst hpp
    refine ⟨v1, [4, 8, 16], rfl, h1, fun b hb => .inl ⟨rfl, ?_⟩⟩
    simp only [List.mem_cons, List.not_mem_nil, or_false] at hb
    exact hb
  · subst hpp
    refine ⟨v2, [9], rfl, h2, fun b hb => .inr ⟨rfl, ?_⟩⟩
    simp only [List.mem_cons, List.not_mem_nil, or_false] at hb
    exact hb
theorem dp_roads {H : Hp} : ∀ {zs : List (V × Road)}, (∀ z ∈ zs, (∃ t, z.1 = .ref t ∧ SqT K H t (rdV4 z.2)) ∧ PyData.strOk z.2.one = true ∧ PyData.strOk z.2.other = true) → ∃ ds, DpAll K H (zs.map (·.1)) ds ∧ ∀ d ∈ ds, Lay 2 d
  | [], _ => ⟨[], .nil, fun d h => by cases h⟩
  | z :: zs, h => by
    obtain ⟨⟨t, e, ht⟩, h1, h2⟩ := h z (List.mem_cons_self ..)
    obtain ⟨ds, d1, d2⟩ := dp_roads (zs := zs) fun y hy => h y (List.mem_cons_of_mem _ hy)
    refine ⟨.tuple [.int z.2.mark, .str z.2.one, .str z.2.other, .int z.2.slow] :: ds, ?_, fun d hd => ?_⟩
    · rw [List.map_cons, e]
      exact .cons (.tup ht (.cons (.int _) (.cons (.str _) (.cons (.str _) (.cons (.int _) .nil))))) d1
    · rcases List.mem_cons.1 hd with rfl | hd
      · refine lay_tup (n := 1) fun d hd => ?_
        simp only [List.mem_cons, List.not_mem_nil, or_false] at hd
        rcases hd with rfl | rfl | rfl | rfl
        · exact lay_int 1 _
        · exact ⟨by simp only [PyData.canLay0]; exact h1, by simp [PyData.depth]⟩
        · exact ⟨by simp only [PyData.canLay0]; exact h2, by simp [PyData.depth]⟩
        · exact lay_int 1 _
      · exact d2 d hd
theorem extB_put {a F : Addr} {H H1 G : Hp} {o : HO} (e : ExtB a H H1) (e2 : ExtB a H G) (h : H1 F = none) : ExtB a H (upd G F o) := fun b u n q t => by
  rw [upd_ne (ne_of_none (e b u n q t) h)]
  exact e2 b u n q t
theorem sc_law : FnScope ["_law_script", "_law_bag_here", "_law_turn", "_law_ask_here", "_law_mixers_here", "_law_scheme", "_law_due", "_law_big", "_law_late", "_law_some", "_law_bent", "_law_mark", "_law_fresh", "_law_row", "_law_one"] ["_law_script"] d_law.scope := ⟨rfl, rfl, rfl, by decide +kernel, rfl, by decide +kernel, by decide +kernel⟩
def sp_law (K : PySem.W.Frag) : Sp := SpN 1 fun vs H Q => ∃ (a : Addr) (ns : List Int), vs = [.ref a] ∧ SqL K H a (ns.map V.int) ∧ ns.length ≤ 63 ∧ TabS H (pTab K) qPut ∧ ∀ H', Q (.bl true) H'
theorem raw_law (S : Says K mg) (TB : TabB base mg (cPut K) (pTab K)) {fd : FuncData} (F : FunD K d_law.name d_law.qual d_law.params d_law.body d_law.scope [] [] (He.fAd K d_law.at_) fd) :
    FnOk P w K mg base CX0 11 (He.fAd K d_law.at_) fd ["_law_script"] (sp_law K) := by
  refine fn_ok F sc_law rfl fun cdv A outer s H vs Q E hr h => ?_
  obtain ⟨a, ns, rfl, hns, hnl, htab, k⟩ := h
  obtain ⟨fdP, FP⟩ := f_Plan_init S
  have bP := FP.bindsN (ps := ["self", "task", "mixers"]) (fun _ _ _ _ _ _ us hl => match us, hl with | [_, _, _], _ => rfl)
  refine ⟨_, (pss_cons (ps_set (i := 1) sc_law.nd rfl (by first | exact Or.inl rfl | exact Or.inr rfl) (pc (ok_L_bag (K := K) S) (hr.mono (by decide)) (g_L_bag S) (f_L_bag S).choose_spec.kp rfl (pa_cons (pv 0) pa_nil))) (pss_cons (ps_for PassesOwn.never rfl (pi_range1 rfl (n_range S) (pa_cons pe_int pa_nil)) (pg_name (i := 2) sc_law.nd rfl (by first | exact Or.inl rfl | exact Or.inr rfl)) (pss_cons (ps_set (i := 3) sc_law.nd rfl (by first | exact Or.inl rfl | exact Or.inr rfl) (pc (ok_L_ask (K := K) S) (hr.mono (by decide)) (g_L_ask S) (f_L_ask S).choose_spec.kp rfl (pa_cons (pv 1) (pa_cons pe_int (pa_cons pe_int pa_nil))))) (pss_cons (ps_set (i := 3) sc_law.nd rfl (by first | exact Or.inl rfl | exact Or.inr rfl) (pe_op (op_catB K) (pe_slice (sl_tupK K) (pv 3) po_none (po_some pe_int)) (pe_tup (pa_cons (pe_op op_add pe_int (pc (ok_L_pull (K := K) S) (hr.mono (by decide)) (g_L_pull S) (f_L_pull S).choose_spec.kp rfl (pa_cons (pv 1) (pa_cons pe_int pa_nil)))) pa_nil)))) (pss_cons (ps_set (i := 4) sc_law.nd rfl (by first | exact Or.inl rfl | exact Or.inr rfl) (pc (ok_L_mixers (K := K) S) (hr.mono (by decide)) (g_L_mixers S) (f_L_mixers S).choose_spec.kp rfl (pa_cons (pv 1) (pa_cons (pv 3) pa_nil)))) (pss_cons (ps_set (i := 5) sc_law.nd rfl (by first | exact Or.inl rfl | exact Or.inr rfl) (pe_make (k_Plan (K := K) S) (raw_Plan_init S FP) (hr.mono (by decide)) rfl (g_Plan S) bP .nil pass0 (pa_cons (pc (ok_L_task (K := K) S) (hr.mono (by decide)) (g_L_task S) (f_L_task S).choose_spec.kp rfl (pa_cons (pv 3) pa_nil)) (pa_cons (pv 4) pa_nil)))) (pss_cons (ps_set (i := 6) sc_law.nd rfl (by first | exact Or.inl rfl | exact Or.inr rfl) (pe_lst (pa_cons (pm0 (ok_Plan_bad_cases (K := K) S TB) (hr.mono (by decide)) (c_Plan (K := K) S) (m_Plan_bad_cases (K := K) S) (pv 5)) (pa_cons (pm0 (ok_Plan_heads0 (K := K) S) (hr.mono (by decide)) (c_Plan (K := K) S) (m_Plan_heads (K := K) S) (pv 5)) (pa_cons (pm0 (ok_Plan_good (K := K) S TB) (hr.mono (by decide)) (c_Plan (K := K) S) (m_Plan_good (K := K) S) (pv 5)) pa_nil))))) (pss_cons (ps_for PassesOwn.never rfl (pi_tupK K (pe_ix (ix_listK K) (pe_lst (pa_cons (pe_tup (pa_cons pe_int (pa_cons pe_int (pa_cons pe_int pa_nil)))) (pa_cons (pe_tup (pa_cons pe_int pa_nil)) pa_nil))) (pe_op op_sub (pe_ix (ix_tupK K) (pv 3) pe_int (fun _ _ => rfl)) pe_int) (fun _ _ => rfl))) (pg_name (i := 7) sc_law.nd rfl (by first | exact Or.inl rfl | exact Or.inr rfl)) (pss_cons (ps_set (i := 8) sc_law.nd rfl (by first | exact Or.inl rfl | exact Or.inr rfl) (pe_make (k_Plan (K := K) S) (raw_Plan_init S FP) (hr.mono (by decide)) rfl (g_Plan S) bP .nil pass0 (pa_cons (pc (ok_L_task (K := K) S) (hr.mono (by decide)) (g_L_task S) (f_L_task S).choose_spec.kp rfl (pa_cons (pe_op (op_catB K) (pe_slice (sl_tupK K) (pv 3) po_none (po_some pe_int)) (pe_tup (pa_cons (pv 7) pa_nil))) pa_nil)) (pa_cons (pv 4) pa_nil)))) (pss_cons (ps_if (pt_not (pt_val (pc (ok_L_alike (K := K) S 5) (hr.mono (by decide)) (g_L_alike S) (f_L_alike S).choose_spec.kp rfl (pa_cons (pe_lst (pa_cons (pm0 (ok_Plan_bad_cases (K := K) S TB) (hr.mono (by decide)) (c_Plan (K := K) S) (m_Plan_bad_cases (K := K) S) (pv 8)) (pa_cons (pm0 (ok_Plan_heads0 (K := K) S) (hr.mono (by decide)) (c_Plan (K := K) S) (m_Plan_heads (K := K) S) (pv 8)) (pa_cons (pm0 (ok_Plan_good (K := K) S TB) (hr.mono (by decide)) (c_Plan (K := K) S) (m_Plan_good (K := K) S) (pv 8)) pa_nil)))) (pa_cons (pv 6) pa_nil))))) (pss_one (ps_ret pe_bl)) pss_nil) (pss_cons (ps_setLc (i := 9) (own := [("_law_row", 13)]) rfl sc_law.nd rfl rfl (sw_true rfl rfl rfl (by decide +kernel)) (pi_listK K (pe_ix (ix_tupK K) (pe_ix (ix_tupK K) (pv 3) pe_int (fun _ _ => rfl)) pe_int (fun _ _ => rfl))) (blkOk_by (N := ["_law_script", "_law_bag_here", "_law_turn", "_law_ask_here", "_law_mixers_here", "_law_scheme", "_law_due", "_law_big", "_law_late", "_law_some", "_law_bent", "_law_mark", "_law_fresh", "_law_row", "_law_one"]) (sc := d_law.scope) (by decide +kernel)) (fun _ _ _ _ _ => (pg_name (i := 13) sc_law.nd rfl (by first | exact Or.inl rfl | exact Or.inr rfl))) (fun _ _ _ _ _ => (pts_one (pt_cmpR (op_notIn_seqK K) (pe_ix (ix_tupK K) (pv 13) pe_int (fun _ _ => rfl)) (pe_lc (own := [("_law_one", 14)]) rfl sc_law.nd (pi_listK K (pe_ix (ix_tupK K) (pe_ix (ix_tupK K) (pv 3) pe_int (fun _ _ => rfl)) pe_int (fun _ _ => rfl))) (blkOk_by (N := ["_law_script", "_law_bag_here", "_law_turn", "_law_ask_here", "_law_mixers_here", "_law_scheme", "_law_due", "_law_big", "_law_late", "_law_some", "_law_bent", "_law_mark", "_law_fresh", "_law_row", "_law_one"]) (sc := scSome) (by decide +kernel)) (fun _ _ _ _ _ => (pg_name (i := 14) sc_law.nd rfl (by first | exact Or.inl rfl | exact Or.inr rfl))) (fun _ _ _ _ _ => pts_nil) (fun _ _ _ _ _ => (pe_ix (ix_tupK K) (pv 14) pe_int (fun _ _ => rfl)))) rfl))) (fun _ _ _ _ _ => (pv 13))) (pss_one (ps_if (pt_cmpR (op_neDK K (hu64 hr)) (pv 9) (pe_lst pa_nil) (nomark _)) (pss_cons (ps_set (i := 10) sc_law.nd rfl (by first | exact Or.inl rfl | exact Or.inr rfl) (pe_callTy call_dictD (by rfl) (n_dict S) (by decide +kernel) (pa_cons (pv 4) pa_nil))) (pss_cons (ps_set (i := 11) sc_law.nd rfl (by first | exact Or.inl rfl | exact Or.inr rfl) (pe_ix (ix_tupK K) (pc (ok_L_pick (K := K) S) (hr.mono (by decide)) (g_L_pick S) (f_L_pick S).choose_spec.kp rfl (pa_cons (pv 1) (pa_cons (pv 9) pa_nil))) pe_int (fun _ _ => rfl))) (pss_cons (ps_dput (hu_of hr) (pv 10) (pv 11) (pc (ok_L_scaled (K := K) S) (hr.mono (by decide)) (g_L_scaled S) (f_L_scaled S).choose_spec.kp rfl (pa_cons (pv 7) (pa_cons (pe_dget (hu_of hr) (pv 10) (pv 11) (fun _ _ => rfl)) (pa_cons (pe_op op_add pe_int (pc (ok_L_pull (K := K) S) (hr.mono (by decide)) (g_L_pull S) (f_L_pull S).choose_spec.kp rfl (pa_cons (pv 1) (pa_cons (pe_op op_sub (pv 7) pe_int) pa_nil)))) pa_nil)))) rfl) (pss_cons (ps_set (i := 12) sc_law.nd rfl (by first | exact Or.inl rfl | exact Or.inr rfl) (pe_make (k_Plan (K := K) S) (raw_Plan_init S FP) (hr.mono (by decide)) rfl (g_Plan S) bP .nil pass0 (pa_cons (pc (ok_L_task (K := K) S) (hr.mono (by decide)) (g_L_task S) (f_L_task S).choose_spec.kp rfl (pa_cons (pe_op (op_catB K) (pe_slice (sl_tupK K) (pv 3) po_none (po_some pe_int)) (pe_tup (pa_cons (pv 7) pa_nil))) pa_nil)) (pa_cons (pv 10) pa_nil)))) (pss_one (ps_if (pt_not (pt_val (pc (ok_L_alike (K := K) S 4) (hr.mono (by decide)) (g_L_alike S) (f_L_alike S).choose_spec.kp rfl (pa_cons (pm0 (ok_Plan_bad_cases (K := K) S TB) (hr.mono (by decide)) (c_Plan (K := K) S) (m_Plan_bad_cases (K := K) S) (pv 12)) (pa_cons (pe_ix (ix_listK K) (pv 6) pe_int (fun _ _ => rfl)) pa_nil))))) (pss_one (ps_ret pe_bl)) pss_nil)))))) pss_nil)))))) (pss_one (ps_if (pt_cmpR op_ne (pe_ix (ix_listK K) (pv 6) pe_int (fun _ _ => rfl)) (pe_cmpR (op_eqDK K (hu64 hr)) (pe_ix (ix_listK K) (pv 6) pe_int (fun _ _ => rfl)) (pe_lst pa_nil) (nomark _)) (nomark _)) (pss_one (ps_ret pe_bl)) pss_nil))))))))) (pss_one (ps_ret pe_bl)))), ?_⟩
  repeat tb_rel
  refine ⟨rfl, a, ns, rfl, hns, hnl, fun B H1 hB hBc e1 hb1 => ?_⟩
  repeat tb_rel
  refine ⟨_, rfl, by omega, by omega, ?_⟩
  refine for_B walk_range (fun i σ G => ∃ x2 x3 x4 x5 x6 x7 x8 x9 x10 x11 x12, σ = [some (.ref a), some (.ref B.b), x2, x3, x4, x5, x6, x7, x8, x9, x10, x11, x12, none, none] ∧ BagOk K G B ∧ TabS G (pTab K) qPut)
    ⟨_, _, _, _, _, _, _, _, _, _, _, rfl, hb1, htab.ext e1⟩ (fun _ _ _ _ _ => trivial) ?_ ?_
  · rintro i v σ G0 G hi ⟨x2, x3, x4, x5, x6, x7, x8, x9, x10, x11, x12, rfl, hb, ht⟩ ⟨rfl, rfl⟩
    repeat tb_rel
    -- what is asked
    refine ⟨rfl, B, rfl, hb, fun ak G1 T wd nl rl er gn us gs f1 hb1 ha0 ap wok aok hq0 => ?_⟩
    repeat tb_rel
    have ht1 := tabS_bag ht hb f1
    refine ⟨_, rfl, ?_⟩
    refine ⟨ak, _, rfl, ha0.at_, six_ok, fun u1 n1 => ?_⟩
    repeat tb_rel
    have e5 : cutV [V.ref wd, .str T.src, .ref er, .int (T.m : Nat), .ref gn, .int T.q] none (some 5) = [.ref wd, .str T.src, .ref er, .int (T.m : Nat), .ref gn] := cutV_take _ 5
    rw [e5]
    have f2 := Same.new n1 (o := .tup [.ref wd, .str T.src, .ref er, .int (T.m : Nat), .ref gn])
    have s1 : SqT K (upd G1 u1 (.tup [.ref wd, .str T.src, .ref er, .int (T.m : Nat), .ref gn])) u1 [.ref wd, .str T.src, .ref er, .int (T.m : Nat), .ref gn] := .of upd_same
    have hb2 := hb1.same f2
    have ht2 := ht1.ext f2
    have ha2 := ha0.same f2
    generalize upd G1 u1 (.tup [.ref wd, .str T.src, .ref er, .int (T.m : Nat), .ref gn]) = G2 at f2 s1 hb2 ht2 ha2
    refine ⟨rfl, B, _, rfl, hb2, ⟨by omega, by omega⟩, fun pp G3 hp0 hp1 f3 hb3 => ?_⟩
    repeat tb_rel
    refine r_tupN (K := K) fun u2 G4 f4 n4 => ?_
    refine r_catS (f4.seqT (seqT_bag f3 hb2 s1)) n4.sq (Nat.le_of_ble_eq_true rfl) fun ak2 G5 f5 s5 => ?_
    repeat tb_rel
    have ha5 := (((ha2.bag hb2 ap f3).same f4).same f5).sized (2 + pp) s5
    have hb5 := (hb3.same f4).same f5
    have ht5 := ((tabS_bag ht2 hb2 f3).ext f4).ext f5
    have hp : 2 + pp = 2 ∨ 2 + pp = 3 := by omega
    have hpp : pp = (2 + pp) - 2 := by omega
    generalize hpe : 2 + pp = p at ha5 hp hpp
    have hfp : Fq p := by
      unfold Fq
      omega
    have okp := aok p hfp
    clear s5 s1 n4 ha0 ha2 hb1 hb2 hb3 ht1 ht2 f1 f2 f3 f4 f5 n1 hq0 hb ht
    -- the mixers
    refine ⟨rfl, B, ak2, { T with q := p }, wd, nl, rl, er, gn, us, gs, rfl, hb5, ha5, ap, wok, okp.m, ⟨by show 0 < p; omega, by show p < 100; omega⟩, by show 2 ≤ p; omega, fun Dm G6 mx f6 hb6 hDm hmx hmo => ?_⟩
    repeat tb_rel
    have ha6 := ha5.bag hb5 ap f6
    have ht6 := tabS_bag ht5 hb5 f6
    clear ha5 hb5 ht5 hDm
    -- the plan
    refine ⟨rfl, ak2, { T with q := p }, wd, nl, rl, er, gn, us, gs, rfl, ha6, wok, okp, fun tk G7 f7 htk => ?_⟩
    repeat tb_rel
    refine mk_plan (htk) (hmx.same f7) hmo fun pl G8 f8 hpl => ?_
    with_reducible refine r_gn ?_
    with_reducible refine r_seq ?_
    with_reducible refine r_asg ?_
    have ha8 := (ha6.same f7).same f8
    have ht8 := (ht6.ext f7).ext f8
    have hb8 := (hb6.same f7).same f8
    have hmx8 := (hmx.same f7).same f8
    clear ha6 ht6 hb6 hmx htk
    refine r_asked (i := 5) S (by with_unfolding_all exact rfl) hpl ht8 hb8 fun L D1 D2 usD bs told f G9 f9 ht9 hb9 hdue hL hD1 hsay => ?_
    repeat tb_rel
    refine r_tupN (K := K) fun v1 G10 f10 n10 => ?_
    repeat tb_rel
    refine r_tupN (K := K) fun v2 G11 f11 n11 => ?_
    repeat tb_rel
    refine r_lstN fun vl G12 hvl f12 h12 => ?_
    repeat tb_rel
    have e912 := (f10.trans f11).trans f12
    have ha12 := (ha8.extB hb8 ap (ExtB.ofT f9)).same e912
    have hmx12 := (hmx8.extB hb8 (ExtB.ofT f9)).same e912
    have hb12 := hb9.same e912
    have ht12 := ht9.ext e912
    have hdue12 := hdue.extB hb9 hL hD1 (.of e912)
    refine r_ixT ha12.at_ (j := 5) rfl rfl ?_
    repeat tb_rel
    obtain ⟨ub, bigs, hub, hsub, hbig⟩ := bigs_at (K := K) (H := G12) hp hpp ((f11.trans f12).seqT n10.sq) (f12.seqT n11.sq)
    refine r_ixL (.of h12) (j := pp.toNat) (by show p - 2 = _; omega) hub ?_
    refine ⟨ub, rfl, ⟨_, hsub⟩, ?_⟩
    clear ha8 ht8 hb8 hmx8 hb9 ht9 hdue hub h12 f12 n10 n11 f11 f10 e912 f9 f8 f7 f6
    have hmnd := marks_nodup wok.asc
    have hmk60 : (marks T.rs).length ≤ 60 := by
      unfold marks
      rw [List.length_map]
      have := wok.rlen
      omega
    have hperm : (orderM T.rs told).Perm (marks T.rs) := order_perm wok.asc hsay.tok fun r hr => hsay.all _ (okp.acyc.1 r hr)
    have hfl : ∀ k ∈ marks T.rs, (f k).length ≤ 1000 := fun k hk => by
      obtain ⟨r, hr, rfl⟩ := List.mem_map.1 hk
      have h1 := (hsay.inr r hr).1
      have h2 := okp.m
      have h3 : (f r.mark).length = T.m := h1
      have h4 : T.m ≤ 4 := h2.2
      omega
    have hfew := sel_few okp bs
    refine for_B (walk_tup (xs := bigs.map V.int)) (fun i σ G => ∃ y2 x7 x8 x9 x10 x11 x12, σ = [some (.ref a), some (.ref B.b), y2, some (.ref ak2), some (.ref Dm), some (.ref pl), some (.ref L), x7, x8, x9, x10, x11, x12, none, none] ∧ ExtB B.b G12 G ∧ BagOk K G B ∧ TabS G (pTab K) qPut)
      ⟨_, _, _, _, _, _, _, rfl, .of (Same.refl _), hb12, ht12⟩ (fun i σ G _ ⟨_, _, _, _, _, _, _, _, e, _⟩ => seqT_B e hb12 hsub) ?_ ?_
    · rintro j v σ G0 G hj ⟨y2, x7, x8, x9, x10, x11, x12, rfl, e, hb, ht⟩ ⟨rfl, hv⟩
      obtain ⟨b, hbm, rfl⟩ := map_get hv
      have hup := hbig b (List.mem_of_getElem? hbm)
      have okb := aok b hup.q
      have ha := ha12.extB hb12 ap e
      have hmx := hmx12.extB hb12 e
      have hdue := hdue12.extB hb12 hL hD1 e
      repeat (with_reducible first | refine r_gn ?_ | refine r_seq ?_ | refine r_asg ?_ | refine r_make ?_ | refine r_cons ?_ | refine r_F ?_ | refine r_next ?_ | refine r_if ?_ | refine r_not ?_ | refine r_B ?_)
      refine r_sizedE (by with_unfolding_all exact rfl) (by with_unfolding_all exact rfl) ha fun u G1 f1 ha1 => ?_
      repeat tb_rel
      refine ⟨rfl, u, { T with q := b }, wd, nl, rl, er, gn, us, gs, rfl, ha1, wok, okb, fun tk2 G2 f2 htk2 => ?_⟩
      repeat tb_rel
      refine mk_plan htk2 ((hmx.same f1).same f2) (mix_up hup hmo) fun pl2 G3 f3 hpl2 => ?_
      repeat (with_reducible first | refine r_gn ?_ | refine r_seq ?_ | refine r_asg ?_ | refine r_make ?_ | refine r_cons ?_ | refine r_F ?_ | refine r_next ?_ | refine r_if ?_ | refine r_not ?_ | refine r_B ?_)
      have e3 := (f1.trans f2).trans f3
      refine r_asked (i := 8) S (by with_unfolding_all exact rfl) hpl2 (ht.ext e3) (hb.same e3) fun L2 E1 E2 us2 bs2 told2 g G4 f4 ht4 hb4 hdue2 hL2 hE1 hsay2 => ?_
      repeat tb_rel
      have hbs : bs2 = bs := bs_eq (R := BadR { T with q := p } mx) (R' := BadR { T with q := b } mx) (fun c x y h1 h2 => bad_up hup okp.acyc hmo h1 h2) hsay.len hsay2.len hsay.bad hsay2.bad
      rw [hbs] at hdue2
      have hmob : MixOk { T with q := b } mx := mix_up hup hmo
      have hff : ∀ k ∈ marks T.rs, g k = f k := fun k hk => by
        obtain ⟨r, hr, rfl⟩ := List.mem_map.1 hk
        exact heads_one (T := { T with q := b }) okp.acyc (heads_up hup hmo hsay.inr hsay.ok) hsay2.ok r hr
      have e4 : ExtB B.b G G4 := (ExtB.of e3).trans (ExtB.ofT f4)
      have hdue4 := hdue.extB hb hL hD1 e4
      have d1 := ad_due hdue4 hfew.1 hfew.2 hperm hmnd hmk60 hfl (fun _ _ => rfl)
      have d2 := ad_due hdue2 hfew.1 hfew.2 (order_perm wok.asc hsay2.tok fun r hr => hsay2.all _ (okp.acyc.1 r hr)) hmnd hmk60 hfl hff
      refine ⟨rfl, _, _, _, rfl, d2, d1, fun G5 e5 => ?_⟩
      repeat tb_rel
      refine iteF ?_
      repeat tb_rel
      have ha5 := (ha.extB hb ap e4).same e5
      have hb5 := hb4.same e5
      have ht5 := ht4.ext e5
      have hmx5 := (hmx.extB hb e4).same e5
      have hdue5 : DueAt K G5 L D1 D2 usD (selB (casesF { T with q := p }) bs) (orderM T.rs told) f (selB (casesF { T with q := p }) bs).isEmpty := hdue4.extB hb4 hL hD1 (.of e5)
      have e05 : ExtB B.b G12 G5 := (e.trans e4).trans (.of e5)
      clear d1 d2 hdue2 hdue4 hdue ha hmx hb ht htk2 hpl2 f1 f2 f3 f4 e3 ht4 hb4 ha1 hL2 hE1 e4 e5
      -- the lines into houses that nothing leaves
      have hlin := ha5.world.lin
      have hroa := ha5.world.roa
      have hlz : us.length < sizeLine := by
        rw [hlin.1]
        exact Nat.lt_of_le_of_lt wok.rlen (by decide)
      refine r_ixT ha5.at_ (j := 0) rfl rfl ?_
      repeat tb_rel
      refine r_ixT ha5.world.at_ (j := 1) rfl rfl ?_
      refine ⟨_, rfl, ⟨_, .of hroa⟩, ?_⟩
      refine lc_L (walk_list (xs := us)) (us.zip T.rs) (by rw [List.length_zip, hlin.1]; exact Nat.min_self _) hlz (fun z => !decide (z.2.other ∈ T.rs.map (·.one))) (fun z => z.1) (fun F e => .of (e _ _ hroa)) ?_ ?_
      · rintro i2 z F y F' R R' hz e2 ⟨rfl, hy⟩ hR hR'
        obtain ⟨hz1, hz2⟩ := List.getElem?_zip_eq_some.1 hz
        obtain rfl : y = z.1 := Option.some.inj (hy.symm.trans hz1)
        obtain ⟨t, et, htt⟩ := hlin.2 i2 z.2 z.1 hz2 hz1
        have haF := ha5.same e2
        rw [et] at hR ⊢
        repeat tb_rel
        refine ⟨rfl, ?_⟩
        repeat tb_rel
        refine r_ixT (e2.seqT htt) (j := 2) rfl rfl ?_
        repeat tb_rel
        refine r_ixT haF.at_ (j := 0) rfl rfl ?_
        repeat tb_rel
        refine r_ixT haF.world.at_ (j := 1) rfl rfl ?_
        refine ⟨_, rfl, ⟨_, .of haF.world.roa⟩, ?_⟩
        refine lc_M (walk_list (xs := us)) T.rs hlin.1.symm hlz (fun x => .str x.one) (fun F e3 => .of (e3 _ _ haF.world.roa)) ?_ ?_
        · rintro i3 x F2 y F2' R2 hx e3 ⟨rfl, hy2⟩ hR2
          obtain ⟨t2, rfl, ht2⟩ := hlin.2 i3 x y hx hy2
          repeat tb_rel
          refine ⟨rfl, ?_⟩
          repeat tb_rel
          refine r_ixT ((e2.trans e3).seqT ht2) (j := 1) rfl rfl ?_
          exact hR2 _ (Same.refl _)
        · intro D5 H5 hD5 e6 h6
          repeat tb_rel
          rw [show (T.rs.map fun x => V.str x.one) = (T.rs.map (·.one)).map V.str by rw [List.map_map]; rfl] at h6
          refine r_in (.inl (.of h6)) rfl (flat_str _) ?_
          rw [inV_str]
          repeat tb_rel
          refine ite_n (fun h1 => ?_) fun h1 => ?_
          · repeat tb_rel
            exact hR (by show (!decide (z.2.other ∈ T.rs.map (·.one))) = true; rw [decide_eq_false h1]; rfl) _ e6
          · exact hR' (by show (!decide (z.2.other ∈ T.rs.map (·.one))) = false; rw [decide_eq_true h1]; rfl) _ e6
      intro Ds H6 hDs e6 h6
      repeat tb_rel
      refine r_lstN fun De H7 hDe e7 h7 => ?_
      have e67 := e6.trans e7
      have ha7 := ha5.same e67
      have hb7 := hb5.same e67
      have ht7 := ht5.ext e67
      have hmx7 := hmx5.same e67
      have hDsb := hb5.ne hDs
      have h67 := e7 _ _ h6
      have e07 : ExtB B.b G12 H7 := e05.trans (.of e67)
      have hdue7 := hdue5.extB hb5 hL hD1 (.of e67)
      have hzs : ∀ z ∈ (us.zip T.rs).filter (fun z => !decide (z.2.other ∈ T.rs.map (·.one))), (∃ t, z.1 = .ref t ∧ SqT K H7 t (rdV4 z.2)) ∧ z.2 ∈ T.rs ∧ ∀ r ∈ T.rs, r.one ≠ z.2.other := fun z hz => by
        obtain ⟨hz1, hz2⟩ := List.mem_filter.1 hz
        obtain ⟨i2, hi2⟩ := List.getElem?_of_mem hz1
        obtain ⟨h1, h2⟩ := List.getElem?_zip_eq_some.1 hi2
        obtain ⟨t, et, htt⟩ := hlin.2 i2 z.2 z.1 h2 h1
        refine ⟨⟨t, et, e67.seqT htt⟩, List.mem_of_getElem? h2, fun r hr hro => ?_⟩
        have : z.2.other ∈ T.rs.map (·.one) := List.mem_map.2 ⟨r, hr, hro⟩
        rw [decide_eq_true this] at hz2
        cases hz2
      have hzl : ((us.zip T.rs).filter (fun z => !decide (z.2.other ∈ T.rs.map (·.one)))).length ≤ 12 := by
        refine Nat.le_trans (List.length_filter_le _ _) ?_
        rw [List.length_zip, hlin.1, Nat.min_self]
        exact wok.rlen
      generalize (us.zip T.rs).filter (fun z => !decide (z.2.other ∈ T.rs.map (·.one))) = zs at h67 hzs hzl
      obtain ⟨ds, dd1, dd2⟩ := dp_roads (K := K) (H := H7) (zs := zs) fun z hz => by
        obtain ⟨h1, h2, _⟩ := hzs z hz
        exact ⟨h1, okp.txt _ (okp.acyc.1 _ h2), okp.txt _ (okp.others _ h2)⟩
      refine r_neNil (.of h67) (.of h7) dd1 dd2 (by omega) ?_
      repeat tb_rel
      clear hlin hroa h6 e6 e7 dd1 dd2 ha5 hb5 ht5 hmx5 hdue5 e05
      cases zs with
      | nil =>
        refine iteF ?_
        repeat tb_rel
        exact ⟨_, _, _, _, _, _, _, rfl, e07, hb7, ht7⟩
      | cons z0 zs =>
        refine iteT ?_
        repeat tb_rel
        obtain ⟨tsm, hrm⟩ := id hmx7
        refine ⟨Dm, _, rfl, .inl hrm.at_, fun Db hDb => ?_⟩
        repeat tb_rel
        have e8 := Same.new hDb (o := .dK (entD (marks T.rs) tsm))
        have hmb8 : RowD K (upd H7 Db (.dK (entD (marks T.rs) tsm))) Db (marks T.rs) mx := ⟨tsm, hrm.len, upd_same, fun z hz => e8.seqT (hrm.row z hz)⟩
        have h68 := e8 _ _ h67
        have hb8 := hb7.same e8
        have ht8 := ht7.ext e8
        have e08 : ExtB B.b G12 (upd H7 Db (.dK (entD (marks T.rs) tsm))) := e07.trans (.of e8)
        have hzs8 : ∀ z ∈ z0 :: zs, (∃ t, z.1 = .ref t ∧ SqT K (upd H7 Db (.dK (entD (marks T.rs) tsm))) t (rdV4 z.2)) ∧ z.2 ∈ T.rs ∧ ∀ r ∈ T.rs, r.one ≠ z.2.other := fun z hz => let ⟨⟨t, e1, e2⟩, h⟩ := hzs z hz; ⟨⟨t, e1, e8.seqT e2⟩, h⟩
        have hDbb := hb7.ne hDb
        generalize upd H7 Db (.dK (entD (marks T.rs) tsm)) = H8 at e8 hmb8 h68 hb8 ht8 e08 hzs8
        -- the pick
        refine ⟨rfl, B, Ds, _, rfl, hb8, h68, hDsb, (fun z => by cases z), by rw [List.length_map]; omega, fun ip vp H9 hvp f9 hb9 => ?_⟩
        obtain ⟨z, hz, rfl⟩ := map_get hvp
        obtain ⟨⟨t, et, htt⟩, hzr, hleaf⟩ := hzs8 z (List.mem_of_getElem? hz)
        repeat tb_rel
        rw [et]
        refine r_ixT (seqT_bag f9 hb8 htt) (j := 0) rfl rfl ?_
        repeat tb_rel
        have ht9 := tabS_bag ht8 hb8 f9
        have hmb9 := hmb8.extB hb8 (ExtB.bag f9)
        have e09 := e08.trans (ExtB.bag f9)
        have hmem : z.2.mark ∈ marks T.rs := List.mem_map.2 ⟨z.2, hzr, rfl⟩
        obtain ⟨tm, hdg, htm⟩ := hmb9.get hmnd hmem
        refine ⟨Db, _, rfl, hdg, ?_⟩
        repeat tb_rel
        have hb4 : 4 ≤ b ∧ b ≤ 16 := by
          rcases hup with h | h <;> omega
        refine ⟨rfl, B, b - 1, rfl, hb9, ⟨by omega, by omega⟩, fun y G1 hy0 hy1 f1 hb1 => ?_⟩
        repeat tb_rel
        have hmo1 := hmob z.2 hzr
        have hin12 : (mx z.2.mark).length ≤ 1000 := by
          rw [hmo1.1]
          unfold inputsN
          split
          · have h4 : T.m ≤ 4 := okp.m.2
            show T.m ≤ 1000
            omega
          · unfold intoM marks
            rw [List.length_map]
            have := List.length_filter_le (fun x : Road => decide (x.other = z.2.one)) T.rs
            have := wok.rlen
            show (T.rs.filter fun x : Road => decide (x.other = z.2.one)).length ≤ 1000
            omega
        refine ⟨rfl, b, tm, mx z.2.mark, 1 + y, rfl, hup.b4, seqT_bag f1 hb9 htm, hmo1.2, ⟨by omega, by omega⟩, hin12, fun u2 G2 e2 n2 => ?_⟩
        repeat tb_rel
        have e12 : ExtB B.b H9 G2 := (ExtB.bag f1).trans (.of e2)
        have ht2 := (tabS_bag ht9 hb9 f1).ext e2
        have hb2 := hb1.same e2
        have e02 := e09.trans e12
        have hc : 0 ≤ 1 + y ∧ 1 + y < b := ⟨by omega, by omega⟩
        have hts : (mx z.2.mark).map (fun x => timesL b x (1 + y)) = rscale b (mx z.2.mark) (1 + y) := List.map_congr_left fun x hx => (comm hup.b4 (hmo1.2 x hx) hc).2
        rw [hts] at n2
        obtain ⟨kvs, hk1, hk2, hset⟩ := (hmb9.extB hb9 e12).set hmnd hmem n2.sq
        refine ⟨Db, _, rfl, DPut.k (k := Sum.inl z.2.mark) hk1 (by rw [hk2]; exact Nat.lt_of_le_of_lt hmk60 (by decide)), ?_⟩
        have e03 : ExtB B.b G12 (upd G2 Db (.dK (putK kvs (Sum.inl z.2.mark) (.ref u2)))) := extB_put e07 e02 hDb
        have hb3 := hb2.put hb7 hDb (o := .dK (putK kvs (Sum.inl z.2.mark) (.ref u2)))
        have ht3 := tabS_put (o' := .dK (putK kvs (Sum.inl z.2.mark) (.ref u2))) ht2 hk1 nt_dK
        generalize upd G2 Db (.dK (putK kvs (Sum.inl z.2.mark) (.ref u2))) = G3 at hset e03 hb3 ht3
        have ha3 := ha12.extB hb12 ap e03
        repeat (with_reducible first | refine r_gn ?_ | refine r_seq ?_ | refine r_asg ?_ | refine r_make ?_ | refine r_cons ?_ | refine r_F ?_ | refine r_next ?_ | refine r_if ?_ | refine r_not ?_ | refine r_B ?_)
        refine r_sizedE (by with_unfolding_all exact rfl) (by with_unfolding_all exact rfl) ha3 fun u3 G4 f4 ha4 => ?_
        repeat tb_rel
        refine ⟨rfl, u3, { T with q := b }, wd, nl, rl, er, gn, us, gs, rfl, ha4, wok, okb, fun tk3 G5 f5 htk3 => ?_⟩
        repeat tb_rel
        have hbent : MixOk { T with q := b } (fun x => if x = z.2.mark then rscale b (mx z.2.mark) (1 + y) else mx x) := mix_bent (T := { T with q := b }) (mx := mx) (r0 := z.2) hup.q hc rfl wok.asc hzr (if_pos rfl) (fun k hk => if_neg hk) hmob
        refine mk_plan htk3 ((hset.same f4).same f5) hbent fun pl3 G6 f6 hpl3 => ?_
        have e46 := (f4.trans f5).trans f6
        obtain ⟨dxp, ap3, dp3, po3⟩ := id hpl3
        repeat tb_rel
        refine r_Mv po3.self rfl ?_
        repeat tb_rel
        refine ⟨rfl, pl3, { T with q := b }, _, rfl, hpl3, ht3.ext e46, fun D3 G7 bs3 us3 e7 t7 hD3 hbs3 hbad3 hacc3 => ?_⟩
        repeat tb_rel
        have e37 : ExtB B.b G3 G7 := (ExtB.of e46).trans (ExtB.ofT e7)
        have e17 := e03.trans e37
        have hb17 := (hb3.same e46).ext e7
        have hdue17 := hdue12.extB hb12 hL hD1 e17
        refine r_ixL (.of hdue17.at_) (j := 0) rfl rfl ?_
        repeat tb_rel
        have hb3s : bs3 = bs2 := bs_eq (R := BadR { T with q := b } mx) (R' := BadR { T with q := b } (fun x => if x = z.2.mark then rscale b (mx z.2.mark) (1 + y) else mx x)) (fun c x y' h1 h2 => bad_bent (T := { T with q := b }) (mx := mx) (r0 := z.2) hup.b4 hc (by omega) rfl okp.acyc wok.asc hzr hleaf hmob (if_pos rfl) (fun k hk => if_neg hk) h1 h2) hsay2.len hbs3 hsay2.bad hbad3
        rw [hb3s, hbs] at hacc3
        refine ⟨rfl, _, _, _, rfl, ad_cases hD3 hacc3 hfew.1 hfew.2, ad_cases hdue17.cases hdue17.acc hfew.1 hfew.2, fun G8 e18 => ?_⟩
        repeat tb_rel
        refine iteF ?_
        repeat tb_rel
        exact ⟨_, _, _, _, _, _, _, rfl, e17.trans (.of e18), hb17.same e18, t7.ext e18⟩
    · rintro σ G ⟨y2, x7, x8, x9, x10, x11, x12, rfl, e, hb, ht⟩
      have hdue := hdue12.extB hb12 hL hD1 e
      repeat tb_rel
      refine r_ixL (.of hdue.at_) (j := 2) rfl rfl ?_
      repeat tb_rel
      refine r_ixL (.of hdue.at_) (j := 0) rfl rfl ?_
      repeat tb_rel
      refine r_lstN fun De G1 hDe f1 h1 => ?_
      obtain ⟨ds, d1, d2⟩ := dpC okp (fun c hc => okp.ears _ (casesF_ear (selB_mem hc)).1) (hdue.acc.imp fun c v h => CaseAt.mono c _ _ v f1 h)
      refine r_eqNil (.of (f1 _ _ hdue.cases)) (.of h1) d1 d2 (by omega) ?_
      repeat tb_rel
      rw [acc_empty hdue.acc, decide_eq_true rfl]
      refine iteF ?_
      repeat tb_rel
      exact ⟨_, _, _, _, _, _, _, _, _, _, _, rfl, hb.same f1, ht.ext f1⟩
  · rintro σ G ⟨x2, x3, x4, x5, x6, x7, x8, x9, x10, x11, x12, rfl, hb, ht⟩
    repeat tb_rel
    exact k G
end
end Mg
/-! ZZ -/
namespace Mg
open PySem PySem.Spec PyProof.Rows L2 LamX
theorem tabS_nil {H : Hp} {P : Addr} {q : Str} (h : H P = some (.tbl #[])) : TabS H P q := ⟨#[], h, by simp [TriplesOk], fun pos cv e => by cases e⟩
theorem facts {w : World} {K : PySem.W.Frag} {h : Heap} {mg : Str → Option Value} {f : Addr} (X : K.In h) (G : h.Ns mainGlobals mg) (hfa : mg ("law" : Str) = some (.ref f)) (c : He.SaysX fa fn [] tf ex w h K) :
    LawAtS PySem.Challenge.rw_mingleway_k30_whole_a_plan_stays_good_in w K CX0 11 63 "_law_script" mg f h := by
  have S : Says K mg := Says.of X G c.t.d c.more
  obtain ⟨fd, F⟩ := f_law S
  have e := hfa.symm.trans (g_law S)
  cases e
  have b := FunD.bindsA (ps := ["_law_script"]) F fun _ _ _ _ _ _ us hl => match us, hl with | [_], _ => rfl
  refine ⟨fd, [(cPut K, pTab K)], sp_law K, fun p hp => ?_, fun p hp => ?_, fun p hp => ?_, fun s v => b s [v] rfl, fun H a ns hl _ hH hS => ?_, fun base _ _ hT => raw_law S (hT _ (List.mem_cons_self ..)) F⟩
  · rw [List.mem_singleton.1 hp]
    exact c.empty ("Span", some "put") (List.mem_cons_self ..)
  · rw [List.mem_singleton.1 hp]
    exact c.out ("Span", some "put") (List.mem_cons_self ..)
  · rw [List.mem_singleton.1 hp]
    exact PySem.W.codeHd_of_K X (c.hd ("Span", some "put") (List.mem_cons_self ..))
  · exact ⟨rfl, a, ns, rfl, hS, hl, tabS_nil (hH _ (List.mem_cons_self ..)), fun _ => rfl⟩
end Mg
open PySem PySem.W PySem.Calls PyProof.Rows
set_option maxRecDepth 100000 in
set_option maxHeartbeats 0 in
theorem PySem.Challenge.cw_mingleway_k30_whole_a_plan_stays_good_in_holds : PySem.Challenge.rw_mingleway_k30_whole_a_plan_stays_good_in.Holds := by
  w_on; o_law
  refine HandSHeadRun.head_any (r := OpenLaw.row PySem.Challenge.rw_mingleway_k30_whole_a_plan_stays_good_in) (q := view (OpenLaw.row PySem.Challenge.rw_mingleway_k30_whole_a_plan_stays_good_in).prog [76]) (H := Mg.hk) (ob := Mg.ob) (M := 10000) (loose := Mg.names) (d := HandSHeadRun.topDef (OpenLaw.row PySem.Challenge.rw_mingleway_k30_whole_a_plan_stays_good_in).prog 76) (kwd := []) Mg.ob_eq
    (by kernel_rfl) (fun s => by kernel_rfl) Mg.run (by kernel_rfl) (by kernel_rfl) (by kernel_rfl) (by rfl) (by first | assumption | decide +kernel) (by decide +kernel) ⟨rfl, rfl, rfl, rfl, rfl, by decide +kernel⟩ ?hw ?hc
  case hw => w_witness2
  case hc =>
    refine LamX.walk_ofTsE (l := PySem.Challenge.rw_mingleway_k30_whole_a_plan_stays_good_in) (n := 63) (k := 11) (x := "_law_script") (CX := fun _ => L2.CX0) rfl (by decide) (by kernel_rfl) ⟨rfl, by decide, by decide⟩ ?F (fun _ _ _ _ _ z => z)
    intro w mg fa h Y G hmg0
    obtain ⟨K, KX, c⟩ := Y
    have hmg : mg ("law" : PySem.Str) = some (.ref fa) := by
      have e : (HandSHeadRun.topDef (OpenLaw.row PySem.Challenge.rw_mingleway_k30_whole_a_plan_stays_good_in).prog 76).name = ("law" : PySem.Str) := by kernel_rfl
      rw [← e]
      exact hmg0
    exact ⟨K, KX, Mg.facts KX G hmg c⟩
